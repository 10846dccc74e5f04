import PyProof.Rows.All
import Wide.All
import OpenK.AllK
import Wide.FinOn
import HandS.ForMost
import HandS.Exc
import HandS.Flow
import HandS.IsInst
import HandS.ExcInit
import HandS.Style
import HandS.Defaults
import HandS.Walk
import HandS.TupAny
import HandS.Codes
import HandS.Deep
import HandS.ClsMeth
import PyProof.ReprRoads
import PyProof.ReprLen
import HandS.Ends
import HandS.Text
import PySem.Challenge.RW_regretmart_k02_sales_judged
set_option Elab.async false
set_option linter.all false
set_option maxRecDepth 100000
/-! P1: pure values, their place in the heap, the store of what may change. -/
namespace L2.Pv
open PySem PySem.Spec PyProof.Rows L2
inductive PV where
  | non | bl (b : Bool) | int (i : Int) | str (x : Str) | lst (xs : List PV) | tup (xs : List PV)
  | dic (kvs : List (PV × PV)) | ref (a : Addr) | ty (n : String) | scr (xs : List PV)
def keyP : Key → PV
  | .inl i => .int i
  | .inr x => .str x
/-- a tuple that is read: tracked, or of the written part -/
def TpAt (K : PySem.W.Frag) (F : Hp) (a : Addr) (vs : List V) : Prop := F a = some (.tup vs) ∨ ∃ (o : Obj) (its : Array Value) (n : Nat), K.lookup a = some o ∧ o.cls = .type "tuple" ∧ o.data = .seq its n ∧ its.size ≤ sizeLine ∧ Vals vs its.toList
mutual
inductive Rep (K : PySem.W.Frag) (F : Hp) : V → PV → Prop
  | non : Rep K F .non .non
  | bl (b : Bool) : Rep K F (.bl b) (.bl b)
  | int (i : Int) : Rep K F (.int i) (.int i)
  | str (x : Str) : Rep K F (.str x) (.str x)
  | ty (n : String) : Rep K F (.ty n) (.ty n)
  | ref (a : Addr) : Rep K F (.ref a) (.ref a)
  | lst {a : Addr} {vs : List V} {xs : List PV} : Rd F a (.lst vs) → Reps K F vs xs → Rep K F (.ref a) (.lst xs)
  | tup {a : Addr} {vs : List V} {xs : List PV} : TpAt K F a vs → Reps K F vs xs → Rep K F (.ref a) (.tup xs)
  | scr {a : Addr} {vs : List V} {xs : List PV} : SqL K F a vs → Reps K F vs xs → Rep K F (.ref a) (.scr xs)
  | dic {a : Addr} {vs : List (Key × V)} {xs : List (PV × PV)} : Rd F a (.dK vs) → RepK K F vs xs → Rep K F (.ref a) (.dic xs)
inductive Reps (K : PySem.W.Frag) (F : Hp) : List V → List PV → Prop
  | nil : Reps K F [] []
  | cons {v : V} {x : PV} {vs : List V} {xs : List PV} : Rep K F v x → Reps K F vs xs → Reps K F (v :: vs) (x :: xs)
inductive RepK (K : PySem.W.Frag) (F : Hp) : List (Key × V) → List (PV × PV) → Prop
  | nil : RepK K F [] []
  | cons {k : Key} {v : V} {x : PV} {vs : List (Key × V)} {xs : List (PV × PV)} : Rep K F v x → RepK K F vs xs → RepK K F ((k, v) :: vs) ((keyP k, x) :: xs)
end
theorem rd_same {F F' : Hp} {a : Addr} {u : HO} (e : Same F F') (h : Rd F a u) : Rd F' a u := by
  rcases h with h | ⟨o, h⟩
  · exact .inl (e _ _ h)
  · exact .inr ⟨o, e _ _ h⟩
theorem sqT_same {K : PySem.W.Frag} {F F' : Hp} {a : Addr} {vs : List V} (e : Same F F') (h : TpAt K F a vs) : TpAt K F' a vs := by
  rcases h with h | h
  · exact .inl (e _ _ h)
  · exact .inr h
mutual
theorem Rep.mono {K : PySem.W.Frag} {F F' : Hp} (e : Same F F') : ∀ {v : V} {x : PV}, Rep K F v x → Rep K F' v x
  | _, _, .non => .non
  | _, _, .bl b => .bl b
  | _, _, .int i => .int i
  | _, _, .str x => .str x
  | _, _, .ty n => .ty n
  | _, _, .ref a => .ref a
  | _, _, .lst h r => .lst (rd_same e h) (Reps.mono e r)
  | _, _, .tup h r => .tup (sqT_same e h) (Reps.mono e r)
  | _, _, .dic h r => .dic (rd_same e h) (RepK.mono e r)
  | _, _, .scr h r => .scr (e.seq h) (Reps.mono e r)
theorem Reps.mono {K : PySem.W.Frag} {F F' : Hp} (e : Same F F') : ∀ {v : List V} {x : List PV}, Reps K F v x → Reps K F' v x
  | _, _, .nil => .nil
  | _, _, .cons h r => .cons (Rep.mono e h) (Reps.mono e r)
theorem RepK.mono {K : PySem.W.Frag} {F F' : Hp} (e : Same F F') : ∀ {v : List (Key × V)} {x : List (PV × PV)}, RepK K F v x → RepK K F' v x
  | _, _, .nil => .nil
  | _, _, .cons h r => .cons (Rep.mono e h) (RepK.mono e r)
end
section
variable {K : PySem.W.Frag} {F : Hp}
theorem Reps.len : ∀ {vs : List V} {xs : List PV}, Reps K F vs xs → vs.length = xs.length
  | _, _, .nil => rfl
  | _, _, .cons _ r => by rw [List.length_cons, List.length_cons, Reps.len r]
theorem Reps.app : ∀ {vs ws : List V} {xs ys : List PV}, Reps K F vs xs → Reps K F ws ys → Reps K F (vs ++ ws) (xs ++ ys)
  | _, _, _, _, .nil, s => s
  | _, _, _, _, .cons h r, s => .cons h (Reps.app r s)
theorem Reps.get : ∀ {vs : List V} {xs : List PV} {i : Nat} {x : PV}, Reps K F vs xs → xs[i]? = some x → ∃ v, vs[i]? = some v ∧ Rep K F v x
  | _, _, _, _, .nil, e => by simp at e
  | _, _, 0, _, .cons h _, e => by simp at e; subst e; exact ⟨_, rfl, h⟩
  | _, _, i + 1, _, .cons _ r, e => Reps.get (i := i) r (by simpa using e)
theorem Reps.get' : ∀ {vs : List V} {xs : List PV} {i : Nat} {v : V}, Reps K F vs xs → vs[i]? = some v → ∃ x, xs[i]? = some x ∧ Rep K F v x
  | _, _, _, _, .nil, e => by simp at e
  | _, _, 0, _, .cons h _, e => by simp at e; subst e; exact ⟨_, rfl, h⟩
  | _, _, i + 1, _, .cons _ r, e => Reps.get' (i := i) r (by simpa using e)
theorem Reps.take : ∀ (n : Nat) {vs : List V} {xs : List PV}, Reps K F vs xs → Reps K F (vs.take n) (xs.take n)
  | 0, _, _, _ => .nil
  | _ + 1, _, _, .nil => .nil
  | n + 1, _, _, .cons h r => .cons h (Reps.take n r)
theorem Reps.drop : ∀ (n : Nat) {vs : List V} {xs : List PV}, Reps K F vs xs → Reps K F (vs.drop n) (xs.drop n)
  | 0, _, _, r => r
  | _ + 1, _, _, .nil => .nil
  | n + 1, _, _, .cons _ r => Reps.drop n r
theorem Reps.rev {vs : List V} {xs : List PV} (h : Reps K F vs xs) : Reps K F vs.reverse xs.reverse := by
  induction vs generalizing xs with
  | nil => cases h; exact .nil
  | cons v vs ih =>
    cases h with
    | cons h r =>
      rw [List.reverse_cons, List.reverse_cons]
      exact (ih r).app (.cons h .nil)
theorem Reps.rep {vs : List V} {xs : List PV} (h : Reps K F vs xs) : ∀ k : Nat, Reps K F (List.replicate k vs).flatten (List.replicate k xs).flatten
  | 0 => .nil
  | k + 1 => by
    rw [List.replicate_succ, List.replicate_succ, List.flatten_cons, List.flatten_cons]
    exact h.app (Reps.rep h k)
theorem Reps.ints : ∀ {vs : List V} {ns : List Int}, Reps K F vs (ns.map PV.int) → vs = ns.map V.int
  | _, [], .nil => rfl
  | _, n :: ns, .cons (.int _) r => by rw [Reps.ints r]; rfl
theorem Reps.of_ints : ∀ (ns : List Int), Reps K F (ns.map V.int) (ns.map PV.int)
  | [] => .nil
  | n :: ns => .cons (.int n) (Reps.of_ints ns)
theorem Reps.strs : ∀ {vs : List V} {ns : List Str}, Reps K F vs (ns.map PV.str) → vs = ns.map V.str
  | _, [], .nil => rfl
  | _, n :: ns, .cons (.str _) r => by rw [Reps.strs r]; rfl
theorem Reps.of_strs : ∀ (ns : List Str), Reps K F (ns.map V.str) (ns.map PV.str)
  | [] => .nil
  | n :: ns => .cons (.str n) (Reps.of_strs ns)
theorem Reps.bls : ∀ {vs : List V} {ns : List Bool}, Reps K F vs (ns.map PV.bl) → vs = ns.map V.bl
  | _, [], .nil => rfl
  | _, n :: ns, .cons (.bl _) r => by rw [Reps.bls r]; rfl
end
/-! ### what holds the frozen part -/
def Sub (F H : Hp) : Prop := ∀ a o, F a = some o → H a = some o ∨ (Mut (some o) ∧ ∃ ob, H a = some (.frz ob o))
theorem Sub.rd {F H : Hp} (e : Sub F H) {a : Addr} {u : HO} (h : Rd F a u) : Rd H a u := by
  rcases h with h | ⟨o, h⟩
  · rcases e _ _ h with q | ⟨_, ob, q⟩
    · exact .inl q
    · exact .inr ⟨ob, q⟩
  · rcases e _ _ h with q | ⟨m, ob, q⟩
    · exact .inr ⟨o, q⟩
    · exact m.elim
theorem Sub.tpAt {K : PySem.W.Frag} {F H : Hp} (e : Sub F H) {a : Addr} {vs : List V} (h : TpAt K F a vs) : TpAt K H a vs := by
  rcases h with h | h
  · rcases e _ _ h with q | ⟨m, _⟩
    · exact .inl q
    · exact m.elim
  · exact .inr h
theorem Sub.sqL {K : PySem.W.Frag} {F H : Hp} (e : Sub F H) {a : Addr} {vs : List V} (h : SqL K F a vs) : SqL K H a vs := by
  rcases h with h | h
  · exact .inl (e.rd h)
  · exact .inr h
theorem TpAt.sq {K : PySem.W.Frag} {H : Hp} {a : Addr} {vs : List V} (h : TpAt K H a vs) : SqT K H a vs := by
  rcases h with h | h
  · exact .inl (.inl h)
  · exact .inr h
theorem Sub.sqT {K : PySem.W.Frag} {F H : Hp} (e : Sub F H) {a : Addr} {vs : List V} (h : TpAt K F a vs) : SqT K H a vs := (e.tpAt h).sq
/-! ### the store -/
inductive RO where
  | lst (xs : List PV) | dic (kvs : List (PV × PV)) | ins (C : Addr) (fs : List (Str × PV))
abbrev RepF (K : PySem.W.Frag) (F : Hp) : List (Str × V) → List (Str × PV) → Prop := Paired fun p q => p.1 = q.1 ∧ Rep K F p.2 q.2
def RepO (K : PySem.W.Frag) (F : Hp) : HO → RO → Prop
  | .lst vs, .lst xs => Reps K F vs xs
  | .dK vs, .dic xs => RepK K F vs xs
  | .ins C _ fs, .ins C' xs => C = C' ∧ RepF K F fs xs
  | _, _ => False
theorem RepF.mono {K : PySem.W.Frag} {F F' : Hp} (e : Same F F') {a : List (Str × V)} {b : List (Str × PV)} (h : RepF K F a b) : RepF K F' a b := Paired.mapP h fun _ _ q => ⟨q.1, q.2.mono e⟩
theorem RepO.mono {K : PySem.W.Frag} {F F' : Hp} (e : Same F F') {o : HO} {r : RO} (h : RepO K F o r) : RepO K F' o r := by
  cases o <;> cases r <;> first
    | exact Reps.mono e h
    | exact RepK.mono e h
    | exact ⟨h.1, RepF.mono e h.2⟩
    | exact h.elim
theorem RepO.mut {K : PySem.W.Frag} {F : Hp} {o : HO} {r : RO} (h : RepO K F o r) : Mut (some o) := by
  cases o <;> cases r <;> first | trivial | exact h.elim
abbrev RStore := Addr → Option (RO × Bool)
inductive MO where
  | raw (r : RO) | lck (r : RO) | abs (φ : Nat → RStore → Prop) (n : Nat)
abbrev Store := Addr → Option MO
def put {α : Type} (S : Addr → Option α) (a : Addr) (x : α) : Addr → Option α := fun b => if b = a then some x else S b
def rmv {α : Type} (S : Addr → Option α) (a : Addr) : Addr → Option α := fun b => if b = a then none else S b
@[simp] theorem put_same {α : Type} {S : Addr → Option α} {a : Addr} {x : α} : put S a x a = some x := by unfold put; rw [if_pos rfl]
theorem put_ne {α : Type} {S : Addr → Option α} {a b : Addr} {x : α} (h : b ≠ a) : put S a x b = S b := by unfold put; rw [if_neg h]
@[simp] theorem put_put {α : Type} {S : Addr → Option α} {a : Addr} {x y : α} : put (put S a x) a y = put S a y := by
  funext b; unfold put; split <;> rfl
theorem put_comm {α : Type} {S : Addr → Option α} {a b : Addr} {x y : α} (h : a ≠ b) : put (put S a x) b y = put (put S b y) a x := by
  funext c; unfold put; split <;> split <;> simp_all
@[simp] theorem rmv_same {α : Type} {S : Addr → Option α} {a : Addr} : rmv S a a = none := by unfold rmv; rw [if_pos rfl]
theorem rmv_ne {α : Type} {S : Addr → Option α} {a b : Addr} (h : b ≠ a) : rmv S a b = S b := by unfold rmv; rw [if_neg h]
theorem rmv_put {α : Type} {S : Addr → Option α} {a : Addr} {x : α} (h : S a = none) : rmv (put S a x) a = S := by
  funext c; unfold rmv put; split
  · rename_i e; rw [e, h]
  · rfl
structure HoldR (K : PySem.W.Frag) (F : Hp) (R : RStore) (H : Hp) : Prop where
  sub : Sub F H
  raw : ∀ a r, R a = some (r, false) → F a = none ∧ ∃ o, H a = some o ∧ RepO K F o r
  lck : ∀ a r, R a = some (r, true) → F a = none ∧ ∃ ob o, H a = some (.frz ob o) ∧ RepO K F o r
structure Own (S : Store) (R : RStore) (own : Addr → Option Addr) : Prop where
  self : ∀ a, S a ≠ none → own a = some a ∧ R a ≠ none
  there : ∀ b a, own b = some a → S a ≠ none
  raw : ∀ a r, S a = some (.raw r) → R a = some (r, false)
  lck : ∀ a r, S a = some (.lck r) → R a = some (r, true)
  abs : ∀ a φ n, S a = some (.abs φ n) → φ n fun b => if own b = some a then R b else none
def Hold (K : PySem.W.Frag) (F : Hp) (S : Store) (H : Hp) : Prop := ∃ R own, HoldR K F R H ∧ Own S R own
section
variable {K : PySem.W.Frag} {F H : Hp} {S : Store} {a p : Addr} {r r' : RO} {o : HO} {R : RStore}
theorem HoldR.at (h : HoldR K F R H) {b : Bool} (e : R a = some (r, b)) : H a ≠ none := fun z => by
  cases b with
  | false => obtain ⟨_, o, q, _⟩ := h.raw a r e; rw [z] at q; cases q
  | true => obtain ⟨_, ob, o, q, _⟩ := h.lck a r e; rw [z] at q; cases q
theorem Hold.sub (h : Hold K F S H) : Sub F H := let ⟨_, _, a, _⟩ := h; a.sub
theorem Hold.raw (h : Hold K F S H) (e : S a = some (.raw r)) : F a = none ∧ ∃ o, H a = some o ∧ RepO K F o r := by
  obtain ⟨R, own, hr, ow⟩ := h
  exact hr.raw a r (ow.raw a r e)
theorem Hold.lck (h : Hold K F S H) (e : S a = some (.lck r)) : F a = none ∧ ∃ ob o, H a = some (.frz ob o) ∧ RepO K F o r := by
  obtain ⟨R, own, hr, ow⟩ := h
  exact hr.lck a r (ow.lck a r e)
def rdS (S : Store) (a : Addr) : Option RO := match S a with
  | some (.raw r) => some r
  | some (.lck r) => some r
  | _ => none
theorem rdS_raw (e : S a = some (.raw r)) : rdS S a = some r := by unfold rdS; rw [e]
theorem rdS_lck (e : S a = some (.lck r)) : rdS S a = some r := by unfold rdS; rw [e]
theorem Hold.rd (h : Hold K F S H) (e : rdS S a = some r) : F a = none ∧ ∃ o, Rd H a o ∧ RepO K F o r := by
  unfold rdS at e
  split at e
  · rename_i r' q
    cases e
    obtain ⟨f, o, h1, h2⟩ := h.raw q
    exact ⟨f, o, .inl h1, h2⟩
  · rename_i r' q
    cases e
    obtain ⟨f, ob, o, h1, h2⟩ := h.lck q
    exact ⟨f, o, .inr ⟨ob, h1⟩, h2⟩
  · cases e
theorem Hold.freeS (h : Hold K F S H) (e : H p = none) : S p = none := by
  obtain ⟨R, own, hr, ow⟩ := h
  cases q : S p with
  | none => rfl
  | some m =>
    exfalso
    obtain ⟨_, n⟩ := ow.self p (by rw [q]; exact fun z => nomatch z)
    cases z : R p with
    | none => exact n z
    | some rb => obtain ⟨r, b⟩ := rb; exact hr.at z e
theorem Hold.freeF (h : Hold K F S H) (e : H p = none) : F p = none := by
  cases q : F p with
  | none => rfl
  | some m =>
    rcases h.sub _ _ q with z | ⟨_, ob, z⟩ <;> rw [e] at z <;> cases z
theorem sub_upd (s : Sub F H) (e : F a = none) : Sub F (upd H a o) := fun b u q => by
  rw [upd_ne (ne_of_none q e)]
  exact s b u q
theorem same_upd (e : F p = none) : Same F (upd F p o) := fun b u q => by
  rw [upd_ne (ne_of_none q e)]
  exact q
theorem Own.write {own : Addr → Option Addr} (ow : Own S R own) (e : S a = some (.raw r)) : Own (put S a (.raw r')) (put R a (r', false)) own := by
  have sa := ow.self a (by rw [e]; exact fun z => nomatch z)
  refine ⟨fun b n => ?_, fun b c q => ?_, fun b u q => ?_, fun b u q => ?_, fun b φ m q => ?_⟩
  · by_cases z : b = a
    · subst z
      exact ⟨sa.1, by rw [put_same]; exact fun z => nomatch z⟩
    · rw [put_ne z] at n ⊢
      exact ow.self b n
  · by_cases z : c = a
    · subst z
      rw [put_same]
      exact fun z => nomatch z
    · rw [put_ne z]
      exact ow.there b c q
  · by_cases z : b = a
    · subst z
      rw [put_same] at q ⊢
      cases q
      rfl
    · rw [put_ne z] at q ⊢
      exact ow.raw b u q
  · by_cases z : b = a
    · subst z
      rw [put_same] at q
      cases q
    · rw [put_ne z] at q ⊢
      exact ow.lck b u q
  · by_cases z : b = a
    · subst z
      rw [put_same] at q
      cases q
    · rw [put_ne z] at q
      have y := ow.abs b φ m q
      have ef : (fun c => if own c = some b then put R a (r', false) c else none) = fun c => if own c = some b then R c else none := by
        funext c
        by_cases w : own c = some b
        · rw [if_pos w, if_pos w, put_ne]
          rintro rfl
          rw [sa.1] at w
          exact z (Option.some.inj w).symm
        · rw [if_neg w, if_neg w]
      rw [ef]
      exact y
theorem Hold.write (h : Hold K F S H) (e : S a = some (.raw r)) (q : RepO K F o r') : Hold K F (put S a (.raw r')) (upd H a o) := by
  obtain ⟨R, own, hr, ow⟩ := h
  have fa := (hr.raw a r (ow.raw a r e)).1
  refine ⟨_, own, ⟨sub_upd hr.sub fa, fun b u z => ?_, fun b u z => ?_⟩, ow.write e⟩
  · by_cases w : b = a
    · subst w
      rw [put_same] at z
      cases z
      exact ⟨fa, o, upd_same, q⟩
    · rw [put_ne w] at z
      obtain ⟨f, x, hx, rx⟩ := hr.raw b u z
      exact ⟨f, x, by rw [upd_ne w]; exact hx, rx⟩
  · by_cases w : b = a
    · subst w
      rw [put_same] at z
      cases z
    · rw [put_ne w] at z
      obtain ⟨f, ob, x, hx, rx⟩ := hr.lck b u z
      exact ⟨f, ob, x, by rw [upd_ne w]; exact hx, rx⟩
/-- something new that nobody speaks of -/
theorem Hold.junk (h : Hold K F S H) (e : H p = none) : Hold K F S (upd H p o) := by
  have fp := h.freeF e
  obtain ⟨R, own, hr, ow⟩ := h
  refine ⟨R, own, ⟨sub_upd hr.sub fp, fun b u z => ?_, fun b u z => ?_⟩, ow⟩
  · obtain ⟨f, x, hx, rx⟩ := hr.raw b u z
    exact ⟨f, x, by rw [upd_ne (ne_of_none hx e)]; exact hx, rx⟩
  · obtain ⟨f, ob, x, hx, rx⟩ := hr.lck b u z
    exact ⟨f, ob, x, by rw [upd_ne (ne_of_none hx e)]; exact hx, rx⟩
theorem Hold.newF (h : Hold K F S H) (e : H p = none) : Hold K (upd F p o) S (upd H p o) := by
  have fp := h.freeF e
  obtain ⟨R, own, hr, ow⟩ := h
  refine ⟨R, own, ⟨fun b u z => ?_, fun b u z => ?_, fun b u z => ?_⟩, ow⟩
  · by_cases w : b = p
    · subst w
      rw [upd_same] at z ⊢
      exact .inl z
    · rw [upd_ne w] at z ⊢
      exact hr.sub b u z
  · obtain ⟨f, x, hx, rx⟩ := hr.raw b u z
    have w := ne_of_none hx e
    exact ⟨by rw [upd_ne w]; exact f, x, by rw [upd_ne w]; exact hx, rx.mono (same_upd fp)⟩
  · obtain ⟨f, ob, x, hx, rx⟩ := hr.lck b u z
    have w := ne_of_none hx e
    exact ⟨by rw [upd_ne w]; exact f, ob, x, by rw [upd_ne w]; exact hx, rx.mono (same_upd fp)⟩
theorem Own.new {own : Addr → Option Addr} (ow : Own S R own) (e : S p = none) (eR : R p = none) : Own (put S p (.raw r)) (put R p (r, false)) (fun b => if b = p then some p else own b) := by
  refine ⟨fun b n => ?_, fun b c q => ?_, fun b u q => ?_, fun b u q => ?_, fun b φ m q => ?_⟩
  · by_cases z : b = p
    · subst z
      exact ⟨if_pos rfl, by rw [put_same]; exact fun z => nomatch z⟩
    · rw [put_ne z] at n ⊢
      rw [if_neg z]
      exact ow.self b n
  · by_cases z : b = p
    · subst z
      rw [if_pos rfl] at q
      cases q
      rw [put_same]
      exact fun z => nomatch z
    · rw [if_neg z] at q
      have n := ow.there b c q
      have y : c ≠ p := fun y => n (by rw [y]; exact e)
      rw [put_ne y]
      exact n
  · by_cases z : b = p
    · subst z
      rw [put_same] at q ⊢
      cases q
      rfl
    · rw [put_ne z] at q ⊢
      exact ow.raw b u q
  · by_cases z : b = p
    · subst z
      rw [put_same] at q
      cases q
    · rw [put_ne z] at q ⊢
      exact ow.lck b u q
  · by_cases z : b = p
    · subst z
      rw [put_same] at q
      cases q
    · rw [put_ne z] at q
      have y := ow.abs b φ m q
      have ef : (fun c => if (if c = p then some p else own c) = some b then put R p (r, false) c else none) = fun c => if own c = some b then R c else none := by
        funext c
        by_cases w : c = p
        · subst w
          rw [if_pos rfl, if_neg (fun x => z (Option.some.inj x).symm), eR]
          split <;> rfl
        · rw [if_neg w, put_ne w]
      rw [ef]
      exact y
theorem HoldR.none (h : HoldR K F R H) (e : H p = Option.none) : R p = Option.none := by
  cases z : R p with
  | none => rfl
  | some rb => obtain ⟨r, b⟩ := rb; exact absurd e (h.at z)
theorem Hold.newS (h : Hold K F S H) (e : H p = Option.none) (q : RepO K F o r) : Hold K F (put S p (.raw r)) (upd H p o) := by
  have fp := h.freeF e
  have sp := h.freeS e
  obtain ⟨R, own, hr, ow⟩ := h
  refine ⟨_, _, ⟨sub_upd hr.sub fp, fun b u z => ?_, fun b u z => ?_⟩, ow.new sp (hr.none e)⟩
  · by_cases w : b = p
    · subst w
      rw [put_same] at z
      cases z
      exact ⟨fp, o, upd_same, q⟩
    · rw [put_ne w] at z
      obtain ⟨f, x, hx, rx⟩ := hr.raw b u z
      exact ⟨f, x, by rw [upd_ne w]; exact hx, rx⟩
  · by_cases w : b = p
    · subst w
      rw [put_same] at z
      cases z
    · rw [put_ne w] at z
      obtain ⟨f, ob, x, hx, rx⟩ := hr.lck b u z
      exact ⟨f, ob, x, by rw [upd_ne w]; exact hx, rx⟩
theorem Own.drop {own : Addr → Option Addr} (ow : Own S R own) (e : S a = some (.raw r)) : Own (rmv S a) (rmv R a) (fun b => if own b = some a then none else own b) := by
  have sa := ow.self a (by rw [e]; exact fun z => nomatch z)
  have ne : ∀ {b : Addr}, rmv S a b ≠ none → b ≠ a := fun {b} n w => n (by rw [w, rmv_same])
  have ow1 : ∀ {b : Addr}, b ≠ a → S b ≠ none → own b = some b := fun {b} _ n => (ow.self b n).1
  refine ⟨fun b n => ?_, fun b c q => ?_, fun b u q => ?_, fun b u q => ?_, fun b φ m q => ?_⟩
  · have z := ne n
    rw [rmv_ne z] at n ⊢
    have y := ow.self b n
    rw [y.1, if_neg (fun w => z (Option.some.inj w))]
    exact ⟨rfl, y.2⟩
  · by_cases z : own b = some a
    · rw [if_pos z] at q
      cases q
    · rw [if_neg z] at q
      have n := ow.there b c q
      have w : c ≠ a := fun w => z (by rw [q, w])
      rw [rmv_ne w]
      exact n
  · have z := ne (b := b) (by rw [q]; exact fun z => nomatch z)
    rw [rmv_ne z] at q ⊢
    exact ow.raw b u q
  · have z := ne (b := b) (by rw [q]; exact fun z => nomatch z)
    rw [rmv_ne z] at q ⊢
    exact ow.lck b u q
  · have z := ne (b := b) (by rw [q]; exact fun z => nomatch z)
    rw [rmv_ne z] at q
    have y := ow.abs b φ m q
    have ef : (fun c => if (if own c = some a then none else own c) = some b then rmv R a c else none) = fun c => if own c = some b then R c else none := by
      funext c
      by_cases w : own c = some a
      · rw [if_pos w, if_neg (fun x => nomatch x), w, if_neg (fun x => z (Option.some.inj x).symm)]
      · rw [if_neg w]
        by_cases v : own c = some b
        · rw [if_pos v, if_pos v, rmv_ne]
          rintro rfl
          exact w sa.1
        · rw [if_neg v, if_neg v]
    rw [ef]
    exact y
/-- an object that is changed no more -/
theorem Hold.freeze (h : Hold K F S H) (e : S a = some (.raw r)) : ∃ o, H a = some o ∧ RepO K F o r ∧ F a = Option.none ∧ Hold K (upd F a o) (rmv S a) H := by
  obtain ⟨fa, o, ho, ro⟩ := h.raw e
  obtain ⟨R, own, hr, ow⟩ := h
  refine ⟨o, ho, ro, fa, _, _, ⟨fun b u z => ?_, fun b u z => ?_, fun b u z => ?_⟩, ow.drop e⟩
  · by_cases w : b = a
    · subst w
      rw [upd_same] at z
      cases z
      exact .inl ho
    · rw [upd_ne w] at z
      exact hr.sub b u z
  · by_cases w : b = a
    · subst w
      rw [rmv_same] at z
      cases z
    · rw [rmv_ne w] at z
      obtain ⟨f, x, hx, rx⟩ := hr.raw b u z
      exact ⟨by rw [upd_ne w]; exact f, x, hx, rx.mono (same_upd fa)⟩
  · by_cases w : b = a
    · subst w
      rw [rmv_same] at z
      cases z
    · rw [rmv_ne w] at z
      obtain ⟨f, ob, x, hx, rx⟩ := hr.lck b u z
      exact ⟨by rw [upd_ne w]; exact f, ob, x, hx, rx.mono (same_upd fa)⟩
end
end L2.Pv

/-! P2: the judgements over pure values; expressions, tests, arguments, small statements. -/
namespace L2.Pv
open PySem PySem.Spec PyProof.Rows L2
abbrev PEnv := List (Option PV)
abbrev PQ := PV → Store → Prop
abbrev PTE := PEnv → Store → PQ → Prop
abbrev PTT := PEnv → Store → (Bool → Store → Prop) → Prop
abbrev PTA := PEnv → Store → (List PV → Store → Prop) → Prop
structure PEnds where
  nx : PEnv → Store → Prop
  rt : PQ
  bk : PEnv → Store → Prop := fun _ _ => False
  ct : PEnv → Store → Prop := fun _ _ => False
abbrev PTS := PEnds → PEnv → Store → Prop
def EnvR (K : PySem.W.Frag) (F : Hp) : PEnv → St → Prop := Paired fun x v => ∀ y, x = some y → ∃ u, v = some u ∧ Rep K F u y
def nth : PEnv → Nat → Option PV
  | [], _ => none
  | x :: _, 0 => x
  | _ :: r, n + 1 => nth r n
def stV : PEnv → Nat → Option PV → PEnv
  | [], _, _ => []
  | _ :: r, 0, y => y :: r
  | x :: r, n + 1, y => x :: stV r n y
section
variable {K : PySem.W.Frag} {F F' : Hp}
theorem EnvR.mono (e : Same F F') {ρ : PEnv} {σ : St} (h : EnvR K F ρ σ) : EnvR K F' ρ σ :=
  Paired.mapP h fun _ _ q y z => let ⟨u, a, b⟩ := q y z; ⟨u, a, b.mono e⟩
theorem EnvR.get : ∀ {ρ : PEnv} {σ : St} {i : Nat} {x : PV}, EnvR K F ρ σ → nth ρ i = some x → ∃ v, σ[i]? = some (some v) ∧ Rep K F v x
  | [], _, _, _, _, e => nomatch e
  | y :: r, _ :: _, 0, x, .cons h _, e => by
    obtain ⟨u, a, b⟩ := h x e
    subst a
    exact ⟨u, rfl, b⟩
  | y :: r, _ :: _, i + 1, x, .cons _ t, e => by
    obtain ⟨u, a, b⟩ := EnvR.get (i := i) t e
    exact ⟨u, by simpa using a, b⟩
theorem EnvR.set : ∀ {ρ : PEnv} {σ : St} (i : Nat) {x : PV} {v : V}, EnvR K F ρ σ → Rep K F v x → EnvR K F (stV ρ i (some x)) (σ.set i (some v))
  | [], [], _, _, _, .nil, _ => .nil
  | _ :: _, _ :: _, 0, _, v, .cons _ t, h => .cons (fun y e => ⟨v, rfl, by cases e; exact h⟩) t
  | _ :: _, _ :: _, i + 1, _, _, .cons a t, h => .cons a (EnvR.set i t h)
theorem EnvR.unset : ∀ {ρ : PEnv} {σ : St} (i : Nat), EnvR K F ρ σ → EnvR K F (stV ρ i none) (σ.set i none)
  | [], [], _, .nil => .nil
  | _ :: _, _ :: _, 0, .cons _ t => .cons (fun y e => nomatch e) t
  | _ :: _, _ :: _, i + 1, .cons a t => .cons a (EnvR.unset i t)
end
structure At (K : PySem.W.Frag) (F0 F : Hp) (ρ : PEnv) (S : Store) (σ : St) (H : Hp) : Prop where
  base : Same F0 F
  hold : Hold K F S H
  env : EnvR K F ρ σ
def Le (K : PySem.W.Frag) (F : Hp) (P : PQ) (Q : VK) : Prop := ∀ x S, P x S → ∀ F' H v, Same F F' → Hold K F' S H → Rep K F' v x → Q v H
def LeB (K : PySem.W.Frag) (F : Hp) (P : Bool → Store → Prop) (Q : Bool → Hp → Prop) : Prop := ∀ x S, P x S → ∀ F' H, Same F F' → Hold K F' S H → Q x H
def LeA (K : PySem.W.Frag) (n : Nat) (F : Hp) (P : List PV → Store → Prop) (Q : List V → Hp → Prop) : Prop := ∀ x S, P x S → x.length = n → ∀ F' H v, Same F F' → Hold K F' S H → Reps K F' v x → Q v H
structure LeS (K : PySem.W.Frag) (F0 F : Hp) (P : PEnds) (D : Ends) : Prop where
  nx : ∀ ρ S, P.nx ρ S → ∀ F' σ H, Same F F' → At K F0 F' ρ S σ H → D.nx σ H
  rt : Le K F P.rt D.rt
  bk : ∀ ρ S, P.bk ρ S → ∀ F' σ H, Same F F' → At K F0 F' ρ S σ H → D.bk σ H
  ct : ∀ ρ S, P.ct ρ S → ∀ F' σ H, Same F F' → At K F0 F' ρ S σ H → D.ct σ H
section
variable {K : PySem.W.Frag} {F0 F F' : Hp} {ρ : PEnv} {S S' : Store} {σ : St} {H H' : Hp} {P : PEnds} {D : Ends}
theorem At.next (a : At K F0 F ρ S σ H) (e : Same F F') (h : Hold K F' S' H') : At K F0 F' ρ S' σ H' := ⟨a.base.trans e, h, a.env.mono e⟩
theorem Le.mono {P : PQ} {Q : VK} (l : Le K F P Q) (e : Same F F') : Le K F' P Q := fun x S h F1 H1 v e1 hd r => l x S h F1 H1 v (e.trans e1) hd r
theorem LeB.mono {P : Bool → Store → Prop} {Q : Bool → Hp → Prop} (l : LeB K F P Q) (e : Same F F') : LeB K F' P Q := fun x S h F1 H1 e1 hd => l x S h F1 H1 (e.trans e1) hd
theorem LeA.mono {n : Nat} {P : List PV → Store → Prop} {Q : List V → Hp → Prop} (l : LeA K n F P Q) (e : Same F F') : LeA K n F' P Q := fun x S h hn F1 H1 v e1 hd r => l x S h hn F1 H1 v (e.trans e1) hd r
theorem LeS.mono (l : LeS K F0 F P D) (e : Same F F') : LeS K F0 F' P D :=
  ⟨fun ρ S h F1 σ1 H1 e1 a => l.nx ρ S h F1 σ1 H1 (e.trans e1) a, l.rt.mono e, fun ρ S h F1 σ1 H1 e1 a => l.bk ρ S h F1 σ1 H1 (e.trans e1) a, fun ρ S h F1 σ1 H1 e1 a => l.ct ρ S h F1 σ1 H1 (e.trans e1) a⟩
end
def lft (K : PySem.W.Frag) (F0 : Hp) (t : PTE) : TE := fun σ H Q => ∃ F ρ S P, At K F0 F ρ S σ H ∧ t ρ S P ∧ Le K F P Q
def lftT (K : PySem.W.Frag) (F0 : Hp) (t : PTT) : TT := fun σ H Q => ∃ F ρ S P, At K F0 F ρ S σ H ∧ t ρ S P ∧ LeB K F P Q
def lftA (K : PySem.W.Frag) (F0 : Hp) (n : Nat) (t : PTA) : TA := fun σ H Q => ∃ F ρ S P, At K F0 F ρ S σ H ∧ t ρ S P ∧ LeA K n F P Q
def lftS (K : PySem.W.Frag) (F0 : Hp) (t : PTS) : TS := fun D σ H => ∃ F ρ S P, At K F0 F ρ S σ H ∧ t P ρ S ∧ LeS K F0 F P D
abbrev PR1 := PV → Store → PQ → Prop
abbrev PR2 := PV → PV → Store → PQ → Prop
abbrev PRs := List PV → Store → PQ → Prop
abbrev PRm := PV → List PV → Store → PQ → Prop
def lft1 (K : PySem.W.Frag) (r : PR1) : V → Hp → VK → Prop := fun v H Q => ∃ F S x P, Hold K F S H ∧ Rep K F v x ∧ r x S P ∧ Le K F P Q
def lft2 (K : PySem.W.Frag) (r : PR2) : R2 := fun v u H Q => ∃ F S x y P, Hold K F S H ∧ Rep K F v x ∧ Rep K F u y ∧ r x y S P ∧ Le K F P Q
def lftRs (K : PySem.W.Frag) (r : PRs) : List V → Hp → VK → Prop := fun vs H Q => ∃ F S xs P, Hold K F S H ∧ Reps K F vs xs ∧ r xs S P ∧ Le K F P Q
def lftM (K : PySem.W.Frag) (r : PRm) : V → List V → Hp → VK → Prop := fun v vs H Q => ∃ F S x xs P, Hold K F S H ∧ Rep K F v x ∧ Reps K F vs xs ∧ r x xs S P ∧ Le K F P Q
def OpW (X : Cx) (f : Value → Value → Sem Value) (r : PR2) : Prop := OpR X f (lft2 X.K r)
def UnW (X : Cx) (f : Value → Sem Value) (r : PR1) : Prop := UnR X f (lft1 X.K r)
def CallW (X : Cx) (f : Value) (r : PRs) : Prop := CallR X f (lftRs X.K r)
structure WE (X : Cx) (F0 : Hp) (e : Expr) (t : PTE) : Prop where
  pe : PE X e (lft X.K F0 t)
structure WT (X : Cx) (F0 : Hp) (e : Expr) (t : PTT) : Prop where
  pt : PT X e (lftT X.K F0 t)
structure WW (X : Cx) (F0 : Hp) (e : Expr) (t : PTT) : Prop where
  pw : PW X e (lftT X.K F0 t)
structure WA (X : Cx) (F0 : Hp) (n : Nat) (es : List Expr) (t : PTA) : Prop where
  pa : PA X es (lftA X.K F0 n t)
structure WS (X : Cx) (F0 : Hp) (st : Stmt) (t : PTS) : Prop where
  ps : PS X st (lftS X.K F0 t)
structure WSs (X : Cx) (F0 : Hp) (st : List Stmt) (t : PTS) : Prop where
  pss : PSs X st (lftS X.K F0 t)
theorem peImp {X : Cx} {e : Expr} {t t' : TE} (h : PE X e t) (i : ∀ σ H Q, t' σ H Q → t σ H Q) : PE X e t' := ⟨fun pins s σ H Q I q => h.run pins s σ H Q I (i _ _ _ q)⟩
theorem ptImp {X : Cx} {e : Expr} {t t' : TT} (h : PT X e t) (i : ∀ σ H Q, t' σ H Q → t σ H Q) : PT X e t' := ⟨fun pins s σ H Q I q => h.run pins s σ H Q I (i _ _ _ q)⟩
theorem pwImp {X : Cx} {e : Expr} {t t' : TT} (h : PW X e t) (i : ∀ σ H Q, t' σ H Q → t σ H Q) : PW X e t' := ⟨fun wh pins s σ H Q I q => h.run wh pins s σ H Q I (i _ _ _ q)⟩
theorem paImp {X : Cx} {e : List Expr} {t t' : TA} (h : PA X e t) (i : ∀ σ H Q, t' σ H Q → t σ H Q) : PA X e t' := ⟨fun pos pins s σ H Q I q => h.run pos pins s σ H Q I (i _ _ _ q)⟩
theorem psImp {X : Cx} {e : Stmt} {t t' : TS} (h : PS X e t) (i : ∀ D σ H, t' D σ H → t D σ H) : PS X e t' := ⟨fun pins s σ H D I q => h.run pins s σ H D I (i _ _ _ q)⟩
theorem pssImp {X : Cx} {e : List Stmt} {t t' : TS} (h : PSs X e t) (i : ∀ D σ H, t' D σ H → t D σ H) : PSs X e t' := ⟨fun pins s σ H D I q => h.run pins s σ H D I (i _ _ _ q)⟩
/-! ### names, constants -/
def wV (i : Nat) : PTE := fun ρ S Q => match nth ρ i with
  | some x => Q x S
  | none => False
def wC (x : PV) : PTE := fun _ S Q => Q x S
section
variable {X : Cx} {F0 : Hp} {a b c e : Expr} {ta tb tc te : PTE} {pos : Pos}
theorem we_var (i : Nat) {x : Str} (hN : X.N[i]? = some x := by rfl) (hv : Vis X.env.scope x := by first | exact Or.inl rfl | exact Or.inr (Or.inl rfl) | exact Or.inr (Or.inr rfl)) (hd : (x == ("__debug__" : Str)) = false := by decide)
    (hcd : (x == ("__classdict__" : Str)) = false := by decide) : WE X F0 (.Name x pos) (wV i) :=
  ⟨peImp (pe_var hN hv hd hcd) fun σ H Q ⟨F, ρ, S, P, at_, h, le⟩ => by
    unfold wV at h
    split at h
    · rename_i y q
      obtain ⟨v, e1, r⟩ := at_.env.get q
      exact ⟨v, e1, le y S h F H v (Same.refl F) at_.hold r⟩
    · exact h.elim⟩
theorem we_const {v : V} {x : PV} (h : PE X e (tC v)) (r : ∀ F, Rep X.K F v x) : WE X F0 e (wC x) :=
  ⟨peImp h fun σ H Q ⟨F, ρ, S, P, at_, h, le⟩ => le x S h F H v (Same.refl F) at_.hold (r F)⟩
theorem we_int {i : Int} {j : Nat} : WE X F0 (.Constant (.int i) j pos) (wC (.int i)) := we_const pe_int fun _ => .int i
theorem we_str {x : Str} {j : Nat} : WE X F0 (.Constant (.str x) j pos) (wC (.str x)) := we_const pe_str fun _ => .str x
theorem we_bl {i : Bool} {j : Nat} : WE X F0 (.Constant (.bool i) j pos) (wC (.bl i)) := we_const pe_bl fun _ => .bl i
theorem we_non {j : Nat} : WE X F0 (.Constant .none j pos) (wC .non) := we_const pe_non fun _ => .non
theorem we_glob {x : Str} {v : V} {y : PV} {u : Value} (hg : Gl X x) (hm : X.mg x = some u) (r : RelV v u) (ry : ∀ F, Rep X.K F v y) (hd : (x == ("__debug__" : Str)) = false := by decide) : WE X F0 (.Name x pos) (wC y) := we_const (pe_glob hg hm r hd) ry
theorem we_gstr {x z : Str} {t : Tok} (hm : X.mg x = some (.str z t)) (hg : Gl X x := by rfl) (hd : (x == ("__debug__" : Str)) = false := by decide) : WE X F0 (.Name x pos) (wC (.str z)) := we_const (pe_glob hg hm (v := .str z) ⟨t, rfl⟩ hd) fun _ => .str z
theorem we_gint {x : Str} {z : Int} {t : Tok} (hm : X.mg x = some (.int z t)) (hg : Gl X x := by rfl) (hd : (x == ("__debug__" : Str)) = false := by decide) : WE X F0 (.Name x pos) (wC (.int z)) := we_const (pe_glob hg hm (v := .int z) ⟨t, rfl⟩ hd) fun _ => .int z
theorem we_gref {x : Str} {z : Addr} (hm : X.mg x = some (.ref z)) (hg : Gl X x := by rfl) (hd : (x == ("__debug__" : Str)) = false := by decide) : WE X F0 (.Name x pos) (wC (.ref z)) := we_const (pe_glob hg hm (v := .ref z) rfl hd) fun _ => .ref z
theorem we_bty {x : Str} {n : String} (hm : X.mg x = none) (hv : bootBuiltins x = some (.type n) := by decide +kernel) (hg : Gl X x := by rfl) (hn : x ≠ "__name__" := by decide) (hd : (x == ("__debug__" : Str)) = false := by decide) : WE X F0 (.Name x pos) (wC (.ty n)) :=
  we_const (pe_bltn hg hm hv (v := .ty n) rfl hn hd) fun _ => .ty n
/-! ### operators -/
def wOp (r : PR2) (ta tb : PTE) : PTE := fun ρ S Q => ta ρ S fun x S1 => tb ρ S1 fun y S2 => r x y S2 Q
def wUn (r : PR1) (ta : PTE) : PTE := fun ρ S Q => ta ρ S fun x S1 => r x S1 Q
theorem two {r : PR2} {σ : St} {H : Hp} {Q : VK} (h : lft X.K F0 (wOp r ta tb) σ H Q) : tOp (lft2 X.K r) (lft X.K F0 ta) (lft X.K F0 tb) σ H Q := by
  obtain ⟨F, ρ, S, P, at_, h, le⟩ := h
  exact ⟨F, ρ, S, _, at_, h, fun x S1 h1 F1 H1 v e1 hd1 r1 => ⟨F1, ρ, S1, _, at_.next e1 hd1, h1, fun y S2 h2 F2 H2 u e2 hd2 r2 => ⟨F2, S2, x, y, P, hd2, r1.mono e2, r2, h2, le.mono (e1.trans e2)⟩⟩⟩
theorem we_op {op : Operator} {r : PR2} (ho : OpW X (binaryOp op) r) (ha : WE X F0 a ta) (hb : WE X F0 b tb) : WE X F0 (.BinOp a op b pos) (wOp r ta tb) :=
  ⟨peImp (pe_op ho ha.pe hb.pe) fun _ _ _ h => two h⟩
theorem we_un {op : UnaryOp} {r : PR1} (ho : UnW X (unaryOp op) r) (ha : WE X F0 a ta) : WE X F0 (.UnaryOp op a pos) (wUn r ta) :=
  ⟨peImp (pe_un ho ha.pe) fun σ H Q ⟨F, ρ, S, P, at_, h, le⟩ => ⟨F, ρ, S, _, at_, h, fun x S1 h1 F1 H1 v e1 hd1 r1 => ⟨F1, S1, x, P, hd1, r1, h1, le.mono e1⟩⟩⟩
theorem we_cmp {op : CmpOp} {r : PR2} (ho : OpW X (compareOp op) r) (ha : WE X F0 a ta) (hb : WE X F0 b tb) (hm : behindInMarks op b = false := by first | exact nomark _ | rfl) : WE X F0 (.Compare a [op] [b] pos) (wOp r ta tb) :=
  ⟨peImp (pe_cmpR ho ha.pe hb.pe hm) fun _ _ _ h => two h⟩
/-- a bool's value as a test -/
def wBool (t : PTE) : PTT := fun ρ S Q => t ρ S fun x S1 => match x with
  | .bl k => Q k S1
  | _ => False
theorem bool_of {x : PV} {v : V} {S : Store} {F : Hp} {Q : Bool → Store → Prop} (h : match x with | .bl k => Q k S | _ => False) (r : Rep X.K F v x) : ∃ k, v = .bl k ∧ Q k S := by
  cases r <;> first | exact h.elim | exact ⟨_, rfl, h⟩
theorem wt_cmp {op : CmpOp} {r : PR2} (ho : OpW X (compareOp op) r) (ha : WE X F0 a ta) (hb : WE X F0 b tb) (hm : behindInMarks op b = false := by first | exact nomark _ | rfl) : WT X F0 (.Compare a [op] [b] pos) (wBool (wOp r ta tb)) :=
  ⟨ptImp (pt_cmpR ho ha.pe hb.pe hm) fun σ H Q ⟨F, ρ, S, P, at_, h, le⟩ => two ⟨F, ρ, S, _, at_, h, fun x S1 h1 F1 H1 v e1 hd1 r1 => by
    obtain ⟨k, q1, q2⟩ := bool_of h1 r1
    exact ⟨k, q1, le k S1 q2 F1 H1 e1 hd1⟩⟩⟩
def wChain (r r' : PR2) (ta tb tc : PTE) : PTE := fun ρ S Q => ta ρ S fun x S1 => tb ρ S1 fun y S2 => r x y S2 fun z S3 => match z with
  | .bl k => if k = true then tc ρ S3 fun w S4 => r' y w S4 Q else Q (.bl false) S3
  | _ => False
theorem chain3 {r r' : PR2} {σ : St} {H : Hp} {Q : VK} (h : lft X.K F0 (wChain r r' ta tb tc) σ H Q) : tChain (lft2 X.K r) (lft2 X.K r') (lft X.K F0 ta) (lft X.K F0 tb) (lft X.K F0 tc) σ H Q := by
  obtain ⟨F, ρ, S, P, at_, h, le⟩ := h
  refine ⟨F, ρ, S, _, at_, h, fun x S1 h1 F1 H1 v e1 hd1 r1 => ⟨F1, ρ, S1, _, at_.next e1 hd1, h1, fun y S2 h2 F2 H2 u e2 hd2 r2 => ⟨F2, S2, x, y, _, hd2, r1.mono e2, r2, h2, fun z S3 h3 F3 H3 w e3 hd3 r3 => ?_⟩⟩⟩
  obtain ⟨k, q1, q2⟩ := bool_of (Q := fun k S3 => if k = true then tc ρ S3 fun w S4 => r' y w S4 P else P (.bl false) S3) h3 r3
  refine ⟨k, q1, ?_⟩
  have e13 := (e1.trans e2).trans e3
  cases k with
  | true =>
    exact ⟨F3, ρ, S3, _, at_.next e13 hd3, q2, fun w' S4 h4 F4 H4 v4 e4 hd4 r4 => ⟨F4, S4, y, w', P, hd4, (r2.mono e3).mono e4, r4, h4, le.mono (e13.trans e4)⟩⟩
  | false => exact le _ _ q2 F3 H3 _ e13 hd3 (.bl false)
theorem we_chain {op op' : CmpOp} {r r' : PR2} (ho : OpW X (compareOp op) r) (ho' : OpW X (compareOp op') r') (ha : WE X F0 a ta) (hb : WE X F0 b tb) (hc : WE X F0 c tc)
    (hm : lastMarks [op, op'] [b, c] = false := by with_unfolding_all rfl) : WE X F0 (.Compare a [op, op'] [b, c] pos) (wChain r r' ta tb tc) :=
  ⟨peImp (pe_chain ho ho' ha.pe hb.pe hc.pe hm) fun _ _ _ h => chain3 h⟩
theorem wt_chain {op op' : CmpOp} {r r' : PR2} (ho : OpW X (compareOp op) r) (ho' : OpW X (compareOp op') r') (ha : WE X F0 a ta) (hb : WE X F0 b tb) (hc : WE X F0 c tc)
    (hm : lastMarks [op, op'] [b, c] = false := by with_unfolding_all rfl) : WT X F0 (.Compare a [op, op'] [b, c] pos) (wBool (wChain r r' ta tb tc)) :=
  ⟨ptImp (pt_chain ho ho' ha.pe hb.pe hc.pe hm) fun σ H Q ⟨F, ρ, S, P, at_, h, le⟩ => chain3 ⟨F, ρ, S, _, at_, h, fun x S1 h1 F1 H1 v e1 hd1 r1 => by
    obtain ⟨k, q1, q2⟩ := bool_of h1 r1
    exact ⟨k, q1, le k S1 q2 F1 H1 e1 hd1⟩⟩⟩
/-! ### truth -/
def truP (S : Store) : PV → Option Bool
  | .non => some false
  | .bl b => some b
  | .int i => some (i != 0)
  | .str y => if y.length ≤ sizeLine then some ((y.length : Int) != 0) else none
  | .lst xs => some !xs.isEmpty
  | .tup xs => some !xs.isEmpty
  | .dic xs => some !xs.isEmpty
  | .ref a => match rdS S a with
    | some (.lst xs) => some !xs.isEmpty
    | some (.dic xs) => some !xs.isEmpty
    | _ => none
  | .ty _ => none
  | .scr _ => none
theorem reps_empty {K : PySem.W.Frag} {F : Hp} {vs : List V} {xs : List PV} (h : Reps K F vs xs) : vs.isEmpty = xs.isEmpty := by cases h <;> rfl
theorem repk_empty {K : PySem.W.Frag} {F : Hp} {vs : List (Key × V)} {xs : List (PV × PV)} (h : RepK K F vs xs) : vs.isEmpty = xs.isEmpty := by cases h <;> rfl
end
/-- truth of what is not a dict that is locked -/
theorem tru_rep {K : PySem.W.Frag} {F H : Hp} {S : Store} {v : V} {x : PV} {k : Bool} (hd : Hold K F S H) (r : Rep K F v x) (h : truP S x = some k)
    (nd : ∀ a kvs, v = .ref a → Rd H a (.dK kvs) → H a = some (.dK kvs)) : TruV K v H k := by
  cases r with
  | non => cases h; rfl
  | bl b => cases h; rfl
  | int i => cases h; rfl
  | str y =>
    simp only [truP] at h
    split at h
    · rename_i z
      cases h
      exact ⟨z, rfl⟩
    · cases h
  | lst a b =>
    cases h
    exact .inl ⟨_, .inl (hd.sub.rd a), by rw [reps_empty b]⟩
  | tup a b =>
    cases h
    exact .inr (.inl ⟨_, hd.sub.sqT a, by rw [reps_empty b]⟩)
  | dic a b =>
    cases h
    exact .inr (.inr ⟨_, nd _ _ rfl (hd.sub.rd a), by rw [repk_empty b]⟩)
  | ty n => cases h
  | scr a b => cases h
  | ref a =>
    simp only [truP] at h
    split at h
    · rename_i xs q
      cases h
      obtain ⟨_, o, ho, ro⟩ := hd.rd q
      cases o <;> first | exact ro.elim | skip
      exact .inl ⟨_, .inl ho, by rw [reps_empty ro]⟩
    · rename_i xs q
      cases h
      obtain ⟨_, o, ho, ro⟩ := hd.rd q
      cases o <;> first | exact ro.elim | skip
      exact .inr (.inr ⟨_, nd _ _ rfl ho, by rw [repk_empty ro]⟩)
    · cases h
end L2.Pv

/-! P3: truth, and, or, not; arguments; displays; calls of built-ins; statements. -/
namespace L2.Pv
open PySem PySem.Spec PyProof.Rows L2
section
variable {X : Cx} {F0 : Hp} {pins : List (Addr × Obj)} {σ : L2.St} {H : Hp} {s : Shared}
theorem tru_run {F : Hp} {S : Store} {v : V} {x : PV} {u : Value} {k : Bool} {Q : Bool → Shared → Prop} (I : Inv X pins σ H s) (hd : Hold X.K F S H) (rv : RelV v u) (r : Rep X.K F v x) (h : truP S x = some k)
    (q : ∀ s', Inv X pins σ H s' → Q k s') : wpAny (model X.prog X.w) X.A (truthy u) Q X.xe s := by
  have dict : ∀ a kvs, v = .ref a → Rd H a (.dK kvs) → k = !kvs.isEmpty → wpAny (model X.prog X.w) X.A (truthy u) Q X.xe s := fun a kvs e1 e2 e3 => by
    subst e1
    cases rv
    exact d_truth I e2 fun s' I' => by rw [← e3]; exact q s' I'
  have other : (∀ a kvs, v = .ref a → ¬ Rd H a (.dK kvs)) → wpAny (model X.prog X.w) X.A (truthy u) Q X.xe s := fun nd => by
    refine thn (tru_ok pins s σ H v u (fun b H' => b = k ∧ H' = H) I rv ⟨k, tru_rep hd r h (fun a kvs e1 e2 => (nd a kvs e1 e2).elim), rfl, rfl⟩) fun b s' ⟨H', I', e1, e2⟩ => ?_
    subst e1 e2
    exact q s' I'
  by_cases z : ∃ a kvs, v = .ref a ∧ Rd H a (.dK kvs)
  · obtain ⟨a, kvs, e1, e2⟩ := z
    subst e1
    have inj : ∀ w, Rd H a w → (∀ o u, w ≠ .frz o u) → w = .dK kvs := fun w r2 nf => by
      rcases e2 with r1 | ⟨o1, r1⟩ <;> rcases r2 with r2 | ⟨o2, r2⟩ <;> rw [r1] at r2 <;> cases r2 <;> first | rfl | exact (nf _ _ rfl).elim
    cases r with
    | lst a b => exact nomatch inj _ (hd.sub.rd a) fun _ _ z => nomatch z
    | tup a b =>
      rcases hd.sub.sqT a with q1 | ⟨o, its, n, q1, q2, _⟩
      · exact nomatch inj _ q1 fun _ _ z => nomatch z
      · exfalso
        obtain ⟨_, _, _, _, o', _, _, h1, h2, _⟩ := e2.ok I.hok
        have h3 := I.kIn _ _ q1
        rw [h1] at h3
        cases h3
        have := h2.1
        rw [q2] at this
        exact nomatch this
    | dic a b =>
      have e3 := inj _ (hd.sub.rd a) fun _ _ z => nomatch z
      cases e3
      cases h
      exact dict _ _ rfl e2 (by rw [repk_empty b])
    | scr a b => cases h
    | ref a =>
      simp only [truP] at h
      split at h
      · rename_i xs q1
        obtain ⟨_, o, ho, ro⟩ := hd.rd q1
        cases inj _ ho (fun z y q => by subst q; exact ro.elim)
        exact ro.elim
      · rename_i xs q1
        cases h
        obtain ⟨_, o, ho, ro⟩ := hd.rd q1
        cases inj _ ho (fun z y q => by subst q; exact ro.elim)
        exact dict _ _ rfl e2 (by rw [repk_empty ro])
      · cases h
  · exact other fun a kvs e1 e2 => z ⟨a, kvs, e1, e2⟩
end
def wTru (t : PTE) : PTT := fun ρ S Q => t ρ S fun x S1 => match truP S1 x with
  | some k => Q k S1
  | none => False
theorem tru_of {x : PV} {S : Store} {Q : Bool → Store → Prop} (h : match truP S x with | some k => Q k S | none => False) : ∃ k, truP S x = some k ∧ Q k S := by
  split at h
  · rename_i k e
    exact ⟨k, e, h⟩
  · exact h.elim
section
variable {X : Cx} {F0 : Hp} {a b c e : Expr} {es rest : List Expr} {ta tb tc te : PTE} {tA tB tC : PTT} {t : PTA} {n : Nat} {pos : Pos}
theorem wt_tru (ha : WE X F0 a ta) (he : ∀ whole, isTrue a X.env whole = (do let v ← whole; standAt a.pos; holding [v] (truthy v)) := by intro _; rfl) : WT X F0 a (wTru ta) :=
  ⟨⟨fun pins s σ H Q I ⟨F, ρ, S, P, at_, h, le⟩ => isTrue_plain (thn (ha.pe.run pins s σ H (fun v H' => ∃ F' S' x k, Same F F' ∧ Hold X.K F' S' H' ∧ Rep X.K F' v x ∧ truP S' x = some k ∧ P k S') I ⟨F, ρ, S, _, at_, h, fun x S1 h1 F1 H1 v e1 hd1 r1 => by
      obtain ⟨k, q1, q2⟩ := tru_of h1
      exact ⟨F1, S1, x, k, e1, hd1, r1, q1, q2⟩⟩) fun u s1 ⟨v, H1, I1, rv, F1, S1, x, k, e1, hd1, r1, q1, q2⟩ => tru_run I1 hd1 rv r1 q1 fun s' I' => ⟨H1, I', le k S1 q2 F1 H1 e1 hd1⟩) (he _)⟩⟩
def wAnd (t u : PTT) : PTT := fun ρ S Q => t ρ S fun c S1 => match c with
  | true => u ρ S1 Q
  | false => Q false S1
def wOr (t u : PTT) : PTT := fun ρ S Q => t ρ S fun c S1 => match c with
  | true => Q true S1
  | false => u ρ S1 Q
def wNot (t : PTT) : PTT := fun ρ S Q => t ρ S fun c S1 => Q (!c) S1
theorem ww_and1 (ha : WT X F0 a tA) : WW X F0 (.BoolOp .And [a] pos) tA := ⟨pw_and1 ha.pt⟩
theorem ww_or1 (ha : WT X F0 a tA) : WW X F0 (.BoolOp .Or [a] pos) tA := ⟨pw_or1 ha.pt⟩
theorem ww_and (ha : WT X F0 a tA) (hb : WW X F0 (.BoolOp .And (b :: rest) pos) tB) : WW X F0 (.BoolOp .And (a :: b :: rest) pos) (wAnd tA tB) :=
  ⟨pwImp (pw_and ha.pt hb.pw) fun σ H Q ⟨F, ρ, S, P, at_, h, le⟩ => ⟨F, ρ, S, _, at_, h, fun c S1 h1 F1 H1 e1 hd1 => by
    cases c with
    | true => exact ⟨F1, ρ, S1, P, at_.next e1 hd1, h1, le.mono e1⟩
    | false => exact le false S1 h1 F1 H1 e1 hd1⟩⟩
theorem ww_or (ha : WT X F0 a tA) (hb : WW X F0 (.BoolOp .Or (b :: rest) pos) tB) : WW X F0 (.BoolOp .Or (a :: b :: rest) pos) (wOr tA tB) :=
  ⟨pwImp (pw_or ha.pt hb.pw) fun σ H Q ⟨F, ρ, S, P, at_, h, le⟩ => ⟨F, ρ, S, _, at_, h, fun c S1 h1 F1 H1 e1 hd1 => by
    cases c with
    | true => exact le true S1 h1 F1 H1 e1 hd1
    | false => exact ⟨F1, ρ, S1, P, at_.next e1 hd1, h1, le.mono e1⟩⟩⟩
theorem WW.wt (h : WW X F0 e tA) : WT X F0 e tA := ⟨h.pw.pt⟩
theorem wt_not (ha : WT X F0 a tA) : WT X F0 (.UnaryOp .Not a pos) (wNot tA) :=
  ⟨ptImp (pt_not ha.pt) fun σ H Q ⟨F, ρ, S, P, at_, h, le⟩ => ⟨F, ρ, S, _, at_, h, fun c S1 h1 F1 H1 e1 hd1 => le _ S1 h1 F1 H1 e1 hd1⟩⟩
def wIfE (c : PTT) (ta tb : PTE) : PTE := fun ρ S Q => c ρ S fun k S1 => match k with
  | true => ta ρ S1 Q
  | false => tb ρ S1 Q
theorem we_if (hc : WT X F0 c tC) (ha : WE X F0 a ta) (hb : WE X F0 b tb) : WE X F0 (.IfExp c a b pos) (wIfE tC ta tb) :=
  ⟨peImp (pe_ifExp hc.pt ha.pe hb.pe) fun σ H Q ⟨F, ρ, S, P, at_, h, le⟩ => ⟨F, ρ, S, _, at_, h, fun k S1 h1 F1 H1 e1 hd1 => by
    cases k <;> exact ⟨F1, ρ, S1, P, at_.next e1 hd1, h1, le.mono e1⟩⟩⟩
/-- and, or, not as values -/
def wAndV (ta tb : PTE) : PTE := fun ρ S Q => ta ρ S fun x S1 => match truP S1 x with
  | some true => tb ρ S1 Q
  | some false => Q x S1
  | none => False
def wOrV (ta tb : PTE) : PTE := fun ρ S Q => ta ρ S fun x S1 => match truP S1 x with
  | some true => Q x S1
  | some false => tb ρ S1 Q
  | none => False
def wNotV (ta : PTE) : PTE := fun ρ S Q => ta ρ S fun x S1 => match truP S1 x with
  | some k => Q (.bl !k) S1
  | none => False
theorem we_one {op : BoolOp} (h : WE X F0 a ta) : WE X F0 (.BoolOp op [a] pos) ta := ⟨pe_one h.pe⟩
theorem we_and (ha : WE X F0 a ta) (hb : WE X F0 (.BoolOp .And (b :: rest) pos) tb) : WE X F0 (.BoolOp .And (a :: b :: rest) pos) (wAndV ta tb) :=
  ⟨⟨fun pins s σ H Q I ⟨F, ρ, S, P, at_, h, le⟩ => BoolOp_and (thn (ha.pe.run pins s σ H (fun v H' => ∃ F' S' x, Same F F' ∧ Hold X.K F' S' H' ∧ Rep X.K F' v x ∧ match truP S' x with
      | some true => tb ρ S' P
      | some false => P x S'
      | none => False) I ⟨F, ρ, S, _, at_, h, fun x S1 h1 F1 H1 v e1 hd1 r1 => ⟨F1, S1, x, e1, hd1, r1, h1⟩⟩) fun u s1 ⟨v, H1, I1, rv, F1, S1, x, e1, hd1, r1, q⟩ => by
    split at q
    · rename_i e
      exact tru_run I1 hd1 rv r1 e fun s' I' => hb.pe.run pins s' σ H1 Q I' ⟨F1, ρ, S1, P, at_.next e1 hd1, q, le.mono e1⟩
    · rename_i e
      exact tru_run I1 hd1 rv r1 e fun s' I' => ⟨v, H1, I', rv, le x S1 q F1 H1 v e1 hd1 r1⟩
    · exact q.elim)⟩⟩
theorem we_or (ha : WE X F0 a ta) (hb : WE X F0 (.BoolOp .Or (b :: rest) pos) tb) : WE X F0 (.BoolOp .Or (a :: b :: rest) pos) (wOrV ta tb) :=
  ⟨⟨fun pins s σ H Q I ⟨F, ρ, S, P, at_, h, le⟩ => BoolOp_or (thn (ha.pe.run pins s σ H (fun v H' => ∃ F' S' x, Same F F' ∧ Hold X.K F' S' H' ∧ Rep X.K F' v x ∧ match truP S' x with
      | some true => P x S'
      | some false => tb ρ S' P
      | none => False) I ⟨F, ρ, S, _, at_, h, fun x S1 h1 F1 H1 v e1 hd1 r1 => ⟨F1, S1, x, e1, hd1, r1, h1⟩⟩) fun u s1 ⟨v, H1, I1, rv, F1, S1, x, e1, hd1, r1, q⟩ => by
    split at q
    · rename_i e
      exact tru_run I1 hd1 rv r1 e fun s' I' => ⟨v, H1, I', rv, le x S1 q F1 H1 v e1 hd1 r1⟩
    · rename_i e
      exact tru_run I1 hd1 rv r1 e fun s' I' => hb.pe.run pins s' σ H1 Q I' ⟨F1, ρ, S1, P, at_.next e1 hd1, q, le.mono e1⟩
    · exact q.elim)⟩⟩
theorem we_not (ha : WE X F0 a ta) : WE X F0 (.UnaryOp .Not a pos) (wNotV ta) :=
  ⟨⟨fun pins s σ H Q I ⟨F, ρ, S, P, at_, h, le⟩ => UnaryOp_ (thn (ha.pe.run pins s σ H (fun v H' => ∃ F' S' x k, Same F F' ∧ Hold X.K F' S' H' ∧ Rep X.K F' v x ∧ truP S' x = some k ∧ P (.bl !k) S') I ⟨F, ρ, S, _, at_, h, fun x S1 h1 F1 H1 v e1 hd1 r1 => by
      obtain ⟨k, q1, q2⟩ := tru_of (Q := fun k S => P (.bl !k) S) h1
      exact ⟨F1, S1, x, k, e1, hd1, r1, q1, q2⟩⟩) fun u s1 ⟨v, H1, I1, rv, F1, S1, x, k, e1, hd1, r1, q1, q2⟩ => not_of (tru_run I1 hd1 rv r1 q1 fun s' I' => ⟨.bl (!k), H1, I', rfl, le _ S1 q2 F1 H1 _ e1 hd1 (.bl _)⟩))⟩⟩
/-! ### arguments, displays -/
def wNil : PTA := fun _ S Q => Q [] S
def wCons (ta : PTE) (t : PTA) : PTA := fun ρ S Q => ta ρ S fun x S1 => t ρ S1 fun xs S2 => Q (x :: xs) S2
theorem wa_nil : WA X F0 0 [] wNil := ⟨paImp pa_nil fun σ H Q ⟨F, ρ, S, P, at_, h, le⟩ => le [] S h rfl F H [] (Same.refl F) at_.hold .nil⟩
theorem wa_cons (ha : WE X F0 e te) (hr : WA X F0 n es t) (hs : starEach (e :: es) X.env = (false, eval e X.env) :: starEach es X.env := by rfl) : WA X F0 (n + 1) (e :: es) (wCons te t) :=
  ⟨paImp (pa_cons ha.pe hr.pa hs) fun σ H Q ⟨F, ρ, S, P, at_, h, le⟩ => ⟨F, ρ, S, _, at_, h, fun x S1 h1 F1 H1 v e1 hd1 r1 => ⟨F1, ρ, S1, _, at_.next e1 hd1, h1, fun xs S2 h2 hn F2 H2 vs e2 hd2 r2 =>
    le (x :: xs) S2 h2 (by rw [List.length_cons, hn]) F2 H2 (v :: vs) (e1.trans e2) hd2 (.cons (r1.mono e2) r2)⟩⟩⟩
theorem line1000 {n : Nat} (h : n ≤ 1000) : n ≤ sizeLine := Nat.le_of_lt (small1000 h)
def wTup (t : PTA) : PTE := fun ρ S Q => t ρ S fun xs S1 => Q (.tup xs) S1
def wLst (t : PTA) : PTE := fun ρ S Q => t ρ S fun xs S1 => Q (.lst xs) S1
def wLstM (t : PTA) : PTE := fun ρ S Q => t ρ S fun xs S1 => ∀ p, S1 p = none → Q (.ref p) (put S1 p (.raw (.lst xs)))
theorem new_tup {F1 : Hp} {S : Store} {H1 : Hp} {p : Addr} {vs : List V} {xs : List PV} (hd : Hold X.K F1 S H1) (np : H1 p = none) (r : Reps X.K F1 vs xs) : Same F1 (upd F1 p (.tup vs)) ∧ Hold X.K (upd F1 p (.tup vs)) S (upd H1 p (.tup vs)) ∧ Rep X.K (upd F1 p (.tup vs)) (.ref p) (.tup xs) := by
  have e := same_upd (o := HO.tup vs) (hd.freeF np)
  exact ⟨e, hd.newF np, .tup (.inl upd_same) (r.mono e)⟩
theorem new_lst {F1 : Hp} {S : Store} {H1 : Hp} {p : Addr} {vs : List V} {xs : List PV} (hd : Hold X.K F1 S H1) (np : H1 p = none) (r : Reps X.K F1 vs xs) : Same F1 (upd F1 p (.lst vs)) ∧ Hold X.K (upd F1 p (.lst vs)) S (upd H1 p (.lst vs)) ∧ Rep X.K (upd F1 p (.lst vs)) (.ref p) (.lst xs) := by
  have e := same_upd (o := HO.lst vs) (hd.freeF np)
  exact ⟨e, hd.newF np, .lst (.inl upd_same) (r.mono e)⟩
theorem we_tup {k : Nat} (h : WA X F0 n es t) (hn : n ≤ 1000 := by decide) : WE X F0 (.Tuple es k pos) (wTup t) :=
  ⟨peImp (pe_tup h.pa) fun σ H Q ⟨F, ρ, S, P, at_, h, le⟩ => ⟨F, ρ, S, _, at_, h, fun xs S1 h1 hl F1 H1 vs e1 hd1 r1 => ⟨line1000 (by rw [r1.len, hl]; exact hn), fun p np => by
    obtain ⟨e2, hd2, r2⟩ := new_tup hd1 np r1
    exact le _ S1 h1 _ _ _ (e1.trans e2) hd2 r2⟩⟩⟩
theorem we_lst (h : WA X F0 n es t) (hn : n ≤ 1000 := by decide) : WE X F0 (.List es pos) (wLst t) :=
  ⟨peImp (pe_lst h.pa) fun σ H Q ⟨F, ρ, S, P, at_, h, le⟩ => ⟨F, ρ, S, _, at_, h, fun xs S1 h1 hl F1 H1 vs e1 hd1 r1 => ⟨line1000 (by rw [r1.len, hl]; exact hn), fun p np => by
    obtain ⟨e2, hd2, r2⟩ := new_lst hd1 np r1
    exact le _ S1 h1 _ _ _ (e1.trans e2) hd2 r2⟩⟩⟩
theorem we_lstM (h : WA X F0 n es t) (hn : n ≤ 1000 := by decide) : WE X F0 (.List es pos) (wLstM t) :=
  ⟨peImp (pe_lst h.pa) fun σ H Q ⟨F, ρ, S, P, at_, h, le⟩ => ⟨F, ρ, S, _, at_, h, fun xs S1 h1 hl F1 H1 vs e1 hd1 r1 => ⟨line1000 (by rw [r1.len, hl]; exact hn), fun p np =>
    le _ _ (h1 p (hd1.freeS np)) F1 _ _ e1 (hd1.newS np r1) (.ref p)⟩⟩⟩
/-! ### built-ins by name -/
def wCB (r : PRs) (t : PTA) : PTE := fun ρ S Q => t ρ S fun xs S1 => r xs S1 Q
variable {x : Str} {id T : String} {p : Pos} {r : PRs}
theorem cb_of {σ : L2.St} {H : Hp} {Q : VK} (h : lft X.K F0 (wCB r t) σ H Q) : tCB (lftRs X.K r) (lftA X.K F0 n t) σ H Q := by
  obtain ⟨F, ρ, S, P, at_, h, le⟩ := h
  exact ⟨F, ρ, S, _, at_, h, fun xs S1 h1 _ F1 H1 vs e1 hd1 r1 => ⟨F1, S1, xs, P, hd1, r1, h1, le.mono e1⟩⟩
theorem we_callB (hc : CallW X (.builtin id) r) (hm : X.mg x = none) (ha : WA X F0 n (e :: es) t) (hg : Gl X x := by rfl) (hv : bootBuiltins x = some (.builtin id) := by decide +kernel) (hn : x ≠ "__name__" := by decide) (hdb : (x == ("__debug__" : Str)) = false := by decide)
    (he : starEach (e :: es) X.env = (false, eval e X.env) :: starEach es X.env := by rfl) (hpl : (backTo pos (starEach es X.env)).any (·.1) = false := by rfl) : WE X F0 (.Call (.Name x p) (e :: es) [] pos) (wCB r t) :=
  ⟨peImp (pe_callB hc hg hm hv ha.pa hn hdb he hpl) fun _ _ _ h => cb_of h⟩
theorem we_callTy (hc : CallW X (.type T) r) (hm : X.mg x = none) (ha : WA X F0 n (e :: es) t) (hg : Gl X x := by rfl) (hv : bootBuiltins x = some (.type T) := by decide +kernel) (hn : x ≠ "__name__" := by decide) (hdb : (x == ("__debug__" : Str)) = false := by decide)
    (he : starEach (e :: es) X.env = (false, eval e X.env) :: starEach es X.env := by rfl) (hpl : (backTo pos (starEach es X.env)).any (·.1) = false := by rfl) : WE X F0 (.Call (.Name x p) (e :: es) [] pos) (wCB r t) :=
  ⟨peImp (pe_callTy hc hg hm hv ha.pa hn hdb he hpl) fun _ _ _ h => cb_of h⟩
/-! ### methods of built-in types -/
def wBM (r : PRm) (to : PTE) (t : PTA) : PTE := fun ρ S Q => to ρ S fun x S1 => t ρ S1 fun xs S2 => r x xs S2 Q
end
end L2.Pv

/-! P4: targets, statements, loops, comprehensions. -/
namespace L2.Pv
open PySem PySem.Spec PyProof.Rows L2
abbrev PTG := PV → PEnv → Store → (PEnv → Store → Prop) → Prop
abbrev PTGs := List PV → PEnv → Store → (PEnv → Store → Prop) → Prop
def LeG (K : PySem.W.Frag) (F0 : Hp) (ks : List Nat) (F : Hp) (σ : L2.St) (P : PEnv → Store → Prop) (Q : L2.St → Hp → Prop) : Prop :=
  ∀ ρ' S', P ρ' S' → ∀ F' σ' H', Same F F' → At K F0 F' ρ' S' σ' H' → (∀ vs : List Nat, (∀ k ∈ ks, k ∈ vs) → wipe σ' vs = wipe σ vs) → Q σ' H'
def lftG (K : PySem.W.Frag) (F0 : Hp) (ks : List Nat) (g : PTG) : TG := fun v σ H Q => ∃ F ρ S x P, At K F0 F ρ S σ H ∧ Rep K F v x ∧ g x ρ S P ∧ LeG K F0 ks F σ P Q
def lftGs (K : PySem.W.Frag) (F0 : Hp) (ks : List Nat) (g : PTGs) : TGs := fun v σ H Q => ∃ F ρ S x P, At K F0 F ρ S σ H ∧ Reps K F v x ∧ g x ρ S P ∧ LeG K F0 ks F σ P Q
structure WG (X : Cx) (F0 : Hp) (ks : List Nat) (tg : Expr) (g : PTG) : Prop where
  pg : PG X tg (lftG X.K F0 ks g)
structure WGs (X : Cx) (F0 : Hp) (ks : List Nat) (tgs : List Expr) (g : PTGs) : Prop where
  pgs : PGs X tgs (lftGs X.K F0 ks g)
def wgN (i : Nat) : PTG := fun x ρ S Q => Q (stV ρ i (some x)) S
def wgNil : PTGs := fun xs ρ S Q => match xs with
  | [] => Q ρ S
  | _ :: _ => False
def wgCons (g : PTG) (gs : PTGs) : PTGs := fun xs ρ S Q => match xs with
  | [] => False
  | x :: r => g x ρ S fun ρ1 S1 => gs r ρ1 S1 Q
def wgTup (n : Nat) (gs : PTGs) : PTG := fun x ρ S Q => match x with
  | .tup xs => xs.length = n ∧ gs xs ρ S Q
  | _ => False
theorem pgImp {X : Cx} {e : Expr} {t t' : TG} (h : PG X e t) (i : ∀ v σ H Q, t' v σ H Q → t v σ H Q) : PG X e t' := ⟨fun pins s σ H v u Q I r q => h.run pins s σ H v u Q I r (i _ _ _ _ q)⟩
theorem pgsImp {X : Cx} {e : List Expr} {t t' : TGs} (h : PGs X e t) (i : ∀ v σ H Q, t' v σ H Q → t v σ H Q) : PGs X e t' := ⟨fun pins s σ H v u Q I r q => h.run pins s σ H v u Q I r (i _ _ _ _ q)⟩
theorem wipe_set {σ : L2.St} {i : Nat} {v : Option V} : ∀ {vs : List Nat}, i ∈ vs → wipe (σ.set i v) vs = wipe σ vs
  | [], h => nomatch h
  | j :: vs, h => by
    show (wipe (σ.set i v) vs).set j none = (wipe σ vs).set j none
    by_cases e : i = j
    · subst e
      by_cases m : i ∈ vs
      · rw [wipe_set m]
      · have c : ∀ (ws : List Nat) (τ : L2.St), i ∉ ws → wipe (τ.set i v) ws = (wipe τ ws).set i v := by
          intro ws
          induction ws with
          | nil => intro τ _; rfl
          | cons k ws ih =>
            intro τ hn
            have hk : i ≠ k := fun z => hn (by rw [z]; exact List.mem_cons_self)
            have hw : i ∉ ws := fun z => hn (List.mem_cons_of_mem _ z)
            show (wipe (τ.set i v) ws).set k none = ((wipe τ ws).set k none).set i v
            rw [ih τ hw, List.set_comm _ _ (by omega)]
        rw [c vs σ m, List.set_set]
    · have m : i ∈ vs := by
        rcases List.mem_cons.mp h with z | z
        · exact absurd z e
        · exact z
      rw [wipe_set m]
section
variable {X : Cx} {F0 : Hp} {e tg : Expr} {es : List Expr} {te : PTE} {g : PTG} {gs : PTGs} {ks ls : List Nat} {pos : Pos} {n : Nat}
theorem wg_name (i : Nat) {x : Str} (hN : X.N.Nodup) (hi : X.N[i]? = some x := by rfl) (hx : Loc X.env.scope x := by first | exact .inl rfl | exact .inr rfl) (hf : X.fn x = true ∨ X.env.scope.names.lookup x = some .local := by first | exact .inl rfl | exact .inr rfl) : WG X F0 [i] (.Name x pos) (wgN i) :=
  ⟨pgImp (pg_name hN hi hx hf) fun v σ H Q ⟨F, ρ, S, x, P, at_, r, h, le⟩ => le _ _ h F _ H (Same.refl F) ⟨at_.base, at_.hold, at_.env.set i r⟩ fun vs hv => wipe_set (hv i List.mem_cons_self)⟩
theorem wgs_nil : WGs X F0 [] [] wgNil :=
  ⟨pgsImp pgs_nil fun v σ H Q ⟨F, ρ, S, x, P, at_, r, h, le⟩ => by
    cases r with
    | nil => exact ⟨rfl, le _ _ h F σ H (Same.refl F) at_ fun _ _ => rfl⟩
    | cons _ _ => exact h.elim⟩
theorem wgs_cons (h1 : WG X F0 ks e g) (h2 : WGs X F0 ls es gs) (hs : (assignEach (e :: es) X.env).map (·.2) = assign e X.env :: (assignEach es X.env).map (·.2) := by rfl) : WGs X F0 (ks ++ ls) (e :: es) (wgCons g gs) :=
  ⟨pgsImp (pgs_cons h1.pg h2.pgs hs) fun v σ H Q ⟨F, ρ, S, x, P, at_, r, h, le⟩ => by
    cases r with
    | nil => exact h.elim
    | cons r1 r2 =>
      refine ⟨_, _, rfl, F, ρ, S, _, _, at_, r1, h, fun ρ1 S1 q1 F1 σ1 H1 e1 a1 w1 => ⟨F1, ρ1, S1, _, P, a1, r2.mono e1, q1, fun ρ2 S2 q2 F2 σ2 H2 e2 a2 w2 => le ρ2 S2 q2 F2 σ2 H2 (e1.trans e2) a2 fun vs hv => ?_⟩⟩
      rw [w2 vs fun k hk => hv k (List.mem_append_right _ hk), w1 vs fun k hk => hv k (List.mem_append_left _ hk)]⟩
theorem wg_tup {k : Nat} (hc : X.calm = true) (h : WGs X F0 ks es gs) (hn : (assignEach es X.env).length = n := by rfl) (hst : (assignEach es X.env).findIdx? (·.1) = none := by rfl) : WG X F0 ks (.Tuple es k pos) (wgTup n gs) :=
  ⟨pgImp (pg_tup hc h.pgs hn hst) fun v σ H Q ⟨F, ρ, S, x, P, at_, r, h, le⟩ => by
    cases r with
    | tup a b => exact ⟨_, _, rfl, at_.hold.sub.sqT a, by rw [b.len]; exact h.1, F, ρ, S, _, P, at_, b, h.2, le⟩
    | _ => exact h.elim⟩
/-! ### statements -/
variable {st : Stmt} {rest body orelse : List Stmt} {t u : PTS} {tc : PTT}
def wNext : PTS := fun P ρ S => P.nx ρ S
def wSeq (t u : PTS) : PTS := fun P ρ S => t { P with nx := u P } ρ S
def wAsg (te : PTE) (g : PTG) : PTS := fun P ρ S => te ρ S fun x S1 => g x ρ S1 P.nx
def wDrop (te : PTE) : PTS := fun P ρ S => te ρ S fun _ S1 => P.nx ρ S1
def wRet (te : PTE) : PTS := fun P ρ S => te ρ S P.rt
def wRetN : PTS := fun P _ S => P.rt .non S
def wBrk : PTS := fun P ρ S => P.bk ρ S
def wCont : PTS := fun P ρ S => P.ct ρ S
def wIfS (c : PTT) (t u : PTS) : PTS := fun P ρ S => c ρ S fun k S1 => match k with
  | true => t P ρ S1
  | false => u P ρ S1
def wNever : PTS := fun _ _ _ => False
theorem wss_nil : WSs X F0 [] wNext := ⟨pssImp pss_nil fun D σ H ⟨F, ρ, S, P, at_, h, le⟩ => le.nx ρ S h F σ H (Same.refl F) at_⟩
theorem wss_cons (h1 : WS X F0 st t) (h2 : WSs X F0 rest u) : WSs X F0 (st :: rest) (wSeq t u) :=
  ⟨pssImp (pss_cons h1.ps h2.pss) fun D σ H ⟨F, ρ, S, P, at_, h, le⟩ => ⟨F, ρ, S, _, at_, h, ⟨fun ρ1 S1 q F1 σ1 H1 e1 a1 => ⟨F1, ρ1, S1, P, a1, q, le.mono e1⟩, le.rt, le.bk, le.ct⟩⟩⟩
theorem wss_one (h1 : WS X F0 st t) : WSs X F0 [st] t := ⟨pss_one h1.ps⟩
theorem wss_never : WSs X F0 rest wNever := ⟨pssImp (pss_never) fun D σ H ⟨_, _, _, _, _, h, _⟩ => h.elim⟩
theorem ws_pass : WS X F0 (.Pass pos) wNext := ⟨psImp ps_pass fun D σ H ⟨F, ρ, S, P, at_, h, le⟩ => le.nx ρ S h F σ H (Same.refl F) at_⟩
theorem ws_break : WS X F0 (.Break pos) wBrk := ⟨psImp ps_break fun D σ H ⟨F, ρ, S, P, at_, h, le⟩ => le.bk ρ S h F σ H (Same.refl F) at_⟩
theorem ws_cont : WS X F0 (.Continue pos) wCont := ⟨psImp ps_continue fun D σ H ⟨F, ρ, S, P, at_, h, le⟩ => le.ct ρ S h F σ H (Same.refl F) at_⟩
theorem ws_doc {x : Str} {j : Nat} {p : Pos} : WS X F0 (.Expr (.Constant (.str x) j p) pos) wNext := ⟨psImp ps_doc fun D σ H ⟨F, ρ, S, P, at_, h, le⟩ => le.nx ρ S h F σ H (Same.refl F) at_⟩
theorem ws_expr (he : WE X F0 e te) (hs : swapsWith e none pos.line X.env = pure false := by rfl) : WS X F0 (.Expr e pos) (wDrop te) :=
  ⟨psImp (ps_expr he.pe hs) fun D σ H ⟨F, ρ, S, P, at_, h, le⟩ => ⟨F, ρ, S, _, at_, h, fun x S1 h1 F1 H1 v e1 hd1 r1 => le.nx ρ S1 h1 F1 σ H1 e1 (at_.next e1 hd1)⟩⟩
theorem ws_ret (he : WE X F0 e te) : WS X F0 (.Return (some e) pos) (wRet te) :=
  ⟨psImp (ps_ret he.pe) fun D σ H ⟨F, ρ, S, P, at_, h, le⟩ => ⟨F, ρ, S, _, at_, h, le.rt⟩⟩
theorem ws_retN : WS X F0 (.Return none pos) wRetN :=
  ⟨psImp ps_retN fun D σ H ⟨F, ρ, S, P, at_, h, le⟩ => le.rt .non S h F H .non (Same.refl F) at_.hold .non⟩
theorem ws_if {c : Expr} (hc : WT X F0 c tc) (ha : WSs X F0 body t) (hb : WSs X F0 orelse u) : WS X F0 (.If c body orelse pos) (wIfS tc t u) :=
  ⟨psImp (ps_if hc.pt ha.pss hb.pss) fun D σ H ⟨F, ρ, S, P, at_, h, le⟩ => ⟨F, ρ, S, _, at_, h, fun k S1 h1 F1 H1 e1 hd1 => by
    cases k <;> exact ⟨F1, ρ, S1, P, at_.next e1 hd1, h1, le.mono e1⟩⟩⟩
theorem leg_of {F F1 : Hp} {ρ : PEnv} {S1 : Store} {σ : L2.St} {H1 : Hp} {P : PEnds} {D : Ends} {x : PV} {v : V} (le : LeS X.K F0 F P D) (a : At X.K F0 F1 ρ S1 σ H1) (e1 : Same F F1) (r : Rep X.K F1 v x) (h : g x ρ S1 P.nx) : lftG X.K F0 ks g v σ H1 D.nx :=
  ⟨F1, ρ, S1, x, _, a, r, h, fun ρ' S' q F' σ' H' e' a' _ => le.nx ρ' S' q F' σ' H' (e1.trans e') a'⟩
theorem ws_asg (he : WE X F0 e te) (hg : WG X F0 ks tg g) (hs : swapsWithSole [tg] e pos.line X.env = pure false := by rfl) (hw : swappedStores [tg] e X.env = pure none := by rfl)
    (h1 : (assignEach [tg] X.env).map (·.2) = [assign tg X.env] := by rfl) : WS X F0 (.Assign [tg] e pos) (wAsg te g) :=
  ⟨psImp (ps_asg he.pe hg.pg hs hw h1) fun D σ H ⟨F, ρ, S, P, at_, h, le⟩ => ⟨F, ρ, S, _, at_, h, fun x S1 h1 F1 H1 v e1 hd1 r1 => leg_of le (at_.next e1 hd1) e1 r1 h1⟩⟩
theorem ws_set (i : Nat) {x : Str} {pos' : Pos} (hN : X.N.Nodup) (he : WE X F0 e te) (hi : X.N[i]? = some x := by rfl) (hx : Loc X.env.scope x := by first | exact .inl rfl | exact .inr rfl) (hs : swapsWith e (some (.Name x pos')) pos.line X.env = pure false := by rfl) (hf : X.fn x = true ∨ X.env.scope.names.lookup x = some .local := by first | exact .inl rfl | exact .inr rfl) :
    WS X F0 (.Assign [.Name x pos'] e pos) (wAsg te (wgN i)) :=
  ⟨psImp (ps_set hN hi hx he.pe hs hf) fun D σ H ⟨F, ρ, S, P, at_, h, le⟩ => ⟨F, ρ, S, _, at_, h, fun x S1 h1 F1 H1 v e1 hd1 r1 => le.nx _ S1 h1 F1 _ H1 e1 ⟨at_.base.trans e1, hd1, (at_.env.mono e1).set i r1⟩⟩⟩
def wPar (i j : Nat) (ta : PTA) : PTS := fun P ρ S => ta ρ S fun xs S1 => match xs with
  | [x, y] => P.nx (stV (stV ρ i (some x)) j (some y)) S1
  | _ => False
def wPar3 (i j l : Nat) (ta : PTA) : PTS := fun P ρ S => ta ρ S fun xs S1 => match xs with
  | [x, y, z] => P.nx (stV (stV (stV ρ i (some x)) j (some y)) l (some z)) S1
  | _ => False
theorem ws_par {i j : Nat} {x y : Str} {a b : Expr} {ta : PTA} {px py pt : Pos} {kt k2 pt2} (hc : X.calm = true) (hN : X.N.Nodup) (ha : WA X F0 n [a, b] ta) (hi : X.N[i]? = some x := by rfl) (hj : X.N[j]? = some y := by rfl) (hij : i ≠ j := by decide)
    (hx : X.env.scope.names.lookup x = some .local := by rfl) (hy : X.env.scope.names.lookup y = some .local := by rfl)
    (hw : swappedStores [.Tuple [.Name x px, .Name y py] kt pt] (.Tuple [a, b] k2 pt2) X.env = pure (some [x, y]) := by rfl)
    (hs : swapsWithSole [.Tuple [.Name x px, .Name y py] kt pt] (.Tuple [a, b] k2 pt2) pos.line X.env = pure false := by rfl) :
    WS X F0 (.Assign [.Tuple [.Name x px, .Name y py] kt pt] (.Tuple [a, b] k2 pt2) pos) (wPar i j ta) :=
  ⟨psImp (ps_par hc hN hi hj hij hx hy ha.pa hw hs) fun D σ H ⟨F, ρ, S, P, at_, h, le⟩ => ⟨F, ρ, S, _, at_, h, fun xs S1 h1 hn F1 H1 v e1 hd1 r1 => by
    split at h1
    · cases r1 with
      | cons r1 r2 =>
        cases r2 with
        | cons r2 r3 =>
          cases r3
          exact ⟨_, _, rfl, le.nx _ S1 h1 F1 _ H1 e1 ⟨at_.base.trans e1, hd1, ((at_.env.mono e1).set i r1).set j r2⟩⟩
    · exact h1.elim⟩⟩
theorem ws_par3 {i j l : Nat} {x y z : Str} {a b c : Expr} {ta : PTA} {px py pz pt : Pos} {kt k2 pt2} (hc : X.calm = true) (hN : X.N.Nodup) (ha : WA X F0 n [a, b, c] ta) (hi : X.N[i]? = some x := by rfl) (hj : X.N[j]? = some y := by rfl) (hl : X.N[l]? = some z := by rfl) (hij : i ≠ j := by decide) (hil : i ≠ l := by decide) (hjl : j ≠ l := by decide)
    (hx : X.env.scope.names.lookup x = some .local := by rfl) (hy : X.env.scope.names.lookup y = some .local := by rfl) (hz : X.env.scope.names.lookup z = some .local := by rfl)
    (hw : swappedStores [.Tuple [.Name x px, .Name y py, .Name z pz] kt pt] (.Tuple [a, b, c] k2 pt2) X.env = pure (some [x, y, z]) := by rfl)
    (hs : swapsWithSole [.Tuple [.Name x px, .Name y py, .Name z pz] kt pt] (.Tuple [a, b, c] k2 pt2) pos.line X.env = pure false := by rfl) :
    WS X F0 (.Assign [.Tuple [.Name x px, .Name y py, .Name z pz] kt pt] (.Tuple [a, b, c] k2 pt2) pos) (wPar3 i j l ta) :=
  ⟨psImp (ps_par3 hc hN hi hj hl hij hil hjl hx hy hz ha.pa hw hs) fun D σ H ⟨F, ρ, S, P, at_, h, le⟩ => ⟨F, ρ, S, _, at_, h, fun xs S1 h1 hn F1 H1 v e1 hd1 r1 => by
    split at h1
    · cases r1 with
      | cons r1 r2 =>
        cases r2 with
        | cons r2 r3 =>
          cases r3 with
          | cons r3 r4 =>
            cases r4
            exact ⟨_, _, _, rfl, le.nx _ S1 h1 F1 _ H1 e1 ⟨at_.base.trans e1, hd1, (((at_.env.mono e1).set i r1).set j r2).set l r3⟩⟩
    · exact h1.elim⟩⟩
def wAug (i : Nat) (te : PTE) (r : PR2) : PTS := fun P ρ S => match nth ρ i with
  | some x => te ρ S fun y S1 => r x y S1 fun z S2 => P.nx (stV ρ i (some z)) S2
  | none => False
theorem ws_aug (i : Nat) {x : Str} {op : Operator} {r : PR2} {pos' : Pos} (hN : X.N.Nodup) (ho : OpW X (inplaceOp op) r) (he : WE X F0 e te) (hi : X.N[i]? = some x := by rfl) (hx : Loc X.env.scope x := by first | exact .inl rfl | exact .inr rfl) (hf : X.fn x = true ∨ X.env.scope.names.lookup x = some .local := by first | exact .inl rfl | exact .inr rfl) :
    WS X F0 (.AugAssign (.Name x pos') op e pos) (wAug i te r) :=
  ⟨psImp (ps_aug hN hi hx he.pe (ti := lft2 X.K r) ho hf) fun D σ H ⟨F, ρ, S, P, at_, h, le⟩ => by
    unfold wAug at h
    split at h
    · rename_i y q
      obtain ⟨v, e1, rv⟩ := at_.env.get q
      exact ⟨v, e1, F, ρ, S, _, at_, h, fun x S1 h1 F1 H1 w e1 hd1 r1 => ⟨F1, S1, y, x, _, hd1, rv.mono e1, r1, h1, fun z S2 h2 F2 H2 z' e2 hd2 r2 => le.nx _ S2 h2 F2 _ H2 (e1.trans e2) ⟨at_.base.trans (e1.trans e2), hd2, (at_.env.mono (e1.trans e2)).set i r2⟩⟩⟩
    · exact h.elim⟩
/-! ### loops -/
def wWhile (c : PTT) (tb : PTS) : PTS := fun P ρ S => ∃ W : Nat → PEnv → Store → Prop, (∃ m, W m ρ S) ∧ ∀ m ρ S, W m ρ S → c ρ S fun b S1 => match b with
  | true => ∃ N : PEnv → Store → Prop, (∀ ρ' S', N ρ' S' → ∃ m', m' < m ∧ W m' ρ' S') ∧ tb { P with nx := N, ct := N, bk := P.nx } ρ S1
  | false => P.nx ρ S1
theorem ws_while {c : Expr} (hp : PassesOwn (model X.prog X.w) X.A X.env X.xe) (hc : WT X F0 c tc) (hb : WSs X F0 body t) : WS X F0 (.While c body [] pos) (wWhile tc t) :=
  ⟨psImp (ps_while hp hc.pt hb.pss) fun D σ H ⟨F, ρ, S, P, at_, ⟨W, ⟨m0, w0⟩, step⟩, le⟩ => by
    refine ⟨fun m σ H => ∃ F' ρ S, Same F F' ∧ At X.K F0 F' ρ S σ H ∧ W m ρ S, ⟨m0, F, ρ, S, Same.refl F, at_, w0⟩, fun m σ1 H1 ⟨F1, ρ1, S1, e1, a1, w1⟩ => ?_⟩
    refine ⟨F1, ρ1, S1, _, a1, step m ρ1 S1 w1, fun b S2 h2 F2 H2 e2 hd2 => ?_⟩
    cases b with
    | false => exact le.nx ρ1 S2 h2 F2 σ1 H2 (e1.trans e2) (a1.next e2 hd2)
    | true =>
      obtain ⟨N, hN, hb⟩ := h2
      refine ⟨fun σ' H' => ∃ F' ρ' S', Same F F' ∧ At X.K F0 F' ρ' S' σ' H' ∧ N ρ' S', fun σ' H' ⟨F', ρ', S', e', a', n'⟩ => ?_, F2, ρ1, S2, _, a1.next e2 hd2, hb, ?_⟩
      · obtain ⟨m', l, w'⟩ := hN ρ' S' n'
        exact ⟨m', l, F', ρ', S', e', a', w'⟩
      · have e12 := e1.trans e2
        exact ⟨fun ρ' S' q F' σ' H' e' a' => ⟨F', ρ', S', e12.trans e', a', q⟩, (le.mono e12).rt, fun ρ' S' q F' σ' H' e' a' => le.nx ρ' S' q F' σ' H' (e12.trans e') a', fun ρ' S' q F' σ' H' e' a' => ⟨F', ρ', S', e12.trans e', a', q⟩⟩⟩
theorem while_inv {c : PTT} {tb : PTS} {P : PEnds} {ρ : PEnv} {S : Store} (W : Nat → PEnv → Store → Prop) (m : Nat) (h0 : W m ρ S)
    (hs : ∀ m ρ S, W m ρ S → c ρ S fun b S1 => match b with
      | true => ∃ N : PEnv → Store → Prop, (∀ ρ' S', N ρ' S' → ∃ m', m' < m ∧ W m' ρ' S') ∧ tb { P with nx := N, ct := N, bk := P.nx } ρ S1
      | false => P.nx ρ S1) : wWhile c tb P ρ S := ⟨W, ⟨m, h0⟩, hs⟩
end
/-- what is walked: its items, a guard that is asked at each turn -/
abbrev PTI := PEnv → Store → (List PV → (Store → Prop) → Store → Prop) → Prop
structure Walks (K : PySem.W.Frag) (J : It) (F : Hp) (xs : List PV) (G : Store → Prop) : Prop where
  stop : ∀ F' S H, Same F F' → Hold K F' S H → G S → J.stop xs.length H
  go : ∀ F' S H i x, Same F F' → Hold K F' S H → G S → xs[i]? = some x → J.go i H
  yld : ∀ F' S H i x, Same F F' → Hold K F' S H → G S → xs[i]? = some x → ∀ v H', J.yld i H v H' → ∃ F'', Same F' F'' ∧ Hold K F'' S H' ∧ Rep K F'' v x
def LeI (K : PySem.W.Frag) (F : Hp) (P : List PV → (Store → Prop) → Store → Prop) (R : It → Hp → Prop) : Prop := ∀ xs G S, P xs G S → ∀ F' H, Same F F' → Hold K F' S H → ∀ J, Walks K J F' xs G → R J H
def lftI (K : PySem.W.Frag) (F0 : Hp) (wi : PTI) : TI := fun σ H R => ∃ F ρ S P, At K F0 F ρ S σ H ∧ wi ρ S P ∧ LeI K F P R
structure WI (X : Cx) (F0 : Hp) (tg iter : Expr) (wi : PTI) : Prop where
  pi : PI X tg iter (lftI X.K F0 wi)
theorem piImp {X : Cx} {tg e : Expr} {t t' : TI} (h : PI X tg e t) (i : ∀ σ H R, t' σ H R → t σ H R) : PI X tg e t' := ⟨fun pins s σ H R I q => h.run pins s σ H R I (i _ _ _ q)⟩
theorem Walks.mono {K : PySem.W.Frag} {J : It} {F F' : Hp} {xs : List PV} {G : Store → Prop} (w : Walks K J F xs G) (e : Same F F') : Walks K J F' xs G :=
  ⟨fun F1 S H e1 => w.stop F1 S H (e.trans e1), fun F1 S H i x e1 => w.go F1 S H i x (e.trans e1), fun F1 S H i x e1 => w.yld F1 S H i x (e.trans e1)⟩
/-- a for's turns over the items: I says what holds with which items left -/
def forI (G : Store → Prop) (g : PTG) (tb : PTS) (P : PEnds) (xs : List PV) (ρ : PEnv) (S : Store) : Prop :=
  ∃ I : List PV → PEnv → Store → Prop, I xs ρ S ∧ (∀ ρ S, I [] ρ S → G S ∧ P.nx ρ S) ∧
    ∀ x r ρ S, I (x :: r) ρ S → G S ∧ g x ρ S fun ρ' S' => tb { P with nx := I r, ct := I r, bk := P.nx } ρ' S'
def wFor (wi : PTI) (g : PTG) (tb : PTS) : PTS := fun P ρ S => wi ρ S fun xs G S1 => forI G g tb P xs ρ S1
/-- turn by turn -/
def forL (G : Store → Prop) (g : PTG) (tb : PTS) (P : PEnds) : List PV → PEnv → Store → Prop
  | [], ρ, S => G S ∧ P.nx ρ S
  | x :: xs, ρ, S => G S ∧ g x ρ S fun ρ' S' => tb { P with nx := forL G g tb P xs, ct := forL G g tb P xs, bk := P.nx } ρ' S'
theorem for_unroll {G : Store → Prop} {g : PTG} {tb : PTS} {P : PEnds} {xs : List PV} {ρ : PEnv} {S : Store} (h : forL G g tb P xs ρ S) : forI G g tb P xs ρ S :=
  ⟨forL G g tb P, h, fun _ _ q => q, fun _ _ _ _ q => q⟩
theorem wipe_set_none {σ : L2.St} {i : Nat} : ∀ {vs : List Nat}, i ∈ vs → (wipe σ vs).set i none = wipe σ vs
  | [], h => nomatch h
  | j :: vs, h => by
    show ((wipe σ vs).set j none).set i none = (wipe σ vs).set j none
    by_cases e : i = j
    · subst e
      rw [List.set_set]
    · have m : i ∈ vs := by
        rcases List.mem_cons.mp h with z | z
        · exact absurd z e
        · exact z
      rw [List.set_comm _ _ (by omega), wipe_set_none m]
theorem wipe_wipe' (σ : L2.St) (ws : List Nat) : ∀ vs : List Nat, (∀ v ∈ vs, v ∈ ws) → wipe (wipe σ ws) vs = wipe σ ws
  | [], _ => rfl
  | v :: vs, h => by
    show (wipe (wipe σ ws) vs).set v none = wipe σ ws
    rw [wipe_wipe' σ ws vs fun u hu => h u (List.mem_cons_of_mem _ hu), wipe_set_none (h v List.mem_cons_self)]
theorem wipe_wipe (σ : L2.St) (vs : List Nat) : wipe (wipe σ vs) vs = wipe σ vs := wipe_wipe' σ vs vs fun _ h => h
theorem drop_at {α : Type} {xs : List α} {i : Nat} {x : α} {r : List α} (e : xs.drop i = x :: r) : xs[i]? = some x ∧ xs.drop (i + 1) = r ∧ i < xs.length := by
  have h1 : i < xs.length := by
    rcases Nat.lt_or_ge i xs.length with h | h
    · exact h
    · rw [List.drop_eq_nil_of_le h] at e
      cases e
  have h2 := List.drop_eq_getElem_cons h1
  rw [e] at h2
  injection h2 with a b
  exact ⟨by rw [List.getElem?_eq_getElem h1, a], b.symm, h1⟩
section
variable {X : Cx} {F0 : Hp} {iter tg elt : Expr} {body : List Stmt} {wi : PTI} {g : PTG} {tb : PTS} {ks : List Nat} {pos : Pos}
theorem ws_for (hp : PassesOwn (model X.prog X.w) X.A X.env X.xe) (hc : X.calm = true) (hi : WI X F0 tg iter wi) (hg : WG X F0 ks tg g) (hb : WSs X F0 body tb) (hs : ∀ x, foldedSetIterable iter X.env x = pure x := by intro _; rfl) :
    WS X F0 (.For tg iter body [] pos) (wFor wi g tb) :=
  ⟨psImp (ps_for hp hc hi.pi hg.pg hb.pss hs) fun D σ H ⟨F, ρ, S, P, at_, h, le⟩ => ⟨F, ρ, S, _, at_, h, fun xs G S1 h1 F1 H1 e1 hd1 J w => by
    obtain ⟨I, i0, iN, iS⟩ := h1
    refine ⟨fun i m σ H => ∃ F' ρ S, Same F1 F' ∧ At X.K F0 F' ρ S σ H ∧ m + i = xs.length ∧ I (xs.drop i) ρ S, ⟨xs.length, F1, ρ, S1, Same.refl F1, at_.next e1 hd1, rfl, i0⟩, fun i m σ2 H2 ⟨F2, ρ2, S2, e2, a2, hm, q2⟩ => ?_⟩
    have e12 := e1.trans e2
    cases hx : xs.drop i with
    | nil =>
      rw [hx] at q2
      have q3 := iN _ _ q2
      have hl : i = xs.length := by
        have := List.drop_eq_nil_iff.mp hx
        omega
      subst hl
      exact .inl ⟨w.stop F2 S2 H2 e2 a2.hold q3.1, le.nx ρ2 S2 q3.2 F2 σ2 H2 e12 a2⟩
    | cons x r =>
      rw [hx] at q2
      have q3 := iS _ _ _ _ q2
      obtain ⟨hx1, hx2, hx3⟩ := drop_at hx
      refine .inr ⟨w.go F2 S2 H2 i x e2 a2.hold q3.1 hx1, fun σ' H' => ∃ F' ρ' S', Same F1 F' ∧ At X.K F0 F' ρ' S' σ' H' ∧ I r ρ' S', fun σ' H' ⟨F', ρ', S', e', a', q'⟩ => ?_, fun v H' hy => ?_⟩
      · exact ⟨m - 1, by omega, F', ρ', S', e', a', by omega, by rw [hx2]; exact q'⟩
      · obtain ⟨F3, e3, hd3, r3⟩ := w.yld F2 S2 H2 i x e2 a2.hold q3.1 hx1 v H' hy
        refine ⟨F3, ρ2, S2, x, _, a2.next e3 hd3, r3, q3.2, fun ρ4 S4 q4 F4 σ4 H4 e4 a4 _ => ⟨F4, ρ4, S4, _, a4, q4, ?_⟩⟩
        have e24 := (e2.trans e3).trans e4
        have e14 := e1.trans e24
        exact ⟨fun ρ' S' q F' σ' H' e' a' => ⟨F', ρ', S', e24.trans e', a', q⟩, (le.mono e14).rt, fun ρ' S' q F' σ' H' e' a' => le.nx ρ' S' q F' σ' H' (e14.trans e') a', fun ρ' S' q F' σ' H' e' a' => ⟨F', ρ', S', e24.trans e', a', q⟩⟩⟩⟩
/-- by an invariant over what is done -/
theorem for_inv {G : Store → Prop} {P : PEnds} (I : List PV → PEnv → Store → Prop) {xs : List PV} {ρ : PEnv} {S : Store} (h0 : I [] ρ S)
    (hd : ∀ ρ S, I xs ρ S → G S ∧ P.nx ρ S)
    (hs : ∀ done x rest ρ S, xs = done ++ x :: rest → I done ρ S → G S ∧ g x ρ S fun ρ' S' => tb { P with nx := fun ρ S => ∃ d, xs = d ++ rest ∧ I d ρ S, ct := fun ρ S => ∃ d, xs = d ++ rest ∧ I d ρ S, bk := P.nx } ρ' S') : forI G g tb P xs ρ S :=
  ⟨fun rest ρ S => ∃ d, xs = d ++ rest ∧ I d ρ S, ⟨[], rfl, h0⟩, fun ρ S ⟨d, e, h⟩ => by
    rw [List.append_nil] at e
    subst e
    exact hd ρ S h, fun x r ρ S ⟨d, e, h⟩ => hs d x r ρ S e h⟩
/-! ### comprehensions -/
def wipeP (ρ : PEnv) : List Nat → PEnv
  | [] => ρ
  | v :: vs => stV (wipeP ρ vs) v none
theorem wipeP_env {K : PySem.W.Frag} {F : Hp} {ρ : PEnv} {σ : L2.St} (h : EnvR K F ρ σ) : ∀ vs : List Nat, EnvR K F (wipeP ρ vs) (wipe σ vs)
  | [] => h
  | v :: vs => EnvR.unset v (wipeP_env h vs)
structure WTs (X : Cx) (F0 : Hp) (ifs : List Expr) (t : PTT) : Prop where
  pts : PTs X ifs (lftT X.K F0 t)
def wYes : PTT := fun _ S Q => Q true S
theorem wts_nil : WTs X F0 [] wYes := ⟨⟨fun pins s σ H Q I ⟨F, ρ, S, P, at_, h, le⟩ => pts_nil.run pins s σ H Q I (le true S h F H (Same.refl F) at_.hold)⟩⟩
theorem wts_one {c : Expr} {t : PTT} (h : WT X F0 c t) : WTs X F0 [c] t := ⟨pts_one h.pt⟩
/-- a comprehension's turns; D is its list in the making -/
def lcEnd (mk : Bool) (D : Addr) (Q : PQ) (acc : List PV) (S : Store) : Prop := match mk with
  | false => Q (.lst acc) (rmv S D)
  | true => Q (.ref D) S
def lcI (mk : Bool) (D : Addr) (G : Store → Prop) (g : PTG) (tt : PTT) (te : PTE) (Q : PQ) (xs : List PV) (ρ : PEnv) (S : Store) : Prop :=
  ∃ I : List PV → List PV → Store → Prop, I xs [] (put S D (.raw (.lst []))) ∧ (∀ acc S, I [] acc S → G S ∧ S D = some (.raw (.lst acc)) ∧ lcEnd mk D Q acc S) ∧
    ∀ x r acc S, I (x :: r) acc S → G S ∧ g x ρ S fun ρ2 S2 => tt ρ2 S2 fun b S3 => match b with
      | true => te ρ2 S3 fun y S4 => S4 D = some (.raw (.lst acc)) ∧ acc.length < sizeLine ∧ I r (acc ++ [y]) (put S4 D (.raw (.lst (acc ++ [y]))))
      | false => I r acc S3
def wLc (mk : Bool) (wi : PTI) (g : PTG) (tt : PTT) (te : PTE) (vs : List Nat) : PTE := fun ρ S Q => wi ρ S fun xs G S1 => ∀ D, S1 D = none → lcI mk D G g tt te Q xs (wipeP ρ vs) S1
theorem lc_core2 {mk : Bool} {tt : PTT} {te : PTE} {vs : List Nat} {σ : L2.St} {H : Hp} {Q : VK} (hk : ∀ k ∈ ks, k ∈ vs) (h : lft X.K F0 (wLc mk wi g tt te vs) σ H Q) :
    tLc (lftI X.K F0 wi) (lftG X.K F0 ks g) (lftT X.K F0 tt) (lft X.K F0 te) vs σ H Q := by
  obtain ⟨F, ρ, S, P, at_, h, le⟩ := h
  refine ⟨F, ρ, S, _, at_, h, fun xs G S1 h1 F1 H1 e1 hd1 J w D nD => ?_⟩
  obtain ⟨I, i0, iN, iS⟩ := h1 D (hd1.freeS nD)
  have hd1' := hd1.newS (o := .lst []) (r := .lst []) nD .nil
  refine ⟨fun i m H => ∃ F' S acc, Same F1 F' ∧ Hold X.K F' S H ∧ m + i = xs.length ∧ I (xs.drop i) acc S, ⟨xs.length, F1, _, [], Same.refl F1, hd1', rfl, i0⟩, fun i m H2 ⟨F2, S2, acc, e2, hd2, hm, q2⟩ => ?_⟩
  have e12 := e1.trans e2
  cases hx : xs.drop i with
  | nil =>
    rw [hx] at q2
    obtain ⟨q3, q4, q5⟩ := iN _ _ q2
    have hl : i = xs.length := by
      have := List.drop_eq_nil_iff.mp hx
      omega
    subst hl
    refine .inl ⟨w.stop F2 S2 H2 e2 hd2 q3, ?_⟩
    cases mk with
    | true => exact le _ _ q5 _ H2 _ e12 hd2 (.ref D)
    | false =>
      obtain ⟨o, ho, ro, fo, hz⟩ := hd2.freeze q4
      have es := same_upd (o := o) fo
      refine le _ _ q5 _ H2 _ (e12.trans es) hz ?_
      cases o <;> first | exact ro.elim | skip
      exact .lst (.inl upd_same) (Reps.mono es ro)
  | cons x r =>
    rw [hx] at q2
    have q3 := iS _ _ _ _ q2
    obtain ⟨hx1, hx2, hx3⟩ := drop_at hx
    refine .inr ⟨w.go F2 S2 H2 i x e2 hd2 q3.1 hx1, fun H' => ∃ F' S' acc', Same F1 F' ∧ Hold X.K F' S' H' ∧ I r acc' S', fun H' ⟨F', S', acc', e', hd', q'⟩ => ⟨m - 1, by omega, F', S', acc', e', hd', by omega, by rw [hx2]; exact q'⟩, fun v H' hy => ?_⟩
    obtain ⟨F3, e3, hd3, r3⟩ := w.yld F2 S2 H2 i x e2 hd2 q3.1 hx1 v H' hy
    have e13 := e12.trans e3
    refine ⟨F3, wipeP ρ vs, S2, x, _, ⟨at_.base.trans e13, hd3, wipeP_env (at_.env.mono e13) vs⟩, r3, q3.2, fun ρ4 S4 q4 F4 σ4 H4 e4 a4 hw => ⟨?_, F4, ρ4, S4, _, a4, q4, fun b S5 q5 F5 H5 e5 hd5 => ?_⟩⟩
    · rw [hw vs hk]
      exact wipe_wipe σ vs
    · have e15 := ((e2.trans e3).trans e4).trans e5
      cases b with
      | false => exact ⟨F5, S5, acc, e15, hd5, q5⟩
      | true =>
        refine ⟨F5, ρ4, S5, _, a4.next e5 hd5, q5, fun y S6 q6 F6 H6 v6 e6 hd6 r6 => ?_⟩
        obtain ⟨p1, p2, p3⟩ := q6
        obtain ⟨f6, o, ho, ro⟩ := hd6.raw p1
        cases o <;> first | exact ro.elim | skip
        rename_i vs6
        have ro' : Reps X.K F6 vs6 acc := ro
        exact ⟨vs6, ho, by rw [ro'.len]; exact p2, F6, _, _, e15.trans e6, hd6.write p1 (o := .lst (vs6 ++ [v6])) (r' := .lst (acc ++ [y])) (ro'.app (.cons r6 .nil)), p3⟩
/-- [elt for tg in iter if ..] -/
theorem we_lc {mk : Bool} {ifs : List Expr} {scope : Scope} {own : List (Str × Nat)} {tt : PTT} {te : PTE} (hc : X.calm = true) (hN : X.N.Nodup) (hi : WI X F0 tg iter wi) (ok : BlkOk X.N X.env.scope scope own)
    (hg : ∀ (s : Shared) (H : Hp) (C : Addr) (cl : List (Str × Addr)) (fp : List Addr), WG (X.blk s H scope (compEnvC scope cl C X.env) fp) F0 ks tg g) (hk : ∀ k ∈ ks, k ∈ own.map (·.2)) (ht : ∀ (s : Shared) (H : Hp) (C : Addr) (cl : List (Str × Addr)) (fp : List Addr), WTs (X.blk s H scope (compEnvC scope cl C X.env) fp) F0 ifs tt)
    (he : ∀ (s : Shared) (H : Hp) (C : Addr) (cl : List (Str × Addr)) (fp : List Addr), WE (X.blk s H scope (compEnvC scope cl C X.env) fp) F0 elt te) (hs : ∀ x, foldedSetIterable iter X.env x = pure x := by intro _; rfl) :
    WE X F0 (.ListComp elt [⟨tg, iter, ifs, 0⟩] scope pos) (wLc mk wi g tt te (own.map (·.2))) :=
  ⟨peImp (pe_lc hc hN hi.pi ok (fun s H C cl fp => (hg s H C cl fp).pg) (fun s H C cl fp => (ht s H C cl fp).pts) (fun s H C cl fp => (he s H C cl fp).pe) hs) fun σ H Q h => lc_core2 hk h⟩
theorem ws_setLc {mk : Bool} (i : Nat) {y : Str} {py spos : Pos} {ifs : List Expr} {scope : Scope} {own : List (Str × Nat)} {tt : PTT} {te : PTE} (hc : X.calm = true) (hN : X.N.Nodup) (hi : WI X F0 tg iter wi) (ok : BlkOk X.N X.env.scope scope own)
    (hg : ∀ (s : Shared) (H : Hp) (C : Addr) (cl : List (Str × Addr)) (fp : List Addr), WG (X.blk s H scope (compEnvC scope cl C X.env) fp) F0 ks tg g) (hk : ∀ k ∈ ks, k ∈ own.map (·.2)) (ht : ∀ (s : Shared) (H : Hp) (C : Addr) (cl : List (Str × Addr)) (fp : List Addr), WTs (X.blk s H scope (compEnvC scope cl C X.env) fp) F0 ifs tt)
    (he : ∀ (s : Shared) (H : Hp) (C : Addr) (cl : List (Str × Addr)) (fp : List Addr), WE (X.blk s H scope (compEnvC scope cl C X.env) fp) F0 elt te)
    (hy : X.N[i]? = some y := by rfl) (hyl : X.env.scope.names.lookup y = some .local := by rfl) (hsw : swapsWith (.ListComp elt [⟨tg, iter, ifs, 0⟩] scope pos) (some (.Name y py)) spos.line X.env = pure true := by exact sw_true rfl rfl rfl (by decide +kernel)) (hs : ∀ x, foldedSetIterable iter X.env x = pure x := by intro _; rfl) :
    WS X F0 (.Assign [.Name y py] (.ListComp elt [⟨tg, iter, ifs, 0⟩] scope pos) spos) (wAsg (wLc mk wi g tt te (own.map (·.2))) (wgN i)) :=
  ⟨psImp (ps_setLc hc hN hy hyl hsw hi.pi ok (fun s H C cl fp => (hg s H C cl fp).pg) (fun s H C cl fp => (ht s H C cl fp).pts) (fun s H C cl fp => (he s H C cl fp).pe) hs) fun D σ H ⟨F, ρ, S, P, at_, h, le⟩ => lc_core2 hk ⟨F, ρ, S, _, at_, h, fun x S1 h1 F1 H1 v e1 hd1 r1 => le.nx _ S1 h1 F1 _ H1 e1 ⟨at_.base.trans e1, hd1, (at_.env.mono e1).set i r1⟩⟩⟩
end
end L2.Pv

/-! P5: defs, their promises, their calls. -/
namespace L2.Pv
open PySem PySem.Spec PyProof.Rows L2
/-- an exception that leaves: its class, its attributes -/
structure PX where
  C : Value
  fs : List (Str × PV)
def RepX (K : PySem.W.Frag) (F H : Hp) (cls : Value) (d : Option Addr) (e : PX) : Prop :=
  cls = e.C ∧ match d with
    | none => e.fs = []
    | some dd => ∃ vs, H dd = some (.xd vs) ∧ RepF K F vs e.fs
abbrev PSp := List PV → Store → PQ → (PX → Store → Prop) → Prop
def LeX (K : PySem.W.Frag) (F : Hp) (P : PX → Store → Prop) (E : XK) : Prop := ∀ e S, P e S → ∀ F' H cls d, Same F F' → Hold K F' S H → RepX K F' H cls d e → E cls d H
def lftSp (K : PySem.W.Frag) (sp : PSp) : Sp := fun vs H Q E => ∃ F S xs P PE, Hold K F S H ∧ Reps K F vs xs ∧ sp xs S P PE ∧ Le K F P Q ∧ LeX K F PE E
def lftX (K : PySem.W.Frag) (F0 : Hp) (E : PX → PEnv → Store → Prop) : WX := fun cls d σ H => ∃ F ρ S e, At K F0 F ρ S σ H ∧ RepX K F H cls d e ∧ E e ρ S
def TakesP (X : Cx) (F0 : Hp) (E : PX → PEnv → Store → Prop) : Prop := Takes X (lftX X.K F0 E)
structure FnG (P : Program) (w : World) (K : PySem.W.Frag) (mg : Str → Option Value) (base : Heap) (k : Nat) (f : Addr) (fd : FuncData) (ps : List Str) (sp : PSp) : Prop where
  len : ∀ xs S Q E, sp xs S Q E → xs.length = ps.length
  run : ∀ (A : Around) (outer : List Env) (s : Shared) (H : Hp) (args : Args) (us : List Value) (vs : List V) (Q : VK) (E : XK), A.guards = some [] → Room k A → Env0 P w K mg base A outer s H → BindsTo s fd args (ps.zip us) →
    Vals vs us → lftSp K sp vs H Q E → codeAny (model P w) A (.call (.ref f) args) (CR (L2.CX P w) outer P w H s Q E) s
theorem Reps.len' {K : PySem.W.Frag} {F : Hp} {vs : List V} {xs : List PV} {n : Nat} (r : Reps K F vs xs) (h : xs.length = n) : vs.length = n := r.len.trans h
theorem FnG.mono {P : Program} {w : World} {K : PySem.W.Frag} {mg : Str → Option Value} {base : Heap} {j k : Nat} {f : Addr} {fd : FuncData} {ps : List Str} {sp : PSp} (F : FnG P w K mg base j f fd ps sp) (h : j ≤ k) : FnG P w K mg base k f fd ps sp :=
  ⟨F.len, fun A o s H a us vs Q E g r => F.run A o s H a us vs Q E g (r.mono h)⟩
theorem FnG.imp {P : Program} {w : World} {K : PySem.W.Frag} {mg : Str → Option Value} {base : Heap} {k : Nat} {f : Addr} {fd : FuncData} {ps : List Str} {sp sp' : PSp} (F : FnG P w K mg base k f fd ps sp)
    (h : ∀ xs S Q E, sp' xs S Q E → sp xs S Q E) : FnG P w K mg base k f fd ps sp' :=
  ⟨fun xs S Q E q => F.len xs S Q E (h xs S Q E q), fun A o s H a us vs Q E g r e0 b v ⟨F1, S, xs, P, PE, a1, a2, a3, a4, a5⟩ => F.run A o s H a us vs Q E g r e0 b v ⟨F1, S, xs, P, PE, a1, a2, h _ _ _ _ a3, a4, a5⟩⟩
section
variable {X : Cx} {F0 : Hp} {k : Nat} {f : Addr} {fd : FuncData} {ps : List Str} {sp : PSp} {dvs : List V} {ds : List Value} {dxs : List PV} {x : Str} {p pos : Pos} {e : Expr} {es : List Expr} {t : PTA} {n : Nat} {E : PX → PEnv → Store → Prop}
/-- default values, as pure values -/
structure DfltP (K : PySem.W.Frag) (ds : List Value) (dxs : List PV) : Prop where
  rel : ∃ vs, Vals vs ds ∧ ∀ F, Reps K F vs dxs
theorem dflt0 {K : PySem.W.Frag} : DfltP K [] [] := ⟨[], .nil, fun _ => .nil⟩
def RsE (X : Cx) (pins : List (Addr × Obj)) (σ : L2.St) (Q : VK) : Result → Shared → Prop
  | .ok (.ret v), s' => EP X pins σ Q v s'
  | .error e, s' => X.xe e s'
  | _, _ => False
theorem call_end {pins : List (Addr × Obj)} {σ : L2.St} {H : Hp} {s s' : Shared} {Q : VK} {r : Result} {EX : XK} (I : Inv X pins σ H s) (hx : ∀ u s', L2.CX X.prog X.w X.stack H s EX u s' → X.xe u s')
    (h : CR (L2.CX X.prog X.w) X.stack X.prog X.w H s Q EX r s') : RsE X pins σ Q r s' := by
  rcases r with u | fl
  · exact hx u s' h
  · cases fl <;> first | exact I.after h | exact h
theorem run_fnG {pins : List (Addr × Obj)} {σ : L2.St} {H : Hp} {s : Shared} {Q : VK} {EX : XK} {args : Args} {us : List Value} {vs : List V} (F : FnG X.prog X.w X.K X.mg X.base k f fd ps sp) (hG : X.A.guards = some []) (hr : Room k X.A) (I : Inv X pins σ H s)
    (hb : BindsTo s fd args (ps.zip us)) (r : Vals vs us) (hx : ∀ u s', L2.CX X.prog X.w X.stack H s EX u s' → X.xe u s') (h : lftSp X.K sp vs H Q EX) :
    codeAny (model X.prog X.w) X.A (.call (.ref f) args) (RsE X pins σ Q) s :=
  codeAny_mono (F.run X.A X.stack s H args us vs Q EX hG hr I.env0 hb r h) fun _ _ q => call_end I hx q
/-- f(e, ..) -/
def wCall (sp : PSp) (dxs : List PV) (E : PX → PEnv → Store → Prop) (t : PTA) : PTE := fun ρ S Q => t ρ S fun xs S1 => sp (xs ++ dxs) S1 Q fun e S2 => E e ρ S2
theorem spl_call {pins : List (Addr × Obj)} {σ : L2.St} {H H1 : Hp} {s : Shared} {Q : VK} {F F1 : Hp} {ρ : PEnv} {S S1 : Store} {xs : List PV} {vs : List V} {us : List Value} {P : PQ} (G : FnG X.prog X.w X.K X.mg X.base k f fd ps sp) (hG : X.A.guards = some []) (hr : Room k X.A) (hb : Binds X.K fd ps ds) (hd : DfltP X.K ds dxs)
    (tk : TakesP X F0 E) (at_ : At X.K F0 F ρ S σ H) (le : Le X.K F P Q) (e1 : Same F F1) (hd1 : Hold X.K F1 S1 H1) (I : Inv X pins σ H1 s) (rv : Vals vs us) (r1 : Reps X.K F1 vs xs) (h : sp (xs ++ dxs) S1 P fun e S2 => E e ρ S2) :
    wpAny (model X.prog X.w) X.A (call (.ref f) us) (EP X pins σ Q) X.xe s := by
  obtain ⟨dv, dr, dp⟩ := hd.rel
  have rr := rv.append dr
  have ll := G.len _ _ _ _ h
  have l2 : (us ++ ds).length = ps.length := by rw [← rr.length]; exact (r1.app (dp F1)).len' ll
  refine wpAny_call (codeAny_mono (run_fnG (Q := Q) (EX := fun cls d H' => lftX X.K F0 E cls d σ H') G hG hr I (hb s us I.kIn l2) rr (fun u s' c => tk u s' (XE.of_call I (fun _ _ _ z => z) c)) ⟨F1, S1, _, P, _, hd1, r1.app (dp F1), h, le.mono e1, fun ex S2 q F2 H2 cls d e2 hd2 rx => ⟨F2, ρ, S2, ex, at_.next (e1.trans e2) hd2, rx, q⟩⟩) fun r s' q => ?_)
  rcases r with u | fl
  · exact q
  · cases fl <;> exact q
theorem we_call (G : FnG X.prog X.w X.K X.mg X.base k f fd ps sp) (hG : X.A.guards = some []) (hr : Room k X.A) (hm : X.mg x = some (.ref f)) (hk : PySem.W.keepIn X.K (.ref f) = true) (hb : Binds X.K fd ps ds) (hd : DfltP X.K ds dxs) (tk : TakesP X F0 E)
    (ha : WA X F0 n (e :: es) t) (hg : Gl X x := by rfl) (hdb : (x == ("__debug__" : Str)) = false := by decide) (he : starEach (e :: es) X.env = (false, eval e X.env) :: starEach es X.env := by rfl) (hpl : (backTo pos (starEach es X.env)).any (·.1) = false := by rfl) :
    WE X F0 (.Call (.Name x p) (e :: es) [] pos) (wCall sp dxs E t) :=
  ⟨⟨fun pins s σ H Q I ⟨F, ρ, S, P, at_, h, le⟩ => wpAny_Call_Name_kw (ld_glob I hg hm (PySem.W.callWith_K (h₀ := X.base) I.ok.mod.kin hk (thn (ha.pa.run pos pins s σ H (fun vs H' => ∃ F1 S1 xs, Same F F1 ∧ Hold X.K F1 S1 H' ∧ Reps X.K F1 vs xs ∧ sp (xs ++ dxs) S1 P fun e S2 => E e ρ S2) I
      ⟨F, ρ, S, _, at_, h, fun xs S1 h1 _ F1 H1 vs e1 hd1 r1 => ⟨F1, S1, xs, e1, hd1, r1, h1⟩⟩) fun us s1 ⟨vs, H1, I1, rv, F1, S1, xs, e1, hd1, r1, q⟩ => ⟨I1.kIn, spl_call G hG hr hb hd tk at_ le e1 hd1 I1 rv r1 q⟩) he hpl) hdb)⟩⟩
theorem we_call0 (G : FnG X.prog X.w X.K X.mg X.base k f fd ps sp) (hG : X.A.guards = some []) (hr : Room k X.A) (hm : X.mg x = some (.ref f)) (hk : PySem.W.keepIn X.K (.ref f) = true) (hb : Binds X.K fd ps ds) (hd : DfltP X.K ds dxs) (tk : TakesP X F0 E)
    (hg : Gl X x := by rfl) (hdb : (x == ("__debug__" : Str)) = false := by decide) : WE X F0 (.Call (.Name x p) [] [] pos) (wCall sp dxs E wNil) :=
  ⟨⟨fun pins s σ H Q I ⟨F, ρ, S, P, at_, h, le⟩ => wpAny_Call_Name_kw (ld_glob I hg hm (PySem.W.callWith_K0 I.kIn hk (spl_call G hG hr hb hd tk at_ le (Same.refl F) at_.hold I .nil .nil h)) hdb)⟩⟩
/-! ### calls with names -/
structure WK (X : Cx) (F0 : Hp) (n : Nat) (kws : List Keyword) (t : PTA) : Prop where
  pk : PK X kws (lftA X.K F0 n t)
theorem pkImp {kws : List Keyword} {t t' : TA} (h : PK X kws t) (i : ∀ σ H Q, t' σ H Q → t σ H Q) : PK X kws t' := ⟨fun pos pins s σ H Q I q => h.run pos pins s σ H Q I (i _ _ _ q)⟩
theorem wk_nil : WK X F0 0 [] wNil := ⟨pkImp pk_nil fun σ H Q ⟨F, ρ, S, P, at_, h, le⟩ => le [] S h rfl F H [] (Same.refl F) at_.hold .nil⟩
theorem wk_cons {nm : Option Str} {kpos : Pos} {kws : List Keyword} {te : PTE} (ha : WE X F0 e te) (hr : WK X F0 n kws t) : WK X F0 (n + 1) (⟨nm, e, kpos⟩ :: kws) (wCons te t) :=
  ⟨pkImp (pk_cons ha.pe hr.pk) fun σ H Q ⟨F, ρ, S, P, at_, h, le⟩ => ⟨F, ρ, S, _, at_, h, fun x S1 h1 F1 H1 v e1 hd1 r1 => ⟨F1, ρ, S1, _, at_.next e1 hd1, h1, fun xs S2 h2 hn F2 H2 vs e2 hd2 r2 =>
    le (x :: xs) S2 h2 (by rw [List.length_cons, hn]) F2 H2 (v :: vs) (e1.trans e2) hd2 (.cons (r1.mono e2) r2)⟩⟩⟩
/-- how positional and named arguments come to the parameters: by g (values) and gP (pure values) -/
structure KB (K : PySem.W.Frag) (fd : FuncData) (ps ks : List Str) (a b : Nat) (g : List Value → List Value → List Value) (gP : List PV → List PV → List PV) : Prop where
  to : ∀ (s : Shared) (us ws : List Value), K.In s.heap → us.length = a → ws.length = b → BindsTo s fd ⟨us, ks.zip ws⟩ (ps.zip (g us ws))
  rel : ∀ {vs : List V} {us : List Value} {zs : List V} {ws : List Value} {F : Hp} {xs ys : List PV}, vs.length = a → zs.length = b → Vals vs us → Vals zs ws → Reps K F vs xs → Reps K F zs ys → ∃ v2, Vals v2 (g us ws) ∧ Reps K F v2 (gP xs ys)
def wCallK (sp : PSp) (gP : List PV → List PV → List PV) (E : PX → PEnv → Store → Prop) (t tk : PTA) : PTE := fun ρ S Q => t ρ S fun xs S1 => tk ρ S1 fun ys S2 => sp (gP xs ys) S2 Q fun e S3 => E e ρ S3
variable {ks : List Str} {g : List Value → List Value → List Value} {gP : List PV → List PV → List PV} {kws : List Keyword} {tk' : PTA} {m : Nat}
theorem spl_callK {pins : List (Addr × Obj)} {σ : L2.St} {H H1 : Hp} {s : Shared} {Q : VK} {F F1 : Hp} {ρ : PEnv} {S S1 : Store} {xs ys : List PV} {vs zs : List V} {us ws : List Value} {P : PQ} (G : FnG X.prog X.w X.K X.mg X.base k f fd ps sp) (hG : X.A.guards = some []) (hr : Room k X.A) (hb : KB X.K fd ps ks n m g gP)
    (tk : TakesP X F0 E) (at_ : At X.K F0 F ρ S σ H) (le : Le X.K F P Q) (e1 : Same F F1) (hd1 : Hold X.K F1 S1 H1) (I : Inv X pins σ H1 s) (l1 : xs.length = n) (l2 : ys.length = m) (rv : Vals vs us) (rz : Vals zs ws) (r1 : Reps X.K F1 vs xs) (r2 : Reps X.K F1 zs ys) (h : sp (gP xs ys) S1 P fun e S2 => E e ρ S2) :
    wpAny (model X.prog X.w) X.A (call (.ref f) us (ks.zip ws)) (EP X pins σ Q) X.xe s := by
  have a1 := r1.len' l1
  have a2 := r2.len' l2
  obtain ⟨v2, rr, rp⟩ := hb.rel a1 a2 rv rz r1 r2
  refine wpAny_call (codeAny_mono (run_fnG (Q := Q) (EX := fun cls d H' => lftX X.K F0 E cls d σ H') G hG hr I (hb.to s us ws I.kIn (by rw [← rv.length, a1]) (by rw [← rz.length, a2])) rr (fun u s' c => tk u s' (XE.of_call I (fun _ _ _ z => z) c)) ⟨F1, S1, _, P, _, hd1, rp, h, le.mono e1, fun ex S2 q F2 H2 cls d e2 hd2 rx => ⟨F2, ρ, S2, ex, at_.next (e1.trans e2) hd2, rx, q⟩⟩) fun r s' q => ?_)
  rcases r with u | fl
  · exact q
  · cases fl <;> exact q
theorem we_callK (G : FnG X.prog X.w X.K X.mg X.base k f fd ps sp) (hG : X.A.guards = some []) (hr : Room k X.A) (hm : X.mg x = some (.ref f)) (hk : PySem.W.keepIn X.K (.ref f) = true) (hb : KB X.K fd ps ks n m g gP) (tk : TakesP X F0 E)
    (ha : WA X F0 n (e :: es) t) (hkw : WK X F0 m kws tk') (hg : Gl X x := by rfl) (hall : (backToKw pos (keywordEach kws X.env)).all (·.1.isSome) = true := by rfl) (hks : (backToKw pos (keywordEach kws X.env)).filterMap (·.1) = ks := by rfl)
    (hdb : (x == ("__debug__" : Str)) = false := by decide) (he : starEach (e :: es) X.env = (false, eval e X.env) :: starEach es X.env := by rfl)
    (hpl : ((backTo pos (starEach (e :: es) X.env)).any (·.1) || (backToKw pos (keywordEach kws X.env)).any (·.1.isNone)) = false := by rfl) :
    WE X F0 (.Call (.Name x p) (e :: es) kws pos) (wCallK sp gP E t tk') :=
  ⟨⟨fun pins s σ H Q I ⟨F, ρ, S, P, at_, h, le⟩ => wpAny_Call_Name_kw (ld_glob I hg hm (PySem.W.callWith_KW (h₀ := X.base) I.ok.mod.kin hk hall (thn (ha.pa.run pos pins s σ H (fun vs H' => ∃ F1 S1 xs, Same F F1 ∧ Hold X.K F1 S1 H' ∧ Reps X.K F1 vs xs ∧ xs.length = n ∧ tk' ρ S1 fun ys S2 => sp (gP xs ys) S2 P fun e S3 => E e ρ S3) I
      ⟨F, ρ, S, _, at_, h, fun xs S1 h1 l1 F1 H1 vs e1 hd1 r1 => ⟨F1, S1, xs, e1, hd1, r1, l1, h1⟩⟩) fun us s1 ⟨vs, H1, I1, rv, F1, S1, xs, e1, hd1, r1, l1, q⟩ =>
      thn (hkw.pk.run pos pins s1 σ H1 (fun zs H' => ∃ F2 S2 ys, Same F1 F2 ∧ Hold X.K F2 S2 H' ∧ Reps X.K F2 zs ys ∧ ys.length = m ∧ sp (gP xs ys) S2 P fun e S3 => E e ρ S3) I1 ⟨F1, ρ, S1, _, at_.next e1 hd1, q, fun ys S2 h2 l2 F2 H2 zs e2 hd2 r2 => ⟨F2, S2, ys, e2, hd2, r2, l2, h2⟩⟩) fun ws s2 ⟨zs, H2, I2, rz, F2, S2, ys, e2, hd2, r2, l2, q2⟩ =>
        ⟨I2.kIn, by rw [hks]; exact spl_callK G hG hr hb tk at_ le (e1.trans e2) hd2 I2 l1 l2 rv rz (r1.mono e2) r2 q2⟩) hpl he) hdb)⟩⟩
end
theorem tk0 {X : Cx} {F0 : Hp} : TakesP X F0 (fun _ _ _ => False) := fun _ _ x => by
  obtain ⟨_, _, _, _, _, _, _, _, _, _, _, _, _, _, _, _, _, _, _, _, _, _, z⟩ := x
  exact z.elim
/-! ### a def, by its body -/
def startP (N : List Str) (xs : List PV) : PEnv := xs.map some ++ List.replicate (N.length - xs.length) none
theorem start_env {K : PySem.W.Frag} {F : Hp} (N : List Str) {vs : List V} {xs : List PV} (r : Reps K F vs xs) : EnvR K F (startP N xs) (start N vs) := by
  unfold startP start
  rw [r.len]
  have rep : ∀ n : Nat, EnvR K F (List.replicate n none) (List.replicate n none) := by
    intro n
    induction n with
    | zero => exact .nil
    | succ n ih => exact .cons (fun _ e => nomatch e) ih
  generalize N.length - xs.length = m
  induction vs generalizing xs with
  | nil => cases r; exact rep m
  | cons v vs ih =>
    cases r with
    | cons a b => exact .cons (fun y e => ⟨v, rfl, by cases e; exact a⟩) (ih b)
theorem okG {P : Program} {w : World} {K : PySem.W.Frag} {mg : Str → Option Value} {base : Heap} {x qual : Str} {st : Stmt} {f : Addr} {fd : FuncData} {N ps : List Str} {k : Nat} {sp : PSp} (F : Fun K x qual st f fd) (S : FnScope N ps (defScope st)) (len : ∀ xs S Q E, sp xs S Q E → xs.length = ps.length)
    (hbody : ∀ (cdv : Value) (A : Around) (outer : List Env) (s : Shared) (H : Hp) (EX : XK) (F0 : Hp) (xs : List PV) (S0 : Store) (Q : PQ) (E : PX → Store → Prop), (A.deeper (envOfC qual (defScope st) s.heap.objs.size f cdv)).guards = some [] → Room k (A.deeper (envOfC qual (defScope st) s.heap.objs.size f cdv)) →
      PassesOwn (model P w) (cxOf (L2.CX P w) P w K mg base N qual (defScope st) f cdv A outer s H EX).A (cxOf (L2.CX P w) P w K mg base N qual (defScope st) f cdv A outer s H EX).env (cxOf (L2.CX P w) P w K mg base N qual (defScope st) f cdv A outer s H EX).xe →
      TakesP (cxOf (L2.CX P w) P w K mg base N qual (defScope st) f cdv A outer s H EX) F0 (fun e _ S => E e S) → sp xs S0 Q E →
      ∃ t, WSs (cxOf (L2.CX P w) P w K mg base N qual (defScope st) f cdv A outer s H EX) F0 (defBody st) t ∧ t { nx := fun _ S' => Q .non S', rt := Q } (startP N xs) S0) : FnG P w K mg base (k + 1) f fd ps sp := by
  obtain ⟨oc, od, kV, doc, pm, an, cdv, ct, osl, rfl, lk, hcd⟩ := F.ex
  refine ⟨len, fun A outer s H args us vs Q E hG hr e0 hb r ⟨F1, S1, xs, PQ, PE, hd, rx, hsp, le, lx⟩ => ?_⟩
  have hl := rx.len' (len _ _ _ _ hsp)
  have kin : K.In s.heap := e0.mod.kin.keeps fun b o e => (e0.bs b o e).1
  have nol : s.heap.NoLimit := e0.mod.nolimit.keeps fun b o e => (e0.bs b o e).1
  refine Att.call_fn kin nol lk hcd hr.depth hb ?_ (fun s1 ic => ?_) S.co S.gen S.kind
  · rw [List.all_eq_true]
    intro y hy
    have m := S.par y.1 (List.of_mem_zip hy).1
    rcases m with m | m <;> rw [m] <;> rfl
  · have I := inv_start (CX := L2.CX P w) (E := E) S hr.hd e0 hl r ic
    have tk : TakesP (cxOf (L2.CX P w) P w K mg base N qual (defScope st) f cdv A outer s H E) F1 (fun e _ S => PE e S) := by
      refine Takes.imp (takes_of rfl rfl rfl rfl) fun cls d σ H2 z => ?_
      obtain ⟨F2, ρ, S2, e, a, rX, q⟩ := z
      exact lx e S2 q F2 H2 cls d a.base a.hold rX
    obtain ⟨t, ht, hq⟩ := hbody cdv A outer s H E F1 xs S1 PQ PE hG (hr.deeper _) (passes_of (K := fun e s'' => L2.CX P w outer H s E e s'') rfl) tk hsp
    refine wpAny_mono (ht.pss.run [] s1 _ H { nx := fun _ H' => Q .non H', rt := Q } I ⟨F1, _, S1, _, ⟨Same.refl F1, hd, start_env N rx⟩, hq, ⟨fun ρ S2 q F2 σ2 H2 e2 a2 => le .non S2 q F2 H2 .non e2 a2.hold .non, le, fun _ _ z => z.elim, fun _ _ z => z.elim⟩⟩) (fun fl s' q => ?_) fun _ _ q => q
    have done : ∀ {σ' : L2.St} {H' : Hp} {v : V} {u : Value}, Inv (cxOf (L2.CX P w) P w K mg base N qual (defScope st) f cdv A outer s H E) [] σ' H' s' → RelV v u → Q v H' → CE outer P w H s Q u s' := fun {_ H' v _} J a b => ⟨v, H', J.os, J.bare, J.base, J.hok, a, b⟩
    cases fl with
    | ret u => obtain ⟨v, σ', H', J, a, b⟩ := q; exact done J a b
    | next => obtain ⟨σ', H', J, b⟩ := q; exact done (v := .non) J rfl b
    | brk => obtain ⟨_, _, _, b⟩ := q; exact b.elim
    | cont => obtain ⟨_, _, _, b⟩ := q; exact b.elim
theorem hu80 {A : Around} {k : Nat} (hr : Room k A) : A.units + 80 < cLine := by have := hr.un; omega
end L2.Pv

/-! P6: what is walked; numbers, texts, lists, tuples: operators and places. -/
namespace L2.Pv
open PySem PySem.Spec PyProof.Rows L2
/-! ### sequences -/
def seqL (S : Store) : PV → Option (List PV)
  | .lst xs => some xs
  | .ref a => match rdS S a with
    | some (.lst xs) => some xs
    | _ => none
  | _ => none
theorem seqL_rd {K : PySem.W.Frag} {F H : Hp} {S : Store} {v : V} {x : PV} {xs : List PV} (hd : Hold K F S H) (r : Rep K F v x) (h : seqL S x = some xs) : ∃ a vs, v = .ref a ∧ Rd H a (.lst vs) ∧ Reps K F vs xs := by
  cases r with
  | lst a b => cases h; exact ⟨_, _, rfl, hd.sub.rd a, b⟩
  | ref a =>
    simp only [seqL] at h
    split at h
    · rename_i ys q
      cases h
      obtain ⟨_, o, ho, ro⟩ := hd.rd q
      cases o <;> first | exact ro.elim | exact ⟨_, _, rfl, ho, ro⟩
    · cases h
  | _ => cases h
/-- what is the guard of a walk over x -/
def guardOf (x : PV) (xs : List PV) : Store → Prop := match x with
  | .ref _ => fun S => seqL S x = some xs
  | _ => fun _ => True
def signs (z : Str) : List PV := z.cps.toList.map fun c => .str ⟨#[c]⟩
def rows : PV → Store → Option (List PV)
  | .tup xs, _ => some xs
  | .str z, _ => some (signs z)
  | x, S => seqL S x
section
variable {X : Cx} {F0 : Hp} {tg e : Expr} {te : PTE} {pos : Pos}
def wiSeq (te : PTE) : PTI := fun ρ S R => te ρ S fun x S1 => match x with
  | .tup xs => R xs (fun _ => True) S1
  | .str z => R (signs z) (fun _ => True) S1
  | .lst xs => R xs (fun _ => True) S1
  | .scr xs => R xs (fun _ => True) S1
  | .ref a => match rdS S1 a with
    | some (.lst xs) => R xs (fun S => seqL S (.ref a) = some xs) S1
    | _ => False
  | _ => False
theorem it_list {pins : List (Addr × Obj)} {σ : L2.St} {H : Hp} {s : Shared} {a : Addr} {vs : List V} {R : It → Hp → Prop} (I : Inv X pins σ H s) (hq : SqL X.K H a vs) (q : R (Itl X.K a) H) : wpAny (model X.prog X.w) X.A (pyIter (.ref a)) (PIE X pins σ tg R) X.xe s := by
  obtain ⟨its, _, p, _⟩ := I.list hq
  exact wpAny_pyIter_list p.isList (pi_one (tk := s.toks) I _ (turn_list a _) ⟨_, Heap.get?_push_size _ rfl, rfl, rfl⟩ q)
theorem it_tup {pins : List (Addr × Obj)} {σ : L2.St} {H : Hp} {s : Shared} {a : Addr} {vs : List V} {R : It → Hp → Prop} (I : Inv X pins σ H s) (hq : SqT X.K H a vs) (q : R (Itt X.K a) H) : wpAny (model X.prog X.w) X.A (pyIter (.ref a)) (PIE X pins σ tg R) X.xe s := by
  obtain ⟨its, _, p, _⟩ := I.tuple hq
  exact wpAny_pyIter_tuple (show s.heap.IsTuple a its.toArray from p) (pi_one (tk := s.toks) I _ (turn_tuple a _) ⟨_, Heap.get?_push_size _ rfl, rfl, rfl⟩ q)
theorem it_str {pins : List (Addr × Obj)} {σ : L2.St} {H : Hp} {s : Shared} {x : Str} {t : Tok} {R : It → Hp → Prop} (I : Inv X pins σ H s) (q : R (Its x) H) : wpAny (model X.prog X.w) X.A (pyIter (.str x t)) (PIE X pins σ tg R) X.xe s := by
  cases hx : x.cps.all (· < 128) with
  | false => exact wpAny_pyIter_wide hx (pi_one (tk := s.toks) I _ (turn_str _ x t "str_iterator" (.inr rfl)) ⟨_, Heap.get?_push_size _ rfl, rfl, rfl⟩ q)
  | true => exact wpAny_pyIter_ascii hx (pi_one (tk := s.toks) I _ (turn_str _ x t "str_ascii_iterator" (.inl rfl)) ⟨_, Heap.get?_push_size _ rfl, rfl, rfl⟩ q)
theorem walks_lst {K : PySem.W.Frag} {F : Hp} {a : Addr} {xs : List PV} {G : Store → Prop} (h : ∀ F' S H, Same F F' → Hold K F' S H → G S → ∃ ws, SqL K H a ws ∧ Reps K F' ws xs) : Walks K (Itl K a) F xs G where
  stop := fun F' S H e hd g => by
    obtain ⟨ws, h1, h2⟩ := h F' S H e hd g
    exact ⟨ws, h1, by rw [h2.len]; exact Nat.le_refl _⟩
  go := fun F' S H i x e hd g hx => by
    obtain ⟨ws, h1, h2⟩ := h F' S H e hd g
    obtain ⟨v, hv, _⟩ := h2.get hx
    exact ⟨ws, v, h1, hv⟩
  yld := fun F' S H i x e hd g hx v H' ⟨hH, hv⟩ => by
    obtain ⟨ws, h1, h2⟩ := h F' S H e hd g
    obtain ⟨v2, hv2, r2⟩ := h2.get hx
    have e3 := hv ws h1
    rw [hv2] at e3
    cases e3
    subst hH
    exact ⟨F', Same.refl F', hd, r2⟩
theorem walks_tup {K : PySem.W.Frag} {F : Hp} {a : Addr} {xs : List PV} {vs : List V} (h : TpAt K F a vs) (r : Reps K F vs xs) : Walks K (Itt K a) F xs (fun _ => True) where
  stop := fun F' S H e hd g => ⟨vs, hd.sub.sqT (sqT_same e h), by rw [r.len]; exact Nat.le_refl _⟩
  go := fun F' S H i x e hd g hx => by
    obtain ⟨v, hv, _⟩ := r.get hx
    exact ⟨vs, v, hd.sub.sqT (sqT_same e h), hv⟩
  yld := fun F' S H i x e hd g hx v H' ⟨hH, hv⟩ => by
    obtain ⟨v2, hv2, r2⟩ := r.get hx
    have e3 := hv vs (hd.sub.sqT (sqT_same e h))
    rw [hv2] at e3
    cases e3
    subst hH
    exact ⟨F', Same.refl F', hd, r2.mono e⟩
theorem signs_get {z : Str} {i : Nat} {x : PV} (h : (signs z)[i]? = some x) : ∃ c, z.cps[i]? = some c ∧ x = .str ⟨#[c]⟩ := by
  unfold signs at h
  rw [List.getElem?_map] at h
  cases q : z.cps.toList[i]? with
  | none => rw [q] at h; cases h
  | some c =>
    rw [q] at h
    cases h
    exact ⟨c, by simpa using q, rfl⟩
theorem walks_str {K : PySem.W.Frag} {F : Hp} (z : Str) : Walks K (Its z) F (signs z) (fun _ => True) where
  stop := fun F' S H e hd g => by
    show z.cps.size ≤ (signs z).length
    unfold signs
    rw [List.length_map]
    exact Nat.le_of_eq (Array.length_toList).symm
  go := fun F' S H i x e hd g hx => by
    obtain ⟨c, hc, _⟩ := signs_get hx
    exact (Array.getElem?_eq_some_iff.mp hc).1
  yld := fun F' S H i x e hd g hx v H' ⟨hH, c, hc, hv⟩ => by
    obtain ⟨c2, hc2, rfl⟩ := signs_get hx
    rw [hc] at hc2
    cases hc2
    subst hH hv
    exact ⟨F', Same.refl F', hd, .str _⟩
theorem wi_seq (he : WE X F0 e te) : WI X F0 tg e (wiSeq te) :=
  ⟨⟨fun pins s σ H R I ⟨F, ρ, S, P, at_, h, le⟩ => thn (he.pe.run pins s σ H (fun v H' => ∃ F1 S1 x, Same F F1 ∧ Hold X.K F1 S1 H' ∧ Rep X.K F1 v x ∧ (match x with
      | .tup xs => P xs (fun _ => True) S1
      | .str z => P (signs z) (fun _ => True) S1
      | .lst xs => P xs (fun _ => True) S1
      | .scr xs => P xs (fun _ => True) S1
      | .ref a => match rdS S1 a with
        | some (.lst xs) => P xs (fun S => seqL S (.ref a) = some xs) S1
        | _ => False
      | _ => False)) I ⟨F, ρ, S, _, at_, h, fun x S1 h1 F1 H1 v e1 hd1 r1 => ⟨F1, S1, x, e1, hd1, r1, h1⟩⟩) fun u s1 ⟨v, H1, I1, rv, F1, S1, x, e1, hd1, r1, q⟩ => by
    cases r1 with
    | lst a b =>
      cases rv
      exact it_list I1 (.inl (hd1.sub.rd a)) (le _ _ S1 q F1 H1 e1 hd1 _ (walks_lst fun F' S' H' e' hd' _ => ⟨_, .inl (hd'.sub.rd (rd_same e' a)), b.mono e'⟩))
    | scr a b =>
      cases rv
      exact it_list I1 (hd1.sub.sqL a) (le _ _ S1 q F1 H1 e1 hd1 _ (walks_lst fun F' S' H' e' hd' _ => ⟨_, hd'.sub.sqL (e'.seq a), b.mono e'⟩))
    | tup a b =>
      cases rv
      exact it_tup I1 (hd1.sub.sqT a) (le _ _ S1 q F1 H1 e1 hd1 _ (walks_tup a b))
    | str z =>
      obtain ⟨t, rfl⟩ := rv
      exact it_str I1 (le _ _ S1 q F1 H1 e1 hd1 _ (walks_str z))
    | ref a =>
      cases rv
      simp only at q
      split at q
      · rename_i xs hq
        obtain ⟨_, o, ho, ro⟩ := hd1.rd hq
        cases o <;> first | exact ro.elim | skip
        refine it_list I1 (.inl ho) (le _ _ S1 q F1 H1 e1 hd1 _ (walks_lst fun F' S' H' e' hd' g => ?_))
        obtain ⟨a', ws, z1, z2, z3⟩ := seqL_rd hd' (.ref a) g
        cases z1
        exact ⟨ws, .inl z2, z3⟩
      · exact q.elim
    | _ => exact q.elim⟩⟩
/-- range -/
def rngP (lo : Int) (n : Nat) : List PV := (List.range n).map fun i => .int (lo + (i : Nat))
def wiRng1 (ta : PTA) : PTI := fun ρ S R => ta ρ S fun xs S1 => match xs with
  | [.int j] => -(2 ^ 62) ≤ j ∧ j < 2 ^ 62 ∧ R (rngP 0 j.toNat) (fun _ => True) S1
  | _ => False
def wiRng2 (ta : PTA) : PTI := fun ρ S R => ta ρ S fun xs S1 => match xs with
  | [.int i, .int j] => (-(2 ^ 62) ≤ i ∧ i < 2 ^ 62 ∧ -(2 ^ 62) ≤ j ∧ j < 2 ^ 62) ∧ R (rngP i (j - i).toNat) (fun _ => True) S1
  | _ => False
theorem ints_get {lo : Int} {n i : Nat} {x : PV} (h : (rngP lo n)[i]? = some x) : i < n ∧ x = .int (lo + (i : Nat)) := by
  unfold rngP at h
  rw [List.getElem?_map] at h
  cases q : (List.range n)[i]? with
  | none => rw [q] at h; cases h
  | some c =>
    rw [q] at h
    cases h
    obtain ⟨h1, h2⟩ := List.getElem?_eq_some_iff.mp q
    rw [List.getElem_range] at h2
    subst h2
    exact ⟨by simpa using h1, rfl⟩
theorem walks_rng {K : PySem.W.Frag} {F : Hp} (lo : Int) (n : Nat) : Walks K (Itr lo n) F (rngP lo n) (fun _ => True) where
  stop := fun F' S H e hd g => by
    show n ≤ (rngP lo n).length
    unfold rngP
    rw [List.length_map, List.length_range]
    exact Nat.le_refl _
  go := fun F' S H i x e hd g hx => (ints_get hx).1
  yld := fun F' S H i x e hd g hx v H' ⟨hH, hv⟩ => by
    obtain ⟨_, rfl⟩ := ints_get hx
    subst hH hv
    exact ⟨F', Same.refl F', hd, .int _⟩
variable {a b : Expr} {ta : PTA} {n : Nat} {p : Pos}
theorem wi_rng1 (hm : X.mg "range" = none) (ha : WA X F0 n [a] ta) (hg : Gl X "range" := by rfl) (hs : starEach [a] X.env = [(false, eval a X.env)] := by rfl) : WI X F0 tg (.Call (.Name "range" p) [a] [] pos) (wiRng1 ta) :=
  ⟨piImp (pi_range1 hg hm ha.pa hs) fun σ H R ⟨F, ρ, S, P, at_, h, le⟩ => ⟨F, ρ, S, _, at_, h, fun xs S1 h1 _ F1 H1 vs e1 hd1 r1 => by
    split at h1
    · cases r1 with
      | cons r1 r2 =>
        cases r2
        cases r1
        exact ⟨_, rfl, h1.1, h1.2.1, le _ _ S1 h1.2.2 F1 H1 e1 hd1 _ (walks_rng 0 _)⟩
    · exact h1.elim⟩⟩
theorem wi_rng2 (hm : X.mg "range" = none) (ha : WA X F0 n [a, b] ta) (hg : Gl X "range" := by rfl) (hs : starEach [a, b] X.env = [(false, eval a X.env), (false, eval b X.env)] := by rfl) (hs2 : starEach [b] X.env = [(false, eval b X.env)] := by rfl) : WI X F0 tg (.Call (.Name "range" p) [a, b] [] pos) (wiRng2 ta) :=
  ⟨piImp (pi_range2 hg hm ha.pa hs hs2) fun σ H R ⟨F, ρ, S, P, at_, h, le⟩ => ⟨F, ρ, S, _, at_, h, fun xs S1 h1 _ F1 H1 vs e1 hd1 r1 => by
    split at h1
    · cases r1 with
      | cons r1 r2 =>
        cases r2 with
        | cons r2 r3 =>
          cases r3
          cases r1
          cases r2
          exact ⟨_, _, rfl, h1.1, le _ _ S1 h1.2 F1 H1 e1 hd1 _ (walks_rng _ _)⟩
    · exact h1.elim⟩⟩
/-! ### + - * // % ** -/
end
section
variable {X : Cx}
def addP : PR2 := fun x y S Q => match x, y with
  | .int i, .int j => Q (.int (i + j)) S
  | .str i, .str j => i.length + j.length ≤ sizeLine ∧ Q (.str (i ++ j)) S
  | .tup xs, .tup ys => xs.length + ys.length ≤ sizeLine ∧ Q (.tup (xs ++ ys)) S
  | .lst xs, .lst ys => xs.length + ys.length ≤ sizeLine ∧ Q (.lst (xs ++ ys)) S
  | x, y => match seqL S x, seqL S y with
    | some xs, some ys => xs.length + ys.length ≤ sizeLine ∧ Q (.lst (xs ++ ys)) S
    | _, _ => False
theorem lst_at {pins : List (Addr × Obj)} {σ : L2.St} {H : Hp} {s : Shared} {a : Addr} {vs : List V} (I : Inv X pins σ H s) (h : Rd H a (.lst vs)) : vs.length ≤ sizeLine ∧ ∃ (its : List Value) (n : Nat), Vals vs its ∧ vs.length = its.length ∧ s.heap.get? a = some { cls := .type "list", data := .seq its.toArray n } := by
  obtain ⟨z, its, n, r, e⟩ := h.ok I.hok
  exact ⟨z, its, n, r, r.length, e⟩
theorem add_lists {pins : List (Addr × Obj)} {σ : L2.St} {H : Hp} {s : Shared} {a b : Addr} {vs ws : List V} {Q : VK} (I : Inv X pins σ H s) (ha : Rd H a (.lst vs)) (hb : Rd H b (.lst ws)) (hz : vs.length + ws.length ≤ sizeLine)
    (q : ∀ p, H p = none → Q (.ref p) (upd H p (.lst (vs ++ ws)))) : wpAny (model X.prog X.w) X.A (binaryOp .Add (.ref a) (.ref b)) (EP X pins σ Q) X.xe s := by
  obtain ⟨_, its, n, r, hl, e⟩ := lst_at I ha
  obtain ⟨_, its2, n2, r2, hl2, e2⟩ := lst_at I hb
  refine PySem.P.add_list e e2 ⟨.ref _, upd H s.heap.objs.size (.lst (vs ++ ws)), ?_, rfl, q _ I.fresh⟩ (by rw [List.size_toArray, List.size_toArray, ← hl, ← hl2]; exact hz)
  have ec : its.toArray ++ its2.toArray = (its ++ its2).toArray := by simp
  rw [ec]
  exact I.lnew (t' := s.toks) (r.append r2) (by rw [List.length_append]; exact hz)
theorem ow_add : OpW X (binaryOp .Add) addP := by
  intro pins s σ H v u vv uu Q I rv ru ⟨F, S, x, y, P, hd, rx, ry, h, le⟩
  have lists : ∀ {xs ys : List PV}, seqL S x = some xs → seqL S y = some ys → (xs.length + ys.length ≤ sizeLine ∧ P (.lst (xs ++ ys)) S) → wpAny (model X.prog X.w) X.A (binaryOp .Add vv uu) (EP X pins σ Q) X.xe s := by
    intro xs ys h1 h2 ⟨hz, q⟩
    obtain ⟨a, vs, rfl, ha, ra⟩ := seqL_rd hd rx h1
    obtain ⟨b, ws, rfl, hb, rb⟩ := seqL_rd hd ry h2
    cases rv
    cases ru
    refine add_lists I ha hb (by rw [ra.len, rb.len]; exact hz) fun p np => ?_
    obtain ⟨e2, hd2, r2⟩ := new_lst (X := X) hd np (ra.app rb)
    exact le _ S q _ _ _ e2 hd2 r2
  unfold addP at h
  split at h
  · cases rx
    cases ry
    exact op_add pins s σ H _ _ _ _ Q I rv ru ⟨_, _, rfl, rfl, le _ S h F H _ (Same.refl F) hd (.int _)⟩
  · cases rx
    cases ry
    exact op_add_str pins s σ H _ _ _ _ Q I rv ru ⟨_, _, rfl, rfl, h.1, le _ S h.2 F H _ (Same.refl F) hd (.str _)⟩
  · cases rx with
    | tup a1 b1 =>
      cases ry with
      | tup a2 b2 =>
        refine op_catA pins s σ H _ _ _ _ Q I rv ru ⟨_, _, _, _, rfl, rfl, hd.sub.sqT a1, hd.sub.sqT a2, by rw [b1.len, b2.len]; exact h.1, fun z => ?_, fun z1 z2 => ?_, fun _ _ p np => ?_⟩
        · subst z
          cases b1
          exact le _ S h.2 F H _ (Same.refl F) hd (.tup a2 b2)
        · subst z2
          cases b2
          rw [List.append_nil] at h
          exact le _ S h.2 F H _ (Same.refl F) hd (.tup a1 b1)
        · obtain ⟨e2, hd2, r2⟩ := new_tup (X := X) hd np (b1.app b2)
          exact le _ S h.2 _ _ _ e2 hd2 r2
  · exact lists rfl rfl h
  · split at h
    · rename_i h1 h2
      exact lists h1 h2 h
    · exact h.elim
def intP (C : Int → Int → Prop) (g : Int → Int → Int) : PR2 := fun x y S Q => match x, y with
  | .int i, .int j => C i j ∧ Q (.int (g i j)) S
  | _, _ => False
def intP0 (g : Int → Int → Int) : PR2 := fun x y S Q => match x, y with
  | .int i, .int j => Q (.int (g i j)) S
  | _, _ => False
theorem ow_int {f : Value → Value → Sem Value} {C : Int → Int → Prop} {g : Int → Int → Int} (h : OpR X f (rI C fun i j => .int (g i j))) : OpW X f (intP C g) := by
  intro pins s σ H v u vv uu Q I rv ru ⟨F, S, x, y, P, hd, rx, ry, q, le⟩
  unfold intP at q
  split at q
  · cases rx
    cases ry
    exact h pins s σ H _ _ _ _ Q I rv ru ⟨_, _, rfl, rfl, q.1, le _ S q.2 F H _ (Same.refl F) hd (.int _)⟩
  · exact q.elim
theorem ow_int0 {f : Value → Value → Sem Value} {g : Int → Int → Int} (h : OpR X f (rI0 fun i j => .int (g i j))) : OpW X f (intP0 g) := by
  intro pins s σ H v u vv uu Q I rv ru ⟨F, S, x, y, P, hd, rx, ry, q, le⟩
  unfold intP0 at q
  split at q
  · cases rx
    cases ry
    exact h pins s σ H _ _ _ _ Q I rv ru ⟨_, _, rfl, rfl, le _ S q F H _ (Same.refl F) hd (.int _)⟩
  · exact q.elim
def subP : PR2 := intP0 fun i j => i - j
def fdivP : PR2 := intP CDiv fun i j => i / j
def modP : PR2 := intP (fun _ j => 0 < j) fun i j => i % j
def powP : PR2 := intP CPow fun i j => i ^ j.toNat
theorem ow_sub : OpW X (binaryOp .Sub) subP := ow_int0 op_sub
theorem ow_fdiv : OpW X (binaryOp .FloorDiv) fdivP := ow_int op_fdiv
theorem ow_mod : OpW X (binaryOp .Mod) modP := ow_int op_mod
theorem ow_pow : OpW X (binaryOp .Pow) powP := ow_int op_pow
theorem ow_iadd : OpW X (inplaceOp .Add) (intP0 fun i j => i + j) := ow_int0 iop_add
theorem ow_isub : OpW X (inplaceOp .Sub) (intP0 fun i j => i - j) := ow_int0 iop_sub
def mulP : PR2 := intP CMul fun i j => i * j
theorem ow_mul : OpW X (binaryOp .Mult) mulP := ow_int op_mul
/-- [..] * k -/
def wRepLit (t : PTA) (tb : PTE) : PTE := fun ρ S Q => t ρ S fun xs S1 => ∀ p, S1 p = none → tb ρ (put S1 p (.raw (.lst xs))) fun y S2 => match y with
  | .int k => S2 p = some (.raw (.lst xs)) ∧ (-(2 ^ 63) ≤ k ∧ k < 2 ^ 63 ∧ xs.length * k.toNat ≤ sizeLine) ∧ Q (.lst (List.replicate k.toNat xs).flatten) (rmv S2 p)
  | _ => False
theorem we_repLit {F0 : Hp} {es : List Expr} {b : Expr} {t : PTA} {tb : PTE} {n : Nat} {pos p' : Pos} (ha : WA X F0 n es t) (hb : WE X F0 b tb) (hn : n ≤ 1000 := by decide) : WE X F0 (.BinOp (.List es p') .Mult b pos) (wRepLit t tb) :=
  ⟨peImp (pe_op op_rep (pe_lst ha.pa) hb.pe) fun σ H Q ⟨F, ρ, S, P, at_, h, le⟩ => ⟨F, ρ, S, _, at_, h, fun xs S1 h1 hl F1 H1 vs e1 hd1 r1 => ⟨line1000 (by rw [r1.len, hl]; exact hn), fun p np =>
    ⟨F1, ρ, _, _, ⟨at_.base.trans e1, hd1.newS (r := .lst xs) np r1, at_.env.mono e1⟩, h1 p (hd1.freeS np), fun y S2 h2 F2 H2 u e2 hd2 r2 => by
      split at h2
      · cases r2
        obtain ⟨q1, q2, q3⟩ := h2
        obtain ⟨o, ho, ro, fo, hz⟩ := hd2.freeze q1
        have es := same_upd (o := o) fo
        cases o <;> first | exact ro.elim | skip
        have ro' : Reps X.K F2 _ xs := ro
        refine ⟨p, _, _, rfl, rfl, ho, q2.1, q2.2.1, by rw [ro'.len]; exact q2.2.2, fun p3 np3 => ?_⟩
        obtain ⟨e4, hd4, r4⟩ := new_lst (X := X) hz np3 ((ro'.mono es).rep _)
        exact le _ _ q3 _ _ _ (((e1.trans e2).trans es).trans e4) hd4 r4
      · exact h2.elim⟩⟩⟩⟩
end
section
variable {X : Cx}
theorem un_negW : UnW X (unaryOp .USub) (fun x S Q => match x with | .int i => Q (.int (-i)) S | _ => False) := by
  intro pins s σ H v vv Q I rv ⟨F, S, x, P, hd, rx, q, le⟩
  simp only at q
  split at q
  · cases rx
    exact un_neg pins s σ H _ _ Q I rv ⟨_, rfl, le _ S q F H _ (Same.refl F) hd (.int _)⟩
  · exact q.elim
end
end L2.Pv

/-! P7: comparisons, membership, kinds. -/
namespace L2.Pv
open PySem PySem.Spec PyProof.Rows L2
mutual
/-- as plain data (no dict, no reference) -/
def toD : PV → Option PyData
  | .non => some .none
  | .bl b => some (.bool b)
  | .int i => some (.int i)
  | .str x => some (.str x)
  | .lst xs => match toDs xs with
    | some ds => some (.list ds)
    | none => none
  | .tup xs => match toDs xs with
    | some ds => some (.tuple ds)
    | none => none
  | .dic _ => none
  | .ref _ => none
  | .ty _ => none
  | .scr _ => none
def toDs : List PV → Option (List PyData)
  | [] => some []
  | x :: xs => match toD x, toDs xs with
    | some d, some ds => some (d :: ds)
    | _, _ => none
end
section
variable {K : PySem.W.Frag} {F H : Hp}
mutual
theorem toD_dp (e : Sub F H) : ∀ {v : V} {x : PV} {d : PyData}, Rep K F v x → toD x = some d → Dp K H v d
  | _, _, _, .non, h => by cases h; exact .non
  | _, _, _, .bl b, h => by cases h; exact .bl b
  | _, _, _, .int i, h => by cases h; exact .int i
  | _, _, _, .str x, h => by cases h; exact .str x
  | _, _, _, .lst a b, h => by
    unfold toD at h
    split at h
    · rename_i ds e1
      cases h
      exact .lst (.inl (e.rd a)) (toDs_dp e b e1)
    · cases h
  | _, _, _, .tup a b, h => by
    unfold toD at h
    split at h
    · rename_i ds e1
      cases h
      exact .tup (e.sqT a) (toDs_dp e b e1)
    · cases h
  | _, _, _, .dic _ _, h => nomatch h
  | _, _, _, .ref _, h => nomatch h
  | _, _, _, .ty _, h => nomatch h
  | _, _, _, .scr _ _, h => nomatch h
theorem toDs_dp (e : Sub F H) : ∀ {v : List V} {x : List PV} {d : List PyData}, Reps K F v x → toDs x = some d → DpAll K H v d
  | _, _, _, .nil, h => by cases h; exact .nil
  | _, _, _, .cons a b, h => by
    unfold toDs at h
    split at h
    · rename_i d es e1 e2
      cases h
      exact .cons (toD_dp e a e1) (toDs_dp e b e2)
    · cases h
end
end
/-- a list of the store as its items now -/
def viewS (S : Store) (x : PV) : PV := match x with
  | .ref a => match rdS S a with
    | some (.lst xs) => .lst xs
    | _ => .ref a
  | x => x
theorem view_dp {K : PySem.W.Frag} {F H : Hp} {S : Store} {v : V} {x : PV} {d : PyData} (hd : Hold K F S H) (r : Rep K F v x) (h : toD (viewS S x) = some d) : Dp K H v d := by
  unfold viewS at h
  split at h
  · rename_i a
    split at h
    · rename_i xs q
      cases r
      obtain ⟨_, o, ho, ro⟩ := hd.rd q
      cases o <;> first | exact ro.elim | skip
      unfold toD at h
      split at h
      · rename_i ds e1
        cases h
        exact .lst (.inl ho) (toDs_dp hd.sub ro e1)
      · cases h
    · cases h
  · exact toD_dp hd.sub r h
def eqD (S : Store) (x y : PV) : Option Bool := match toD (viewS S x), toD (viewS S y) with
  | some d, some e => if d.canLay0 && (e.canLay0 && decide (min d.depth e.depth ≤ 64)) then some (PyData.eqv d e) else none
  | _, _ => none
/-- == of data -/
def eqP : PR2 := fun x y S Q => match x, y with
  | .int i, .int j => Q (.bl (i == j)) S
  | .str i, .str j => Q (.bl (i == j)) S
  | .bl i, .bl j => Q (.bl (i == j)) S
  | .non, .non => Q (.bl true) S
  | x, y => match eqD S x y with
    | some b => Q (.bl b) S
    | none => False
def neP : PR2 := fun x y S Q => eqP x y S fun z S1 => match z with
  | .bl b => Q (.bl !b) S1
  | _ => False
theorem eqP_cases {x y : PV} {S : Store} {Q : PQ} (h : eqP x y S Q) : ∃ b, Q (.bl b) S ∧ ((∃ i j, x = .int i ∧ y = .int j ∧ b = (i == j)) ∨ (∃ i j, x = .str i ∧ y = .str j ∧ b = (i == j)) ∨ (∃ i j, x = .bl i ∧ y = .bl j ∧ b = (i == j)) ∨
    ∃ d e, toD (viewS S x) = some d ∧ toD (viewS S y) = some e ∧ d.canLay0 = true ∧ e.canLay0 = true ∧ min d.depth e.depth ≤ 64 ∧ PyData.eqv d e = b) := by
  unfold eqP at h
  split at h
  · exact ⟨_, h, .inl ⟨_, _, rfl, rfl, rfl⟩⟩
  · exact ⟨_, h, .inr (.inl ⟨_, _, rfl, rfl, rfl⟩)⟩
  · exact ⟨_, h, .inr (.inr (.inl ⟨_, _, rfl, rfl, rfl⟩))⟩
  · exact ⟨_, h, .inr (.inr (.inr ⟨_, _, rfl, rfl, rfl, rfl, by unfold PyData.depth; exact Nat.zero_le _, rfl⟩))⟩
  · split at h
    · rename_i b e1
      unfold eqD at e1
      split at e1
      · rename_i d e q1 q2
        split at e1
        · rename_i c
          cases e1
          rw [Bool.and_eq_true, Bool.and_eq_true] at c
          exact ⟨_, h, .inr (.inr (.inr ⟨d, e, q1, q2, c.1, c.2.1, of_decide_eq_true c.2.2, rfl⟩))⟩
        · cases e1
      · cases e1
    · exact h.elim
section
variable {X : Cx}
theorem eq_run {op : CmpOp} {g : Bool → Bool} (hu : X.A.units + 64 < cLine) (hs : OpR X (compareOp op) (fun x y H Q => scal x y = true ∧ Q (.bl (g (decide (x = y)))) H))
    (hd : ∀ (s : Shared) (u v : Value) (d e : PyData) (as bs : List Addr) (Q : Value → Shared → Prop), Reads s.heap u d as → Reads s.heap v e bs → d.canLay0 = true → e.canLay0 = true → X.A.units + min d.depth e.depth < cLine → Q (.bool (g (PyData.eqv d e))) s → wpAny (model X.prog X.w) X.A (compareOp op u v) Q X.xe s) :
    OpW X (compareOp op) (fun x y S Q => eqP x y S fun z S1 => match z with | .bl b => Q (.bl (g b)) S1 | _ => False) := by
  intro pins s σ H v u vv uu Q I rv ru ⟨F, S, x, y, P, hd1, rx, ry, q, le⟩
  obtain ⟨b, qb, c⟩ := eqP_cases q
  have fin := le _ S qb F H _ (Same.refl F) hd1 (.bl _)
  rcases c with ⟨i, j, rfl, rfl, e⟩ | ⟨i, j, rfl, rfl, e⟩ | ⟨i, j, rfl, rfl, e⟩ | ⟨d, e, h1, h2, h3, h4, h5, h6⟩
  · cases rx
    cases ry
    exact hs pins s σ H _ _ _ _ Q I rv ru ⟨rfl, by rw [dec_int, ← e]; exact fin⟩
  · cases rx
    cases ry
    exact hs pins s σ H _ _ _ _ Q I rv ru ⟨rfl, by rw [dec_str, ← e]; exact fin⟩
  · cases rx
    cases ry
    exact hs pins s σ H _ _ _ _ Q I rv ru ⟨rfl, by rw [dec_bl, ← e]; exact fin⟩
  · obtain ⟨as, ra⟩ := Dp.reads I d v vv (view_dp hd1 rx h1) rv
    obtain ⟨bs, rb⟩ := Dp.reads I e u uu (view_dp hd1 ry h2) ru
    exact hd s vv uu d e as bs _ ra rb h3 h4 (by omega) ⟨.bl (g b), H, I, by rw [h6]; rfl, fin⟩
theorem ow_eq (hu : X.A.units + 64 < cLine) : OpW X (compareOp .Eq) eqP := by
  have := eq_run (X := X) (g := id) hu op_eq fun s u v d e as bs Q ra rb la lb h q => PySem.SeqAt.compareEq_reads ra rb la lb h q
  intro pins s σ H v u vv uu Q I rv ru ⟨F, S, x, y, P, hd1, rx, ry, q, le⟩
  obtain ⟨b, qb, c⟩ := eqP_cases q
  refine this pins s σ H v u vv uu Q I rv ru ⟨F, S, x, y, fun z S1 => z = .bl b ∧ S1 = S, hd1, rx, ry, ?_, fun z S1 ⟨e1, e2⟩ => by subst e1 e2; exact le _ _ qb⟩
  rcases c with ⟨i, j, rfl, rfl, e⟩ | ⟨i, j, rfl, rfl, e⟩ | ⟨i, j, rfl, rfl, e⟩ | ⟨d, e, h1, h2, h3, h4, h5, h6⟩
  · exact ⟨by rw [e]; rfl, rfl⟩
  · exact ⟨by rw [e]; rfl, rfl⟩
  · exact ⟨by rw [e]; rfl, rfl⟩
  · have hD : eqD S x y = some b := by
      unfold eqD
      rw [h1, h2]
      simp only [h3, h4, h5, h6, decide_true, Bool.and_self, if_true]
    unfold eqP
    split
    · cases h1; cases h2; exact ⟨by rw [← h6]; rfl, rfl⟩
    · cases h1; cases h2; exact ⟨by rw [← h6]; rfl, rfl⟩
    · cases h1; cases h2; exact ⟨by rw [← h6]; rfl, rfl⟩
    · cases h1; cases h2; exact ⟨by rw [← h6]; rfl, rfl⟩
    · rw [hD]
      exact ⟨rfl, rfl⟩
theorem ow_ne (hu : X.A.units + 64 < cLine) : OpW X (compareOp .NotEq) neP :=
  eq_run (X := X) (g := not) hu op_ne fun s u v d e as bs Q ra rb la lb h q => PySem.SeqAt.compareNe_reads ra rb la lb h q
/-! ### order of ints; None -/
def ordP (g : Int → Int → Bool) : PR2 := fun x y S Q => match x, y with
  | .int i, .int j => Q (.bl (g i j)) S
  | _, _ => False
theorem ow_ord {op : CmpOp} {g : Int → Int → Bool} (h : OpR X (compareOp op) (rI0 fun i j => .bl (g i j))) : OpW X (compareOp op) (ordP g) := by
  intro pins s σ H v u vv uu Q I rv ru ⟨F, S, x, y, P, hd, rx, ry, q, le⟩
  unfold ordP at q
  split at q
  · cases rx
    cases ry
    exact h pins s σ H _ _ _ _ Q I rv ru ⟨_, _, rfl, rfl, le _ S q F H _ (Same.refl F) hd (.bl _)⟩
  · exact q.elim
def ltP : PR2 := ordP fun i j => decide (i < j)
def leP : PR2 := ordP fun i j => decide (i ≤ j)
def gtP : PR2 := ordP fun i j => decide (j < i)
def geP : PR2 := ordP fun i j => decide (j ≤ i)
theorem ow_lt : OpW X (compareOp .Lt) ltP := ow_ord op_lt
theorem ow_le : OpW X (compareOp .LtE) leP := ow_ord op_le
theorem ow_gt : OpW X (compareOp .Gt) gtP := ow_ord op_gt
theorem ow_ge : OpW X (compareOp .GtE) geP := ow_ord op_ge
def isNon : PV → Bool
  | .non => true
  | _ => false
def isP : PR2 := fun x y S Q => match y with
  | .non => Q (.bl (isNon x)) S
  | _ => False
def isNotP : PR2 := fun x y S Q => match y with
  | .non => Q (.bl !(isNon x)) S
  | _ => False
theorem isNon_rep {K : PySem.W.Frag} {F : Hp} {v : V} {x : PV} (r : Rep K F v x) : decide (v = .non) = isNon x := by cases r <;> rfl
theorem ow_is : OpW X (compareOp .Is) isP := by
  intro pins s σ H v u vv uu Q I rv ru ⟨F, S, x, y, P, hd, rx, ry, q, le⟩
  unfold isP at q
  split at q
  · cases ry
    exact op_isN pins s σ H _ _ _ _ Q I rv ru ⟨rfl, by rw [isNon_rep rx]; exact le _ S q F H _ (Same.refl F) hd (.bl _)⟩
  · exact q.elim
theorem ow_isNot : OpW X (compareOp .IsNot) isNotP := by
  intro pins s σ H v u vv uu Q I rv ru ⟨F, S, x, y, P, hd, rx, ry, q, le⟩
  unfold isNotP at q
  split at q
  · cases ry
    exact op_notN pins s σ H _ _ _ _ Q I rv ru ⟨rfl, by rw [isNon_rep rx]; exact le _ S q F H _ (Same.refl F) hd (.bl _)⟩
  · exact q.elim
/-! ### dicts by keys -/
def keyOf : PV → Option Key
  | .int i => some (.inl i)
  | .str x => some (.inr x)
  | _ => none
theorem keyOf_keyP (k : Key) : keyOf (keyP k) = some k := by cases k <;> rfl
def dget (k : Key) : List (PV × PV) → Option PV
  | [] => none
  | (x, y) :: r => if keyOf x = some k then some y else dget k r
def dhas (k : Key) (kvs : List (PV × PV)) : Bool := kvs.any fun p => decide (keyOf p.1 = some k)
def dput (k : Key) (y : PV) (kvs : List (PV × PV)) : List (PV × PV) :=
  if dhas k kvs = true then kvs.map (fun p => if keyOf p.1 = some k then (p.1, y) else p) else kvs ++ [(keyP k, y)]
def ddel (k : Key) : List (PV × PV) → List (PV × PV)
  | [] => []
  | (x, z) :: r => if keyOf x = some k then ddel k r else (x, z) :: ddel k r
theorem RepK.len {K : PySem.W.Frag} {F : Hp} : ∀ {vs : List (Key × V)} {xs : List (PV × PV)}, RepK K F vs xs → vs.length = xs.length
  | _, _, .nil => rfl
  | _, _, .cons _ r => by rw [List.length_cons, List.length_cons, RepK.len r]
theorem RepK.get {K : PySem.W.Frag} {F : Hp} (k : Key) : ∀ {vs : List (Key × V)} {xs : List (PV × PV)}, RepK K F vs xs → match dget k xs with
    | some x => ∃ v, valV vs k = some v ∧ Rep K F v x
    | none => valV vs k = none
  | _, _, .nil => rfl
  | _, _, .cons (k := j) (vs := vs) h r => by
    unfold dget
    rw [keyOf_keyP]
    by_cases e : j = k
    · subst e
      rw [if_pos rfl]
      exact ⟨_, valV_pos rfl, h⟩
    · rw [if_neg (fun z => e (Option.some.inj z)), valV_neg e]
      exact RepK.get k r
/-- the pairs of a dict -/
def seqK (S : Store) : PV → Option (List (PV × PV))
  | .dic xs => some xs
  | .ref a => match rdS S a with
    | some (.dic xs) => some xs
    | _ => none
  | _ => none
theorem seqK_rd {K : PySem.W.Frag} {F H : Hp} {S : Store} {v : V} {x : PV} {xs : List (PV × PV)} (hd : Hold K F S H) (r : Rep K F v x) (h : seqK S x = some xs) : ∃ a vs, v = .ref a ∧ Rd H a (.dK vs) ∧ RepK K F vs xs := by
  cases r with
  | dic a b => cases h; exact ⟨_, _, rfl, hd.sub.rd a, b⟩
  | ref a =>
    simp only [seqK] at h
    split at h
    · rename_i ys q
      cases h
      obtain ⟨_, o, ho, ro⟩ := hd.rd q
      cases o <;> first | exact ro.elim | exact ⟨_, _, rfl, ho, ro⟩
    · cases h
  | _ => cases h
theorem keyOf_rep {K : PySem.W.Frag} {F : Hp} {v : V} {x : PV} {k : Key} (r : Rep K F v x) (h : keyOf x = some k) : v = kV k := by
  cases r <;> cases h <;> rfl
theorem kV_rep (K : PySem.W.Frag) (F : Hp) (k : Key) : Rep K F (kV k) (keyP k) := by cases k with
  | inl i => exact .int i
  | inr x => exact .str x
/-! ### in -/
def flatP : PV → Bool
  | .non => true
  | .bl _ => true
  | .int _ => true
  | .str _ => true
  | _ => false
def eqF : PV → PV → Bool
  | .non, .non => true
  | .bl a, .bl b => a == b
  | .bl a, .int b => (if a then 1 else 0) == b
  | .int a, .bl b => a == (if b then 1 else 0)
  | .int a, .int b => a == b
  | .str a, .str b => a == b
  | _, _ => false
def inF (x : PV) (xs : List PV) : Bool := xs.any fun y => eqF y x
def subS (i j : Str) : Bool := !(Builtin.Str.occurrences j i 0 j.length 1).isEmpty
def memP (x y : PV) (S : Store) : Option Bool := match y with
  | .str z => match x with
    | .str w => some (subS w z)
    | _ => none
  | .tup ys => if flatP x && ys.all flatP then some (inF x ys) else none
  | y => match seqL S y with
    | some ys => if flatP x && ys.all flatP then some (inF x ys) else none
    | none => match seqK S y, keyOf x with
      | some kvs, some k => some (dget k kvs).isSome
      | _, _ => none
def inP : PR2 := fun x y S Q => match memP x y S with
  | some b => Q (.bl b) S
  | none => False
def notInP : PR2 := fun x y S Q => match memP x y S with
  | some b => Q (.bl !b) S
  | none => False
theorem flat_rep {K : PySem.W.Frag} {F : Hp} {v : V} {x : PV} (r : Rep K F v x) (h : flatP x = true) : flatV v = true := by cases r <;> first | rfl | cases h
theorem flats_rep {K : PySem.W.Frag} {F : Hp} : ∀ {vs : List V} {xs : List PV}, Reps K F vs xs → xs.all flatP = true → vs.all flatV = true
  | _, _, .nil, _ => rfl
  | _, _, .cons h r, q => by
    rw [List.all_cons, Bool.and_eq_true] at q ⊢
    exact ⟨flat_rep h q.1, flats_rep r q.2⟩
theorem eqF_rep {K : PySem.W.Frag} {F : Hp} {v w : V} {x y : PV} (r : Rep K F v x) (t : Rep K F w y) (h : flatP x = true) (k : flatP y = true) : eqV v w = eqF x y := by
  cases r <;> first | (cases t <;> first | rfl | cases k) | cases h
theorem inF_rep {K : PySem.W.Frag} {F : Hp} {v : V} {x : PV} (r : Rep K F v x) (h : flatP x = true) : ∀ {vs : List V} {xs : List PV}, Reps K F vs xs → xs.all flatP = true → inV v vs = inF x xs
  | _, _, .nil, _ => rfl
  | _, _, .cons a b, q => by
    rw [List.all_cons, Bool.and_eq_true] at q
    show (_ || _) = (_ || _)
    have := inF_rep r h b q.2
    unfold inV inF at this
    have e2 := eqF_rep a r q.1 h
    simp only [e2, this]
theorem memP_run {neg : Bool} {op : CmpOp} (hu : X.A.units + 1 < cLine) (hs : OpR X (compareOp op) (rIn X.K neg)) (ht : OpR X (compareOp op) (fun x y H Q => ∃ i j, x = .str i ∧ y = .str j ∧ Q (.bl (if neg then !subS i j else subS i j)) H))
    (hk : ∀ (pins : List (Addr × Obj)) (s : Shared) (σ : L2.St) (H : Hp) (a : Addr) (y : V) (u : Value) (o : Option V) (Q : Value → Shared → Prop), Inv X pins σ H s → DGet H a y o → RelV y u → (∀ s', Inv X pins σ H s' → Q (.bool (if neg then !o.isSome else o.isSome)) s') → wpAny (model X.prog X.w) X.A (compareOp op u (.ref a)) Q X.xe s) :
    OpW X (compareOp op) (fun x y S Q => ∃ b, memP x y S = some b ∧ Q (.bl (if neg then !b else b)) S) := by
  intro pins s σ H v u vv uu Q I rv ru ⟨F, S, x, y, P, hd, rx, ry, ⟨b, hb, q⟩, le⟩
  · have fin := le _ S q F H _ (Same.refl F) hd (.bl _)
    unfold memP at hb
    split at hb
    · split at hb
      · cases hb
        cases rx
        cases ry
        exact ht pins s σ H _ _ _ _ Q I rv ru ⟨_, _, rfl, rfl, fin⟩
      · cases hb
    · split at hb
      · rename_i hf
        cases hb
        rw [Bool.and_eq_true] at hf
        cases ry with
        | tup a1 b1 => exact hs pins s σ H _ _ _ _ Q I rv ru ⟨_, _, rfl, .inr (hd.sub.sqT a1), flat_rep rx hf.1, flats_rep b1 hf.2, by rw [inF_rep rx hf.1 b1 hf.2]; cases neg <;> exact fin⟩
      · cases hb
    · split at hb
      · rename_i ys hy
        split at hb
        · rename_i hf
          cases hb
          rw [Bool.and_eq_true] at hf
          obtain ⟨a, ws, rfl, ha, ra⟩ := seqL_rd hd ry hy
          exact hs pins s σ H _ _ _ _ Q I rv ru ⟨_, _, rfl, .inl (.inl ha), flat_rep rx hf.1, flats_rep ra hf.2, by rw [inF_rep rx hf.1 ra hf.2]; cases neg <;> exact fin⟩
        · cases hb
      · split at hb
        · rename_i kvs k h1 h2
          cases hb
          obtain ⟨a, ws, rfl, ha, ra⟩ := seqK_rd hd ry h1
          have e2 := keyOf_rep rx h2
          subst e2
          cases ru
          refine hk pins s σ H a _ _ (valV ws k) _ I (.inl ⟨ws, k, ha, rfl, rfl⟩) rv fun s' I' => ⟨.bl _, H, I', rfl, ?_⟩
          have := ra.get k
          cases e3 : dget k kvs with
          | none =>
            rw [e3] at this fin
            rw [this]
            exact fin
          | some z =>
            rw [e3] at this fin
            obtain ⟨w, e4, _⟩ := this
            rw [e4]
            exact fin
        · cases hb
theorem mem_of {x y : PV} {S : Store} {Q : Bool → Prop} (h : match memP x y S with | some b => Q b | none => False) : ∃ b, memP x y S = some b ∧ Q b := by
  split at h
  · exact ⟨_, by assumption, h⟩
  · exact h.elim
theorem ow_in (hu : X.A.units + 1 < cLine) : OpW X (compareOp .In) inP := fun pins s σ H v u vv uu Q I rv ru ⟨F, S, x, y, P, hd, rx, ry, q, le⟩ =>
  memP_run (neg := false) hu op_in_seq op_in_str (fun pins s σ H a y u o Q I g r h => d_in hu I g r h) pins s σ H v u vv uu Q I rv ru ⟨F, S, x, y, P, hd, rx, ry, mem_of (Q := fun b => P (.bl b) S) q, le⟩
theorem ow_notIn (hu : X.A.units + 1 < cLine) : OpW X (compareOp .NotIn) notInP := fun pins s σ H v u vv uu Q I rv ru ⟨F, S, x, y, P, hd, rx, ry, q, le⟩ =>
  memP_run (neg := true) hu op_notIn_seq op_notin_str (fun pins s σ H a y u o Q I g r h => d_notIn hu I g r h) pins s σ H v u vv uu Q I rv ru ⟨F, S, x, y, P, hd, rx, ry, mem_of (Q := fun b => P (.bl !b) S) q, le⟩
end
end L2.Pv

/-! P8: built-ins, places, slices, methods. -/
namespace L2.Pv
open PySem PySem.Spec PyProof.Rows L2
section
variable {X : Cx} {F0 : Hp}
/-! ### len -/
def lenO (S : Store) : PV → Option Nat
  | .str z => if z.length ≤ sizeLine then some z.length else none
  | .tup xs => some xs.length
  | .lst xs => some xs.length
  | .scr xs => some xs.length
  | .dic xs => some xs.length
  | .ref a => match rdS S a with
    | some (.lst xs) => some xs.length
    | some (.dic xs) => some xs.length
    | _ => none
  | _ => none
def lenP : PRs := fun xs S Q => match xs with
  | [x] => match lenO S x with
    | some n => Q (.int n) S
    | none => False
  | _ => False
theorem cw_len : CallW X (.builtin "len") lenP := by
  intro pins s σ H vs us Q I rv ⟨F, S, xs, P, hd, rx, q, le⟩
  unfold lenP at q
  split at q
  · rename_i x
    split at q
    · rename_i n hn
      cases rx with
      | cons r1 r2 =>
        cases r2
        obtain ⟨u, rfl, ru⟩ := vals1 rv
        have fin := le _ S q F H _ (Same.refl F) hd (.int _)
        have seq : ∀ {a : Addr} {ws : List V}, (SqL X.K H a ws ∨ SqT X.K H a ws) → ws.length = n → RelV (.ref a) u → wpAny (model X.prog X.w) X.A (call (.builtin "len") [u]) (EP X pins σ Q) X.xe s := fun {a ws} h1 h2 h3 =>
          call_len_seq pins s σ H [.ref a] [u] Q I (.cons h3 .nil) ⟨a, ws, rfl, h1, by rw [h2]; exact fin⟩
        have dic : ∀ {a : Addr} {ws : List (Key × V)}, Rd H a (.dK ws) → ws.length = n → RelV (.ref a) u → wpAny (model X.prog X.w) X.A (call (.builtin "len") [u]) (EP X pins σ Q) X.xe s := fun {a ws} h1 h2 h3 => by
          cases h3
          exact d_len I h1 fun t s' I' => ⟨.int ws.length, H, I', ⟨t, rfl⟩, by rw [h2]; exact fin⟩
        cases r1 with
        | str z =>
          simp only [lenO] at hn
          split at hn
          · cases hn
            exact call_len_str pins s σ H _ _ Q I (.cons ru .nil) ⟨z, rfl, by assumption, fin⟩
          · cases hn
        | tup a b => cases hn; exact seq (.inr (hd.sub.sqT a)) b.len ru
        | lst a b => cases hn; exact seq (.inl (.inl (hd.sub.rd a))) b.len ru
        | scr a b => cases hn; exact seq (.inl (hd.sub.sqL a)) b.len ru
        | dic a b => cases hn; exact dic (hd.sub.rd a) b.len ru
        | ref a =>
          simp only [lenO] at hn
          split at hn
          · rename_i ys e
            cases hn
            obtain ⟨_, o, ho, ro⟩ := hd.rd e
            cases o <;> first | exact ro.elim | skip
            exact seq (.inl (.inl ho)) (Reps.len ro) ru
          · rename_i ys e
            cases hn
            obtain ⟨_, o, ho, ro⟩ := hd.rd e
            cases o <;> first | exact ro.elim | skip
            exact dic ho (RepK.len ro) ru
          · cases hn
        | _ => cases hn
    · exact q.elim
  · exact q.elim
/-! ### one argument -/
def absP : PRs := fun xs S Q => match xs with
  | [.int i] => Q (.int (if i < 0 then -i else i)) S
  | _ => False
theorem cw_abs : CallW X (.builtin "abs") absP := by
  intro pins s σ H vs us Q I rv ⟨F, S, xs, P, hd, rx, q, le⟩
  unfold absP at q
  split at q
  · cases rx with
    | cons r1 r2 =>
      cases r2
      cases r1
      exact call_abs pins s σ H _ us Q I rv ⟨_, rfl, le _ S q F H _ (Same.refl F) hd (.int _)⟩
  · exact q.elim
def min2P : PRs := fun xs S Q => match xs with
  | [.int i, .int j] => Q (.int (if j < i then j else i)) S
  | _ => False
def max2P : PRs := fun xs S Q => match xs with
  | [.int i, .int j] => Q (.int (if j > i then j else i)) S
  | _ => False
theorem cw_min2 (hc : X.calm = true) : CallW X (.builtin "min") min2P := by
  intro pins s σ H vs us Q I rv ⟨F, S, xs, P, hd, rx, q, le⟩
  unfold min2P at q
  split at q
  · cases rx with
    | cons r1 r2 =>
      cases r2 with
      | cons r2 r3 =>
        cases r3
        cases r1
        cases r2
        exact call_min2 hc pins s σ H _ us Q I rv ⟨_, _, rfl, le _ S q F H _ (Same.refl F) hd (.int _)⟩
  · exact q.elim
theorem cw_max2 (hc : X.calm = true) : CallW X (.builtin "max") max2P := by
  intro pins s σ H vs us Q I rv ⟨F, S, xs, P, hd, rx, q, le⟩
  unfold max2P at q
  split at q
  · cases rx with
    | cons r1 r2 =>
      cases r2 with
      | cons r2 r3 =>
        cases r3
        cases r1
        cases r2
        exact call_max2 hc pins s σ H _ us Q I rv ⟨_, _, rfl, le _ S q F H _ (Same.refl F) hd (.int _)⟩
  · exact q.elim
/-- the items of a list or a tuple -/
def seqO (S : Store) : PV → Option (List PV)
  | .tup xs => some xs
  | .scr xs => some xs
  | x => seqL S x
theorem seqO_sq {F H : Hp} {S : Store} {v : V} {x : PV} {xs : List PV} (hd : Hold X.K F S H) (r : Rep X.K F v x) (h : seqO S x = some xs) : ∃ a vs, v = .ref a ∧ (SqL X.K H a vs ∨ SqT X.K H a vs) ∧ Reps X.K F vs xs := by
  unfold seqO at h
  split at h
  · cases h
    cases r with
    | tup a b => exact ⟨_, _, rfl, .inr (hd.sub.sqT a), b⟩
  · cases h
    cases r with
    | scr a b => exact ⟨_, _, rfl, .inl (hd.sub.sqL a), b⟩
  · obtain ⟨a, vs, e, h1, h2⟩ := seqL_rd hd r h
    exact ⟨a, vs, e, .inl (.inl h1), h2⟩
def listP (mk : Bool) : PRs := fun xs S Q => match xs with
  | [x] => match seqO S x with
    | some ys => if mk then ∀ p, S p = none → Q (.ref p) (put S p (.raw (.lst ys))) else Q (.lst ys) S
    | none => False
  | _ => False
theorem cw_list {mk : Bool} : CallW X (.type "list") (listP mk) := by
  intro pins s σ H vs us Q I rv ⟨F, S, xs, P, hd, rx, q, le⟩
  unfold listP at q
  split at q
  · split at q
    · rename_i ys hy
      cases rx with
      | cons r1 r2 =>
        cases r2
        obtain ⟨a, ws, rfl, h1, h2⟩ := seqO_sq hd r1 hy
        refine call_list_of pins s σ H _ us Q I rv ⟨a, ws, rfl, h1, fun l nl => ?_⟩
        cases mk with
        | true => exact le _ _ (q l (hd.freeS nl)) F _ _ (Same.refl F) (hd.newS nl h2) (.ref l)
        | false =>
          obtain ⟨e2, hd2, r2⟩ := new_lst (X := X) hd nl h2
          exact le _ S q _ _ _ e2 hd2 r2
    · exact q.elim
  · exact q.elim
def tupleP : PRs := fun xs S Q => match xs with
  | [x] => match seqO S x with
    | some ys => Q (.tup ys) S
    | none => False
  | _ => False
theorem cw_tuple : CallW X (.type "tuple") tupleP := by
  intro pins s σ H vs us Q I rv ⟨F, S, xs, P, hd, rx, q, le⟩
  unfold tupleP at q
  split at q
  · rename_i x
    split at q
    · rename_i ys hy
      cases rx with
      | cons r1 r2 =>
        cases r2
        unfold seqO at hy
        split at hy
        · cases hy
          cases r1 with
          | tup a b => exact call_tuple_of pins s σ H _ us Q I rv ⟨_, _, rfl, .inr ⟨hd.sub.sqT a, le _ S q F H _ (Same.refl F) hd (.tup a b)⟩⟩
        · cases hy
          cases r1 with
          | scr a b =>
            refine call_tuple_of pins s σ H _ us Q I rv ⟨_, _, rfl, .inl ⟨hd.sub.sqL a, fun l nl => ?_⟩⟩
            obtain ⟨e2, hd2, r2⟩ := new_tup (X := X) hd nl b
            exact le _ S q _ _ _ e2 hd2 r2
        · obtain ⟨a, ws, rfl, h1, h2⟩ := seqL_rd hd r1 hy
          refine call_tuple_of pins s σ H _ us Q I rv ⟨a, ws, rfl, .inl ⟨.inl h1, fun l nl => ?_⟩⟩
          obtain ⟨e2, hd2, r2⟩ := new_tup (X := X) hd nl h2
          exact le _ S q _ _ _ e2 hd2 r2
    · exact q.elim
  · exact q.elim
/-! ### all, any, sum -/
def boolsOf : List PV → Option (List Bool)
  | [] => some []
  | .bl b :: r => match boolsOf r with
    | some bs => some (b :: bs)
    | none => none
  | _ :: _ => none
theorem boolsOf_eq : ∀ {xs : List PV} {bs : List Bool}, boolsOf xs = some bs → xs = bs.map PV.bl
  | [], _, h => by cases h; rfl
  | .bl b :: r, bs, h => by
    unfold boolsOf at h
    split at h
    · rename_i cs e
      cases h
      rw [boolsOf_eq e]
      rfl
    · cases h
  | .non :: _, _, h => nomatch h
  | .int _ :: _, _, h => nomatch h
  | .str _ :: _, _, h => nomatch h
  | .lst _ :: _, _, h => nomatch h
  | .tup _ :: _, _, h => nomatch h
  | .dic _ :: _, _, h => nomatch h
  | .ref _ :: _, _, h => nomatch h
  | .ty _ :: _, _, h => nomatch h
  | .scr _ :: _, _, h => nomatch h
theorem boolsOf_map : ∀ bs : List Bool, boolsOf (bs.map PV.bl) = some bs
  | [] => rfl
  | b :: r => by
    show (match boolsOf (r.map PV.bl) with | some bs => some (b :: bs) | none => none) = _
    rw [boolsOf_map r]
def intsOf : List PV → Option (List Int)
  | [] => some []
  | .int b :: r => match intsOf r with
    | some bs => some (b :: bs)
    | none => none
  | _ :: _ => none
theorem intsOf_eq : ∀ {xs : List PV} {bs : List Int}, intsOf xs = some bs → xs = bs.map PV.int
  | [], _, h => by cases h; rfl
  | .int b :: r, bs, h => by
    unfold intsOf at h
    split at h
    · rename_i cs e
      cases h
      rw [intsOf_eq e]
      rfl
    · cases h
  | .non :: _, _, h => nomatch h
  | .bl _ :: _, _, h => nomatch h
  | .str _ :: _, _, h => nomatch h
  | .lst _ :: _, _, h => nomatch h
  | .tup _ :: _, _, h => nomatch h
  | .dic _ :: _, _, h => nomatch h
  | .ref _ :: _, _, h => nomatch h
  | .ty _ :: _, _, h => nomatch h
  | .scr _ :: _, _, h => nomatch h
theorem intsOf_map : ∀ bs : List Int, intsOf (bs.map PV.int) = some bs
  | [] => rfl
  | b :: r => by
    show (match intsOf (r.map PV.int) with | some bs => some (b :: bs) | none => none) = _
    rw [intsOf_map r]
def strsOf : List PV → Option (List Str)
  | [] => some []
  | .str b :: r => match strsOf r with
    | some bs => some (b :: bs)
    | none => none
  | _ :: _ => none
theorem strsOf_eq : ∀ {xs : List PV} {bs : List Str}, strsOf xs = some bs → xs = bs.map PV.str
  | [], _, h => by cases h; rfl
  | .str b :: r, bs, h => by
    unfold strsOf at h
    split at h
    · rename_i cs e
      cases h
      rw [strsOf_eq e]
      rfl
    · cases h
  | .non :: _, _, h => nomatch h
  | .bl _ :: _, _, h => nomatch h
  | .int _ :: _, _, h => nomatch h
  | .lst _ :: _, _, h => nomatch h
  | .tup _ :: _, _, h => nomatch h
  | .dic _ :: _, _, h => nomatch h
  | .ref _ :: _, _, h => nomatch h
  | .ty _ :: _, _, h => nomatch h
  | .scr _ :: _, _, h => nomatch h
theorem strsOf_map : ∀ bs : List Str, strsOf (bs.map PV.str) = some bs
  | [] => rfl
  | b :: r => by
    show (match strsOf (r.map PV.str) with | some bs => some (b :: bs) | none => none) = _
    rw [strsOf_map r]
def allP (f : List Bool → Bool) : PRs := fun xs S Q => match xs with
  | [x] => match seqL S x with
    | some ys => match boolsOf ys with
      | some bs => Q (.bl (f bs)) S
      | none => False
    | none => False
  | _ => False
theorem cw_bools {id : String} {f : List Bool → Bool} (h : CallR X (.builtin id) (fun vs H Q => ∃ (a : Addr) (bs : List Bool), vs = [V.ref a] ∧ SqL X.K H a (bs.map V.bl) ∧ Q (.bl (f bs)) H)) : CallW X (.builtin id) (allP f) := by
  intro pins s σ H vs us Q I rv ⟨F, S, xs, P, hd, rx, q, le⟩
  unfold allP at q
  split at q
  · split at q
    · rename_i ys hy
      split at q
      · rename_i bs hb
        cases rx with
        | cons r1 r2 =>
          cases r2
          obtain ⟨a, ws, rfl, h1, h2⟩ := seqL_rd hd r1 hy
          have e := boolsOf_eq hb
          subst e
          have e2 := h2.bls
          subst e2
          exact h pins s σ H _ us Q I rv ⟨a, bs, rfl, .inl h1, le _ S q F H _ (Same.refl F) hd (.bl _)⟩
      · exact q.elim
    · exact q.elim
  · exact q.elim
theorem cw_all (hc : X.calm = true) : CallW X (.builtin "all") (allP fun bs => bs.all id) := cw_bools (cr_all hc)
theorem cw_any (hc : X.calm = true) : CallW X (.builtin "any") (allP fun bs => bs.any id) := cw_bools (cr_any hc)
def sumP : PRs := fun xs S Q => match xs with
  | [x] => match seqL S x with
    | some ys => match intsOf ys with
      | some bs => Q (.int bs.sum) S
      | none => False
    | none => False
  | _ => False
theorem cw_sum (hc : X.calm = true) : CallW X (.builtin "sum") sumP := by
  intro pins s σ H vs us Q I rv ⟨F, S, xs, P, hd, rx, q, le⟩
  unfold sumP at q
  split at q
  · split at q
    · rename_i ys hy
      split at q
      · rename_i bs hb
        cases rx with
        | cons r1 r2 =>
          cases r2
          obtain ⟨a, ws, rfl, h1, h2⟩ := seqL_rd hd r1 hy
          have e := intsOf_eq hb
          subst e
          have e2 := h2.ints
          subst e2
          exact cr_sum hc pins s σ H _ us Q I rv ⟨a, bs, rfl, .inl h1, le _ S q F H _ (Same.refl F) hd (.int _)⟩
      · exact q.elim
    · exact q.elim
  · exact q.elim
/-- int(x) of an int or a bool -/
def intCP : PRs := fun xs S Q => match xs with
  | [.int i] => Q (.int i) S
  | [.bl k] => Q (.int (if k then 1 else 0)) S
  | _ => False
theorem cw_int : CallW X (.type "int") intCP := by
  intro pins s σ H vs us Q I rv ⟨F, S, xs, P, hd, rx, q, le⟩
  unfold intCP at q
  split at q
  · cases rx with
    | cons r1 r2 =>
      cases r2
      cases r1
      exact call_int1 pins s σ H _ us Q I rv (.inl ⟨_, rfl, le _ S q F H _ (Same.refl F) hd (.int _)⟩)
  · cases rx with
    | cons r1 r2 =>
      cases r2
      cases r1
      exact call_int1 pins s σ H _ us Q I rv (.inr ⟨_, rfl, le _ S q F H _ (Same.refl F) hd (.int _)⟩)
  · exact q.elim
/-! ### isinstance with built-in types -/
def tyN (S : Store) : PV → Option String
  | .non => some "NoneType"
  | .bl _ => some "bool"
  | .int _ => some "int"
  | .str _ => some "str"
  | .lst _ => some "list"
  | .tup _ => some "tuple"
  | .dic _ => some "dict"
  | .ref a => match rdS S a with
    | some (.lst _) => some "list"
    | some (.dic _) => some "dict"
    | _ => none
  | .ty _ => none
  | .scr _ => none
def isB (a b : String) : Bool := a == b || (a == "bool" && b == "int")
def kinds : List String := ["NoneType", "bool", "int", "str", "list", "tuple", "dict"]
theorem kit_all : ∀ a ∈ kinds, ∀ b ∈ kinds, kitB a b = some (isB a b) := by decide +kernel
theorem tyN_mem {S : Store} {x : PV} {t : String} (h : tyN S x = some t) : t ∈ kinds := by
  cases x with
  | ref a =>
    simp only [tyN] at h
    split at h <;> cases h <;> decide
  | _ => cases h <;> decide
theorem tyN_rep {F H : Hp} {S : Store} {v : V} {x : PV} {t : String} (hd : Hold X.K F S H) (r : Rep X.K F v x) (h : tyN S x = some t) : TyX X.K H v (.type t) := by
  have ll : ∀ {a : Addr} {vs : List V}, Rd H a (.lst vs) → TyX X.K H (.ref a) (.type "list") := fun {a vs} h => by
    rcases h with h | ⟨o, h⟩
    · exact .base (.lst h)
    · exact .base (.frz h)
  have dd : ∀ {a : Addr} {vs : List (Key × V)}, Rd H a (.dK vs) → TyX X.K H (.ref a) (.type "dict") := fun {a vs} h => by
    rcases h with h | ⟨o, h⟩
    · exact .base (.dK h)
    · exact .fDict h
  cases r with
  | non => cases h; exact .base .non
  | bl b => cases h; exact .base (.bl b)
  | int b => cases h; exact .base (.int b)
  | str b => cases h; exact .base (.str b)
  | ty n => cases h
  | scr a b => cases h
  | lst a b => cases h; exact ll (hd.sub.rd a)
  | dic a b => cases h; exact dd (hd.sub.rd a)
  | tup a b =>
    cases h
    rcases hd.sub.tpAt a with z | ⟨o, its, n, z1, z2, _⟩
    · exact .base (.tup z)
    · exact .kTuple z1 z2
  | ref a =>
    simp only [tyN] at h
    split at h
    · cases h
      obtain ⟨_, o, ho, ro⟩ := hd.rd (by assumption)
      cases o <;> first | exact ro.elim | exact ll ho
    · cases h
      obtain ⟨_, o, ho, ro⟩ := hd.rd (by assumption)
      cases o <;> first | exact ro.elim | exact dd ho
    · cases h
def isiP (n : String) : PR1 := fun x S Q => match tyN S x with
  | some t => Q (.bl (isB t n)) S
  | none => False
def tysOf : List PV → Option (List String)
  | [] => some []
  | .ty b :: r => match tysOf r with
    | some bs => some (b :: bs)
    | none => none
  | _ :: _ => none
def isinP : PRs := fun xs S Q => match xs with
  | [x, .ty n] => if n ∈ kinds then match tyN S x with
    | some t => Q (.bl (isB t n)) S
    | none => False
    else False
  | [x, .tup [.ty n, .ty m]] => if n ∈ kinds ∧ m ∈ kinds then match tyN S x with
    | some t => Q (.bl (isB t n || isB t m)) S
    | none => False
    else False
  | _ => False
theorem cw_isi : CallW X (.builtin "isinstance") isinP := by
  intro pins s σ H vs us Q I rv ⟨F, S, xs, P, hd, rx, q, le⟩
  unfold isinP at q
  split at q
  · split at q
    · rename_i hn
      split at q
      · rename_i t ht
        cases rx with
        | cons r1 r2 =>
          cases r2 with
          | cons r2 r3 =>
            cases r3
            cases r2
            exact call_isi pins s σ H _ us Q I rv ⟨_, _, _, _, _, rfl, .ty _, tyN_rep hd r1 ht, kit_ty (kit_all _ (tyN_mem ht) _ hn), le _ S q F H _ (Same.refl F) hd (.bl _)⟩
      · exact q.elim
    · exact q.elim
  · rename_i n m
    split at q
    · rename_i hn
      split at q
      · rename_i t ht
        cases rx with
        | cons r1 r2 =>
          cases r2 with
          | cons r2 r3 =>
            cases r3
            cases r2 with
            | tup a b =>
              cases b with
              | cons b1 b2 =>
                cases b2 with
                | cons b2 b3 =>
                  cases b3
                  cases b1
                  cases b2
                  have kk : PySem.W.kitAny X.K (.type t) [.type n, .type m] = some (isB t n || isB t m) := by
                    refine kitAny_cons (kit_ty (kit_all _ (tyN_mem ht) _ hn.1)) (fun z1 => kitAny_cons (kit_ty (kit_all _ (tyN_mem ht) _ hn.2)) (fun z2 => ?_) fun z2 => ?_) fun z1 => ?_
                    · rw [z1, z2]; rfl
                    · rw [z2, Bool.or_true]
                    · rw [z1]; rfl
                  have fin := le _ S q F H _ (Same.refl F) hd (.bl _)
                  rcases hd.sub.tpAt a with z | ⟨o, its, nn, z1, z2, z3, z4, z5⟩
                  · exact call_isiT pins s σ H _ us Q I rv ⟨_, _, _, _, _, _, rfl, z, .cons (.ty _) (.cons (.ty _) .nil), tyN_rep hd r1 ht, kk, fin⟩
                  · obtain ⟨oc, od, dt, sl⟩ := o
                    simp only at z2 z3
                    subst z2 z3
                    obtain ⟨w1, w2, e, ra, rb⟩ := vals2 z5
                    cases ra
                    cases rb
                    have e2 : its = [Value.type n, Value.type m].toArray := by rw [← e]
                    subst e2
                    exact call_isiK pins s σ H _ us Q I rv ⟨_, _, _, _, _, _, _, _, rfl, z1, tyN_rep hd r1 ht, kk, fin⟩
      · exact q.elim
    · exact q.elim
  · exact q.elim
/-! ### a class's constant -/
theorem we_ccon {x f : Str} {C : Addr} {mc u : Value} {v : V} {y : PV} {p pos : Pos} (hm : X.mg x = some (.ref C)) (r : ClX.CRead X.K C mc) (c : ClX.CVal X.K C mc f v u) (ry : ∀ F, Rep X.K F v y) (hg : Gl X x := by rfl) (hd : (x == ("__debug__" : Str)) = false := by decide)
    (hb : attributeBase (.Name x p) f X.env (eval (.Name x p) X.env) = eval (.Name x p) X.env := by rfl) : WE X F0 (.Attribute (.Name x p) f pos) (wC y) :=
  ⟨peImp (ClX.pe_cval (pe_glob hg hm (v := .ref C) rfl hd) hb) fun σ H Q ⟨F, ρ, S, P, at_, h, le⟩ => ⟨C, mc, v, u, rfl, r, c, le y S h F H v (Same.refl F) at_.hold (ry F)⟩⟩
end
end L2.Pv

/-! P9: places, slices, methods, dicts. -/
namespace L2.Pv
open PySem PySem.Spec PyProof.Rows L2
section
variable {X : Cx} {F0 : Hp} {a b e o : Expr} {es : List Expr} {ta tb te to : PTE} {t : PTA} {n : Nat} {pos cpos apos : Pos}
/-! ### x[i] -/
theorem reps_at {K : PySem.W.Frag} {F : Hp} {vs : List V} {xs : List PV} {i : Int} {x : PV} (r : Reps K F vs xs) (h : atI xs i = some x) : ∃ v, atI vs i = some v ∧ Rep K F v x := by
  unfold atI at h ⊢
  rw [r.len]
  cases q : ixN xs.length i with
  | none => rw [q] at h; cases h
  | some j =>
    rw [q] at h
    exact r.get h
def ixP : PR2 := fun x y S Q => match x, y with
  | .str z, .int i => z.length ≤ sizeLine ∧ match atI z.cps.toList i with
    | some c => Q (.str ⟨#[c]⟩) S
    | none => False
  | x, .int i => match seqO S x with
    | some xs => match atI xs i with
      | some y => Q y S
      | none => False
    | none => False
  | _, _ => False
theorem we_ix (ha : WE X F0 a ta) (hb : WE X F0 b tb) (hs : PlainIx b := by intro _ _; rfl) : WE X F0 (.Subscript a b pos) (wOp ixP ta tb) :=
  ⟨peImp (pe_ix (r := lft2 X.K ixP) (fun value slice pins s σ H v u vv uu Q I rv ru ⟨F, S, x, y, P, hd, rx, ry, q, le⟩ hsub => by
    unfold ixP at q
    split at q
    · cases rx
      cases ry
      obtain ⟨q1, q2⟩ := q
      split at q2
      · rename_i c hc
        exact ix_str value slice pins s σ H _ _ _ _ Q I rv ru ⟨_, _, c, rfl, rfl, q1, hc, le _ S q2 F H _ (Same.refl F) hd (.str _)⟩ hsub
      · exact q2.elim
    · cases ry
      split at q
      · rename_i xs hx
        split at q
        · rename_i z hz
          obtain ⟨a, ws, rfl, h1, h2⟩ := seqO_sq hd rx hx
          obtain ⟨w, h3, h4⟩ := reps_at h2 hz
          have fin := le _ S q F H _ (Same.refl F) hd h4
          rcases h1 with h1 | h1
          · exact ix_list value slice pins s σ H _ _ _ _ Q I rv ru ⟨a, ws, _, w, rfl, rfl, h1, h3, fin⟩ hsub
          · exact ix_tup value slice pins s σ H _ _ _ _ Q I rv ru ⟨a, ws, _, w, rfl, rfl, h1, h3, fin⟩ hsub
        · exact q.elim
      · exact q.elim
    · exact q.elim) ha.pe hb.pe hs) fun _ _ _ h => two h⟩
/-- d[k] -/
def dgetP : PR2 := fun x y S Q => match seqK S x, keyOf y with
  | some kvs, some k => match dget k kvs with
    | some z => Q z S
    | none => False
  | _, _ => False
theorem dget_of {F H : Hp} {S : Store} {v w : V} {x y : PV} {kvs : List (PV × PV)} {k : Key} (hd : Hold X.K F S H) (rx : Rep X.K F v x) (ry : Rep X.K F w y) (h1 : seqK S x = some kvs) (h2 : keyOf y = some k) :
    ∃ a vs, v = .ref a ∧ w = kV k ∧ Rd H a (.dK vs) ∧ RepK X.K F vs kvs ∧ DGet H a w (valV vs k) := by
  obtain ⟨a, vs, e, h3, h4⟩ := seqK_rd hd rx h1
  have e2 := keyOf_rep ry h2
  exact ⟨a, vs, e, e2, h3, h4, .inl ⟨vs, k, h3, e2, rfl⟩⟩
theorem we_dget (hu : X.A.units + 1 < cLine) (ha : WE X F0 a ta) (hb : WE X F0 b tb) (hs : NoSl b := by intro _ _; rfl) : WE X F0 (.Subscript a b pos) (wOp dgetP ta tb) :=
  ⟨peImp (pe_dget hu ha.pe hb.pe hs) fun σ H Q ⟨F, ρ, S, P, at_, h, le⟩ => ⟨F, ρ, S, _, at_, h, fun x S1 h1 F1 H1 v e1 hd1 r1 => ⟨F1, ρ, S1, _, at_.next e1 hd1, h1, fun y S2 h2 F2 H2 w e2 hd2 r2 => by
    unfold dgetP at h2
    split at h2
    · rename_i kvs k q1 q2
      split at h2
      · rename_i z hz
        obtain ⟨a, vs, e3, e4, h3, h4, g⟩ := dget_of hd2 (r1.mono e2) r2 q1 q2
        have := h4.get k
        rw [hz] at this
        obtain ⟨u, h5, h6⟩ := this
        rw [h5] at g
        exact ⟨a, u, e3, g, le _ S2 h2 F2 H2 u (e1.trans e2) hd2 h6⟩
      · exact h2.elim
    · exact h2.elim⟩⟩⟩
/-! ### slices -/
abbrev PTO := PEnv → Store → (Option Int → Store → Prop) → Prop
def LeO (K : PySem.W.Frag) (F : Hp) (P : Option Int → Store → Prop) (Q : Option Int → Hp → Prop) : Prop := ∀ x S, P x S → ∀ F' H, Same F F' → Hold K F' S H → Q x H
def lftO (K : PySem.W.Frag) (F0 : Hp) (t : PTO) : TO := fun σ H Q => ∃ F ρ S P, At K F0 F ρ S σ H ∧ t ρ S P ∧ LeO K F P Q
structure WO (X : Cx) (F0 : Hp) (e : Option Expr) (t : PTO) : Prop where
  po : PO X e (lftO X.K F0 t)
theorem poImp {X : Cx} {e : Option Expr} {t t' : TO} (h : PO X e t) (i : ∀ σ H Q, t' σ H Q → t σ H Q) : PO X e t' := ⟨fun pins s σ H Q I q => h.run pins s σ H Q I (i _ _ _ q)⟩
def wNoPart : PTO := fun _ S Q => Q none S
def wPart (t : PTE) : PTO := fun ρ S Q => t ρ S fun x S1 => match x with
  | .int i => Q (some i) S1
  | _ => False
theorem wo_none : WO X F0 none wNoPart := ⟨poImp po_none fun σ H Q ⟨F, ρ, S, P, at_, h, le⟩ => le none S h F H (Same.refl F) at_.hold⟩
theorem wo_some (h : WE X F0 e te) : WO X F0 (some e) (wPart te) :=
  ⟨poImp (po_some h.pe) fun σ H Q ⟨F, ρ, S, P, at_, h, le⟩ => ⟨F, ρ, S, _, at_, h, fun x S1 h1 F1 H1 v e1 hd1 r1 => by
    split at h1
    · cases r1
      exact ⟨_, rfl, le _ S1 h1 F1 H1 e1 hd1⟩
    · exact h1.elim⟩⟩
def cutP (xs : List PV) (lo hi : Option Int) : List PV := (xs.drop (HT.sIx xs.length 0 lo)).take (HT.sIx xs.length xs.length hi - HT.sIx xs.length 0 lo)
theorem cut_reps {K : PySem.W.Frag} {F : Hp} {vs : List V} {xs : List PV} {lo hi : Option Int} (r : Reps K F vs xs) : Reps K F (cutV vs lo hi) (cutP xs lo hi) := by
  unfold cutV cutP
  rw [r.len]
  exact (r.drop _).take _
def slcP (x : PV) (lo hi : Option Int) (S : Store) (Q : PQ) : Prop := match x with
  | .str z => z.length ≤ sizeLine ∧ Q (.str (Txt.slice z lo hi)) S
  | .tup xs => Q (.tup (cutP xs lo hi)) S
  | x => match seqL S x with
    | some xs => Q (.lst (cutP xs lo hi)) S
    | none => False
def slcMP (x : PV) (lo hi : Option Int) (S : Store) (Q : PQ) : Prop := match seqL S x with
    | some xs => ∀ p, S p = none → Q (.ref p) (put S p (.raw (.lst (cutP xs lo hi))))
    | none => False
abbrev PRS := PV → Option Int → Option Int → Store → PQ → Prop
def lftSl (K : PySem.W.Frag) (r : PRS) : V → Option Int → Option Int → Hp → VK → Prop := fun v lo hi H Q => ∃ F S x P, Hold K F S H ∧ Rep K F v x ∧ r x lo hi S P ∧ Le K F P Q
def wSl (r : PRS) (te : PTE) (tl th : PTO) : PTE := fun ρ S Q => te ρ S fun x S1 => tl ρ S1 fun l S2 => th ρ S2 fun u S3 => r x l u S3 Q
theorem cut_whole {xs : List PV} {lo hi : Option Int} (h : HT.sIx xs.length 0 lo = 0 ∧ HT.sIx xs.length xs.length hi = xs.length) : cutP xs lo hi = xs := by
  unfold cutP
  rw [h.1, h.2]
  simp
theorem sw_slc : SlR X (lftSl X.K slcP) := by
  intro pins s σ H v vv vl vu lo hi sl Q I rv hs pl pu ⟨F, S, x, P, hd, rx, q, le⟩
  have lists : ∀ {xs : List PV}, seqL S x = some xs → P (.lst (cutP xs lo hi)) S → ∃ T id, typeLookup (.type T) "__getitem__" = pure (some (.builtin id)) ∧ s.TypeIs vv T ∧ wpAny (model X.prog X.w) X.A (getItem vv (.ref sl)) (EP X pins σ Q) X.xe s := fun {xs} h1 q1 => by
    obtain ⟨a, ws, e, h3, h4⟩ := seqL_rd hd rx h1
    refine sl_list pins s σ H v vv vl vu lo hi sl Q I rv hs pl pu ⟨a, ws, e, .inl h3, fun p np => ?_⟩
    obtain ⟨e2, hd2, r2⟩ := new_lst (X := X) hd np (cut_reps (lo := lo) (hi := hi) h4)
    exact le _ S q1 _ _ _ e2 hd2 r2
  unfold slcP at q
  split at q
  · cases rx
    exact C8.sl_txt pins s σ H _ vv vl vu lo hi sl Q I rv hs pl pu ⟨_, rfl, q.1, le _ S q.2 F H _ (Same.refl F) hd (.str _)⟩
  · cases rx with
    | tup a b =>
      refine sl_tupA pins s σ H _ vv vl vu lo hi sl Q I rv hs pl pu ⟨_, _, rfl, hd.sub.sqT a, fun z => ?_, fun z p np => ?_⟩
      · rw [b.len] at z
        rw [cut_whole z] at q
        exact le _ S q F H _ (Same.refl F) hd (.tup a b)
      · obtain ⟨e2, hd2, r2⟩ := new_tup (X := X) hd np (cut_reps (lo := lo) (hi := hi) b)
        exact le _ S q _ _ _ e2 hd2 r2
  · split at q
    · exact lists (by assumption) q
    · exact q.elim
theorem sw_slcM : SlR X (lftSl X.K slcMP) := by
  intro pins s σ H v vv vl vu lo hi sl Q I rv hs pl pu ⟨F, S, x, P, hd, rx, q, le⟩
  unfold slcMP at q
  split at q
  · rename_i xs h1
    obtain ⟨a, ws, e, h3, h4⟩ := seqL_rd hd rx h1
    exact sl_list pins s σ H v vv vl vu lo hi sl Q I rv hs pl pu ⟨a, ws, e, .inl h3, fun p np => le _ _ (q p (hd.freeS np)) F _ _ (Same.refl F) (hd.newS np (cut_reps h4)) (.ref p)⟩
  · exact q.elim
theorem we_sl {r : PRS} {lo hi : Option Expr} {tl th : PTO} {p2 : Pos} (hr : SlR X (lftSl X.K r)) (he : WE X F0 e te) (hl : WO X F0 lo tl) (hh : WO X F0 hi th) : WE X F0 (.Subscript e (.Slice lo hi none p2) pos) (wSl r te tl th) :=
  ⟨peImp (pe_slice hr he.pe hl.po hh.po) fun σ H Q ⟨F, ρ, S, P, at_, h, le⟩ => ⟨F, ρ, S, _, at_, h, fun x S1 h1 F1 H1 v e1 hd1 r1 => ⟨F1, ρ, S1, _, at_.next e1 hd1, h1, fun l S2 h2 F2 H2 e2 hd2 => ⟨F2, ρ, S2, _, at_.next (e1.trans e2) hd2, h2, fun u S3 h3 F3 H3 e3 hd3 =>
    ⟨F3, S3, x, P, hd3, r1.mono (e2.trans e3), h3, le.mono ((e1.trans e2).trans e3)⟩⟩⟩⟩⟩
/-- xs[::-1] -/
def wRevL (te : PTE) : PTE := fun ρ S Q => te ρ S fun x S1 => match seqL S1 x with
  | some xs => Q (.lst xs.reverse) S1
  | none => False
theorem we_revL {k : Nat} {p1 p2 p3 : Pos} (he : WE X F0 e te) : WE X F0 (.Subscript e (.Slice none none (some (.UnaryOp .USub (.Constant (.int 1) k p1) p2)) p3) pos) (wRevL te) :=
  ⟨peImp (pe_revL he.pe) fun σ H Q ⟨F, ρ, S, P, at_, h, le⟩ => ⟨F, ρ, S, _, at_, h, fun x S1 h1 F1 H1 v e1 hd1 r1 => by
    split at h1
    · rename_i xs hx
      obtain ⟨a, ws, e3, h3, h4⟩ := seqL_rd hd1 r1 hx
      refine ⟨a, ws, e3, .inl h3, fun p np => ?_⟩
      obtain ⟨e2, hd2, r2⟩ := new_lst (X := X) hd1 np h4.rev
      exact le _ S1 h1 _ _ _ (e1.trans e2) hd2 r2
    · exact h1.elim⟩⟩
/-! ### methods of built-in types -/
def tyM (S : Store) (T : String) : PV → Bool
  | .str _ => T == "str"
  | .int _ => T == "int"
  | .lst _ => T == "list"
  | .dic _ => T == "dict"
  | .ref a => match rdS S a with
    | some (.lst _) => T == "list"
    | some (.dic _) => T == "dict"
    | _ => false
  | _ => false
theorem tyM_ok {F H : Hp} {S : Store} {T : String} {v : V} {x : PV} (hd : Hold X.K F S H) (r : Rep X.K F v x) (h : tyM S T x = true) (nf : T = "dict" → ∀ a vs, v = .ref a → Rd H a (.dK vs) → H a = some (.dK vs)) : tyV X.K T v H := by
  cases r with
  | str z => exact of_decide_eq_true (p := T = "str") h
  | int z => exact of_decide_eq_true (p := T = "int") h
  | lst a b => exact .inl ⟨of_decide_eq_true h, _, .inl (hd.sub.rd a)⟩
  | dic a b =>
    have e : T = "dict" := of_decide_eq_true h
    exact .inr (.inr (.inl ⟨e, .inl ⟨_, nf e _ _ rfl (hd.sub.rd a)⟩⟩))
  | ref a =>
    simp only [tyM] at h
    split at h
    · obtain ⟨_, o, ho, ro⟩ := hd.rd (by assumption)
      cases o <;> first | exact ro.elim | skip
      exact .inl ⟨of_decide_eq_true h, _, .inl ho⟩
    · obtain ⟨_, o, ho, ro⟩ := hd.rd (by assumption)
      cases o <;> first | exact ro.elim | skip
      have e : T = "dict" := of_decide_eq_true h
      exact .inr (.inr (.inl ⟨e, .inl ⟨_, nf e _ _ rfl ho⟩⟩))
    · cases h
  | _ => cases h
def MtW (X : Cx) (id : String) (r : PRm) : Prop := MtR X id (lftM X.K r)
/-- x.m(..) of a list or a text -/
def wBm (T : String) (r : PRm) (to : PTE) (t : PTA) : PTE := fun ρ S Q => to ρ S fun x S1 => tyM S1 T x = true ∧ t ρ S1 fun xs S2 => r x xs S2 Q
variable {T id : String} {name : Str} {r : PRm}
theorem we_bm (pa : PlainAttrs T) (slot : Slot T name id) (hty : typeOf (.builtin id) = pure (.type "method_descriptor")) (hT : T ≠ "dict") (hm : MtW X id r) (ho : WE X F0 o to) (ha : WA X F0 n (e :: es) t)
    (hbase : attributeBase o name X.env (eval o X.env) = eval o X.env := by rfl)
    (hfew : ((backTo cpos (starEach (e :: es) X.env)).all (fun x => !x.1) && (backToKw cpos (keywordEach [] X.env)).all (fun x => x.1.isSome)
      && decide ((e :: es).length + ([] : List Keyword).length + (if ([] : List Keyword).isEmpty then 0 else 1) < 30)) = true := by rfl)
    (hline : (apos.endLine == cpos.line) = true := by rfl) (hs : starEach (e :: es) X.env = (false, eval e X.env) :: starEach es X.env := by rfl) (hplain : (backTo cpos (starEach es X.env)).any (·.1) = false := by rfl) :
    WE X F0 (.Call (.Attribute o name apos) (e :: es) [] cpos) (wBm T r to t) :=
  ⟨peImp (pe_bm pa slot hty hm ho.pe ha.pa hbase hfew hline hs hplain) fun σ H Q ⟨F, ρ, S, P, at_, h, le⟩ => ⟨F, ρ, S, _, at_, h, fun x S1 ⟨h1, h2⟩ F1 H1 v e1 hd1 r1 => ⟨tyM_ok hd1 r1 h1 (fun z => absurd z hT), F1, ρ, S1, _, at_.next e1 hd1, h2, fun xs S2 h3 _ F2 H2 vs e2 hd2 r2 => ⟨F2, S2, x, xs, P, hd2, r1.mono e2, r2, h3, le.mono (e1.trans e2)⟩⟩⟩⟩
theorem we_bm0 (pa : PlainAttrs T) (slot : Slot T name id) (hty : typeOf (.builtin id) = pure (.type "method_descriptor")) (hT : T ≠ "dict") (hm : MtW X id r) (ho : WE X F0 o to)
    (hbase : attributeBase o name X.env (eval o X.env) = eval o X.env := by rfl) (hline : (apos.endLine == cpos.line) = true := by rfl) : WE X F0 (.Call (.Attribute o name apos) [] [] cpos) (wBm T r to wNil) :=
  ⟨peImp (pe_bm0 pa slot hty hm ho.pe hbase hline) fun σ H Q ⟨F, ρ, S, P, at_, h, le⟩ => ⟨F, ρ, S, _, at_, h, fun x S1 ⟨h1, h2⟩ F1 H1 v e1 hd1 r1 => ⟨tyM_ok hd1 r1 h1 (fun z => absurd z hT), F1, S1, x, [], P, hd1, r1, .nil, h2, le.mono e1⟩⟩⟩
def appendP : PRm := fun x xs S Q => match x, xs with
  | .ref a, [y] => match S a with
    | some (.raw (.lst ys)) => ys.length < sizeLine ∧ Q .non (put S a (.raw (.lst (ys ++ [y]))))
    | _ => False
  | _, _ => False
theorem raw_lst {F H : Hp} {S : Store} {a : Addr} {ys : List PV} (hd : Hold X.K F S H) (h : S a = some (.raw (.lst ys))) : ∃ vs, H a = some (.lst vs) ∧ Reps X.K F vs ys := by
  obtain ⟨_, o, ho, ro⟩ := hd.raw h
  cases o <;> first | exact ro.elim | exact ⟨_, ho, ro⟩
theorem mw_append : MtW X "list.append" appendP := by
  intro pins s σ H v vs vv us Q I rv rs ⟨F, S, x, xs, P, hd, rx, rxs, q, le⟩
  unfold appendP at q
  split at q
  · cases rx
    split at q
    · rename_i ys hS
      obtain ⟨ws, hH, rw⟩ := raw_lst hd hS
      cases rxs with
      | cons r1 r2 =>
        cases r2
        exact mt_append pins s σ H _ _ vv us Q I rv rs ⟨_, ws, _, rfl, rfl, hH, by rw [rw.len]; exact q.1, le _ _ q.2 F _ _ (Same.refl F) (hd.write hS (r' := .lst (ys ++ [_])) (rw.app (.cons r1 .nil))) .non⟩
    · exact q.elim
  · exact q.elim
/-- xs.pop(i), i not negative -/
def popAtP : PRm := fun x xs S Q => match x, xs with
  | .ref a, [.int i] => match S a with
    | some (.raw (.lst ys)) => (0 ≤ i ∧ i < ys.length ∧ i < 2 ^ 63) ∧ match ys[i.toNat]? with
      | some y => Q y (put S a (.raw (.lst (ys.eraseIdx i.toNat))))
      | none => False
    | _ => False
  | _, _ => False
theorem Reps.erase {K : PySem.W.Frag} {F : Hp} : ∀ (i : Nat) {vs : List V} {xs : List PV}, Reps K F vs xs → Reps K F (vs.eraseIdx i) (xs.eraseIdx i)
  | _, _, _, .nil => .nil
  | 0, _, _, .cons _ r => r
  | i + 1, _, _, .cons h r => .cons h (Reps.erase i r)
theorem seqIx {i : Int} {n : Nat} (h1 : 0 ≤ i) (h2 : i < n) : seqIndex? i n = some i.toNat := by
  have e : ixN n i = some i.toNat := by
    unfold ixN
    rw [if_pos h1, if_pos h2]
  exact (ixN_seq e).1
theorem mw_popAt : MtW X "list.pop" popAtP := by
  intro pins s σ H v vs vv us Q I rv rs ⟨F, S, x, xs, P, hd, rx, rxs, q, le⟩
  unfold popAtP at q
  split at q
  · cases rx
    split at q
    · rename_i ys hS
      obtain ⟨ws, hH, rw⟩ := raw_lst hd hS
      obtain ⟨⟨q1, q2, q3⟩, q⟩ := q
      split at q
      · rename_i y hy
        cases rxs with
        | cons r1 r2 =>
          cases r2
          cases r1
          obtain ⟨w, h1, h2⟩ := rw.get hy
          exact mt_popAt pins s σ H _ _ vv us Q I rv rs ⟨_, ws, _, _, w, rfl, rfl, hH, by omega, q3, seqIx q1 (by rw [rw.len]; exact q2), h1, le _ _ q F _ _ (Same.refl F) (hd.write hS (r' := .lst _) (rw.erase _)) h2⟩
      · exact q.elim
    · exact q.elim
  · exact q.elim
/-- sep.join(list) -/
def joinP : PRm := fun x xs S Q => match x, xs with
  | .str z, [y] => match seqO S y with
    | some ys => match strsOf ys with
      | some bs => (bs.map (·.length)).sum + bs.length * z.length ≤ 16777216 ∧ Q (.str (Txt.join z bs)) S
      | none => False
    | none => False
  | _, _ => False
theorem mw_join : MtW X "str.join" joinP := by
  intro pins s σ H v vs vv us Q I rv rs ⟨F, S, x, xs, P, hd, rx, rxs, q, le⟩
  unfold joinP at q
  split at q
  · cases rx
    split at q
    · rename_i ys hy
      split at q
      · rename_i bs hb
        cases rxs with
        | cons r1 r2 =>
          cases r2
          obtain ⟨a, ws, rfl, h1, h2⟩ := seqO_sq hd r1 hy
          have e := strsOf_eq hb
          subst e
          have e2 := h2.strs
          subst e2
          exact mt_join pins s σ H _ _ vv us Q I rv rs ⟨_, a, bs, rfl, rfl, h1, q.1, le _ S q.2 F H _ (Same.refl F) hd (.str _)⟩
      · exact q.elim
    · exact q.elim
  · exact q.elim
/-! ### dicts -/
theorem we_dnew : WE X F0 (.Dict [] [] pos) (wC (.dic [])) :=
  ⟨peImp pe_dnewK fun σ H Q ⟨F, ρ, S, P, at_, h, le⟩ => fun p np => le (.dic []) S h _ _ _ (same_upd (at_.hold.freeF np)) (at_.hold.newF np) (.dic (.inl upd_same) .nil)⟩
def wDnewM : PTE := fun _ S Q => ∀ p, S p = none → Q (.ref p) (put S p (.raw (.dic [])))
theorem we_dnewM : WE X F0 (.Dict [] [] pos) wDnewM :=
  ⟨peImp pe_dnewK fun σ H Q ⟨F, ρ, S, P, at_, h, le⟩ => fun p np => le _ _ (h p (at_.hold.freeS np)) F _ _ (Same.refl F) (at_.hold.newS (r := .dic []) np .nil) (.ref p)⟩
/-- the pairs of a display -/
def wPairs : List (PTE × PTE) → PEnv → Store → (List (PV × PV) → Store → Prop) → Prop
  | [], _, S, Q => Q [] S
  | (tk, tv) :: r, ρ, S, Q => tk ρ S fun x S1 => tv ρ S1 fun y S2 => wPairs r ρ S2 fun ps S3 => Q ((x, y) :: ps) S3
inductive WPs (X : Cx) (F0 : Hp) (pos : Pos) : List (Option Expr) → List Expr → List (PTE × PTE) → Prop
  | nil : WPs X F0 pos [] [] []
  | cons {k v : Expr} {ks : List (Option Expr)} {vs : List Expr} {tk tv : PTE} {r : List (PTE × PTE)} (hk : WE X F0 k tk) (hv : WE X F0 v tv) (hr : WPs X F0 pos ks vs r) : WPs X F0 pos (some k :: ks) (v :: vs) ((tk, tv) :: r)
def RepPs (K : PySem.W.Frag) (F : Hp) : List (V × V) → List (PV × PV) → Prop := Paired fun p q => Rep K F p.1 q.1 ∧ Rep K F p.2 q.2
def lftPs (K : PySem.W.Frag) (F0 : Hp) (trs : List (PTE × PTE)) : List (TE × TE) := trs.map fun p => (lft K F0 p.1, lft K F0 p.2)
theorem WPs.pps {keys : List (Option Expr)} {values : List Expr} {trs : List (PTE × PTE)} (h : WPs X F0 pos keys values trs) : PPs X pos keys values (lftPs X.K F0 trs) := by
  induction h with
  | nil => exact pps_nil
  | cons hk hv _ ih => exact pps_cons hk.pe hv.pe ih
theorem pairs_lift : ∀ {trs : List (PTE × PTE)} {F : Hp} {ρ : PEnv} {S : Store} {σ : L2.St} {H : Hp} {P : List (PV × PV) → Store → Prop} {Q : List (V × V) → Hp → Prop}, At X.K F0 F ρ S σ H → wPairs trs ρ S P →
    (∀ ps S', P ps S' → ps.length = trs.length → ∀ F' H' vs, Same F F' → Hold X.K F' S' H' → RepPs X.K F' vs ps → Q vs H') → tPairs (lftPs X.K F0 trs) σ H Q
  | [], F, ρ, S, σ, H, P, Q, at_, h, le => le [] S h rfl F H [] (Same.refl F) at_.hold .nil
  | (tk, tv) :: r, F, ρ, S, σ, H, P, Q, at_, h, le => ⟨F, ρ, S, _, at_, h, fun x S1 h1 F1 H1 v e1 hd1 r1 => ⟨F1, ρ, S1, _, at_.next e1 hd1, h1, fun y S2 h2 F2 H2 w e2 hd2 r2 =>
    pairs_lift (at_.next (e1.trans e2) hd2) h2 fun ps S3 h3 hl F3 H3 vs e3 hd3 r3 => le _ S3 h3 (by rw [List.length_cons, List.length_cons, hl]) F3 H3 _ ((e1.trans e2).trans e3) hd3 (.cons ⟨r1.mono (e2.trans e3), r2.mono e3⟩ r3)⟩⟩
def keysOf : List (PV × PV) → Option (List Key)
  | [] => some []
  | (x, _) :: r => match keyOf x, keysOf r with
    | some k, some ks => some (k :: ks)
    | _, _ => none
/-- {k: v, ..} that may be changed; its keys differ -/
def wDispM (trs : List (PTE × PTE)) : PTE := fun ρ S Q => ∀ p, S p = none → wPairs trs ρ (put S p (.raw (.dic []))) fun ps S2 => S2 p = some (.raw (.dic [])) ∧ (match keysOf ps with | some ks => ks.Nodup | none => False) ∧ Q (.ref p) (put S2 p (.raw (.dic ps)))
theorem merge_new : ∀ {kvs acc : List (Key × V)}, (acc.map (·.1) ++ kvs.map (·.1)).Nodup → mergeK acc kvs = acc ++ kvs
  | [], acc, _ => by unfold mergeK; rw [List.append_nil]; rfl
  | (k, v) :: r, acc, h => by
    have hn : valV acc k = none := by
      cases q : valV acc k with
      | none => rfl
      | some z =>
        exfalso
        have e := valV_any k acc
        rw [q] at e
        obtain ⟨p, hp, hk⟩ := List.any_eq_true.mp e
        have hk := of_decide_eq_true hk
        rw [List.nodup_append] at h
        exact h.2.2 _ (List.mem_map.mpr ⟨p, hp, rfl⟩) k (by rw [List.map_cons]; exact List.mem_cons_self) hk
    show mergeK (putK acc k v) r = _
    rw [putK_new v hn, merge_new (kvs := r) (by rw [List.map_append]; simpa using h)]
    simp
theorem keys_rep {K : PySem.W.Frag} {F : Hp} : ∀ {vs : List (V × V)} {ps : List (PV × PV)} {ks : List Key}, RepPs K F vs ps → keysOf ps = some ks → ∃ kvs : List (Key × V), vs = kvs.map (fun kv => (kV kv.1, kv.2)) ∧ kvs.map (·.1) = ks ∧ RepK K F kvs ps
  | _, _, _, .nil, h => by cases h; exact ⟨[], rfl, rfl, .nil⟩
  | _, _, _, .cons (a := p) (b := q) h r, e => by
    obtain ⟨x, y⟩ := q
    obtain ⟨v, w⟩ := p
    unfold keysOf at e
    split at e
    · rename_i k ks e1 e2
      cases e
      obtain ⟨kvs, h1, h2, h3⟩ := keys_rep r e2
      have e3 := keyOf_rep h.1 e1
      simp only at e3
      subst e3
      have e4 : x = keyP k := by
        have hh := h.1
        cases k with
        | inl i => cases hh; cases e1; rfl
        | inr z => cases hh; cases e1; rfl
      subst e4
      exact ⟨(k, w) :: kvs, by rw [h1]; rfl, by rw [← h2]; rfl, .cons h.2 h3⟩
    · cases e
theorem we_dispM {keys : List (Option Expr)} {values : List Expr} {trs : List (PTE × PTE)} (h : WPs X F0 pos keys values trs) (hall : keys.all (·.isSome) = true := by rfl) (hl : keys.length = values.length := by rfl) (h0 : keys ≠ [] := by exact List.cons_ne_nil _ _)
    (h15 : keys.length ≤ 15 := by decide) (hn : trs.length ≤ 15 := by decide) : WE X F0 (.Dict keys values pos) (wDispM trs) :=
  ⟨peImp (pe_disp h.pps hall hl h0 h15) fun σ H Q ⟨F, ρ, S, P, at_, h, le⟩ => fun p np => by
    have hd1 := at_.hold.newS (o := .dK []) (r := .dic []) np .nil
    refine pairs_lift ⟨at_.base, hd1, at_.env⟩ (h p (at_.hold.freeS np)) fun ps S2 ⟨q1, q2, q3⟩ hl F2 H2 vs e2 hd2 r2 => ?_
    split at q2
    · rename_i ks hk
      obtain ⟨kvs, h1, h2, h3⟩ := keys_rep r2 hk
      obtain ⟨_, o, ho, ro⟩ := hd2.raw q1
      cases o <;> first | exact ro.elim | skip
      cases ro
      refine ⟨ho, kvs, h1, ?_, ?_⟩
      · rw [h3.len, hl]
        exact hn
      · rw [merge_new (by rw [h2]; simpa using q2)]
        exact le _ _ q3 F2 _ _ e2 (hd2.write q1 (r' := .dic ps) h3) (.ref p)
    · exact q2.elim⟩
/-- d[k] = e -/
def dputP (x y z : PV) (S : Store) (Q : Store → Prop) : Prop := match x, keyOf y with
  | .ref a, some k => match S a with
    | some (.raw (.dic kvs)) => kvs.length < sizeLine ∧ Q (put S a (.raw (.dic (dput k z kvs))))
    | _ => False
  | _, _ => False
theorem dhas_rep {K : PySem.W.Frag} {F : Hp} (k : Key) : ∀ {vs : List (Key × V)} {xs : List (PV × PV)}, RepK K F vs xs → (vs.any fun kv => decide (kv.1 = k)) = dhas k xs
  | _, _, .nil => rfl
  | _, _, .cons (k := j) h r => by
    have := dhas_rep k r
    unfold dhas at this ⊢
    rw [List.any_cons, List.any_cons, this, keyOf_keyP]
    congr 1
    by_cases e : j = k
    · subst e; simp
    · rw [decide_eq_false e, decide_eq_false (fun z => e (Option.some.inj z))]
theorem RepK.app {K : PySem.W.Frag} {F : Hp} : ∀ {vs ws : List (Key × V)} {xs ys : List (PV × PV)}, RepK K F vs xs → RepK K F ws ys → RepK K F (vs ++ ws) (xs ++ ys)
  | _, _, _, _, .nil, s => s
  | _, _, _, _, .cons h r, s => .cons h (RepK.app r s)
theorem dput_map {K : PySem.W.Frag} {F : Hp} (k : Key) {v : V} {z : PV} (rz : Rep K F v z) : ∀ {vs : List (Key × V)} {xs : List (PV × PV)}, RepK K F vs xs → RepK K F (vs.map fun kv => if kv.1 = k then (kv.1, v) else kv) (xs.map fun p => if keyOf p.1 = some k then (p.1, z) else p)
  | _, _, .nil => .nil
  | _, _, .cons (k := j) h r => by
    rw [List.map_cons, List.map_cons]
    simp only [keyOf_keyP]
    by_cases e : j = k
    · rw [if_pos e, if_pos (by rw [e])]
      exact .cons rz (dput_map k rz r)
    · rw [if_neg e, if_neg (fun z2 => e (Option.some.inj z2))]
      exact .cons h (dput_map k rz r)
theorem dput_rep {K : PySem.W.Frag} {F : Hp} (k : Key) {v : V} {z : PV} (rz : Rep K F v z) {vs : List (Key × V)} {xs : List (PV × PV)} (h : RepK K F vs xs) : RepK K F (putK vs k v) (dput k z xs) := by
  unfold putK dput
  rw [dhas_rep k h]
  split
  · exact dput_map k rz h
  · exact h.app (.cons rz .nil)
def wDput (td ty tv : PTE) : PTS := fun P ρ S => tv ρ S fun z S1 => td ρ S1 fun x S2 => ty ρ S2 fun y S3 => dputP x y z S3 fun S4 => P.nx ρ S4
theorem ws_dput {i v : Expr} {ty tv : PTE} {pos' : Pos} (hu : X.A.units + 1 < cLine) (ho : WE X F0 o to) (hi : WE X F0 i ty) (hv : WE X F0 v tv) (hs : swapsWith v (some (.Subscript o i pos')) pos.line X.env = pure false := by rfl) :
    WS X F0 (.Assign [.Subscript o i pos'] v pos) (wDput to ty tv) :=
  ⟨⟨fun pins s σ H D I ⟨F, ρ, S, P, at_, h, le⟩ => (ps_dput hu ho.pe hi.pe hv.pe hs).run pins s σ H D I ⟨F, ρ, S, _, at_, h, fun z S1 h1 F1 H1 w1 e1 hd1 r1 => ⟨F1, ρ, S1, _, at_.next e1 hd1, h1, fun x S2 h2 F2 H2 w2 e2 hd2 r2 => ⟨F2, ρ, S2, _, at_.next (e1.trans e2) hd2, h2, fun y S3 h3 F3 H3 w3 e3 hd3 r3 => by
    unfold dputP at h3
    split at h3
    · rename_i a k hk
      split at h3
      · rename_i kvs hS
        obtain ⟨_, o, ho, ro⟩ := hd3.raw hS
        cases o <;> first | exact ro.elim | skip
        rename_i vs
        have ro' : RepK X.K F3 vs kvs := ro
        have e4 := keyOf_rep r3 hk
        have r2' := r2.mono e3
        cases r2'
        have e14 := (e1.trans e2).trans e3
        exact ⟨a, _, rfl, .inl ⟨vs, k, ho, e4, by rw [ro'.len]; exact h3.1, rfl⟩, le.nx _ _ h3.2 F3 σ _ e14 (at_.next e14 (hd3.write hS (r' := .dic _) (dput_rep k (r1.mono (e2.trans e3)) ro')))⟩
      · exact h3.elim
    · exact h3.elim⟩⟩⟩⟩⟩
end
end L2.Pv

/-! P10: repr of data. -/
namespace L2.Pv
open PySem PySem.Spec PyProof.Rows L2
mutual
def toR : PV → Option PyData
  | .non => some .none
  | .bl b => some (.bool b)
  | .int i => some (.int i)
  | .str x => some (.str x)
  | .lst xs => match toRs xs with
    | some ds => some (.list ds)
    | none => none
  | .tup xs => match toRs xs with
    | some ds => some (.tuple ds)
    | none => none
  | .dic xs => match toRk xs with
    | some ds => some (.dict ds)
    | none => none
  | .ref _ => none
  | .ty _ => none
  | .scr _ => none
def toRs : List PV → Option (List PyData)
  | [] => some []
  | x :: xs => match toR x, toRs xs with
    | some d, some ds => some (d :: ds)
    | _, _ => none
def toRk : List (PV × PV) → Option (List (PyData × PyData))
  | [] => some []
  | (k, x) :: xs => match toR k, toR x, toRk xs with
    | some e, some d, some ds => some ((e, d) :: ds)
    | _, _, _ => none
end
structure FineD (d : PyData) : Prop where
  sh : d.leavesShort 60 = true
  sw : d.showable = true
  dp : d.depth ≤ 64
  wt : d.weight ≤ 200000
def FineR (x : PV) : Prop := ∃ d, toR x = some d ∧ FineD d
def shw (x : PV) : Str := match toR x with
  | some d => d.shown
  | none => Str.empty
theorem shw_of {x : PV} {d : PyData} (h : toR x = some d) : shw x = d.shown := by unfold shw; rw [h]
section
variable {X : Cx} {pins : List (Addr × Obj)} {σ : L2.St} {H F : Hp} {s : Shared}
theorem key_reads {k : Key} {u : Value} {e : PyData} {h : Heap} (hk : keyIs k u = true) (he : toR (keyP k) = some e) : Reads h u e [] := by
  rcases keyIs_shape hk with ⟨i, t, rfl, rfl⟩ | ⟨x, t, rfl, rfl⟩
  · cases he; exact .int i t
  · cases he; exact .str x t
mutual
theorem toR_reads (I : Inv X pins σ H s) (hs : Sub F H) (h1 : H sysModules = none) : ∀ {v : V} {x : PV} {d : PyData} {u : Value}, Rep X.K F v x → toR x = some d → RelV v u → ∃ as, Reads s.heap u d as ∧ sysModules ∉ as
  | _, _, _, _, .non, h, r => by cases h; cases r; exact ⟨[], .none, List.not_mem_nil⟩
  | _, _, _, _, .bl b, h, r => by cases h; cases r; exact ⟨[], .bool b, List.not_mem_nil⟩
  | _, _, _, _, .int i, h, r => by cases h; obtain ⟨t, rfl⟩ := r; exact ⟨[], .int i t, List.not_mem_nil⟩
  | _, _, _, _, .str x, h, r => by cases h; obtain ⟨t, rfl⟩ := r; exact ⟨[], .str x t, List.not_mem_nil⟩
  | _, _, _, _, .lst (a := a) q b, h, r => by
    unfold toR at h
    split at h
    · rename_i ds e1
      cases h
      cases r
      obtain ⟨_, its, n, rv, _, e⟩ := lst_at I (hs.rd q)
      obtain ⟨as, ra, na⟩ := toRs_reads I hs h1 b e1 rv
      refine ⟨a :: as, .list e rfl rfl (by simpa using ra), fun z => ?_⟩
      rcases List.mem_cons.mp z with z | z
      · rcases hs.rd q with z2 | ⟨_, z2⟩ <;> rw [← z, h1] at z2 <;> cases z2
      · exact na z
    · cases h
  | _, _, _, _, .tup (a := a) q b, h, r => by
    unfold toR at h
    split at h
    · rename_i ds e1
      cases h
      cases r
      obtain ⟨its, rv, ⟨o, e, hc, n, hd⟩, _⟩ := I.tuple (hs.sqT q)
      obtain ⟨as, ra, na⟩ := toRs_reads I hs h1 b e1 rv
      exact ⟨as, .tuple e hc hd (by simpa using ra), na⟩
    · cases h
  | _, _, _, _, .dic (a := a) q b, h, r => by
    unfold toR at h
    split at h
    · rename_i ds e1
      cases h
      cases r
      obtain ⟨_, hy, ws, rv, o, es, ep, e, hc, hd, _, hp, _⟩ := dk_rd I.hok (hs.rd q)
      obtain ⟨as, bs, ra, rb, na, nb⟩ := toRk_reads I hs h1 b e1 rv hp
      refine ⟨a :: as ++ bs, .dict e hc.1 hd ra rb, fun z => ?_⟩
      rcases List.mem_append.mp z with z | z
      · rcases List.mem_cons.mp z with z | z
        · rw [z, beq_self_eq_true] at hy; cases hy
        · exact na z
      · exact nb z
    · cases h
  | _, _, _, _, .ref _, h, _ => nomatch h
  | _, _, _, _, .ty _, h, _ => nomatch h
  | _, _, _, _, .scr _ _, h, _ => nomatch h
theorem toRs_reads (I : Inv X pins σ H s) (hs : Sub F H) (h1 : H sysModules = none) : ∀ {v : List V} {x : List PV} {d : List PyData} {u : List Value}, Reps X.K F v x → toRs x = some d → Vals v u → ∃ as, ReadsAll s.heap u d as ∧ sysModules ∉ as
  | _, _, _, _, .nil, h, r => by cases h; cases r; exact ⟨[], .nil, List.not_mem_nil⟩
  | _, _, _, _, .cons a b, h, r => by
    unfold toRs at h
    split at h
    · rename_i d ds e1 e2
      cases h
      cases r with
      | cons r1 r2 =>
        obtain ⟨as, ra, na⟩ := toR_reads I hs h1 a e1 r1
        obtain ⟨bs, rb, nb⟩ := toRs_reads I hs h1 b e2 r2
        exact ⟨as ++ bs, .cons ra rb, fun z => (List.mem_append.mp z).elim na nb⟩
    · cases h
theorem toRk_reads (I : Inv X pins σ H s) (hs : Sub F H) (h1 : H sysModules = none) : ∀ {v : List (Key × V)} {x : List (PV × PV)} {d : List (PyData × PyData)} {u : List (Key × Value)} {es : List DictEntry}, RepK X.K F v x → toRk x = some d → KV v u → Pairs (mixKind X.prog X.w) es u →
    ∃ as bs, ReadsAll s.heap (es.map (·.key)) (d.map (·.1)) as ∧ ReadsAll s.heap (es.map (·.val)) (d.map (·.2)) bs ∧ sysModules ∉ as ∧ sysModules ∉ bs
  | _, _, _, _, _, .nil, h, r, p => by
    cases h
    cases r
    cases p
    exact ⟨[], [], .nil, .nil, List.not_mem_nil, List.not_mem_nil⟩
  | _, _, _, _, _, .cons a b, h, r, p => by
    unfold toRk at h
    split at h
    · rename_i e d ds e1 e2 e3
      cases h
      cases r with
      | cons r1 r2 =>
        cases p with
        | cons p1 p2 p3 =>
          obtain ⟨as, ra, na⟩ := toR_reads I hs h1 a e2 r1.2
          obtain ⟨bs, cs, rb, rc, nb, nc⟩ := toRk_reads I hs h1 b e3 r2 p3
          have kr := key_reads (h := s.heap) p1 (by rw [← r1.1]; exact e1)
          rw [← p2] at ra
          refine ⟨[] ++ bs, as ++ cs, .cons kr rb, .cons ra rc, nb, fun z => (List.mem_append.mp z).elim na nc⟩
    · cases h
end
end
theorem shown_ok {d : PyData} (h : FineD d) : d.shown.length ≤ sizeLine := by
  have h1 := PyData.shown_le 60 (by decide) d h.sh
  have h2 := h.wt
  have h3 : (60 + 2) * d.weight ≤ 62 * 200000 := Nat.mul_le_mul_left _ h2
  have h4 : sizeLine = 16777216 := by decide
  omega
/-- nothing stands tracked at the modules' dict -/
def NoSys (h : Heap) : Prop := ∃ o, h.get? sysModules = some o
section
variable {X : Cx}
theorem no_sys {pins : List (Addr × Obj)} {σ : L2.St} {H : Hp} {s : Shared} (I : Inv X pins σ H s) (h : NoSys X.base) : H sysModules = none := by
  obtain ⟨o, e⟩ := h
  exact (I.bs _ _ e).2
def reprP : PRs := fun xs S Q => match xs with
  | [x] => FineR x ∧ Q (.str (shw x)) S
  | _ => False
theorem cw_repr (hG : X.A.guards = some []) (hu : X.A.units + 80 < cLine) (hn : NoSys X.base) : CallW X (.builtin "repr") reprP := by
  intro pins s σ H vs us Q I rv ⟨F, S, xs, P, hd, rx, q, le⟩
  unfold reprP at q
  split at q
  · rename_i x
    obtain ⟨⟨d, hr, hf⟩, q⟩ := q
    rw [shw_of hr] at q
    cases rx with
    | cons r1 r2 =>
      cases r2
      obtain ⟨u, rfl, ru⟩ := vals1 rv
      obtain ⟨as, ra, na⟩ := toR_reads I hd.sub (no_sys I hn) r1 hr ru
      have fin := le _ S q F H _ (Same.refl F) hd (.str _)
      have hz := shown_ok hf
      have dp := hf.dp
      cases ra with
      | none => exact PySem.P.repr_of_none ⟨.str _, H, I.tok _, ⟨_, rfl⟩, fin⟩
      | bool b => exact PySem.P.repr_of_bool ⟨.str _, H, I.tok _, ⟨_, rfl⟩, fin⟩
      | int i t => exact PySem.P.repr_of_int (of_decide_eq_true hf.sw) ⟨.str _, H, I.tok _, ⟨_, rfl⟩, fin⟩
      | str z t => exact PySem.P.repr_of_str ⟨.str _, H, I.tok _, ⟨_, rfl⟩, fin⟩ hz
      | list h1 h2 h3 h4 => exact repr_of_reads' (.list h1 h2 h3 h4) hf.sw (fun _ => na) hG (by omega) (fun _ _ e => e) (fun h' u tk hk => ⟨.str _, H, I.kept hk, ⟨_, rfl⟩, fin⟩) hz
      | tuple h1 h2 h3 h4 => exact repr_of_reads' (.tuple h1 h2 h3 h4) hf.sw (fun _ => na) hG (by omega) (fun _ _ e => e) (fun h' u tk hk => ⟨.str _, H, I.kept hk, ⟨_, rfl⟩, fin⟩) hz
      | dict h1 h2 h3 h4 h5 => exact repr_of_reads' (.dict h1 h2 h3 h4 h5) hf.sw (fun _ => na) hG (by omega) (fun _ _ e => e) (fun h' u tk hk => ⟨.str _, H, I.kept hk, ⟨_, rfl⟩, fin⟩) hz
  · exact q.elim
end
end L2.Pv

/-! P11: the law's end. -/
namespace L2.Pv
open PySem PySem.Spec PyProof.Rows L2
/-- the script alone is tracked, as what is never written -/
def scrH (K : PySem.W.Frag) (a : Addr) (o : Obj) (ns : List Int) : Hp := fun b => if b = a ∧ K.lookup a = none then some (.frz o (.lst (ns.map V.int))) else none
theorem scrH_some {K : PySem.W.Frag} {a b : Addr} {o : Obj} {ns : List Int} {u : HO} (h : scrH K a o ns b = some u) : b = a ∧ K.lookup a = none ∧ u = .frz o (.lst (ns.map V.int)) := by
  unfold scrH at h
  split at h
  · rename_i c
    cases h
    exact ⟨c.1, c.2, rfl⟩
  · cases h
theorem reps_scr {K : PySem.W.Frag} {F : Hp} (ns : List Int) : Reps K F (ns.map V.int) (ns.map PV.int) := Reps.of_ints ns
theorem law_G {P : Program} {w : World} {K : PySem.W.Frag} {mg mb : Str → Option Value} {k : Nat} {fa a : Addr} {fd : FuncData} {x : Str} {sp : PSp} {t : Shared} {vs : List Value} {ns : List Int}
    (sm : ∃ mm, t.heap.Ns sysModules mm) (kin : K.In t.heap) (gl : t.heap.Ns mainGlobals mg) (nb : t.heap.Ns builtinsNs mb) (nbb : ∀ x : Str, x ≠ "__name__" → mb x = bootBuiltins x) (lim : t.heap.NoLimit) (hg : t.gens = #[])
    (ha : t.heap.get? a = some { cls := .type "list", data := .seq vs.toArray }) (hi : IntsAre vs ns) (hl : ns.length ≤ sizeLine) (hr : Room k callerA)
    (G : ∀ base : Heap, K.In base → base.Ns mainGlobals mg → NoSys base → FnG P w K mg base k fa fd [x] sp) (hb : ∀ (s : Shared) (u : Value), BindsTo s fd ⟨[u], []⟩ [(x, u)])
    (hsp : sp [.scr (ns.map PV.int)] (fun _ => none) (fun v _ => v = .bl true) fun _ _ => False) :
    codeAny (model P w) callerA (.call (.ref fa) ⟨[.ref a], []⟩) (fun r t' => r = .ok (.ret (.bool true)) ∧ OldK t.heap t'.heap ∧ t'.os = t.os ∧ AllBare t'.gens) t := by
  generalize ho : ({ cls := .type "list", data := .seq vs.toArray } : Obj) = o at ha
  have rel : Vals (ns.map V.int) vs := vals_ints hi
  have okH : HOk P w (scrH K a o ns) t.heap := fun b u e => by
    obtain ⟨rfl, _, rfl⟩ := scrH_some e
    exact ⟨ha, by rw [List.length_map]; exact hl, vs, _, rel, by rw [ha, ← ho]⟩
  have sq : SqL K (scrH K a o ns) a (ns.map V.int) := by
    cases q : K.lookup a with
    | none => exact .inl (.inr ⟨o, if_pos ⟨rfl, q⟩⟩)
    | some o2 =>
      have e := kin a o2 q
      rw [ha] at e
      cases e
      subst ho
      exact .inr ⟨_, vs.toArray, _, q, rfl, rfl, rfl, by rw [List.size_toArray, hi.length]; exact hl, by simpa using rel⟩
  have dict : ∀ {b : Addr} {u : Obj} {es : Array DictEntry} {ep : Nat}, t.heap.get? b = some u → u.data = .dict es ep → scrH K a o ns b = none := fun {b u es ep} e d => by
    cases q : scrH K a o ns b with
    | none => rfl
    | some y =>
      obtain ⟨rfl, _, _⟩ := scrH_some q
      rw [ha] at e
      cases e
      subst ho
      cases d
  have nsB : ∀ {b : Addr} {m : Str → Option Value}, t.heap.Ns b m → (hidT t.heap (scrH K a o ns)).Ns b m := fun ⟨u, es, ep, e, d, r⟩ => ⟨u, es, ep, hidT_get e (dict e d), d, r⟩
  have kinB : K.In (hidT t.heap (scrH K a o ns)) := fun b u e => hidT_get (kin b u e) (by
    cases q : scrH K a o ns b with
    | none => rfl
    | some y =>
      obtain ⟨rfl, q2, _⟩ := scrH_some q
      rw [q2] at e
      cases e)
  have e0 : Env0 P w K mg (hidT t.heap (scrH K a o ns)) callerA [] t (scrH K a o ns) :=
    ⟨rfl, ⟨kinB, nsB gl, ⟨mb, nsB nb, nbb⟩, let ⟨mc, c1, c2⟩ := lim; ⟨mc, nsB c1, c2⟩⟩, fun b u e => of_hidT e, Nat.le_of_eq (hidT_size _ _), trivial, fun b z => (nomatch z), okH, .of_eq hg⟩
  have hold : Hold K (scrH K a o ns) (fun _ => none) (scrH K a o ns) := ⟨fun _ => none, fun _ => none, ⟨fun b u e => .inl e, fun b r z => (nomatch z), fun b r z => (nomatch z)⟩, ⟨fun b z => absurd rfl z, fun b c z => (nomatch z), fun b r z => (nomatch z), fun b r z => (nomatch z), fun b r m z => (nomatch z)⟩⟩
  have nsys : NoSys (hidT t.heap (scrH K a o ns)) := by
    obtain ⟨mm, z⟩ := sm
    obtain ⟨u, _, _, e, _⟩ := nsB z
    exact ⟨u, e⟩
  refine codeAny_mono ((G _ kinB (nsB gl) nsys).run callerA [] t (scrH K a o ns) ⟨[.ref a], []⟩ [.ref a] [.ref a] (fun v _ => v = .bl true) (fun _ _ _ => False) rfl hr e0 (hb t (.ref a)) (.cons rfl .nil)
    ⟨scrH K a o ns, fun _ => none, _, _, _, hold, .cons (.scr sq (reps_scr ns)) .nil, hsp, fun z S e F' H' v _ _ r => by subst e; cases r; rfl, fun _ _ z => z.elim⟩) fun r t' q => ?_
  rcases r with e | fl
  · obtain ⟨_, _, _, _, _, _, _, _, _, _, _, _, z⟩ := q
    exact z.elim
  · cases fl with
    | ret u =>
      obtain ⟨v, H', q1, q2, un, ok', rv, q3⟩ := q
      have q3' : v = .bl true := q3
      subst q3'
      obtain rfl : u = Value.bool true := rv
      refine ⟨rfl, OldK.of_keep fun b y e => ?_, q1, q2⟩
      cases z : scrH K a o ns b with
      | none => exact un.keep b y e z (fun w => (nomatch w)) (fun w => (nomatch w))
      | some yy =>
        obtain ⟨rfl, _, rfl⟩ := scrH_some z
        have e2 := (ok' b _ (un.frzs b _ _ z)).1
        rw [ha] at e
        cases e
        exact e2
    | next => exact False.elim q
    | brk => exact False.elim q
    | cont => exact False.elim q
theorem walk_ofG {l : PySem.W.OpenLaw} {n k : Nat} {q : Program} {loose : List Str} {XP : (Str → Option Value) → Heap → Prop} {YP : World → Heap → Prop} {d : DefRec} {K : Params → PySem.W.Frag} {sp : PSp} {x : Str}
    (hmp : importsNone q = true) (hn : l.most = some n) (hn2 : n ≤ sizeLine) (hdf : d.params.defaults = []) (hr : Room k callerA) (hY : ∀ (w : World) (h : Heap), YP w h → (K w.params).In h)
    (F : ∀ (w : World) (mg : Str → Option Value) (fa : Addr) (h : Heap), (K w.params).In h → h.Ns mainGlobals mg → mg d.name = some (.ref fa) →
      ∃ fd : FuncData, (∀ (s : Shared) (u : Value), BindsTo s fd ⟨[u], []⟩ [(x, u)]) ∧ ∀ base : Heap, (K w.params).In base → base.Ns mainGlobals mg → NoSys base → FnG l.prog w (K w.params) mg base k fa fd [x] sp)
    (hsp : ∀ ns : List Int, ns.length ≤ n → sp [.scr (ns.map PV.int)] (fun _ => none) (fun v _ => v = .bl true) fun _ _ => False) :
    PySem.W.WalkO q loose XP YP l.row.toRowW d [] (fun f vs => PySem.call f vs) := by
  refine Att.attach_call hn hdf fun w s0 t mg mb fa o pm cd doc a vs ns G Y hfa hdat hcd hm ha hi hl hgen => ?_
  have kin := hY w _ Y
  obtain ⟨fd, bd, ok⟩ := F w mg fa _ kin G.T.g hm
  exact law_G (let ⟨mm, z, _⟩ := (G.T.seer hmp).mods; ⟨mm, z⟩) kin G.T.g G.T.b G.T.builtins G.T.nolimit hgen ha hi (Nat.le_trans hl hn2) hr ok bd (hsp ns hl)
end L2.Pv

/-! P12: two objects kept as one; freezing; calls by name alone. -/
namespace L2.Pv
open PySem PySem.Spec PyProof.Rows L2
def pairA (p : Addr) (ψ : Nat → Addr → RO → RO → Prop) : Nat → RStore → Prop := fun n R => ∃ b r1 r2, b ≠ p ∧ R p = some (r1, false) ∧ R b = some (r2, false) ∧ ψ n b r1 r2
section
variable {K : PySem.W.Frag} {F H : Hp} {S : Store} {p b : Addr} {r1 r2 : RO} {n : Nat} {ψ : Nat → Addr → RO → RO → Prop}
theorem Hold.open2 (h : Hold K F S H) (e : S p = some (.abs (pairA p ψ) n)) : ∃ b r1 r2, b ≠ p ∧ S b = none ∧ ψ n b r1 r2 ∧ Hold K F (put (put S p (.raw r1)) b (.raw r2)) H := by
  obtain ⟨R, own, hr, ow⟩ := h
  obtain ⟨b, r1, r2, nb, e1, e2, q⟩ := ow.abs p _ n e
  replace e1 : (if own p = some p then R p else none) = some (r1, false) := e1
  replace e2 : (if own b = some p then R b else none) = some (r2, false) := e2
  have op : own p = some p := (ow.self p (by rw [e]; exact fun z => nomatch z)).1
  have ob : own b = some p := by
    by_cases z : own b = some p
    · exact z
    · rw [if_neg z] at e2; cases e2
  rw [if_pos op] at e1
  rw [if_pos ob] at e2
  have sb : S b = none := by
    cases z : S b with
    | none => rfl
    | some m =>
      have y := (ow.self b (by rw [z]; exact fun z => nomatch z)).1
      rw [ob] at y
      exact absurd (Option.some.inj y).symm nb
  refine ⟨b, r1, r2, nb, sb, q, R, fun c => if c = b then some b else if own c = some p then (if c = p then some p else none) else own c, hr, ?_⟩
  have sS : ∀ a, a ≠ b → a ≠ p → put (put S p (.raw r1)) b (.raw r2) a = S a := fun a x y => by rw [put_ne x, put_ne y]
  have sp : put (put S p (.raw r1)) b (.raw r2) p = some (.raw r1) := by rw [put_ne nb.symm, put_same]
  have so : ∀ a, a ≠ b → a ≠ p → S a ≠ none → own a = some a ∧ own a ≠ some p := fun a x y z => by
    have w := (ow.self a z).1
    exact ⟨w, by rw [w]; exact fun q => y (Option.some.inj q)⟩
  refine ⟨fun a m => ?_, fun c a m => ?_, fun a r m => ?_, fun a r m => ?_, fun a φ k m => ?_⟩
  · by_cases x : a = b
    · subst x
      exact ⟨if_pos rfl, by rw [e2]; exact fun z => nomatch z⟩
    · by_cases y : a = p
      · subst y
        exact ⟨by rw [if_neg x, if_pos op, if_pos rfl], by rw [e1]; exact fun z => nomatch z⟩
      · rw [sS a x y] at m
        obtain ⟨w1, w2⟩ := so a x y m
        exact ⟨by rw [if_neg x, if_neg w2]; exact w1, (ow.self a m).2⟩
  · by_cases x : a = b
    · subst x
      rw [put_same]
      exact fun z => nomatch z
    · by_cases y : a = p
      · subst y
        rw [sp]
        exact fun z => nomatch z
      · rw [sS a x y]
        by_cases z : c = b
        · rw [if_pos z] at m
          exact absurd (Option.some.inj m).symm x
        · rw [if_neg z] at m
          by_cases w : own c = some p
          · rw [if_pos w] at m
            split at m
            · exact absurd (Option.some.inj m).symm y
            · cases m
          · rw [if_neg w] at m
            exact ow.there c a m
  · by_cases x : a = b
    · subst x
      rw [put_same] at m
      cases m
      exact e2
    · by_cases y : a = p
      · subst y
        rw [sp] at m
        cases m
        exact e1
      · rw [sS a x y] at m
        exact ow.raw a r m
  · by_cases x : a = b
    · subst x
      rw [put_same] at m
      cases m
    · by_cases y : a = p
      · subst y
        rw [sp] at m
        cases m
      · rw [sS a x y] at m
        exact ow.lck a r m
  · by_cases x : a = b
    · subst x
      rw [put_same] at m
      cases m
    · by_cases y : a = p
      · subst y
        rw [sp] at m
        cases m
      · rw [sS a x y] at m
        have z := ow.abs a φ k m
        have ef : (fun c => if (if c = b then some b else if own c = some p then (if c = p then some p else none) else own c) = some a then R c else none) = fun c => if own c = some a then R c else none := by
          funext c
          by_cases w : c = b
          · rw [if_pos w, if_neg (fun q => x (Option.some.inj q).symm), w, ob, if_neg (fun q => y (Option.some.inj q).symm)]
          · rw [if_neg w]
            by_cases v : own c = some p
            · rw [if_pos v, v, if_neg (c := some p = some a) (fun q => y (Option.some.inj q).symm)]
              split
              · rw [if_neg (fun q => y (Option.some.inj q).symm)]
              · rw [if_neg (fun q => nomatch q)]
            · rw [if_neg v]
        rw [ef]
        exact z
theorem Hold.close2 (h : Hold K F S H) (e1 : S p = some (.raw r1)) (e2 : S b = some (.raw r2)) (nb : b ≠ p) (q : ψ n b r1 r2) : Hold K F (rmv (put S p (.abs (pairA p ψ) n)) b) H := by
  obtain ⟨R, own, hr, ow⟩ := h
  have op : own p = some p := (ow.self p (by rw [e1]; exact fun z => nomatch z)).1
  have ob : own b = some b := (ow.self b (by rw [e2]; exact fun z => nomatch z)).1
  have opb : own p ≠ some b := by rw [op]; exact fun z => nb (Option.some.inj z).symm
  refine ⟨R, fun c => if own c = some b then (if c = b then some p else none) else own c, hr, ?_⟩
  have sS : ∀ a, a ≠ b → a ≠ p → rmv (put S p (.abs (pairA p ψ) n)) b a = S a := fun a x y => by rw [rmv_ne x, put_ne y]
  have sp : rmv (put S p (.abs (pairA p ψ) n)) b p = some (.abs (pairA p ψ) n) := by rw [rmv_ne nb.symm, put_same]
  refine ⟨fun a m => ?_, fun c a m => ?_, fun a r m => ?_, fun a r m => ?_, fun a φ k m => ?_⟩
  · by_cases x : a = b
    · subst x
      exact absurd rmv_same m
    · by_cases y : a = p
      · subst y
        exact ⟨by rw [if_neg opb]; exact op, by rw [ow.raw _ _ e1]; exact fun z => nomatch z⟩
      · rw [sS a x y] at m
        have w := ow.self a m
        refine ⟨?_, w.2⟩
        rw [w.1, if_neg fun q => x (Option.some.inj q)]
  · by_cases y : a = p
    · subst y
      rw [sp]
      exact fun z => nomatch z
    · by_cases z : own c = some b
      · rw [if_pos z] at m
        split at m
        · exact absurd (Option.some.inj m).symm y
        · cases m
      · rw [if_neg z] at m
        have x : a ≠ b := fun x => z (by rw [m, x])
        rw [sS a x y]
        exact ow.there c a m
  · by_cases x : a = b
    · subst x
      rw [rmv_same] at m
      cases m
    · by_cases y : a = p
      · subst y
        rw [sp] at m
        cases m
      · rw [sS a x y] at m
        exact ow.raw a r m
  · by_cases x : a = b
    · subst x
      rw [rmv_same] at m
      cases m
    · by_cases y : a = p
      · subst y
        rw [sp] at m
        cases m
      · rw [sS a x y] at m
        exact ow.lck a r m
  · by_cases x : a = b
    · subst x
      rw [rmv_same] at m
      cases m
    · by_cases y : a = p
      · subst y
        rw [sp] at m
        cases m
        refine ⟨b, r1, r2, nb, ?_, ?_, q⟩
        · exact (if_pos (by rw [if_neg opb]; exact op)).trans (ow.raw _ _ e1)
        · exact (if_pos (by rw [if_pos ob, if_pos rfl])).trans (ow.raw _ _ e2)
      · rw [sS a x y] at m
        have z := ow.abs a φ k m
        have ef : (fun c => if (if own c = some b then (if c = b then some p else none) else own c) = some a then R c else none) = fun c => if own c = some a then R c else none := by
          funext c
          by_cases w : own c = some b
          · rw [if_pos w, w, if_neg (c := some b = some a) (fun q => x (Option.some.inj q).symm)]
            split
            · rw [if_neg (fun q => y (Option.some.inj q).symm)]
            · rw [if_neg (fun q => nomatch q)]
          · rw [if_neg w]
        rw [ef]
        exact z
end
/-- what holds of one store holds of the other -/
def Turns (K : PySem.W.Frag) (S S' : Store) : Prop := ∀ F H, Hold K F S H → Hold K F S' H
theorem Turns.refl {K : PySem.W.Frag} (S : Store) : Turns K S S := fun _ _ h => h
theorem FnG.via {P : Program} {w : World} {K : PySem.W.Frag} {mg : Str → Option Value} {base : Heap} {k : Nat} {f : Addr} {fd : FuncData} {ps : List Str} {sp sp' : PSp} (G : FnG P w K mg base k f fd ps sp') (hl : ∀ xs S Q E, sp xs S Q E → xs.length = ps.length)
    (h : ∀ F H S xs Q E, Hold K F S H → sp xs S Q E → ∃ S' Q' E', Hold K F S' H ∧ sp' xs S' Q' E' ∧ (∀ v S2, Q' v S2 → ∃ S3, Turns K S2 S3 ∧ Q v S3) ∧ (∀ e S2, E' e S2 → ∃ S3, Turns K S2 S3 ∧ E e S3)) : FnG P w K mg base k f fd ps sp := by
  refine ⟨hl, fun A o s H a us vs Q E g r e0 b v ⟨F1, S, xs, P, PE, a1, a2, a3, a4, a5⟩ => ?_⟩
  obtain ⟨S', Q', E', b1, b2, b3, b4⟩ := h F1 H S xs P PE a1 a3
  refine G.run A o s H a us vs Q E g r e0 b v ⟨F1, S', xs, Q', E', b1, a2, b2, fun x S2 q F2 H2 v2 e2 hd rx => ?_, fun e S2 q F2 H2 c d e2 hd rx => ?_⟩
  · obtain ⟨S3, c1, c2⟩ := b3 x S2 q
    exact a4 x S3 c2 F2 H2 v2 e2 (c1 F2 H2 hd) rx
  · obtain ⟨S3, c1, c2⟩ := b4 e S2 q
    exact a5 e S3 c2 F2 H2 c d e2 (c1 F2 H2 hd) rx
section
variable {X : Cx} {F0 : Hp} {e : Expr} {te : PTE} {k : Nat} {f : Addr} {fd : FuncData} {ps ks : List Str} {sp : PSp} {x : Str} {p pos : Pos} {g : List Value → List Value → List Value} {gP : List PV → List PV → List PV} {kws : List Keyword} {tk' : PTA} {m : Nat} {E : PX → PEnv → Store → Prop}
/-- from here on the list is read alone -/
def wFrz (te : PTE) : PTE := fun ρ S Q => te ρ S fun x S1 => ∃ p xs, x = .ref p ∧ S1 p = some (.raw (.lst xs)) ∧ Q (.lst xs) (rmv S1 p)
theorem we_frz (he : WE X F0 e te) : WE X F0 e (wFrz te) :=
  ⟨peImp he.pe fun σ H Q ⟨F, ρ, S, P, at_, h, le⟩ => ⟨F, ρ, S, _, at_, h, fun x S1 ⟨p, xs, e1, e2, q⟩ F1 H1 v es hd r => by
    subst e1
    obtain ⟨o, ho, ro, fo, hz⟩ := hd.freeze e2
    have e3 := same_upd (o := o) fo
    cases o <;> first | exact ro.elim | skip
    cases r
    exact le _ _ q _ H1 _ (es.trans e3) hz (.lst (.inl upd_same) (Reps.mono e3 ro))⟩⟩
theorem we_callK0 (G : FnG X.prog X.w X.K X.mg X.base k f fd ps sp) (hG : X.A.guards = some []) (hr : Room k X.A) (hm : X.mg x = some (.ref f)) (hk : PySem.W.keepIn X.K (.ref f) = true) (hb : KB X.K fd ps ks 0 m g gP) (tk : TakesP X F0 E)
    (hkw : WK X F0 m kws tk') (hg : Gl X x := by rfl) (hall : (backToKw pos (keywordEach kws X.env)).all (·.1.isSome) = true := by rfl) (hks : (backToKw pos (keywordEach kws X.env)).filterMap (·.1) = ks := by rfl)
    (hdb : (x == ("__debug__" : Str)) = false := by decide)
    (hpl : ((backTo pos (starEach [] X.env)).any (·.1) || (backToKw pos (keywordEach kws X.env)).any (·.1.isNone)) = false := by rfl) :
    WE X F0 (.Call (.Name x p) [] kws pos) (wCallK sp gP E wNil tk') :=
  ⟨⟨fun pins s σ H Q I ⟨F, ρ, S, P, at_, h, le⟩ => wpAny_Call_Name_kw (ld_glob I hg hm (PySem.W.callWith_KW0 (h₀ := X.base) I.ok.mod.kin hk hall
      (thn (hkw.pk.run pos pins s σ H (fun zs H' => ∃ F2 S2 ys, Same F F2 ∧ Hold X.K F2 S2 H' ∧ Reps X.K F2 zs ys ∧ ys.length = m ∧ sp (gP [] ys) S2 P fun e S3 => E e ρ S3) I ⟨F, ρ, S, _, at_, h, fun ys S2 h2 l2 F2 H2 zs e2 hd2 r2 => ⟨F2, S2, ys, e2, hd2, r2, l2, h2⟩⟩) fun ws s2 ⟨zs, H2, I2, rz, F2, S2, ys, e2, hd2, r2, l2, q2⟩ =>
        ⟨I2.kIn, by rw [hks]; exact spl_callK (us := []) (vs := []) (xs := []) G hG hr hb tk at_ le e2 hd2 I2 rfl l2 .nil rz .nil r2 q2⟩) hpl) hdb)⟩⟩
end
/-! ### == [] and != [] of whatever list -/
def eqNilP (g : Bool → Bool) : PR2 := fun x y S Q => match y with
  | .lst [] => match seqL S x with
    | some xs => Q (.bl (g xs.isEmpty)) S
    | none => False
  | _ => False
theorem ow_nil {X : Cx} {op : CmpOp} {g : Bool → Bool} (hu : X.A.units + 64 < cLine)
    (h0 : ∀ (s : Shared) (u v : Value) (as bs : List Addr) (Q : Value → Shared → Prop), Reads s.heap u (.list []) as → Reads s.heap v (.list []) bs → Q (.bool (g true)) s → wpAny (model X.prog X.w) X.A (compareOp op u v) Q X.xe s)
    (h1 : ∀ (s : Shared) (l b : Addr) (i1 i2 : Array Value) (Q : Value → Shared → Prop), s.heap.IsList l i1 → s.heap.IsList b i2 → (i1.size != i2.size) = true → Q (.bool (g false)) s → wpAny (model X.prog X.w) X.A (compareOp op (.ref l) (.ref b)) Q X.xe s) : OpW X (compareOp op) (eqNilP g) := by
  intro pins s σ H v u vv uu Q I rv ru ⟨F, S, x, y, P, hd, rx, ry, q, le⟩
  unfold eqNilP at q
  split at q
  · split at q
    · rename_i xs hx
      have fin := le _ S q F H _ (Same.refl F) hd (.bl _)
      obtain ⟨a, ws, rfl, h3, h4⟩ := seqL_rd hd rx hx
      cases ry with
      | lst q2 b2 =>
        cases b2
        cases rv
        cases ru
        obtain ⟨o1, its, n, rv1, z1, e1⟩ := lst_at I h3
        obtain ⟨o2, its2, n2, rv2, z2, e2⟩ := lst_at I (hd.sub.rd q2)
        obtain rfl : its2 = [] := List.eq_nil_of_length_eq_zero z2.symm
        cases xs with
        | nil =>
          cases h4
          obtain rfl : its = [] := List.eq_nil_of_length_eq_zero z1.symm
          exact h0 s _ _ _ _ _ (.list e1 rfl rfl .nil) (.list e2 rfl rfl .nil) ⟨.bl (g true), H, I, rfl, fin⟩
        | cons x1 xs1 =>
          refine h1 s _ _ _ _ _ ⟨_, e1, rfl, _, rfl⟩ ⟨_, e2, rfl, _, rfl⟩ ?_ ⟨.bl (g false), H, I, rfl, fin⟩
          have l2 := h4.len
          rw [List.length_cons] at l2
          have l3 : its.length = xs1.length + 1 := by omega
          simp [l3]
    · exact q.elim
  · exact q.elim
theorem ow_eqNil {X : Cx} (hu : X.A.units + 64 < cLine) : OpW X (compareOp .Eq) (eqNilP fun b => b) :=
  ow_nil hu (fun s u v as bs Q a b q => PySem.SeqAt.compareEq_reads a b rfl rfl (by unfold PyData.depth PyData.depthAll; omega) q) fun s l b i1 i2 Q a c h q => PySem.SeqAt.eq_list_lengthsAt a c h (by omega) q
theorem ow_neNil {X : Cx} (hu : X.A.units + 64 < cLine) : OpW X (compareOp .NotEq) (eqNilP fun b => !b) :=
  ow_nil hu (fun s u v as bs Q a b q => PySem.SeqAt.compareNe_reads a b rfl rfl (by unfold PyData.depth PyData.depthAll; omega) q) fun s l b i1 i2 Q a c h q => PySem.SeqAt.RcNeAt.lists_lengths a c h (by omega) _ _ _ _ q
/-! ### comprehensions whose turns change nothing -/
theorem lc_pure {mk : Bool} {D : Addr} {G : Store → Prop} {g : PTG} {tt : PTT} {te : PTE} {Q : PQ} {xs : List PV} {ρ : PEnv} {S : Store} (f : PV → Option PV) (hl : xs.length ≤ sizeLine)
    (hs : ∀ x ∈ xs, ∀ (S' : Store) (R1 : PQ) (R0 : Store → Prop), (∀ b, b ≠ D → S' b = S b) → (∀ y, f x = some y → R1 y S') → (f x = none → R0 S') → G S' ∧ g x ρ S' fun ρ2 S2 => tt ρ2 S2 fun b S3 => match b with
      | true => te ρ2 S3 R1
      | false => R0 S3)
    (h0 : G (put S D (.raw (.lst (xs.filterMap f))))) (hq : lcEnd mk D Q (xs.filterMap f) (put S D (.raw (.lst (xs.filterMap f))))) : lcI mk D G g tt te Q xs ρ S := by
  refine ⟨fun r acc S' => ∃ done, xs = done ++ r ∧ acc = done.filterMap f ∧ S' = put S D (.raw (.lst acc)), ⟨[], rfl, rfl, rfl⟩, fun acc S' ⟨done, e1, e2, e3⟩ => ?_, fun x r acc S' ⟨done, e1, e2, e3⟩ => ?_⟩
  · rw [List.append_nil] at e1
    subst e1 e2 e3
    exact ⟨h0, put_same, hq⟩
  · have hx : x ∈ xs := by rw [e1]; exact List.mem_append_right _ List.mem_cons_self
    have hle : (done.filterMap f).length ≤ done.length := List.length_filterMap_le f done
    have hdl : done.length < xs.length := by rw [e1, List.length_append, List.length_cons]; omega
    obtain ⟨a1, a2⟩ := hs x hx S' (fun y S4 => S4 D = some (.raw (.lst acc)) ∧ acc.length < sizeLine ∧ ∃ done, xs = done ++ r ∧ acc ++ [y] = done.filterMap f ∧ put S4 D (.raw (.lst (acc ++ [y]))) = put S D (.raw (.lst (acc ++ [y]))))
      (fun S3 => ∃ done, xs = done ++ r ∧ acc = done.filterMap f ∧ S3 = put S D (.raw (.lst acc))) (fun b hb => by rw [e3, put_ne hb])
      (fun y h5 => ⟨by rw [e3, put_same], by rw [e2]; omega, done ++ [x], by rw [e1, List.append_assoc]; rfl, by rw [List.filterMap_append, List.filterMap_cons_some h5, List.filterMap_nil, e2], by rw [e3, put_put]⟩)
      (fun h5 => ⟨done ++ [x], by rw [e1, List.append_assoc]; rfl, by rw [List.filterMap_append, List.filterMap_cons_none h5, List.filterMap_nil, List.append_nil, e2], e3⟩)
    exact ⟨a1, a2⟩
/-- the same, the list to be read alone -/
theorem lc_pureF {D : Addr} {G : Store → Prop} {g : PTG} {tt : PTT} {te : PTE} {Q : PQ} {xs : List PV} {ρ : PEnv} {S : Store} (f : PV → Option PV) (hl : xs.length ≤ sizeLine) (hD : S D = none)
    (hs : ∀ x ∈ xs, ∀ (S' : Store) (R1 : PQ) (R0 : Store → Prop), (∀ b, b ≠ D → S' b = S b) → (∀ y, f x = some y → R1 y S') → (f x = none → R0 S') → G S' ∧ g x ρ S' fun ρ2 S2 => tt ρ2 S2 fun b S3 => match b with
      | true => te ρ2 S3 R1
      | false => R0 S3)
    (h0 : ∀ S', (∀ b, b ≠ D → S' b = S b) → G S') (hq : Q (.lst (xs.filterMap f)) S) : lcI false D G g tt te Q xs ρ S :=
  lc_pure f hl hs (h0 _ fun b hb => put_ne hb) (by show Q _ _; rwa [rmv_put hD])
/-! ### what can be walked by number -/
theorem signs_len (z : Str) : (signs z).length = z.length := by
  unfold signs
  rw [List.length_map]
  rfl
theorem rows_len {x : PV} {xs : List PV} {S : Store} (h : rows x S = some xs) (hl : xs.length ≤ 16777216) : lenO S x = some xs.length := by
  cases x with
  | str z =>
    cases h
    rw [signs_len] at hl ⊢
    unfold lenO
    exact if_pos hl
  | tup xs => cases h; rfl
  | lst xs => cases h; rfl
  | ref a =>
    simp only [rows, seqL] at h
    simp only [lenO]
    split at h
    · cases h
      rename_i q
      rw [q]
    · cases h
  | _ => cases h
theorem rows_ix {x : PV} {xs : List PV} {S : Store} {Q : PQ} {i : Int} (h : rows x S = some xs) (hl : xs.length ≤ 16777216) (h1 : 0 ≤ i) (h2 : i < (xs.length : Nat)) (q : ∀ y ∈ xs, Q y S) : ixP x (.int i) S Q := by
  obtain ⟨k, rfl⟩ := Int.eq_ofNat_of_zero_le h1
  have h3 : k < xs.length := by omega
  have at1 : ∀ {α : Type} (ys : List α) (hk : k < ys.length), atI ys (k : Int) = some ys[k] := fun ys hk => by simp [atI, ixN, hk]
  have gen : seqO S x = some xs → (match seqO S x with | some xs => (match atI xs (k : Int) with | some y => Q y S | none => False) | none => False) := fun e => by
    rw [e]
    simp only [at1 xs h3]
    exact q _ (List.getElem_mem h3)
  cases x with
  | str z =>
    cases h
    have h4 : k < z.cps.toList.length := by
      have : (signs z).length = z.cps.toList.length := by unfold signs; rw [List.length_map]
      omega
    rw [signs_len] at hl
    refine ⟨hl, ?_⟩
    rw [at1 _ h4]
    exact q _ (List.mem_map.mpr ⟨_, List.getElem_mem h4, rfl⟩)
  | tup xs => cases h; exact gen rfl
  | lst xs => cases h; exact gen rfl
  | ref a => exact gen h
  | _ => cases h
theorem rows_put {x : PV} {xs : List PV} {S : Store} {p : Addr} {φ : Nat → RStore → Prop} {n : Nat} {m : MO} (e : S p = some (.abs φ n)) (h : rows x S = some xs) : rows x (put S p m) = some xs := by
  cases x with
  | ref a =>
    simp only [rows, seqL, rdS] at h ⊢
    by_cases z : a = p
    · subst z
      rw [e] at h
      cases h
    · rw [put_ne z]
      exact h
  | _ => exact h
end L2.Pv

/-! P13: values small enough to be shown. -/
namespace L2.Pv
open PySem PySem.Spec PyProof.Rows L2
def okS (n : Nat) (z : Str) : Prop := z.length ≤ n ∧ ∀ c ∈ z.cps.toList, c < 16 ^ 8
theorem okS.mono {n m : Nat} {z : Str} (h : okS n z) (e : n ≤ m) : okS m z := ⟨Nat.le_trans h.1 e, h.2⟩
theorem okS.lit {n : Nat} {z : Str} (h : (decide (z.length ≤ n) && z.cps.toList.all fun c => decide (c < 16 ^ 8)) = true) : okS n z := by
  rw [Bool.and_eq_true] at h
  exact ⟨of_decide_eq_true h.1, fun c hc => of_decide_eq_true (List.all_eq_true.mp h.2 c hc)⟩
theorem okS.app {n m : Nat} {x y : Str} (h : okS n x) (k : okS m y) : okS (n + m) (x ++ y) := by
  have e : (x ++ y).cps = x.cps ++ y.cps := rfl
  refine ⟨?_, fun c hc => ?_⟩
  · show (x ++ y).cps.size ≤ _
    rw [e, Array.size_append]
    exact Nat.add_le_add h.1 k.1
  · rw [e, Array.toList_append] at hc
    exact (List.mem_append.mp hc).elim (h.2 c) (k.2 c)
theorem okS.slice {n : Nat} {z : Str} (h : okS n z) (l u : Option Int) : okS n (Txt.slice z l u) := by
  unfold Txt.slice
  split
  · exact h
  · refine ⟨?_, fun c hc => ?_⟩
    · show Array.size _ ≤ _
      rw [List.size_toArray]
      exact Nat.le_trans (List.length_filterMap_le _ _) (Nat.le_trans (sliceIndices_le l u z.length) h.1)
    · rw [List.toList_toArray] at hc
      obtain ⟨i, _, e⟩ := List.mem_filterMap.mp hc
      obtain ⟨q, r⟩ := Array.getElem?_eq_some_iff.mp e
      exact h.2 c (by rw [← r]; exact Array.getElem_mem_toList q)
theorem okS.join : ∀ {bs : List Str}, (∀ x ∈ bs, okS 1 x) → okS bs.length (Txt.join "" bs) := by
  intro bs h
  rw [TL.join_eq]
  induction bs with
  | nil => exact ⟨Nat.le_refl 0, fun c hc => by cases hc⟩
  | cons x r ih =>
    cases r with
    | nil => exact h x List.mem_cons_self
    | cons y r =>
      have i := ih fun z hz => h z (List.mem_cons_of_mem _ hz)
      have e : okS 0 ("" : Str) := .lit (by decide +kernel)
      have k := ((h x List.mem_cons_self).app e).app i
      exact k.mono (by have := List.length_cons (a := x) (as := y :: r); omega)
def Fit (dp wt : Nat) (x : PV) : Prop := ∃ d, toR x = some d ∧ d.leavesShort 60 = true ∧ d.showable = true ∧ d.depth ≤ dp ∧ d.weight ≤ wt
theorem Fit.mono {a b c e : Nat} {x : PV} (h : Fit a b x) (h1 : a ≤ c) (h2 : b ≤ e) : Fit c e x := by
  obtain ⟨d, k1, k2, k3, k4, k5⟩ := h
  exact ⟨d, k1, k2, k3, Nat.le_trans k4 h1, Nat.le_trans k5 h2⟩
theorem Fit.fine {a b : Nat} {x : PV} (h : Fit a b x) (h1 : a ≤ 64) (h2 : b ≤ 200000) : FineR x := by
  obtain ⟨d, k1, k2, k3, k4, k5⟩ := h
  exact ⟨d, k1, k2, k3, Nat.le_trans k4 h1, Nat.le_trans k5 h2⟩
theorem fit_non {a b : Nat} : Fit a b .non := ⟨.none, rfl, rfl, rfl, Nat.zero_le _, Nat.zero_le _⟩
theorem fit_bl {a b : Nat} {k : Bool} : Fit a b (.bl k) := ⟨.bool k, rfl, rfl, rfl, Nat.zero_le _, Nat.zero_le _⟩
theorem fit_str {a n : Nat} {z : Str} (h : okS n z) : Fit a n (.str z) :=
  ⟨.str z, rfl, List.all_eq_true.mpr fun c hc => decide_eq_true (h.2 c hc), rfl, Nat.zero_le _, h.1⟩
theorem fit_int {a : Nat} {i : Int} (h : i.natAbs < 10 ^ 50) : Fit a 200 (.int i) := by
  have hlog : i.natAbs.log2 < 199 := by
    by_cases z : i.natAbs = 0
    · rw [z]; decide
    · exact (Nat.log2_lt z).mpr (Nat.lt_of_lt_of_le h (by decide))
  have len : ∀ k : Int, 0 ≤ k → k.natAbs < 10 ^ 50 → (Str.ofString (toString k)).length ≤ 50 := fun k h0 h1 => toString_length_le h0 (by decide) (by omega)
  refine ⟨.int i, rfl, decide_eq_true ?_, decide_eq_true (Nat.lt_trans hlog (by decide)), Nat.zero_le _, ?_⟩
  · show (Str.ofString (toString i)).length ≤ 60
    by_cases z : i < 0
    · rw [len_text_neg z]
      have := len (0 - i) (by omega) (by omega)
      omega
    · have := len i (by omega) h
      omega
  · show (if (i == 0) = true then 0 else i.natAbs.log2 + 1) ≤ 200
    split
    · exact Nat.zero_le _
    · omega
theorem fits_all {a b : Nat} : ∀ {xs : List PV}, (∀ x ∈ xs, Fit a b x) → ∃ ds, toRs xs = some ds ∧ PyData.leavesShortAll 60 ds = true ∧ PyData.showableAll ds = true ∧ PyData.depthAll ds ≤ a ∧ PyData.weightAll ds ≤ (b + 1) * xs.length
  | [], _ => ⟨[], rfl, rfl, rfl, Nat.zero_le _, Nat.zero_le _⟩
  | x :: xs, h => by
    obtain ⟨d, k1, k2, k3, k4, k5⟩ := h x List.mem_cons_self
    obtain ⟨ds, m1, m2, m3, m4, m5⟩ := fits_all fun y hy => h y (List.mem_cons_of_mem _ hy)
    refine ⟨d :: ds, by unfold toRs; rw [k1, m1], ?_, ?_, ?_, ?_⟩
    · simp only [PyData.leavesShortAll, k2, m2, Bool.and_self]
    · simp only [PyData.showableAll, k3, m3, Bool.and_self]
    · simp only [PyData.depthAll]; omega
    · simp only [PyData.weightAll, List.length_cons, Nat.mul_add]; omega
theorem fit_tup {a b : Nat} {xs : List PV} (h : ∀ x ∈ xs, Fit a b x) : Fit (a + 1) ((b + 1) * xs.length) (.tup xs) := by
  obtain ⟨ds, m1, m2, m3, m4, m5⟩ := fits_all h
  exact ⟨.tuple ds, by unfold toR; rw [m1], by simpa only [PyData.leavesShort] using m2, by simpa only [PyData.showable] using m3, by simp only [PyData.depth]; omega, by simpa only [PyData.weight] using m5⟩
theorem fit_lst {a b : Nat} {xs : List PV} (h : ∀ x ∈ xs, Fit a b x) : Fit (a + 1) ((b + 1) * xs.length) (.lst xs) := by
  obtain ⟨ds, m1, m2, m3, m4, m5⟩ := fits_all h
  exact ⟨.list ds, by unfold toR; rw [m1], by simpa only [PyData.leavesShort] using m2, by simpa only [PyData.showable] using m3, by simp only [PyData.depth]; omega, by simpa only [PyData.weight] using m5⟩
theorem fit_dic0 {a b : Nat} : Fit (a + 1) b (.dic []) := ⟨.dict [], rfl, rfl, rfl, by simp only [PyData.depth, PyData.depthKv]; omega, Nat.zero_le _⟩
/-- plain values: what a fit value can be -/
def plain : PV → Bool
  | .ref _ => false
  | .ty _ => false
  | .scr _ => false
  | _ => true
theorem Fit.plain {a b : Nat} {x : PV} (h : Fit a b x) : plain x = true := by
  obtain ⟨d, k1, _⟩ := h
  cases x <;> first | rfl | cases k1
theorem Fit.str {a b : Nat} {z : Str} (h : Fit a b (.str z)) : z.length ≤ b := by
  obtain ⟨d, k1, _, _, _, k5⟩ := h
  cases k1
  exact k5
theorem Fit.str_ok {a b : Nat} {z : Str} (h : Fit a b (.str z)) : okS b z := by
  obtain ⟨d, k1, k2, _, _, k5⟩ := h
  cases k1
  exact ⟨k5, fun c hc => of_decide_eq_true (List.all_eq_true.mp k2 c hc)⟩
/-- a def that answers by a function, whatever the store -/
def pure1 (D : PV → Prop) (g : PV → PV) : PSp := fun xs S Q _ => match xs with
  | [x] => D x ∧ Q (g x) S
  | _ => False
theorem pure1_len {D : PV → Prop} {g : PV → PV} {ps : List Str} (hp : ps.length = 1 := by rfl) : ∀ xs S Q E, pure1 D g xs S Q E → xs.length = ps.length := by
  intro xs S Q E h
  unfold pure1 at h
  split at h
  · rw [hp]; rfl
  · exact h.elim
theorem kind_int : "int" ∈ kinds := by decide
theorem kind_bool : "bool" ∈ kinds := by decide
theorem kind_str : "str" ∈ kinds := by decide
theorem kind_list : "list" ∈ kinds := by decide
theorem kind_tuple : "tuple" ∈ kinds := by decide
theorem kind_dict : "dict" ∈ kinds := by decide
def isNum : PV → Bool
  | .int _ => true
  | _ => false
def isAmt : PV → Bool
  | .int i => decide (0 ≤ i) && decide (i ≤ 1000000000)
  | _ => false
def isPos : PV → Bool
  | .int i => decide (1 ≤ i)
  | _ => false
def lets : Str := "abcdefghijklmnopqrstuvwxyz"
def inLet : PV → Bool
  | .str c => subS c lets
  | _ => false
def isNam : PV → Bool
  | .str z => decide (1 ≤ z.length) && decide (z.length ≤ 8) && (signs z).all inLet
  | _ => false
def neS : PV → PV → Bool
  | .str x, .str y => !(x == y)
  | _, _ => false
def isSal : PV → Bool
  | .tup [a, b, c, d, e, f, g, h] => isPos a && isAmt d && isAmt e && isAmt f && isNam b && isNam c && isNam g && isNam h && neS b c
  | _ => false
theorem boolsOf_in (xs : List PV) : boolsOf (xs.map fun x => PV.bl (inLet x)) = some (xs.map inLet) := by
  induction xs with
  | nil => rfl
  | cons x xs ih => rw [List.map_cons, boolsOf, ih]; rfl
theorem filterMap_some {α β : Type} (f : α → β) (xs : List α) : xs.filterMap (fun x => some (f x)) = xs.map f := by
  rw [← List.filterMap_eq_map]; rfl
theorem all_id {α : Type} (f : α → Bool) (xs : List α) : (xs.map f).all id = xs.all f := by rw [List.all_map]; rfl
theorem none_bad {α : Type} (f : α → Bool) (xs : List α) : (xs.filterMap fun x => if f x = true then none else some x).isEmpty = xs.all f := by
  induction xs with
  | nil => rfl
  | cons x xs ih =>
    by_cases z : f x = true
    · rw [List.filterMap_cons_none (by rw [if_pos z]), ih, List.all_cons, z, Bool.true_and]
    · rw [List.filterMap_cons_some (by rw [if_neg z]), List.all_cons, Bool.eq_false_iff.mpr z]; rfl
inductive RowC (D : PV → Prop) : PV → Prop
  | tup {xs : List PV} (h : ∀ x ∈ xs, D x) : RowC D (.tup xs)
  | lst {xs : List PV} (h : ∀ x ∈ xs, D x) : RowC D (.lst xs)
theorem eight {xs : List PV} (h : xs.length = 8) : ∃ a b c d e f g i, xs = [a, b, c, d, e, f, g, i] := by
  match xs, h with
  | [a, b, c, d, e, f, g, i], _ => exact ⟨a, b, c, d, e, f, g, i, rfl⟩
theorem not_eight {xs : List PV} (h : xs.length ≠ 8) : isSal (.tup xs) = false := by
  unfold isSal
  split
  · rename_i e
    cases e
    exact absurd rfl h
  · rfl
theorem pow_ok9 : ((0 : Int) ≤ 9 ∧ (9 : Int) ≤ 1000000 ∧ Int.natAbs 10 < 2 ^ 64) = True := by simp
theorem pow_ok18 : ((0 : Int) ≤ 18 ∧ (18 : Int) ≤ 1000000 ∧ Int.natAbs 10 < 2 ^ 64) = True := by simp
theorem pow_ok30 : ((0 : Int) ≤ 30 ∧ (30 : Int) ≤ 1000000 ∧ Int.natAbs 10 < 2 ^ 64) = True := by simp
theorem line_eq : sizeLine = 16777216 := by decide
end L2.Pv

/-! P14: the draws' promises; cuts. -/
namespace L2.Pv
open PySem PySem.Spec PyProof.Rows L2
/-! ### draws -/
def drD (b : Addr) (c : List Int) (r t : Int) : List (PV × PV) := [(.str "wide", .ref b), (.str "cells", .lst (c.map .int)), (.str "rest", .int r), (.str "turn", .int t)]
def drR : Nat → Addr → RO → RO → Prop := fun n b r1 r2 => ∃ (w c : List Int) (r t : Int), r1 = .dic (drD b c r t) ∧ r2 = .lst (w.map .int) ∧ 0 ≤ r ∧ (∀ x ∈ w, 0 ≤ x) ∧ c ≠ [] ∧ c.length ≤ 63 ∧ w.length ≤ 63 ∧ 0 ≤ t ∧ t ≤ n
abbrev drw (p : Addr) (n : Nat) : MO := .abs (pairA p drR) n
inductive SpTake : PSp
  | mk {p : Addr} {m : Int} {n : Nat} {S : Store} {Q : PQ} {E : PX → Store → Prop} (e : S p = some (drw p n)) (h1 : 0 < m) (h2 : m < 1073741824) (hn : n < 1048576) (q : ∀ r, 0 ≤ r → r < m → Q (.int r) (put S p (drw p (n + 1)))) : SpTake [.ref p, .int m] S Q E
inductive SpTakeI : PSp
  | mk {p b : Addr} {m : Int} {n : Nat} {w c : List Int} {r t : Int} {S : Store} {Q : PQ} {E : PX → Store → Prop} (nb : b ≠ p) (hr : 0 ≤ r) (hw : ∀ x ∈ w, 0 ≤ x) (hc : c ≠ []) (hc2 : c.length ≤ 63) (hw2 : w.length ≤ 63) (ht : 0 ≤ t) (htn : t ≤ n) (h1 : 0 < m) (h2 : m < 1073741824) (hn : n < 1048576)
    (q : ∀ (v : Int) (w' : List Int) (r' t' : Int), 0 ≤ v → v < m → 0 ≤ r' → (∀ x ∈ w', 0 ≤ x) → w'.length ≤ 63 → 0 ≤ t' → t' ≤ (n + 1 : Nat) → Q (.int v) (put (put S p (.raw (.dic (drD b c r' t')))) b (.raw (.lst (w'.map .int))))) : SpTakeI [.ref p, .int m] (put (put S p (.raw (.dic (drD b c r t)))) b (.raw (.lst (w.map .int)))) Q E
theorem drD_wide {b : Addr} {c : List Int} {r t : Int} : dget (.inr "wide") (drD b c r t) = some (.ref b) := rfl
theorem drD_cells {b : Addr} {c : List Int} {r t : Int} : dget (.inr "cells") (drD b c r t) = some (.lst (c.map .int)) := rfl
theorem drD_rest {b : Addr} {c : List Int} {r t : Int} : dget (.inr "rest") (drD b c r t) = some (.int r) := rfl
theorem drD_turn {b : Addr} {c : List Int} {r t : Int} : dget (.inr "turn") (drD b c r t) = some (.int t) := rfl
theorem drD_setR {b : Addr} {c : List Int} {r t z : Int} : dput (.inr "rest") (.int z) (drD b c r t) = drD b c z t := rfl
theorem drD_setT {b : Addr} {c : List Int} {r t z : Int} : dput (.inr "turn") (.int z) (drD b c r t) = drD b c r z := rfl
theorem drD_len {b : Addr} {c : List Int} {r t : Int} : (drD b c r t).length = 4 := rfl
theorem put_ab {S : Store} {p b : Addr} {x y z : MO} (h : b ≠ p) : put (put (put S p x) b y) p z = put (put S p z) b y := by
  rw [put_comm h, put_put]
theorem cell_at {c : List Int} {t : Int} (hc : c ≠ []) (ht : 0 ≤ t) : ∃ x, atI (c.map PV.int) (t % ((c.map PV.int).length : Nat)) = some (.int x) := by
  have h := List.length_pos_iff.mpr hc
  rw [List.length_map]
  have h1 := Int.emod_nonneg t (b := (c.length : Int)) (by omega)
  have h2 := Int.emod_lt_of_pos t (b := (c.length : Int)) (by omega)
  obtain ⟨k, hk⟩ := Int.eq_ofNat_of_zero_le h1
  rw [hk] at h2 ⊢
  have h3 : k < c.length := by omega
  exact ⟨c[k], by simp [atI, ixN, h3]⟩
theorem mix_lt {a b t : Int} (h0 : 0 ≤ t) (h1 : t ≤ 1048576) : (a % 2147483587 + b % 998244353 * t + 7919 * t * t).natAbs < 2 ^ 64 := by
  have e1 := Int.emod_nonneg a (b := 2147483587) (by omega)
  have e2 := Int.emod_lt_of_pos a (b := 2147483587) (by omega)
  have e3 := Int.emod_nonneg b (b := 998244353) (by omega)
  have e4 := Int.emod_lt_of_pos b (b := 998244353) (by omega)
  generalize a % 2147483587 = u at *
  generalize b % 998244353 = v at *
  have m1 : v * t ≤ 998244353 * 1048576 := Int.mul_le_mul (by omega) h1 h0 (by omega)
  have m2 : 7919 * t * t ≤ 7919 * 1048576 * 1048576 := Int.mul_le_mul (by omega) h1 h0 (by omega)
  have m3 : 0 ≤ v * t := Int.mul_nonneg e3 h0
  have m4 : 0 ≤ 7919 * t * t := Int.mul_nonneg (by omega) h0
  omega
def wideB (i : Int) : Bool := decide (1000000000000000000 ≤ if i < 0 then -i else i)
def wideV (i : Int) : Int := (if i < 0 then -i else i) - 1000000000000000000
def wideF : PV → Option PV
  | .int i => if wideB i = true then some (.int (wideV i)) else none
  | _ => none
inductive SpBegunI : PSp
  | mk {ns : List Int} {S : Store} {Q : PQ} {E : PX → Store → Prop} (h : ns.length ≤ 63) (q : ∀ (p b : Addr) (w c : List Int), b ≠ p → S p = none → S b = none → (∀ x ∈ w, 0 ≤ x) → c ≠ [] → c.length ≤ 63 → w.length ≤ 63 → Q (.ref p) (put (put S b (.raw (.lst (w.map .int)))) p (.raw (.dic (drD b c 0 0))))) :
      SpBegunI [.scr (ns.map .int)] S Q E
inductive SpBegun : PSp
  | mk {ns : List Int} {S : Store} {Q : PQ} {E : PX → Store → Prop} (h : ns.length ≤ 63) (q : ∀ p, S p = none → Q (.ref p) (put S p (drw p 0))) : SpBegun [.scr (ns.map .int)] S Q E
inductive SpPick : PSp
  | mk {p : Addr} {x : PV} {xs : List PV} {n : Nat} {S : Store} {Q : PQ} {E : PX → Store → Prop} (e : S p = some (drw p n)) (hx : rows x S = some xs) (h0 : xs ≠ []) (hl : xs.length ≤ 16777216) (hn : n < 1048576) (q : ∀ y ∈ xs, Q y (put S p (drw p (n + 1)))) : SpPick [.ref p, x] S Q E
inductive SpAmount : PSp
  | mk {p : Addr} {n : Nat} {S : Store} {Q : PQ} {E : PX → Store → Prop} (e : S p = some (drw p n)) (hn : n < 1000000) (q : ∀ r : Int, 0 ≤ r → r ≤ 1000000000 → Q (.int r) (put S p (drw p (n + 6)))) : SpAmount [.ref p] S Q E
def NameOk (z : Str) : Prop := 1 ≤ z.length ∧ z.length ≤ 8 ∧ ∀ c ∈ z.cps.toList, 97 ≤ c ∧ c ≤ 122
inductive SpNames : PSp
  | mk {p : Addr} {k : Int} {n : Nat} {S : Store} {Q : PQ} {E : PX → Store → Prop} (e : S p = some (drw p n)) (h0 : 0 ≤ k) (hk : k ≤ 20) (hn : n < 500000)
      (q : ∀ (ws : List Str) (m : Nat), ws.length = k.toNat → ws.Nodup → (∀ w ∈ ws, NameOk w) → m ≤ n + 12 * k.toNat → Q (.lst (ws.map .str)) (put S p (drw p m))) : SpNames [.ref p, .int k] S Q E
def wordsL : List PV := [.str "add", .str "sell", .str "revoke", .str "refunder", .str "none", .str "no", .str "yes", .str "ok", .str "vase", .str "a", .str "aa", .str "zzzzzzzz"]

/-! ### a cut between statements -/
def wCut (t u : PTS) : PTS := fun P ρ S => ∃ M : PEnv → Store → Prop, t { P with nx := M } ρ S ∧ ∀ ρ' S', M ρ' S' → u P ρ' S'
theorem wss_cut {X : Cx} {F0 : Hp} {st : Stmt} {rest : List Stmt} {t u : PTS} (h1 : WS X F0 st t) (h2 : WSs X F0 rest u) : WSs X F0 (st :: rest) (wCut t u) :=
  ⟨pssImp (C8.pss_cut h1.ps h2.pss) fun D σ H ⟨F, ρ, S, P, at_, ⟨M, hm, hu⟩, le⟩ =>
    ⟨fun σ' H' => ∃ F1 ρ1 S1, Same F F1 ∧ At X.K F0 F1 ρ1 S1 σ' H' ∧ M ρ1 S1, ⟨F, ρ, S, _, at_, hm, ⟨fun ρ1 S1 q F1 σ1 H1 e1 a1 => ⟨F1, ρ1, S1, e1, a1, q⟩, le.rt, le.bk, le.ct⟩⟩, fun σ' H' ⟨F1, ρ1, S1, e1, a1, q⟩ => ⟨F1, ρ1, S1, P, a1, hu _ _ q, le.mono e1⟩⟩⟩
/-- [pick(state, text) for .. in ..] -/
theorem lc_letters {D p : Addr} {m i : Nat} {S : Store} {ρ : PEnv} {Q : PQ} {xs : List PV} {z : Str} {te : PTE} (hD : S D = none) (e : S p = some (drw p m)) (hm : m + xs.length < 1048576) (hl : xs.length ≤ 16777216)
    (hte : ∀ x S' (Q' : PQ) m', S' p = some (drw p m') → m' < 1048576 → (∀ c ∈ signs z, Q' c (put S' p (drw p (m' + 1)))) → te (stV ρ i (some x)) S' Q')
    (hq : ∀ bs : List Str, bs.length = xs.length → (∀ b ∈ bs, PV.str b ∈ signs z) → Q (.lst (bs.map .str)) (put S p (drw p (m + xs.length)))) : lcI false D (fun _ => True) (wgN i) wYes te Q xs ρ S := by
  have nb : D ≠ p := fun z => by rw [z, e] at hD; cases hD
  have e0 : put S p (drw p m) = S := by
    funext b
    by_cases z : b = p
    · rw [z, put_same, e]
    · rw [put_ne z]
  refine ⟨fun r acc S' => ∃ bs : List Str, bs.length + r.length = xs.length ∧ acc = bs.map .str ∧ (∀ b ∈ bs, PV.str b ∈ signs z) ∧ S' = put (put S p (drw p (m + bs.length))) D (.raw (.lst acc)), ⟨[], by simp, rfl, (fun _ h => nomatch h), by simp [e0]⟩, ?_, ?_⟩
  · rintro acc S' ⟨bs, h1, rfl, h3, rfl⟩
    refine ⟨trivial, put_same, ?_⟩
    show Q _ _
    rw [rmv_put (by rw [put_ne nb]; exact hD)]
    have := hq bs (by simpa using h1) h3
    rwa [show xs.length = bs.length by simpa using h1.symm] at this
  · rintro x r acc S' ⟨bs, h1, rfl, h3, rfl⟩
    rw [List.length_cons] at h1
    refine ⟨trivial, ?_⟩
    show te (stV ρ i (some x)) _ _
    refine hte x _ _ (m + bs.length) (by rw [put_ne nb.symm, put_same]) (by omega) fun c hc => ?_
    obtain ⟨n, hn, rfl⟩ := List.mem_map.mp hc
    refine ⟨by rw [put_ab nb, put_same], by rw [List.length_map, line_eq]; omega, bs ++ [⟨#[n]⟩], by rw [List.length_append]; simp; omega, by simp, ?_, ?_⟩
    · intro b hb
      rcases List.mem_append.mp hb with hb | hb
      · exact h3 b hb
      · rw [List.mem_singleton] at hb
        subst hb
        exact List.mem_map.mpr ⟨n, hn, rfl⟩
    · rw [put_ab nb, put_put]
      simp only [List.length_append, List.length_cons, List.length_nil, List.map_append, List.map_cons, List.map_nil, put_put]
      rfl
end L2.Pv

/-! P15: names drawn. -/
namespace L2.Pv
open PySem PySem.Spec PyProof.Rows L2
theorem cps_app (x y : Str) : (x ++ y).cps.toList = x.cps.toList ++ y.cps.toList := by
  show (x.cps ++ y.cps).toList = _
  rw [Array.toList_append]
theorem len_app (x y : Str) : (x ++ y).length = x.length + y.length := by
  show (x.cps ++ y.cps).size = _
  rw [Array.size_append]; rfl
theorem len_cps (x : Str) : x.length = x.cps.toList.length := by
  show x.cps.size = _
  simp
theorem str_ext {x y : Str} (h : x.cps.toList = y.cps.toList) : x = y := by
  cases x; cases y
  exact congrArg Str.mk (Array.toList_inj.mp h)
def lowS (z : Str) : Prop := ∀ c ∈ z.cps.toList, 97 ≤ c ∧ c ≤ 122
theorem lowS.app {x y : Str} (h : lowS x) (k : lowS y) : lowS (x ++ y) := fun c hc => by
  rw [cps_app] at hc
  exact (List.mem_append.mp hc).elim (h c) (k c)
theorem lets_low : lowS lets := by unfold lowS; decide +kernel
theorem letter_ok {b : Str} (h : PV.str b ∈ signs lets) : b.length = 1 ∧ lowS b := by
  obtain ⟨c, hc, e⟩ := List.mem_map.mp h
  cases e
  exact ⟨rfl, fun d hd => by rw [List.mem_singleton.mp hd]; exact lets_low c hc⟩
theorem cut7 (w : Str) : (Txt.slice w none (some 7)).cps.toList = w.cps.toList.take 7 := by
  have h : w = SX.S w.cps.toList := str_ext rfl
  have := SX.slice_to (a := w.cps.toList) (i := 7) (by decide)
  rw [← h] at this
  rw [this]
  rfl
theorem join_cons (x : Str) (r : List Str) : (Txt.join "" (x :: r)).cps.toList = x.cps.toList ++ (Txt.join "" r).cps.toList := by
  rw [TL.join_eq, TL.join_eq]
  cases r with
  | nil =>
    show x.cps.toList = x.cps.toList ++ []
    rw [List.append_nil]
  | cons y r =>
    show (x ++ ("" : Str) ++ Str.join "" (y :: r)).cps.toList = _
    rw [cps_app, cps_app]
    have : ("" : Str).cps.toList = [] := by decide +kernel
    rw [this, List.append_nil]
theorem join_letters {bs : List Str} (h : ∀ b ∈ bs, PV.str b ∈ signs lets) : (Txt.join "" bs).length = bs.length ∧ lowS (Txt.join "" bs) := by
  induction bs with
  | nil => exact ⟨by decide +kernel, by unfold lowS; decide +kernel⟩
  | cons x r ih =>
    obtain ⟨h1, h2⟩ := ih fun b hb => h b (List.mem_cons_of_mem _ hb)
    obtain ⟨h3, h4⟩ := letter_ok (h x List.mem_cons_self)
    rw [len_cps] at h1 h3
    refine ⟨?_, fun c hc => ?_⟩
    · rw [len_cps, join_cons, List.length_append, h1, h3, List.length_cons]
      omega
    · rw [join_cons] at hc
      exact (List.mem_append.mp hc).elim (h4 c) (h2 c)
theorem join_sum {z : Str} {bs : List Str} (h : ∀ b ∈ bs, b.length = 1) : (bs.map fun x => x.length).sum + bs.length * ("" : Str).length = bs.length := by
  have e : ("" : Str).length = 0 := by decide +kernel
  rw [e, Nat.mul_zero, Nat.add_zero]
  induction bs with
  | nil => rfl
  | cons x r ih =>
    rw [List.map_cons, List.sum_cons, h x List.mem_cons_self, ih fun b hb => h b (List.mem_cons_of_mem _ hb), List.length_cons]
    omega
theorem name_join {bs : List Str} (h : ∀ b ∈ bs, PV.str b ∈ signs lets) (h1 : 1 ≤ bs.length) (h2 : bs.length ≤ 8) : NameOk (Txt.join "" bs) := by
  obtain ⟨a, b⟩ := join_letters h
  exact ⟨by omega, by omega, b⟩
theorem name_cut {w l : Str} (h : NameOk w) (hl : PV.str l ∈ signs lets) : NameOk (Txt.slice w none (some 7) ++ l) := by
  obtain ⟨a, b⟩ := letter_ok hl
  have e : (Txt.slice w none (some 7)).length ≤ 7 := by
    rw [len_cps, cut7, List.length_take]
    omega
  refine ⟨by rw [len_app]; omega, by rw [len_app]; omega, lowS.app (fun c hc => ?_) b⟩
  rw [cut7] at hc
  exact h.2.2 c (List.mem_of_mem_take hc)
theorem app_inj {x y z : Str} (h : x ++ y = x ++ z) : y = z := by
  have := congrArg (fun s : Str => s.cps.toList) h
  simp only [cps_app] at this
  exact str_ext (List.append_cancel_left this)
theorem pigeon {α : Type} [DecidableEq α] : ∀ {l m : List α}, l.Nodup → (∀ x ∈ l, x ∈ m) → l.length ≤ m.length
  | [], _, _, _ => Nat.zero_le _
  | x :: l, m, h, hs => by
    rw [List.nodup_cons] at h
    have hx := hs x List.mem_cons_self
    have ih := pigeon (l := l) (m := m.erase x) h.2 fun y hy => (List.mem_erase_of_ne (fun z => h.1 (by rw [← z]; exact hy))).mpr (hs y (List.mem_cons_of_mem _ hy))
    rw [List.length_erase_of_mem hx] at ih
    have := List.length_pos_of_mem hx
    rw [List.length_cons]
    omega
def lettersS : List Str := lets.cps.toList.map fun c => ⟨#[c]⟩
theorem signs_lets : signs lets = lettersS.map .str := by unfold lettersS signs; rw [List.map_map]; rfl
theorem free_letter {w : Str} {ws : List Str} (h : ws.length < 26) : ∃ l ∈ lettersS, Txt.slice w none (some 7) ++ l ∉ ws := by
  by_cases z : ∃ l ∈ lettersS, Txt.slice w none (some 7) ++ l ∉ ws
  · exact z
  · exfalso
    have nd : lettersS.Nodup := by decide +kernel
    have len : lettersS.length = 26 := by decide +kernel
    have nd2 : (lettersS.map fun l => Txt.slice w none (some 7) ++ l).Nodup := List.Pairwise.map _ (fun a b hab e => hab (app_inj e)) nd
    have := pigeon nd2 (m := ws) fun x hx => by
      obtain ⟨l, hl, rfl⟩ := List.mem_map.mp hx
      by_cases y : Txt.slice w none (some 7) ++ l ∈ ws
      · exact y
      · exact absurd ⟨l, hl, y⟩ z
    rw [List.length_map, len] at this
    omega
def freshF (w : Str) (ws : List Str) : PV → Option PV
  | .str l => if Txt.slice w none (some 7) ++ l ∈ ws then none else some (.str (Txt.slice w none (some 7) ++ l))
  | _ => none
theorem fresh_first {w : Str} {ws : List Str} (h : ws.length < 26) : ∃ l r, (signs lets).filterMap (freshF w ws) = .str (Txt.slice w none (some 7) ++ l) :: r ∧ PV.str l ∈ signs lets ∧ Txt.slice w none (some 7) ++ l ∉ ws := by
  obtain ⟨l0, h0, n0⟩ := free_letter (w := w) h
  cases q : (signs lets).filterMap (freshF w ws) with
  | nil =>
    exfalso
    have : PV.str (Txt.slice w none (some 7) ++ l0) ∈ (signs lets).filterMap (freshF w ws) := List.mem_filterMap.mpr ⟨.str l0, by rw [signs_lets]; exact List.mem_map.mpr ⟨l0, h0, rfl⟩, if_neg n0⟩
    rw [q] at this
    cases this
  | cons x r =>
    have hx : x ∈ (signs lets).filterMap (freshF w ws) := by rw [q]; exact List.mem_cons_self
    obtain ⟨y, hy, e⟩ := List.mem_filterMap.mp hx
    rw [signs_lets] at hy
    obtain ⟨l, hl, rfl⟩ := List.mem_map.mp hy
    by_cases z : Txt.slice w none (some 7) ++ l ∈ ws
    · rw [show freshF w ws (.str l) = none from if_pos z] at e; cases e
    · rw [show freshF w ws (.str l) = some _ from if_neg z] at e
      cases e
      exact ⟨l, r, rfl, by rw [signs_lets]; exact List.mem_map.mpr ⟨l, hl, rfl⟩, z⟩
theorem inF_strs (w : Str) (ws : List Str) : inF (.str w) (ws.map .str) = decide (w ∈ ws) := by
  unfold inF
  induction ws with
  | nil => rfl
  | cons x r ih =>
    rw [List.map_cons, List.any_cons, ih]
    show (x == w || _) = _
    by_cases z : x = w
    · subst z; simp
    · rw [beq_false_of_ne z, Bool.false_or]
      exact decide_eq_decide.mpr ⟨fun h => List.mem_cons_of_mem _ h, fun h => (List.mem_cons.mp h).elim (fun e => absurd e.symm z) id⟩
theorem memP_strs {S : Store} {a : Addr} {w : Str} {ws : List Str} (h : rdS S a = some (.lst (ws.map .str))) : memP (.str w) (.ref a) S = some (decide (w ∈ ws)) := by
  have e : seqL S (.ref a) = some (ws.map .str) := by simp only [seqL, h]
  have f : (ws.map PV.str).all flatP = true := List.all_eq_true.mpr fun x hx => by
    obtain ⟨y, _, rfl⟩ := List.mem_map.mp hx
    rfl
  show (match seqL S (.ref a) with | some ys => _ | none => _) = _
  rw [e]
  simp only [flatP, f, Bool.and_self, if_true, inF_strs]
theorem words_ok : ∀ y ∈ wordsL, ∃ w, y = .str w ∧ NameOk w := by
  intro y hy
  simp only [wordsL, List.mem_cons, List.not_mem_nil, or_false] at hy
  rcases hy with rfl | rfl | rfl | rfl | rfl | rfl | rfl | rfl | rfl | rfl | rfl | rfl <;> exact ⟨_, rfl, by unfold NameOk; decide +kernel⟩
theorem rng_len (i : Int) (n : Nat) : (rngP i n).length = n := by unfold rngP; rw [List.length_map, List.length_range]
theorem lets_ne : signs lets ≠ [] := fun h => by
  have h2 := congrArg List.length h
  rw [signs_len] at h2
  exact absurd h2 (by decide +kernel)
theorem lets_len : (signs lets).length ≤ 16777216 := by rw [signs_len]; decide +kernel
theorem atI_zero {α : Type} (x : α) (r : List α) : atI (x :: r) 0 = some x := by
  have h : (0 : Int) < ((x :: r).length : Nat) := by rw [List.length_cons]; omega
  simp [atI, ixN, h]
structure SaleR where
  num : Int
  seller : Str
  buyer : Str
  price : Int
  pen : Int
  time : PV
  refunder : Str
  guarantor : Str
def SaleR.pv (r : SaleR) : PV := .tup [.int r.num, .str r.seller, .str r.buyer, .int r.price, .int r.pen, r.time, .str r.refunder, .str r.guarantor]
structure RowOk (ws : List Str) (ts : List PV) (r : SaleR) : Prop where
  pos : 1 ≤ r.num
  seller : r.seller ∈ ws
  buyer : r.buyer ∈ ws
  ne : r.seller ≠ r.buyer
  price : 0 ≤ r.price ∧ r.price ≤ 1000000000
  pen : 0 ≤ r.pen ∧ r.pen ≤ 1000000000
  time : r.time ∈ ts
  refunder : r.refunder ∈ ws
  guarantor : r.guarantor ∈ ws
/-- rows in their order; num and sl are the last number and the next seller -/
structure RowsOk (ws : List Str) (ts : List PV) (num : Int) (sl : Str) (rs : List SaleR) : Prop where
  all : ∀ r ∈ rs, RowOk ws ts r ∧ r.num ≤ num
  up : rs.Pairwise fun a b => a.num < b.num
  next : ∀ i a b, rs[i]? = some a → rs[i + 1]? = some b → a.buyer = b.seller
  last : ∀ a, rs.getLast? = some a → a.buyer = sl
theorem rows0 {ws : List Str} {ts : List PV} {num : Int} {sl : Str} : RowsOk ws ts num sl [] := ⟨(fun _ h => nomatch h), .nil, (fun _ _ _ h => by simp at h), (fun _ h => by simp at h)⟩
theorem RowsOk.snoc {ws : List Str} {ts : List PV} {num : Int} {sl : Str} {rs : List SaleR} {r : SaleR} (h : RowsOk ws ts num sl rs) (hr : RowOk ws ts r) (h1 : num < r.num) (h2 : r.seller = sl) : RowsOk ws ts r.num r.buyer (rs ++ [r]) := by
  refine ⟨fun x hx => ?_, ?_, fun i a b ha hb => ?_, fun a ha => ?_⟩
  · rcases List.mem_append.mp hx with hx | hx
    · exact ⟨(h.all x hx).1, by have := (h.all x hx).2; omega⟩
    · rw [List.mem_singleton] at hx
      subst hx
      exact ⟨hr, Int.le_refl _⟩
  · rw [List.pairwise_append]
    refine ⟨h.up, by simp, fun x hx y hy => ?_⟩
    rw [List.mem_singleton] at hy
    subst hy
    have := (h.all x hx).2
    omega
  · by_cases z : i + 1 < rs.length
    · rw [List.getElem?_append_left (by omega)] at ha hb
      exact h.next i a b ha hb
    · by_cases y : i + 1 = rs.length
      · rw [List.getElem?_append_left (by omega)] at ha
        rw [List.getElem?_append_right (by omega), y, Nat.sub_self] at hb
        cases hb
        rw [h2]
        refine h.last a ?_
        rw [List.getLast?_eq_getElem?, ← ha]
        congr 1
        omega
      · rw [List.getElem?_append_right (by omega)] at hb
        have : i + 1 - rs.length ≠ 0 := by omega
        obtain ⟨j, hj⟩ := Nat.exists_eq_succ_of_ne_zero this
        rw [hj] at hb
        cases hb
  · rw [List.getLast?_append, List.getLast?_singleton] at ha
    cases ha
    rfl
inductive SpSales : PSp
  | mk {p : Addr} {ws : List Str} {k : Int} {ts : List PV} {n : Nat} {S : Store} {Q : PQ} {E : PX → Store → Prop} (e : S p = some (drw p n)) (hw : ws.Nodup) (h2 : 2 ≤ ws.length) (hw20 : ws.length ≤ 20) (h0 : 0 ≤ k) (hk : k ≤ 20) (ht : ts ≠ []) (htl : ts.length ≤ 16777216) (hn : n < 500000)
      (q : ∀ (rs : List SaleR) (m : Nat) (num : Int) (sl : Str), rs.length = k.toNat → RowsOk ws ts num sl rs → num ≤ 52 * k → m ≤ n + 1 + 20 * k.toNat → Q (.lst (rs.map SaleR.pv)) (put S p (drw p m))) : SpSales [.ref p, .lst (ws.map .str), .int k, .lst ts] S Q E
def otherF (s : Str) : PV → Option PV
  | .str z => if z = s then none else some (.str z)
  | _ => none
theorem others {s : Str} {ws : List Str} : (ws.map PV.str).filterMap (otherF s) = (ws.filter fun z => decide (z ≠ s)).map .str := by
  induction ws with
  | nil => rfl
  | cons x r ih =>
    by_cases z : x = s
    · rw [List.map_cons, List.filterMap_cons_none (show otherF s (.str x) = none from if_pos z), ih, List.filter_cons_of_neg (by simpa using z)]
    · rw [List.map_cons, List.filterMap_cons_some (show otherF s (.str x) = some (.str x) from if_neg z), ih, List.filter_cons_of_pos (by simpa using z), List.map_cons]
theorem others_ne {s : Str} {ws : List Str} (h : ws.Nodup) (h2 : 2 ≤ ws.length) : (ws.filter fun z => decide (z ≠ s)) ≠ [] := by
  intro e
  have all : ∀ z ∈ ws, z = s := fun z hz => by
    by_cases y : z = s
    · exact y
    · have : z ∈ ws.filter fun z => decide (z ≠ s) := List.mem_filter.mpr ⟨hz, by simpa using y⟩
      rw [e] at this
      cases this
  match ws, h, h2 with
  | a :: b :: r, h, _ =>
    rw [List.nodup_cons] at h
    exact h.1 (by rw [all a List.mem_cons_self, ← all b (List.mem_cons_of_mem _ List.mem_cons_self)]; exact List.mem_cons_self)
end L2.Pv

/-! P16: the rules' readings at values that are known. -/
namespace L2.Pv
open PySem PySem.Spec PyProof.Rows L2
section
variable {S : Store} {Q : PQ} {i j : Int} {x y : Str} {xs ys : List PV} {a b : Addr} {k l : Bool} {C : Int → Int → Prop} {g : Int → Int → Int} {h : Int → Int → Bool} {lo hi : Option Int}
theorem addP_int : addP (.int i) (.int j) S Q = Q (.int (i + j)) S := rfl
theorem addP_str : addP (.str x) (.str y) S Q = (x.length + y.length ≤ sizeLine ∧ Q (.str (x ++ y)) S) := rfl
theorem addP_tup : addP (.tup xs) (.tup ys) S Q = (xs.length + ys.length ≤ sizeLine ∧ Q (.tup (xs ++ ys)) S) := rfl
theorem addP_lst : addP (.lst xs) (.lst ys) S Q = (xs.length + ys.length ≤ sizeLine ∧ Q (.lst (xs ++ ys)) S) := rfl
theorem addP_ref (e : rdS S a = some (.lst xs)) : addP (.ref a) (.lst ys) S Q = (xs.length + ys.length ≤ sizeLine ∧ Q (.lst (xs ++ ys)) S) := by simp only [addP, seqL, e]
theorem addP_lref (e : rdS S a = some (.lst ys)) : addP (.lst xs) (.ref a) S Q = (xs.length + ys.length ≤ sizeLine ∧ Q (.lst (xs ++ ys)) S) := by simp only [addP, seqL, e]
theorem addP_rr {b : Addr} (e : rdS S a = some (.lst xs)) (e2 : rdS S b = some (.lst ys)) : addP (.ref a) (.ref b) S Q = (xs.length + ys.length ≤ sizeLine ∧ Q (.lst (xs ++ ys)) S) := by simp only [addP, seqL, e, e2]
theorem intP_int : intP C g (.int i) (.int j) S Q = (C i j ∧ Q (.int (g i j)) S) := rfl
theorem intP0_int : intP0 g (.int i) (.int j) S Q = Q (.int (g i j)) S := rfl
theorem ordP_int : ordP h (.int i) (.int j) S Q = Q (.bl (h i j)) S := rfl
theorem eqP_int : eqP (.int i) (.int j) S Q = Q (.bl (i == j)) S := rfl
theorem eqP_str : eqP (.str x) (.str y) S Q = Q (.bl (x == y)) S := rfl
theorem eqP_bl : eqP (.bl k) (.bl l) S Q = Q (.bl (k == l)) S := rfl
theorem eqP_non : eqP .non .non S Q = Q (.bl true) S := rfl
theorem ixP_str : ixP (.str x) (.int i) S Q = (x.length ≤ sizeLine ∧ match atI x.cps.toList i with | some c => Q (.str ⟨#[c]⟩) S | none => False) := rfl
theorem ixP_lst : ixP (.lst xs) (.int i) S Q = (match atI xs i with | some c => Q c S | none => False) := rfl
theorem ixP_tup : ixP (.tup xs) (.int i) S Q = (match atI xs i with | some c => Q c S | none => False) := rfl
theorem ixP_scr : ixP (.scr xs) (.int i) S Q = (match atI xs i with | some c => Q c S | none => False) := rfl
theorem ixP_ref (e : rdS S a = some (.lst xs)) : ixP (.ref a) (.int i) S Q = (match atI xs i with | some c => Q c S | none => False) := by simp only [ixP, seqO, seqL, e] <;> (cases atI xs i <;> rfl)
theorem slcP_str : slcP (.str x) lo hi S Q = (x.length ≤ sizeLine ∧ Q (.str (Txt.slice x lo hi)) S) := rfl
theorem slcP_tup : slcP (.tup xs) lo hi S Q = Q (.tup (cutP xs lo hi)) S := rfl
theorem slcP_lst : slcP (.lst xs) lo hi S Q = Q (.lst (cutP xs lo hi)) S := rfl
theorem slcP_ref (e : rdS S a = some (.lst xs)) : slcP (.ref a) lo hi S Q = Q (.lst (cutP xs lo hi)) S := by simp only [slcP, seqL, e]
/-- walking what is known -/
def walkP (x : PV) (S : Store) (R : List PV → (Store → Prop) → Store → Prop) : Prop := match x with
  | .tup xs => R xs (fun _ => True) S
  | .str z => R (signs z) (fun _ => True) S
  | .lst xs => R xs (fun _ => True) S
  | .scr xs => R xs (fun _ => True) S
  | .ref a => match rdS S a with
    | some (.lst xs) => R xs (fun S => seqL S (.ref a) = some xs) S
    | _ => False
  | _ => False
variable {te : PTE} {ρ : PEnv} {R : List PV → (Store → Prop) → Store → Prop}
theorem wiSeq_eq : wiSeq te ρ S R = te ρ S fun x S1 => walkP x S1 R := by
  unfold wiSeq walkP
  rfl
theorem walkP_tup : walkP (.tup xs) S R = R xs (fun _ => True) S := rfl
theorem walkP_str : walkP (.str x) S R = R (signs x) (fun _ => True) S := rfl
theorem walkP_lst : walkP (.lst xs) S R = R xs (fun _ => True) S := rfl
theorem walkP_scr : walkP (.scr xs) S R = R xs (fun _ => True) S := rfl
theorem walkP_ref (e : rdS S a = some (.lst xs)) : walkP (.ref a) S R = R xs (fun S => seqL S (.ref a) = some xs) S := by simp only [walkP, e]
end
theorem cut_intro {t u : PTS} {P : PEnds} {ρ : PEnv} {S : Store} (M : PEnv → Store → Prop) (h1 : t { P with nx := M } ρ S) (h2 : ∀ ρ' S', M ρ' S' → u P ρ' S') : wCut t u P ρ S := ⟨M, h1, h2⟩
theorem put_none {S : Store} {a d : Addr} {x : MO} (h : put S a x d = none) : d ≠ a ∧ S d = none := by
  by_cases z : d = a
  · rw [z, put_same] at h; cases h
  · rw [put_ne z] at h; exact ⟨z, h⟩
theorem put_ab3 {S : Store} {p a d : Addr} {x y w z : MO} (h : a ≠ p) (k : d ≠ p) : put (put (put (put S p x) a y) d w) p z = put (put (put S p z) a y) d w := by
  rw [put_comm k, put_ab h]
inductive SpWord : PSp
  | mk {p : Addr} {n : Nat} {S : Store} {Q : PQ} {E : PX → Store → Prop} (e : S p = some (drw p n)) (hn : n < 500000) (q : ∀ (w : Str) (m : Nat), okS 60 w → m ≤ n + 13 → Q (.str w) (put S p (drw p m))) : SpWord [.ref p] S Q E
theorem low_ok {n : Nat} {w : Str} (h : lowS w) (hl : w.length ≤ n) : okS n w := ⟨hl, fun c hc => Nat.lt_of_le_of_lt (h c hc).2 (by decide)⟩
def oddSigns : Str := "AZ09 _-.az\n\x40[`{|}~"
theorem odd_ok {b : Str} (h : PV.str b ∈ signs oddSigns) : okS 1 b := by
  obtain ⟨c, hc, e⟩ := List.mem_map.mp h
  cases e
  refine ⟨Nat.le_refl 1, fun d hd => ?_⟩
  rw [List.mem_singleton.mp hd]
  have all : oddSigns.cps.toList.all (fun c => decide (c < 16 ^ 8)) = true := by decide +kernel
  exact of_decide_eq_true (List.all_eq_true.mp all c hc)
theorem odd_ne : signs oddSigns ≠ [] := fun h => by
  have h2 := congrArg List.length h
  rw [signs_len] at h2
  exact absurd h2 (by decide +kernel)
theorem odd_len : (signs oddSigns).length ≤ 16777216 := by rw [signs_len]; decide +kernel
inductive RowN (D : PV → Prop) (L : Nat) : PV → Prop
  | tup {xs : List PV} (h : ∀ x ∈ xs, D x) (hl : xs.length ≤ L) : RowN D L (.tup xs)
  | lst {xs : List PV} (h : ∀ x ∈ xs, D x) (hl : xs.length ≤ L) : RowN D L (.lst xs)
theorem RowN.mono {D : PV → Prop} {L M : Nat} {x : PV} (h : RowN D L x) (e : L ≤ M) : RowN D M x := by
  cases h with
  | tup h hl => exact .tup h (Nat.le_trans hl e)
  | lst h hl => exact .lst h (Nat.le_trans hl e)
theorem RowN.row {D : PV → Prop} {L : Nat} {x : PV} (h : RowN D L x) : RowC D x := by
  cases h with
  | tup h hl => exact .tup h
  | lst h hl => exact .lst h
theorem RowN.fine {a b L : Nat} {x : PV} (h : RowN (Fit a b) L x) (h1 : a ≤ 63) (h2 : (b + 1) * L ≤ 200000) : FineR x := by
  cases h with
  | tup h hl => exact (fit_tup h).fine (by omega) (Nat.le_trans (Nat.mul_le_mul_left _ hl) h2)
  | lst h hl => exact (fit_lst h).fine (by omega) (Nat.le_trans (Nat.mul_le_mul_left _ hl) h2)
theorem mem_cut {xs : List PV} {lo hi : Option Int} {x : PV} (h : x ∈ cutP xs lo hi) : x ∈ xs := List.mem_of_mem_drop (List.mem_of_mem_take h)
theorem cut_len {xs : List PV} {lo hi : Option Int} : (cutP xs lo hi).length ≤ xs.length := by
  unfold cutP
  rw [List.length_take, List.length_drop]
  omega
inductive SpBent (D : PV → Prop) : PSp
  | mk {p : Addr} {x : PV} {n L : Nat} {S : Store} {Q : PQ} {E : PX → Store → Prop} (e : S p = some (drw p n)) (hx : RowN D L x) (hL : L ≤ 1000) (hn : n < 500000) (q : ∀ y, RowN D (3 * L + 1) y → Q y (put S p (drw p (n + 3)))) : SpBent D [.ref p, x] S Q E
abbrev PlainC : PV → Prop := Fit 1 300
def oddsL : List PV := [.non, .bl true, .bl false, .int 0, .int (-1), .str "", .str "A", .str "a1", .str "abcdefghi", .str "ann", .int 1000000000, .int 1000000001, .int 1000000000000000000000000000000, .lst [], .dic [], .tup [.str "a"]]
theorem fit_lit {a b : Nat} {z : Str} (h : (decide (z.length ≤ b) && z.cps.toList.all fun c => decide (c < 16 ^ 8)) = true) : Fit a b (.str z) := fit_str (.lit h)
theorem odds_fit : ∀ y ∈ oddsL ++ [PV.str "1", .int 1, .int 5], Fit 1 300 y := by
  intro y hy
  simp only [oddsL, List.cons_append, List.nil_append, List.mem_cons, List.not_mem_nil, or_false] at hy
  have i : ∀ {k : Int}, k.natAbs < 10 ^ 50 → Fit 1 300 (.int k) := fun h => (fit_int (a := 1) h).mono (Nat.le_refl 1) (by decide)
  rcases hy with rfl | rfl | rfl | rfl | rfl | rfl | rfl | rfl | rfl | rfl | rfl | rfl | rfl | rfl | rfl | rfl | rfl | rfl | rfl
  · exact fit_non
  · exact fit_bl
  · exact fit_bl
  · exact i (by decide)
  · exact i (by decide)
  · exact fit_lit (by decide +kernel)
  · exact fit_lit (by decide +kernel)
  · exact fit_lit (by decide +kernel)
  · exact fit_lit (by decide +kernel)
  · exact fit_lit (by decide +kernel)
  · exact i (by decide)
  · exact i (by decide)
  · exact i (by decide)
  · exact (fit_lst (a := 0) (b := 0) (xs := []) fun _ h => nomatch h).mono (Nat.le_refl 1) (by decide)
  · exact fit_dic0
  · refine (fit_tup (a := 0) (b := 5) fun x hx => ?_).mono (Nat.le_refl 1) (by decide)
    rw [List.mem_singleton] at hx
    subst hx
    exact fit_lit (by decide +kernel)
  · exact fit_lit (by decide +kernel)
  · exact i (by decide)
  · exact i (by decide)
end L2.Pv

namespace L2.Pv
open PySem PySem.Spec PyProof.Rows L2
def topS (i : Nat) : Stmt := PySem.Challenge.pw_regretmart_k02_sales_judged.main.body.getD i (.Pass ⟨0, 0, 0, 0⟩)
abbrev s_is_number : Stmt := topS 7
abbrev N_is_number : List Str := ["value"]
theorem sc_is_number : FnScope N_is_number ["value"] (defScope s_is_number) := ⟨rfl, rfl, rfl, by decide +kernel, rfl, by decide +kernel, by decide +kernel⟩
abbrev s_is_name : Stmt := topS 8
abbrev N_is_name : List Str := ["value", "sign"]
theorem sc_is_name : FnScope N_is_name ["value"] (defScope s_is_name) := ⟨rfl, rfl, rfl, by decide +kernel, rfl, by decide +kernel, by decide +kernel⟩
abbrev s_is_amount : Stmt := topS 9
abbrev N_is_amount : List Str := ["value"]
theorem sc_is_amount : FnScope N_is_amount ["value"] (defScope s_is_amount) := ⟨rfl, rfl, rfl, by decide +kernel, rfl, by decide +kernel, by decide +kernel⟩
abbrev s_is_sale : Stmt := topS 12
abbrev N_is_sale : List Str := ["value", "number", "seller", "buyer", "price", "penalty", "closes", "refunder", "guarantor", "name"]
theorem sc_is_sale : FnScope N_is_sale ["value"] (defScope s_is_sale) := ⟨rfl, rfl, rfl, by decide +kernel, rfl, by decide +kernel, by decide +kernel⟩
abbrev s_law_begun : Stmt := topS 14
abbrev N_law_begun : List Str := ["_law_script", "_law_wide", "_law_cell"]
theorem sc_law_begun : FnScope N_law_begun ["_law_script"] (defScope s_law_begun) := ⟨rfl, rfl, rfl, by decide +kernel, rfl, by decide +kernel, by decide +kernel⟩
abbrev s_law_take : Stmt := topS 15
abbrev N_law_take : List Str := ["_law_state", "_law_size", "_law_found", "_law_turn", "_law_cell", "_law_mixed"]
theorem sc_law_take : FnScope N_law_take ["_law_state", "_law_size"] (defScope s_law_take) := ⟨rfl, rfl, rfl, by decide +kernel, rfl, by decide +kernel, by decide +kernel⟩
abbrev s_law_pick : Stmt := topS 16
abbrev N_law_pick : List Str := ["_law_state", "_law_some"]
theorem sc_law_pick : FnScope N_law_pick ["_law_state", "_law_some"] (defScope s_law_pick) := ⟨rfl, rfl, rfl, by decide +kernel, rfl, by decide +kernel, by decide +kernel⟩
abbrev s_law_names : Stmt := topS 17
abbrev N_law_names : List Str := ["_law_state", "_law_many", "_law_letters", "_law_found", "_law_words", "_law_turn", "_law_word_here", "_law_place", "_law_letter"]
theorem sc_law_names : FnScope N_law_names ["_law_state", "_law_many"] (defScope s_law_names) := ⟨rfl, rfl, rfl, by decide +kernel, rfl, by decide +kernel, by decide +kernel⟩
abbrev s_law_amount : Stmt := topS 18
abbrev N_law_amount : List Str := ["_law_state", "_law_ways"]
theorem sc_law_amount : FnScope N_law_amount ["_law_state"] (defScope s_law_amount) := ⟨rfl, rfl, rfl, by decide +kernel, rfl, by decide +kernel, by decide +kernel⟩
abbrev s_law_sales : Stmt := topS 19
abbrev N_law_sales : List Str := ["_law_state", "_law_names_here", "_law_many", "_law_times", "_law_found", "_law_number", "_law_seller", "_law_turn", "_law_buyer", "_law_roles", "_law_row", "_law_name"]
theorem sc_law_sales : FnScope N_law_sales ["_law_state", "_law_names_here", "_law_many", "_law_times"] (defScope s_law_sales) := ⟨rfl, rfl, rfl, by decide +kernel, rfl, by decide +kernel, by decide +kernel⟩
abbrev s_law_is_name : Stmt := topS 20
abbrev N_law_is_name : List Str := ["_law_thing", "_law_sign"]
theorem sc_law_is_name : FnScope N_law_is_name ["_law_thing"] (defScope s_law_is_name) := ⟨rfl, rfl, rfl, by decide +kernel, rfl, by decide +kernel, by decide +kernel⟩
abbrev s_law_is_money : Stmt := topS 21
abbrev N_law_is_money : List Str := ["_law_thing"]
theorem sc_law_is_money : FnScope N_law_is_money ["_law_thing"] (defScope s_law_is_money) := ⟨rfl, rfl, rfl, by decide +kernel, rfl, by decide +kernel, by decide +kernel⟩
abbrev s_law_is_sale : Stmt := topS 22
abbrev N_law_is_sale : List Str := ["_law_thing", "_law_part"]
theorem sc_law_is_sale : FnScope N_law_is_sale ["_law_thing"] (defScope s_law_is_sale) := ⟨rfl, rfl, rfl, by decide +kernel, rfl, by decide +kernel, by decide +kernel⟩
abbrev s_law_bent : Stmt := topS 23
abbrev N_law_bent : List Str := ["_law_state", "_law_thing", "_law_bits", "_law_at", "_law_odd", "_law_some"]
theorem sc_law_bent : FnScope N_law_bent ["_law_state", "_law_thing"] (defScope s_law_bent) := ⟨rfl, rfl, rfl, by decide +kernel, rfl, by decide +kernel, by decide +kernel⟩
abbrev s_law_word : Stmt := topS 24
abbrev N_law_word : List Str := ["_law_state", "_law_letters", "_law_word_here", "_law_at", "_law_sign", "_law_place"]
theorem sc_law_word : FnScope N_law_word ["_law_state"] (defScope s_law_word) := ⟨rfl, rfl, rfl, by decide +kernel, rfl, by decide +kernel, by decide +kernel⟩
abbrev s_law : Stmt := topS 25
abbrev N_law : List Str := ["_law_script", "_law_state", "_law_turn", "_law_crowd", "_law_rows", "_law_thing", "_law_bend", "_law_image", "_law_due", "_law_word_here", "_law_size"]
theorem sc_law : FnScope N_law ["_law_script"] (defScope s_law) := ⟨rfl, rfl, rfl, by decide +kernel, rfl, by decide +kernel, by decide +kernel⟩
structure Tx (K : PySem.W.Frag) (mg : Str → Option Value) (base : Heap) where
  f_is_number : Addr
  d_is_number : FuncData
  F_is_number : Fun K "is_number" "is_number" s_is_number f_is_number d_is_number
  b_is_number : Binds K d_is_number ["value"] []
  g_is_number : mg "is_number" = some (.ref f_is_number)
  f_is_name : Addr
  d_is_name : FuncData
  F_is_name : Fun K "is_name" "is_name" s_is_name f_is_name d_is_name
  b_is_name : Binds K d_is_name ["value"] []
  g_is_name : mg "is_name" = some (.ref f_is_name)
  f_is_amount : Addr
  d_is_amount : FuncData
  F_is_amount : Fun K "is_amount" "is_amount" s_is_amount f_is_amount d_is_amount
  b_is_amount : Binds K d_is_amount ["value"] []
  g_is_amount : mg "is_amount" = some (.ref f_is_amount)
  f_is_sale : Addr
  d_is_sale : FuncData
  F_is_sale : Fun K "is_sale" "is_sale" s_is_sale f_is_sale d_is_sale
  b_is_sale : Binds K d_is_sale ["value"] []
  g_is_sale : mg "is_sale" = some (.ref f_is_sale)
  f__law_begun : Addr
  d__law_begun : FuncData
  F__law_begun : Fun K "_law_begun" "_law_begun" s_law_begun f__law_begun d__law_begun
  b__law_begun : Binds K d__law_begun ["_law_script"] []
  g__law_begun : mg "_law_begun" = some (.ref f__law_begun)
  f__law_take : Addr
  d__law_take : FuncData
  F__law_take : Fun K "_law_take" "_law_take" s_law_take f__law_take d__law_take
  b__law_take : Binds K d__law_take ["_law_state", "_law_size"] []
  g__law_take : mg "_law_take" = some (.ref f__law_take)
  f__law_pick : Addr
  d__law_pick : FuncData
  F__law_pick : Fun K "_law_pick" "_law_pick" s_law_pick f__law_pick d__law_pick
  b__law_pick : Binds K d__law_pick ["_law_state", "_law_some"] []
  g__law_pick : mg "_law_pick" = some (.ref f__law_pick)
  f__law_names : Addr
  d__law_names : FuncData
  F__law_names : Fun K "_law_names" "_law_names" s_law_names f__law_names d__law_names
  b__law_names : Binds K d__law_names ["_law_state", "_law_many"] []
  g__law_names : mg "_law_names" = some (.ref f__law_names)
  f__law_amount : Addr
  d__law_amount : FuncData
  F__law_amount : Fun K "_law_amount" "_law_amount" s_law_amount f__law_amount d__law_amount
  b__law_amount : Binds K d__law_amount ["_law_state"] []
  g__law_amount : mg "_law_amount" = some (.ref f__law_amount)
  f__law_sales : Addr
  d__law_sales : FuncData
  F__law_sales : Fun K "_law_sales" "_law_sales" s_law_sales f__law_sales d__law_sales
  b__law_sales : Binds K d__law_sales ["_law_state", "_law_names_here", "_law_many", "_law_times"] []
  g__law_sales : mg "_law_sales" = some (.ref f__law_sales)
  f__law_is_name : Addr
  d__law_is_name : FuncData
  F__law_is_name : Fun K "_law_is_name" "_law_is_name" s_law_is_name f__law_is_name d__law_is_name
  b__law_is_name : Binds K d__law_is_name ["_law_thing"] []
  g__law_is_name : mg "_law_is_name" = some (.ref f__law_is_name)
  f__law_is_money : Addr
  d__law_is_money : FuncData
  F__law_is_money : Fun K "_law_is_money" "_law_is_money" s_law_is_money f__law_is_money d__law_is_money
  b__law_is_money : Binds K d__law_is_money ["_law_thing"] []
  g__law_is_money : mg "_law_is_money" = some (.ref f__law_is_money)
  f__law_is_sale : Addr
  d__law_is_sale : FuncData
  F__law_is_sale : Fun K "_law_is_sale" "_law_is_sale" s_law_is_sale f__law_is_sale d__law_is_sale
  b__law_is_sale : Binds K d__law_is_sale ["_law_thing"] []
  g__law_is_sale : mg "_law_is_sale" = some (.ref f__law_is_sale)
  f__law_bent : Addr
  d__law_bent : FuncData
  F__law_bent : Fun K "_law_bent" "_law_bent" s_law_bent f__law_bent d__law_bent
  b__law_bent : Binds K d__law_bent ["_law_state", "_law_thing"] []
  g__law_bent : mg "_law_bent" = some (.ref f__law_bent)
  f__law_word : Addr
  d__law_word : FuncData
  F__law_word : Fun K "_law_word" "_law_word" s_law_word f__law_word d__law_word
  b__law_word : Binds K d__law_word ["_law_state"] []
  g__law_word : mg "_law_word" = some (.ref f__law_word)
  f_law : Addr
  d_law : FuncData
  F_law : Fun K "law" "law" s_law f_law d_law
  b_law : Binds K d_law ["_law_script"] []
  g_law : mg "law" = some (.ref f_law)
  m_abs : mg "abs" = none
  m_all : mg "all" = none
  m_bool : mg "bool" = none
  m_int : mg "int" = none
  m_isinstance : mg "isinstance" = none
  m_len : mg "len" = none
  m_list : mg "list" = none
  m_min : mg "min" = none
  m_range : mg "range" = none
  m_repr : mg "repr" = none
  m_str : mg "str" = none
  m_tuple : mg "tuple" = none
  t_LETTERS : Tok
  g_LETTERS : mg "LETTERS" = some (.str "abcdefghijklmnopqrstuvwxyz" t_LETTERS)
  t_LONGEST_NAME : Tok
  g_LONGEST_NAME : mg "LONGEST_NAME" = some (.int 8 t_LONGEST_NAME)
  C_Accounts : Addr
  mc_Accounts : Value
  g_Accounts : mg "Accounts" = some (.ref C_Accounts)
  r_Accounts : ClX.CRead K C_Accounts mc_Accounts
  t_Accounts_MOST : Tok
  c_Accounts_MOST : ClX.CVal K C_Accounts mc_Accounts "MOST" (.int 1000000000) (.int 1000000000 t_Accounts_MOST)
  kb_is_amount_value : KB K d_is_amount ["value"] ["value"] 0 1 (fun us ws => us ++ ws) (fun xs ys => xs ++ ys)
  kb_is_name_value : KB K d_is_name ["value"] ["value"] 0 1 (fun us ws => us ++ ws) (fun xs ys => xs ++ ys)
  kb_is_sale_value : KB K d_is_sale ["value"] ["value"] 0 1 (fun us ws => us ++ ws) (fun xs ys => xs ++ ys)
  noSys : NoSys base

/- (wss_one (ws_ret (we_and (we_callB cw_isi T.m_isinstance (wa_cons (we_var 0) (wa_cons (we_bty (n := "int") T.m_int) wa_nil))) (we_one (we_not (we_callB cw_isi T.m_isinstance (wa_cons (we_var 0) (wa_cons (we_bty (n := "bool") T.m_bool) wa_nil)))))))) (wss_cons (ws_if (WW.wt (ww_or (wt_not (wt_tru (we_callB cw_isi T.m_isinstance (wa_cons (we_var 0) (wa_cons (we_bty (n := "str") T.m_str) wa_nil))))) (ww_or1 (wt_not (wt_chain ow_le ow_le we_int (we_callB cw_len T.m_len (wa_cons (we_var 0) wa_nil)) (we_gint T.g_LONGEST_NAME))))))
  (wss_one (ws_ret we_bl))
  wss_nil)
  (wss_one (ws_ret (we_callB (cw_all rfl) T.m_all (wa_cons (we_lc (mk := false) rfl sc_is_name.nd (wi_seq (we_var 0)) (own := [("sign", 1)]) (blkOk_by (N := N_is_name) (sc := defScope s_is_name) (by decide +kernel)) (fun _ _ _ _ _ => (wg_name 1 sc_is_name.nd)) (by decide) (fun _ _ _ _ _ => wts_nil) (fun _ _ _ _ _ => (we_cmp (ow_in (hu_of hr)) (we_var 1) (we_gstr T.g_LETTERS)))) wa_nil))))) (wss_one (ws_ret (we_and (we_call (ok_is_number T) hG (hr.mono (by decide)) T.g_is_number T.F_is_number.kp T.b_is_number dflt0 tk0 (wa_cons (we_var 0) wa_nil)) (we_one (we_chain ow_le ow_le we_int (we_var 0) (we_ccon T.g_Accounts T.r_Accounts T.c_Accounts_MOST fun _ => .int _)))))) (wss_cons (ws_if (WW.wt (ww_or (wt_not (wt_tru (we_callB cw_isi T.m_isinstance (wa_cons (we_var 0) (wa_cons (we_bty (n := "tuple") T.m_tuple) wa_nil))))) (ww_or1 (wt_cmp (ow_ne hr.units) (we_callB cw_len T.m_len (wa_cons (we_var 0) wa_nil)) we_int))))
  (wss_one (ws_ret we_bl))
  wss_nil)
  (wss_cons (ws_asg (we_var 0) (wg_tup (n := 8) rfl (wgs_cons (wg_name 1 sc_is_sale.nd) (wgs_cons (wg_name 2 sc_is_sale.nd) (wgs_cons (wg_name 3 sc_is_sale.nd) (wgs_cons (wg_name 4 sc_is_sale.nd) (wgs_cons (wg_name 5 sc_is_sale.nd) (wgs_cons (wg_name 6 sc_is_sale.nd) (wgs_cons (wg_name 7 sc_is_sale.nd) (wgs_cons (wg_name 8 sc_is_sale.nd) wgs_nil))))))))))
  (wss_cons (ws_if (WW.wt (ww_or (wt_not (wt_tru (we_call (ok_is_number T) hG (hr.mono (by decide)) T.g_is_number T.F_is_number.kp T.b_is_number dflt0 tk0 (wa_cons (we_var 1) wa_nil)))) (ww_or (wt_cmp ow_lt (we_var 1) we_int) (ww_or (wt_not (wt_tru (we_call (ok_is_amount T) hG (hr.mono (by decide)) T.g_is_amount T.F_is_amount.kp T.b_is_amount dflt0 tk0 (wa_cons (we_var 4) wa_nil)))) (ww_or (wt_not (wt_tru (we_call (ok_is_amount T) hG (hr.mono (by decide)) T.g_is_amount T.F_is_amount.kp T.b_is_amount dflt0 tk0 (wa_cons (we_var 5) wa_nil)))) (ww_or1 (wt_not (wt_tru (we_call (ok_is_amount T) hG (hr.mono (by decide)) T.g_is_amount T.F_is_amount.kp T.b_is_amount dflt0 tk0 (wa_cons (we_var 6) wa_nil))))))))))
  (wss_one (ws_ret we_bl))
  wss_nil)
  (wss_one (ws_ret (we_and (we_callB (cw_all rfl) T.m_all (wa_cons (we_lc (mk := false) rfl sc_is_sale.nd (wi_seq (we_tup (wa_cons (we_var 2) (wa_cons (we_var 3) (wa_cons (we_var 7) (wa_cons (we_var 8) wa_nil)))))) (own := [("name", 9)]) (blkOk_by (N := N_is_sale) (sc := defScope s_is_sale) (by decide +kernel)) (fun _ _ _ _ _ => (wg_name 9 sc_is_sale.nd)) (by decide) (fun _ _ _ _ _ => wts_nil) (fun _ _ _ _ _ => (we_call (ok_is_name T) hG (hr.mono (by decide)) T.g_is_name T.F_is_name.kp T.b_is_name dflt0 tk0 (wa_cons (we_var 9) wa_nil)))) wa_nil)) (we_one (we_cmp (ow_ne hr.units) (we_var 2) (we_var 3))))))))) (wss_cons (ws_setLc (mk := true) 1 rfl sc_law_begun.nd (wi_seq (we_var 0)) (own := [("_law_cell", 2)]) (blkOk_by (N := N_law_begun) (sc := defScope s_law_begun) (by decide +kernel)) (fun _ _ _ _ _ => (wg_name 2 sc_law_begun.nd)) (by decide) (fun _ _ _ _ _ => (wts_one (wt_cmp ow_ge (we_callB cw_abs T.m_abs (wa_cons (we_var 2) wa_nil)) (we_op ow_pow we_int we_int)))) (fun _ _ _ _ _ => (we_op ow_sub (we_callB cw_abs T.m_abs (wa_cons (we_var 2) wa_nil)) (we_op ow_pow we_int we_int))))
  (wss_one (ws_ret (we_dispM (WPs.cons we_str (we_var 1) (WPs.cons we_str (we_or (we_callTy (cw_list (mk := false)) T.m_list (wa_cons (we_var 0) wa_nil)) (we_one (we_lst (wa_cons we_int wa_nil)))) (WPs.cons we_str we_int (WPs.cons we_str we_int WPs.nil)))))))) (wss_cons (ws_while hp (WW.wt (ww_and (wt_cmp (ow_eq hr.units) (we_dget (hu_of hr) (we_var 0) we_str) we_int) (ww_and1 (wt_cmp (ow_neNil hr.units) (we_dget (hu_of hr) (we_var 0) we_str) (we_lst wa_nil)))))
  (wss_one (ws_dput (hu_of hr) (we_var 0) we_str (we_bm PySem.F.plainAttrs_list PySem.F.slot_list_pop PySem.F.type_list_pop (by decide) mw_popAt (we_dget (hu_of hr) (we_var 0) we_str) (wa_cons we_int wa_nil)))))
  (wss_cons (ws_if (wt_cmp ow_gt (we_dget (hu_of hr) (we_var 0) we_str) we_int)
  (wss_cons (ws_set 2 sc_law_take.nd (we_op ow_mod (we_dget (hu_of hr) (we_var 0) we_str) (we_var 1)))
  (wss_cons (ws_dput (hu_of hr) (we_var 0) we_str (we_op ow_fdiv (we_dget (hu_of hr) (we_var 0) we_str) (we_var 1)))
  (wss_one (ws_ret (we_var 2)))))
  wss_nil)
  (wss_cons (ws_set 3 sc_law_take.nd (we_op ow_add (we_dget (hu_of hr) (we_var 0) we_str) we_int))
  (wss_cons (ws_dput (hu_of hr) (we_var 0) we_str (we_var 3))
  (wss_cons (ws_set 4 sc_law_take.nd (we_ix (we_dget (hu_of hr) (we_var 0) we_str) (we_op ow_mod (we_var 3) (we_callB cw_len T.m_len (wa_cons (we_dget (hu_of hr) (we_var 0) we_str) wa_nil)))))
  (wss_cons (ws_set 5 sc_law_take.nd (we_op ow_mod (we_op ow_add (we_op ow_mod (we_var 4) we_int) (we_op ow_mul we_int (we_var 3))) we_int))
  (wss_cons (ws_set 5 sc_law_take.nd (we_op ow_add (we_op ow_add (we_op ow_mod (we_op ow_pow (we_var 5) we_int) we_int) (we_op ow_mul (we_op ow_mod (we_var 4) we_int) (we_var 3))) (we_op ow_mul (we_op ow_mul we_int (we_var 3)) (we_var 3))))
  (wss_one (ws_ret (we_op ow_mod (we_op ow_fdiv (we_op ow_mod (we_op ow_pow (we_var 5) we_int) we_int) we_int) (we_var 1))))))))))) (wss_one (ws_ret (we_ix (we_var 1) (we_call (ok_law_take T) hG (hr.mono (by decide)) T.g__law_take T.F__law_take.kp T.b__law_take dflt0 tk0 (wa_cons (we_var 0) (wa_cons (we_callB cw_len T.m_len (wa_cons (we_var 1) wa_nil)) wa_nil)))))) (wss_cons (ws_asg (we_tup (wa_cons we_str (wa_cons (we_lstM wa_nil) wa_nil))) (wg_tup (n := 2) rfl (wgs_cons (wg_name 2 sc_law_names.nd) (wgs_cons (wg_name 3 sc_law_names.nd) wgs_nil))))
  (wss_cons (ws_set 4 sc_law_names.nd (we_lst (wa_cons we_str (wa_cons we_str (wa_cons we_str (wa_cons we_str (wa_cons we_str (wa_cons we_str (wa_cons we_str (wa_cons we_str (wa_cons we_str (wa_cons we_str (wa_cons we_str (wa_cons we_str wa_nil))))))))))))))
  (wss_cons (ws_for hp rfl (wi_rng1 T.m_range (wa_cons (we_var 1) wa_nil)) (wg_name 5 sc_law_names.nd)
  (wss_cons (ws_set 6 sc_law_names.nd (we_call (ok_law_pick T) hG (hr.mono (by decide)) T.g__law_pick T.F__law_pick.kp T.b__law_pick dflt0 tk0 (wa_cons (we_var 0) (wa_cons (we_var 4) wa_nil))))
  (wss_cut (ws_if (wt_cmp ow_gt (we_call (ok_law_take T) hG (hr.mono (by decide)) T.g__law_take T.F__law_take.kp T.b__law_take dflt0 tk0 (wa_cons (we_var 0) (wa_cons we_int wa_nil))) we_int)
  (wss_one (ws_set 6 sc_law_names.nd (we_bm PySem.F.plainAttrs_str PySem.F.slot_str_join PySem.F.type_str_join (by decide) mw_join we_str (wa_cons (we_lc (mk := false) rfl sc_law_names.nd (wi_rng1 T.m_range (wa_cons (we_op ow_add we_int (we_call (ok_law_take T) hG (hr.mono (by decide)) T.g__law_take T.F__law_take.kp T.b__law_take dflt0 tk0 (wa_cons (we_var 0) (wa_cons we_int wa_nil)))) wa_nil)) (own := [("_law_place", 7)]) (blkOk_by (N := N_law_names) (sc := defScope s_law_names) (by decide +kernel)) (fun _ _ _ _ _ => (wg_name 7 sc_law_names.nd)) (by decide) (fun _ _ _ _ _ => wts_nil) (fun _ _ _ _ _ => (we_call (ok_law_pick T) hG (hr.mono (by decide)) T.g__law_pick T.F__law_pick.kp T.b__law_pick dflt0 tk0 (wa_cons (we_var 0) (wa_cons (we_var 2) wa_nil))))) wa_nil))))
  wss_nil)
  (wss_cut (ws_if (wt_cmp (ow_in (hu_of hr)) (we_var 6) (we_var 3))
  (wss_one (ws_set 6 sc_law_names.nd (we_ix (we_lc (mk := false) rfl sc_law_names.nd (wi_seq (we_var 2)) (own := [("_law_letter", 8)]) (blkOk_by (N := N_law_names) (sc := defScope s_law_names) (by decide +kernel)) (fun _ _ _ _ _ => (wg_name 8 sc_law_names.nd)) (by decide) (fun _ _ _ _ _ => (wts_one (wt_cmp (ow_notIn (hu_of hr)) (we_op ow_add (we_sl sw_slc (we_var 6) wo_none (wo_some we_int)) (we_var 8)) (we_var 3)))) (fun _ _ _ _ _ => (we_op ow_add (we_sl sw_slc (we_var 6) wo_none (wo_some we_int)) (we_var 8)))) we_int)))
  wss_nil)
  (wss_one (ws_expr (we_bm PySem.F.plainAttrs_list PySem.F.slot_list_append PySem.F.type_list_append (by decide) mw_append (we_var 3) (wa_cons (we_var 6) wa_nil))))))))
  (wss_one (ws_ret (we_frz (we_var 3))))))) (wss_cons (ws_set 1 sc_law_amount.nd (we_lst (wa_cons (we_call (ok_law_take T) hG (hr.mono (by decide)) T.g__law_take T.F__law_take.kp T.b__law_take dflt0 tk0 (wa_cons (we_var 0) (wa_cons we_int wa_nil))) (wa_cons (we_call (ok_law_take T) hG (hr.mono (by decide)) T.g__law_take T.F__law_take.kp T.b__law_take dflt0 tk0 (wa_cons (we_var 0) (wa_cons we_int wa_nil))) (wa_cons (we_call (ok_law_take T) hG (hr.mono (by decide)) T.g__law_take T.F__law_take.kp T.b__law_take dflt0 tk0 (wa_cons (we_var 0) (wa_cons we_int wa_nil))) (wa_cons (we_op ow_sub (we_op ow_pow we_int we_int) (we_call (ok_law_take T) hG (hr.mono (by decide)) T.g__law_take T.F__law_take.kp T.b__law_take dflt0 tk0 (wa_cons (we_var 0) (wa_cons we_int wa_nil)))) wa_nil))))))
  (wss_one (ws_ret (we_call (ok_law_pick T) hG (hr.mono (by decide)) T.g__law_pick T.F__law_pick.kp T.b__law_pick dflt0 tk0 (wa_cons (we_var 0) (wa_cons (we_op ow_add (we_var 1) (we_lst (wa_cons (we_ix (we_var 1) we_int) (wa_cons (we_ix (we_var 1) we_int) (wa_cons (we_call (ok_law_take T) hG (hr.mono (by decide)) T.g__law_take T.F__law_take.kp T.b__law_take dflt0 tk0 (wa_cons (we_var 0) (wa_cons (we_op ow_add (we_op ow_pow we_int we_int) we_int) wa_nil))) wa_nil))))) wa_nil)))))) (wss_cut (ws_asg (we_tup (wa_cons (we_lstM wa_nil) (wa_cons we_int (wa_cons (we_call (ok_law_pick T) hG (hr.mono (by decide)) T.g__law_pick T.F__law_pick.kp T.b__law_pick dflt0 tk0 (wa_cons (we_var 0) (wa_cons (we_var 1) wa_nil))) wa_nil)))) (wg_tup (n := 3) rfl (wgs_cons (wg_name 4 sc_law_sales.nd) (wgs_cons (wg_name 5 sc_law_sales.nd) (wgs_cons (wg_name 6 sc_law_sales.nd) wgs_nil)))))
  (wss_cut (ws_for hp rfl (wi_rng1 T.m_range (wa_cons (we_var 2) wa_nil)) (wg_name 7 sc_law_sales.nd)
  (wss_cut (ws_set 5 sc_law_sales.nd (we_op ow_add (we_op ow_add (we_var 5) we_int) (we_call (ok_law_pick T) hG (hr.mono (by decide)) T.g__law_pick T.F__law_pick.kp T.b__law_pick dflt0 tk0 (wa_cons (we_var 0) (wa_cons (we_lst (wa_cons we_int (wa_cons we_int (wa_cons we_int (wa_cons (we_call (ok_law_take T) hG (hr.mono (by decide)) T.g__law_take T.F__law_take.kp T.b__law_take dflt0 tk0 (wa_cons (we_var 0) (wa_cons we_int wa_nil))) wa_nil))))) wa_nil)))))
  (wss_cut (ws_set 8 sc_law_sales.nd (we_call (ok_law_pick T) hG (hr.mono (by decide)) T.g__law_pick T.F__law_pick.kp T.b__law_pick dflt0 tk0 (wa_cons (we_var 0) (wa_cons (we_lc (mk := false) rfl sc_law_sales.nd (wi_seq (we_var 1)) (own := [("_law_name", 11)]) (blkOk_by (N := N_law_sales) (sc := defScope s_law_sales) (by decide +kernel)) (fun _ _ _ _ _ => (wg_name 11 sc_law_sales.nd)) (by decide) (fun _ _ _ _ _ => (wts_one (wt_cmp (ow_ne hr.units) (we_var 11) (we_var 6)))) (fun _ _ _ _ _ => (we_var 11))) wa_nil))))
  (wss_cut (ws_set 9 sc_law_sales.nd (we_lstM (wa_cons (we_call (ok_law_pick T) hG (hr.mono (by decide)) T.g__law_pick T.F__law_pick.kp T.b__law_pick dflt0 tk0 (wa_cons (we_var 0) (wa_cons (we_lst (wa_cons (we_var 6) (wa_cons (we_var 6) (wa_cons (we_var 6) (wa_cons (we_call (ok_law_pick T) hG (hr.mono (by decide)) T.g__law_pick T.F__law_pick.kp T.b__law_pick dflt0 tk0 (wa_cons (we_var 0) (wa_cons (we_var 1) wa_nil))) wa_nil))))) wa_nil))) wa_nil)))
  (wss_cut (ws_expr (we_bm PySem.F.plainAttrs_list PySem.F.slot_list_append PySem.F.type_list_append (by decide) mw_append (we_var 9) (wa_cons (we_call (ok_law_pick T) hG (hr.mono (by decide)) T.g__law_pick T.F__law_pick.kp T.b__law_pick dflt0 tk0 (wa_cons (we_var 0) (wa_cons (we_lst (wa_cons (we_var 8) (wa_cons (we_var 8) (wa_cons (we_var 8) (wa_cons (we_call (ok_law_pick T) hG (hr.mono (by decide)) T.g__law_pick T.F__law_pick.kp T.b__law_pick dflt0 tk0 (wa_cons (we_var 0) (wa_cons (we_var 1) wa_nil))) wa_nil))))) wa_nil))) wa_nil)))
  (wss_cut (ws_set 10 sc_law_sales.nd (we_tup (wa_cons (we_var 5) (wa_cons (we_var 6) (wa_cons (we_var 8) (wa_cons (we_call (ok_law_amount T) hG (hr.mono (by decide)) T.g__law_amount T.F__law_amount.kp T.b__law_amount dflt0 tk0 (wa_cons (we_var 0) wa_nil)) (wa_cons (we_call (ok_law_amount T) hG (hr.mono (by decide)) T.g__law_amount T.F__law_amount.kp T.b__law_amount dflt0 tk0 (wa_cons (we_var 0) wa_nil)) (wa_cons (we_call (ok_law_pick T) hG (hr.mono (by decide)) T.g__law_pick T.F__law_pick.kp T.b__law_pick dflt0 tk0 (wa_cons (we_var 0) (wa_cons (we_var 3) wa_nil))) wa_nil))))))))
  (wss_cut (ws_expr (we_bm PySem.F.plainAttrs_list PySem.F.slot_list_append PySem.F.type_list_append (by decide) mw_append (we_var 4) (wa_cons (we_op ow_add (we_var 10) (we_callTy cw_tuple T.m_tuple (wa_cons (we_frz (we_var 9)) wa_nil))) wa_nil)))
  (wss_one (ws_set 6 sc_law_sales.nd (we_var 8))))))))))
  (wss_one (ws_ret (we_frz (we_var 4)))))) (wss_cons (ws_if (WW.wt (ww_or (wt_not (wt_tru (we_callB cw_isi T.m_isinstance (wa_cons (we_var 0) (wa_cons (we_bty (n := "str") T.m_str) wa_nil))))) (ww_or1 (wt_not (wt_chain ow_le ow_le we_int (we_callB cw_len T.m_len (wa_cons (we_var 0) wa_nil)) we_int)))))
  (wss_one (ws_ret we_bl))
  wss_nil)
  (wss_one (ws_ret (we_cmp (ow_eqNil hr.units) (we_lc (mk := false) rfl sc_law_is_name.nd (wi_seq (we_var 0)) (own := [("_law_sign", 1)]) (blkOk_by (N := N_law_is_name) (sc := defScope s_law_is_name) (by decide +kernel)) (fun _ _ _ _ _ => (wg_name 1 sc_law_is_name.nd)) (by decide) (fun _ _ _ _ _ => (wts_one (wt_cmp (ow_notIn (hu_of hr)) (we_var 1) we_str))) (fun _ _ _ _ _ => (we_var 1))) (we_lst wa_nil))))) (wss_one (ws_ret (we_and (we_callB cw_isi T.m_isinstance (wa_cons (we_var 0) (wa_cons (we_bty (n := "int") T.m_int) wa_nil))) (we_and (we_not (we_callB cw_isi T.m_isinstance (wa_cons (we_var 0) (wa_cons (we_bty (n := "bool") T.m_bool) wa_nil)))) (we_one (we_chain ow_le ow_le we_int (we_var 0) (we_op ow_pow we_int we_int))))))) (wss_cons (ws_if (WW.wt (ww_or (wt_not (wt_tru (we_callB cw_isi T.m_isinstance (wa_cons (we_var 0) (wa_cons (we_bty (n := "tuple") T.m_tuple) wa_nil))))) (ww_or1 (wt_cmp (ow_ne hr.units) (we_callB cw_len T.m_len (wa_cons (we_var 0) wa_nil)) we_int))))
  (wss_one (ws_ret we_bl))
  wss_nil)
  (wss_cons (ws_if (WW.wt (ww_or (wt_not (wt_tru (we_callB cw_isi T.m_isinstance (wa_cons (we_ix (we_var 0) we_int) (wa_cons (we_bty (n := "int") T.m_int) wa_nil))))) (ww_or (wt_tru (we_callB cw_isi T.m_isinstance (wa_cons (we_ix (we_var 0) we_int) (wa_cons (we_bty (n := "bool") T.m_bool) wa_nil)))) (ww_or1 (wt_cmp ow_lt (we_ix (we_var 0) we_int) we_int)))))
  (wss_one (ws_ret we_bl))
  wss_nil)
  (wss_cons (ws_if (wt_cmp (ow_neNil hr.units) (we_lc (mk := false) rfl sc_law_is_sale.nd (wi_seq (we_sl sw_slc (we_var 0) (wo_some we_int) (wo_some we_int))) (own := [("_law_part", 1)]) (blkOk_by (N := N_law_is_sale) (sc := defScope s_law_is_sale) (by decide +kernel)) (fun _ _ _ _ _ => (wg_name 1 sc_law_is_sale.nd)) (by decide) (fun _ _ _ _ _ => (wts_one (wt_not (wt_tru (we_call (ok_law_is_money T) hG (hr.mono (by decide)) T.g__law_is_money T.F__law_is_money.kp T.b__law_is_money dflt0 tk0 (wa_cons (we_var 1) wa_nil)))))) (fun _ _ _ _ _ => (we_var 1))) (we_lst wa_nil))
  (wss_one (ws_ret we_bl))
  wss_nil)
  (wss_cons (ws_if (wt_cmp (ow_neNil hr.units) (we_lc (mk := false) rfl sc_law_is_sale.nd (wi_seq (we_op ow_add (we_sl sw_slc (we_var 0) (wo_some we_int) (wo_some we_int)) (we_sl sw_slc (we_var 0) (wo_some we_int) wo_none))) (own := [("_law_part", 1)]) (blkOk_by (N := N_law_is_sale) (sc := defScope s_law_is_sale) (by decide +kernel)) (fun _ _ _ _ _ => (wg_name 1 sc_law_is_sale.nd)) (by decide) (fun _ _ _ _ _ => (wts_one (wt_not (wt_tru (we_call (ok_law_is_name T) hG (hr.mono (by decide)) T.g__law_is_name T.F__law_is_name.kp T.b__law_is_name dflt0 tk0 (wa_cons (we_var 1) wa_nil)))))) (fun _ _ _ _ _ => (we_var 1))) (we_lst wa_nil))
  (wss_one (ws_ret we_bl))
  wss_nil)
  (wss_one (ws_ret (we_cmp (ow_ne hr.units) (we_ix (we_var 0) we_int) (we_ix (we_var 0) we_int)))))))) (wss_cut (ws_par (i := 2) (j := 3) rfl sc_law_bent.nd (wa_cons (we_callTy (cw_list (mk := false)) T.m_list (wa_cons (we_var 1) wa_nil)) (wa_cons (we_call (ok_law_take T) hG (hr.mono (by decide)) T.g__law_take T.F__law_take.kp T.b__law_take dflt0 tk0 (wa_cons (we_var 0) (wa_cons (we_op ow_add (we_callB cw_len T.m_len (wa_cons (we_var 1) wa_nil)) we_int) wa_nil))) wa_nil)))
  (wss_cut (ws_set 4 sc_law_bent.nd (we_lst (wa_cons we_non (wa_cons we_bl (wa_cons we_bl (wa_cons we_int (wa_cons (we_un un_negW we_int) (wa_cons we_str (wa_cons we_str (wa_cons we_str (wa_cons we_str (wa_cons we_str (wa_cons (we_op ow_pow we_int we_int) (wa_cons (we_op ow_add (we_op ow_pow we_int we_int) we_int) (wa_cons (we_op ow_pow we_int we_int) (wa_cons (we_lst wa_nil) (wa_cons we_dnew (wa_cons (we_tup (wa_cons we_str wa_nil)) wa_nil))))))))))))))))))
  (wss_cut (ws_set 4 sc_law_bent.nd (we_call (ok_law_pick T) hG (hr.mono (by decide)) T.g__law_pick T.F__law_pick.kp T.b__law_pick dflt0 tk0 (wa_cons (we_var 0) (wa_cons (we_op ow_add (we_op ow_add (we_var 4) (we_lst (wa_cons we_str (wa_cons we_int (wa_cons we_int wa_nil))))) (we_var 2)) wa_nil))))
  (wss_cut (ws_set 5 sc_law_bent.nd (we_lstM (wa_cons (we_callTy cw_tuple T.m_tuple (wa_cons (we_op ow_add (we_sl sw_slc (we_var 2) wo_none (wo_some (we_var 3))) (we_sl sw_slc (we_var 2) (wo_some (we_op ow_add (we_var 3) we_int)) wo_none)) wa_nil)) (wa_cons (we_callTy cw_tuple T.m_tuple (wa_cons (we_op ow_add (we_op ow_add (we_sl sw_slc (we_var 2) wo_none (wo_some (we_var 3))) (we_lst (wa_cons (we_var 4) wa_nil))) (we_sl sw_slc (we_var 2) (wo_some (we_var 3)) wo_none)) wa_nil)) wa_nil))))
  (wss_cut (ws_expr (we_bm PySem.F.plainAttrs_list PySem.F.slot_list_append PySem.F.type_list_append (by decide) mw_append (we_var 5) (wa_cons (we_callTy cw_tuple T.m_tuple (wa_cons (we_op ow_add (we_op ow_add (we_sl sw_slc (we_var 2) wo_none (wo_some (we_var 3))) (we_revL (we_sl sw_slc (we_var 2) (wo_some (we_var 3)) (wo_some (we_op ow_add (we_var 3) we_int))))) (we_sl sw_slc (we_var 2) (wo_some (we_op ow_add (we_var 3) we_int)) wo_none)) wa_nil)) wa_nil)))
  (wss_cut (ws_set 5 sc_law_bent.nd (we_op ow_add (we_frz (we_var 5)) (we_repLit (wa_cons (we_callTy cw_tuple T.m_tuple (wa_cons (we_op ow_add (we_op ow_add (we_sl sw_slc (we_var 2) wo_none (wo_some (we_var 3))) (we_lst (wa_cons (we_var 4) wa_nil))) (we_sl sw_slc (we_var 2) (wo_some (we_op ow_add (we_var 3) we_int)) wo_none)) wa_nil)) wa_nil) we_int)))
  (wss_one (ws_ret (we_call (ok_law_pick T) hG (hr.mono (by decide)) T.g__law_pick T.F__law_pick.kp T.b__law_pick dflt0 tk0 (wa_cons (we_var 0) (wa_cons (we_op ow_add (we_var 5) (we_lst (wa_cons (we_var 2) wa_nil))) wa_nil))))))))))) (wss_cons (ws_set 1 sc_law_word.nd we_str)
  (wss_cons (ws_set 2 sc_law_word.nd (we_bm PySem.F.plainAttrs_str PySem.F.slot_str_join PySem.F.type_str_join (by decide) mw_join we_str (wa_cons (we_lc (mk := false) rfl sc_law_word.nd (wi_rng1 T.m_range (wa_cons (we_call (ok_law_take T) hG (hr.mono (by decide)) T.g__law_take T.F__law_take.kp T.b__law_take dflt0 tk0 (wa_cons (we_var 0) (wa_cons we_int wa_nil))) wa_nil)) (own := [("_law_place", 5)]) (blkOk_by (N := N_law_word) (sc := defScope s_law_word) (by decide +kernel)) (fun _ _ _ _ _ => (wg_name 5 sc_law_word.nd)) (by decide) (fun _ _ _ _ _ => wts_nil) (fun _ _ _ _ _ => (we_call (ok_law_pick T) hG (hr.mono (by decide)) T.g__law_pick T.F__law_pick.kp T.b__law_pick dflt0 tk0 (wa_cons (we_var 0) (wa_cons (we_var 1) wa_nil))))) wa_nil)))
  (wss_cons (ws_set 3 sc_law_word.nd (we_call (ok_law_take T) hG (hr.mono (by decide)) T.g__law_take T.F__law_take.kp T.b__law_take dflt0 tk0 (wa_cons (we_var 0) (wa_cons (we_op ow_add (we_callB cw_len T.m_len (wa_cons (we_var 2) wa_nil)) we_int) wa_nil))))
  (wss_cons (ws_set 4 sc_law_word.nd (we_call (ok_law_pick T) hG (hr.mono (by decide)) T.g__law_pick T.F__law_pick.kp T.b__law_pick dflt0 tk0 (wa_cons (we_var 0) (wa_cons we_str wa_nil))))
  (wss_one (ws_ret (we_call (ok_law_pick T) hG (hr.mono (by decide)) T.g__law_pick T.F__law_pick.kp T.b__law_pick dflt0 tk0 (wa_cons (we_var 0) (wa_cons (we_lst (wa_cons (we_var 2) (wa_cons (we_var 2) (wa_cons (we_op ow_add (we_op ow_add (we_sl sw_slc (we_var 2) wo_none (wo_some (we_var 3))) (we_var 4)) (we_sl sw_slc (we_var 2) (wo_some (we_op ow_add (we_var 3) we_int)) wo_none)) (wa_cons (we_op ow_add (we_op ow_add (we_sl sw_slc (we_var 2) wo_none (wo_some (we_var 3))) (we_var 4)) (we_sl sw_slc (we_var 2) (wo_some (we_var 3)) wo_none)) wa_nil))))) wa_nil))))))))) (wss_cut (ws_set 1 sc_law.nd (we_call (ok_law_begun T) hG (hr.mono (by decide)) T.g__law_begun T.F__law_begun.kp T.b__law_begun dflt0 tk0 (wa_cons (we_var 0) wa_nil)))
  (wss_cut (ws_for hp rfl (wi_rng1 T.m_range (wa_cons (we_op ow_add we_int (we_callB (cw_min2 rfl) T.m_min (wa_cons (we_callB cw_len T.m_len (wa_cons (we_var 0) wa_nil)) (wa_cons we_int wa_nil)))) wa_nil)) (wg_name 2 sc_law.nd)
  (wss_cut (ws_set 3 sc_law.nd (we_call (ok_law_names T) hG (hr.mono (by decide)) T.g__law_names T.F__law_names.kp T.b__law_names dflt0 tk0 (wa_cons (we_var 1) (wa_cons (we_op ow_add we_int (we_call (ok_law_take T) hG (hr.mono (by decide)) T.g__law_take T.F__law_take.kp T.b__law_take dflt0 tk0 (wa_cons (we_var 1) (wa_cons we_int wa_nil)))) wa_nil))))
  (wss_cut (ws_set 4 sc_law.nd (we_call (ok_law_sales T) hG (hr.mono (by decide)) T.g__law_sales T.F__law_sales.kp T.b__law_sales dflt0 tk0 (wa_cons (we_var 1) (wa_cons (we_var 3) (wa_cons (we_op ow_add we_int (we_call (ok_law_take T) hG (hr.mono (by decide)) T.g__law_take T.F__law_take.kp T.b__law_take dflt0 tk0 (wa_cons (we_var 1) (wa_cons we_int wa_nil)))) (wa_cons (we_lst (wa_cons we_int (wa_cons we_int (wa_cons (we_op ow_pow we_int we_int) (wa_cons (we_call (ok_law_amount T) hG (hr.mono (by decide)) T.g__law_amount T.F__law_amount.kp T.b__law_amount dflt0 tk0 (wa_cons (we_var 1) wa_nil)) wa_nil))))) wa_nil))))))
  (wss_cut (ws_set 5 sc_law.nd (we_ix (we_var 4) (we_un un_negW we_int)))
  (wss_cut (ws_for hp rfl (wi_rng1 T.m_range (wa_cons (we_call (ok_law_pick T) hG (hr.mono (by decide)) T.g__law_pick T.F__law_pick.kp T.b__law_pick dflt0 tk0 (wa_cons (we_var 1) (wa_cons (we_lst (wa_cons we_int (wa_cons we_int (wa_cons we_int (wa_cons we_int wa_nil))))) wa_nil))) wa_nil)) (wg_name 6 sc_law.nd)
  (wss_one (ws_if (wt_tru (we_callB cw_isi T.m_isinstance (wa_cons (we_var 5) (wa_cons (we_tup (wa_cons (we_bty (n := "list") T.m_list) (wa_cons (we_bty (n := "tuple") T.m_tuple) wa_nil))) wa_nil))))
  (wss_one (ws_set 5 sc_law.nd (we_call (ok_law_bent T) hG (hr.mono (by decide)) T.g__law_bent T.F__law_bent.kp T.b__law_bent dflt0 tk0 (wa_cons (we_var 1) (wa_cons (we_var 5) wa_nil)))))
  wss_nil)))
  (wss_cut (ws_par (i := 7) (j := 8) rfl sc_law.nd (wa_cons (we_callB (cw_repr hG (hu80 hr) T.noSys) T.m_repr (wa_cons (we_var 5) wa_nil)) (wa_cons (we_call (ok_law_is_sale T) hG (hr.mono (by decide)) T.g__law_is_sale T.F__law_is_sale.kp T.b__law_is_sale dflt0 tk0 (wa_cons (we_var 5) wa_nil)) wa_nil)))
  (wss_cut (ws_if (WW.wt (ww_or (wt_cmp (ow_ne hr.units) (we_callB (cw_repr hG (hu80 hr) T.noSys) T.m_repr (wa_cons (we_lst (wa_cons (we_call (ok_is_sale T) hG (hr.mono (by decide)) T.g_is_sale T.F_is_sale.kp T.b_is_sale dflt0 tk0 (wa_cons (we_var 5) wa_nil)) (wa_cons (we_callK0 (ok_is_sale T) hG (hr.mono (by decide)) T.g_is_sale T.F_is_sale.kp T.kb_is_sale_value tk0 (wk_cons (we_var 5) wk_nil)) wa_nil))) wa_nil)) (we_callB (cw_repr hG (hu80 hr) T.noSys) T.m_repr (wa_cons (we_lst (wa_cons (we_var 8) (wa_cons (we_var 8) wa_nil))) wa_nil))) (ww_or1 (wt_cmp (ow_ne hr.units) (we_callB (cw_repr hG (hu80 hr) T.noSys) T.m_repr (wa_cons (we_var 5) wa_nil)) (we_var 7)))))
  (wss_one (ws_ret we_bl))
  wss_nil)
  (wss_cut (ws_set 9 sc_law.nd (we_call (ok_law_pick T) hG (hr.mono (by decide)) T.g__law_pick T.F__law_pick.kp T.b__law_pick dflt0 tk0 (wa_cons (we_var 1) (wa_cons (we_lst (wa_cons (we_call (ok_law_word T) hG (hr.mono (by decide)) T.g__law_word T.F__law_word.kp T.b__law_word dflt0 tk0 (wa_cons (we_var 1) wa_nil)) (wa_cons (we_call (ok_law_word T) hG (hr.mono (by decide)) T.g__law_word T.F__law_word.kp T.b__law_word dflt0 tk0 (wa_cons (we_var 1) wa_nil)) (wa_cons we_non (wa_cons we_int (wa_cons we_bl (wa_cons (we_lst (wa_cons we_str wa_nil)) (wa_cons (we_tup (wa_cons we_str wa_nil)) (wa_cons we_dnew wa_nil))))))))) wa_nil))))
  (wss_cut (ws_if (wt_cmp (ow_ne hr.units) (we_callB (cw_repr hG (hu80 hr) T.noSys) T.m_repr (wa_cons (we_lst (wa_cons (we_call (ok_is_name T) hG (hr.mono (by decide)) T.g_is_name T.F_is_name.kp T.b_is_name dflt0 tk0 (wa_cons (we_var 9) wa_nil)) (wa_cons (we_callK0 (ok_is_name T) hG (hr.mono (by decide)) T.g_is_name T.F_is_name.kp T.kb_is_name_value tk0 (wk_cons (we_var 9) wk_nil)) wa_nil))) wa_nil)) (we_callB (cw_repr hG (hu80 hr) T.noSys) T.m_repr (wa_cons (we_lst (wa_cons (we_call (ok_law_is_name T) hG (hr.mono (by decide)) T.g__law_is_name T.F__law_is_name.kp T.b__law_is_name dflt0 tk0 (wa_cons (we_var 9) wa_nil)) (wa_cons (we_call (ok_law_is_name T) hG (hr.mono (by decide)) T.g__law_is_name T.F__law_is_name.kp T.b__law_is_name dflt0 tk0 (wa_cons (we_var 9) wa_nil)) wa_nil))) wa_nil)))
  (wss_one (ws_ret we_bl))
  wss_nil)
  (wss_cut (ws_set 10 sc_law.nd (we_call (ok_law_pick T) hG (hr.mono (by decide)) T.g__law_pick T.F__law_pick.kp T.b__law_pick dflt0 tk0 (wa_cons (we_var 1) (wa_cons (we_lst (wa_cons (we_call (ok_law_amount T) hG (hr.mono (by decide)) T.g__law_amount T.F__law_amount.kp T.b__law_amount dflt0 tk0 (wa_cons (we_var 1) wa_nil)) (wa_cons (we_call (ok_law_amount T) hG (hr.mono (by decide)) T.g__law_amount T.F__law_amount.kp T.b__law_amount dflt0 tk0 (wa_cons (we_var 1) wa_nil)) (wa_cons (we_op ow_sub (we_op ow_add (we_op ow_pow we_int we_int) we_int) (we_call (ok_law_take T) hG (hr.mono (by decide)) T.g__law_take T.F__law_take.kp T.b__law_take dflt0 tk0 (wa_cons (we_var 1) (wa_cons we_int wa_nil)))) wa_nil)))) wa_nil))))
  (wss_cut (ws_set 10 sc_law.nd (we_call (ok_law_pick T) hG (hr.mono (by decide)) T.g__law_pick T.F__law_pick.kp T.b__law_pick dflt0 tk0 (wa_cons (we_var 1) (wa_cons (we_lst (wa_cons (we_var 10) (wa_cons (we_var 10) (wa_cons (we_un un_negW we_int) (wa_cons we_int (wa_cons we_bl (wa_cons we_bl (wa_cons we_non (wa_cons we_str (wa_cons (we_lst (wa_cons we_int wa_nil)) (wa_cons (we_tup (wa_cons we_int wa_nil)) (wa_cons (we_op ow_pow we_int we_int) (wa_cons (we_un un_negW (we_op ow_pow we_int we_int)) wa_nil))))))))))))) wa_nil))))
  (wss_one (ws_if (wt_cmp (ow_ne hr.units) (we_callB (cw_repr hG (hu80 hr) T.noSys) T.m_repr (wa_cons (we_lst (wa_cons (we_call (ok_is_amount T) hG (hr.mono (by decide)) T.g_is_amount T.F_is_amount.kp T.b_is_amount dflt0 tk0 (wa_cons (we_var 10) wa_nil)) (wa_cons (we_callK0 (ok_is_amount T) hG (hr.mono (by decide)) T.g_is_amount T.F_is_amount.kp T.kb_is_amount_value tk0 (wk_cons (we_var 10) wk_nil)) wa_nil))) wa_nil)) (we_callB (cw_repr hG (hu80 hr) T.noSys) T.m_repr (wa_cons (we_lst (wa_cons (we_call (ok_law_is_money T) hG (hr.mono (by decide)) T.g__law_is_money T.F__law_is_money.kp T.b__law_is_money dflt0 tk0 (wa_cons (we_var 10) wa_nil)) (wa_cons (we_call (ok_law_is_money T) hG (hr.mono (by decide)) T.g__law_is_money T.F__law_is_money.kp T.b__law_is_money dflt0 tk0 (wa_cons (we_var 10) wa_nil)) wa_nil))) wa_nil)))
  (wss_one (ws_ret we_bl))
  wss_nil)))))))))))))
  (wss_one (ws_ret we_bl)))) -/
section
variable {P : Program} {w : World} {K : PySem.W.Frag} {mg : Str → Option Value} {base : Heap}
/-! ### draws -/
theorem ok_law_takeI (T : Tx K mg base) : FnG P w K mg base 1 T.f__law_take T.d__law_take ["_law_state", "_law_size"] SpTakeI := by
  refine okG T.F__law_take sc_law_take (fun xs S Q E h => by cases h; rfl) fun cdv A outer s H EX F0 xs S0 Q E hG hr hp tk h => ?_
  cases h with
  | @mk p b m n w c r t S _ _ nb hr0 hw hc hc2 hw2 ht htn h1 h2 hn q =>
  refine ⟨_, (wss_cons (ws_while hp (WW.wt (ww_and (wt_cmp (ow_eq hr.units) (we_dget (hu_of hr) (we_var 0) we_str) we_int) (ww_and1 (wt_cmp (ow_neNil hr.units) (we_dget (hu_of hr) (we_var 0) we_str) (we_lst wa_nil)))))
  (wss_one (ws_dput (hu_of hr) (we_var 0) we_str (we_bm PySem.F.plainAttrs_list PySem.F.slot_list_pop PySem.F.type_list_pop (by decide) mw_popAt (we_dget (hu_of hr) (we_var 0) we_str) (wa_cons we_int wa_nil)))))
  (wss_cons (ws_if (wt_cmp ow_gt (we_dget (hu_of hr) (we_var 0) we_str) we_int)
  (wss_cons (ws_set 2 sc_law_take.nd (we_op ow_mod (we_dget (hu_of hr) (we_var 0) we_str) (we_var 1)))
  (wss_cons (ws_dput (hu_of hr) (we_var 0) we_str (we_op ow_fdiv (we_dget (hu_of hr) (we_var 0) we_str) (we_var 1)))
  (wss_one (ws_ret (we_var 2)))))
  wss_nil)
  (wss_cons (ws_set 3 sc_law_take.nd (we_op ow_add (we_dget (hu_of hr) (we_var 0) we_str) we_int))
  (wss_cons (ws_dput (hu_of hr) (we_var 0) we_str (we_var 3))
  (wss_cons (ws_set 4 sc_law_take.nd (we_ix (we_dget (hu_of hr) (we_var 0) we_str) (we_op ow_mod (we_var 3) (we_callB cw_len T.m_len (wa_cons (we_dget (hu_of hr) (we_var 0) we_str) wa_nil)))))
  (wss_cons (ws_set 5 sc_law_take.nd (we_op ow_mod (we_op ow_add (we_op ow_mod (we_var 4) we_int) (we_op ow_mul we_int (we_var 3))) we_int))
  (wss_cons (ws_set 5 sc_law_take.nd (we_op ow_add (we_op ow_add (we_op ow_mod (we_op ow_pow (we_var 5) we_int) we_int) (we_op ow_mul (we_op ow_mod (we_var 4) we_int) (we_var 3))) (we_op ow_mul (we_op ow_mul we_int (we_var 3)) (we_var 3))))
  (wss_one (ws_ret (we_op ow_mod (we_op ow_fdiv (we_op ow_mod (we_op ow_pow (we_var 5) we_int) we_int) we_int) (we_var 1))))))))))), ?_⟩
  simp only [startP, List.map_cons, List.map_nil, List.length_cons, List.length_nil, Nat.reduceAdd, Nat.reduceSub, List.reduceReplicate, List.cons_append, List.nil_append, List.append_nil, wSeq, wAsg, wgN, wgNil, wgCons, wgTup, wDrop, wRet, wRetN, wNext, wBrk, wCont, wIfS, wV, nth, stV, wC, wOp, wUn, wBool, wChain, wTru, truP, wAnd, wOr, wNot, wIfE, wAndV, wOrV, wNotV, wNil, wCons, wTup, wLst, wLstM, wCB, wPar, wPar3, wAug, wFor, wiSeq, wiRng1, wiRng2, seqL, seqO, rows, addP, intP, intP0, subP, fdivP, modP, powP, mulP, CDiv, CPow, CMul, neP, ordP, ltP, leP, gtP, geP, isNon, isP, isNotP, lenO, lenP, absP, min2P, max2P, listP, tupleP, allP, sumP, intCP, isinP, tysOf, ixP, seqK, keyOf, dgetP, wNoPart, wPart, slcP, slcMP, wSl, wRevL, tyM, wBm, appendP, popAtP, joinP, wDnewM, wPairs, wCall, wCallK, wFrz, wDput, dputP, eqNilP, List.isEmpty_nil, List.isEmpty_cons, Bool.not_true, Bool.not_false, Bool.true_eq_false, Bool.false_eq_true, and_true, true_and, ↓reduceIte, Int.reduceToNat, Int.reducePow, Int.reduceNeg, Int.reduceAdd, Int.reduceSub, Int.reduceMul, Nat.reduceMul, Nat.reduceLT, Nat.reduceLeDiff, isB, String.reduceBEq, Bool.or_true, Bool.or_false, Bool.and_true, Bool.and_false, Bool.true_and, Bool.false_and, Bool.false_or, Bool.true_or, Int.cast_ofNat_Int, Int.reduceBEq, Int.reduceBNe, BEq.rfl, wYes, N_law_take]
  refine while_inv (fun k ρ S' => ∃ (w' : List Int) (r' : Int), w'.length = k ∧ w'.length ≤ 63 ∧ 0 ≤ r' ∧ (∀ x ∈ w', 0 ≤ x) ∧ ρ = [some (.ref p), some (.int m), none, none, none, none] ∧ S' = put (put S p (.raw (.dic (drD b c r' t)))) b (.raw (.lst (w'.map .int)))) w.length ⟨w, r, rfl, hw2, hr0, hw, rfl, rfl⟩ ?_
  rintro k ρ S' ⟨w', r', rfl, h63, hr', hw', rfl, rfl⟩
  obtain ⟨x, hx⟩ := cell_at hc (t := t + 1) (by omega)
  by_cases z : r' = 0
  · subst z
    cases w' with
    | cons y ys =>
      simp only [startP, List.map_cons, List.map_nil, List.length_cons, List.length_nil, Nat.reduceAdd, Nat.reduceSub, List.reduceReplicate, List.cons_append, List.nil_append, List.append_nil, wSeq, wAsg, wgN, wgNil, wgCons, wgTup, wDrop, wRet, wRetN, wNext, wBrk, wCont, wIfS, wV, nth, stV, wC, wOp, wUn, wBool, wChain, wTru, truP, wAnd, wOr, wNot, wIfE, wAndV, wOrV, wNotV, wNil, wCons, wTup, wLst, wLstM, wCB, wPar, wPar3, wAug, wFor, wiSeq, wiRng1, wiRng2, seqL, seqO, rows, addP, intP, intP0, subP, fdivP, modP, powP, mulP, CDiv, CPow, CMul, neP, ordP, ltP, leP, gtP, geP, isNon, isP, isNotP, lenO, lenP, absP, min2P, max2P, listP, tupleP, allP, sumP, intCP, isinP, tysOf, ixP, seqK, keyOf, dgetP, wNoPart, wPart, slcP, slcMP, wSl, wRevL, tyM, wBm, appendP, popAtP, joinP, wDnewM, wPairs, wCall, wCallK, wFrz, wDput, dputP, eqNilP, List.isEmpty_nil, List.isEmpty_cons, Bool.not_true, Bool.not_false, Bool.true_eq_false, Bool.false_eq_true, and_true, true_and, ↓reduceIte, Int.reduceToNat, Int.reducePow, Int.reduceNeg, Int.reduceAdd, Int.reduceSub, Int.reduceMul, Nat.reduceMul, Nat.reduceLT, Nat.reduceLeDiff, isB, String.reduceBEq, Bool.or_true, Bool.or_false, Bool.and_true, Bool.and_false, Bool.true_and, Bool.false_and, Bool.false_or, Bool.true_or, Int.cast_ofNat_Int, Int.reduceBEq, Int.reduceBNe, BEq.rfl, wYes, eqP, rdS, put_ne nb, put_ne nb.symm, put_same, drD_wide, drD_cells, drD_rest, drD_turn, drD_setR, drD_setT, drD_len, BEq.rfl]
      refine ⟨_, fun ρ' S' h => h, ⟨by omega, by omega, by decide⟩, ?_⟩
      simp only [Int.toNat_zero, List.getElem?_cons_zero, List.eraseIdx_zero, List.tail_cons, drD_setR, put_put, put_ab nb]
      have hy := List.length_cons (a := y) (as := ys)
      exact ⟨by decide, ys.length, by omega, ys, y, rfl, by omega, hw' y (List.mem_cons_self), fun x h => hw' x (List.mem_cons_of_mem _ h), trivial, rfl⟩
    | nil =>
      simp only [startP, List.map_cons, List.map_nil, List.length_cons, List.length_nil, Nat.reduceAdd, Nat.reduceSub, List.reduceReplicate, List.cons_append, List.nil_append, List.append_nil, wSeq, wAsg, wgN, wgNil, wgCons, wgTup, wDrop, wRet, wRetN, wNext, wBrk, wCont, wIfS, wV, nth, stV, wC, wOp, wUn, wBool, wChain, wTru, truP, wAnd, wOr, wNot, wIfE, wAndV, wOrV, wNotV, wNil, wCons, wTup, wLst, wLstM, wCB, wPar, wPar3, wAug, wFor, wiSeq, wiRng1, wiRng2, seqL, seqO, rows, addP, intP, intP0, subP, fdivP, modP, powP, mulP, CDiv, CPow, CMul, neP, ordP, ltP, leP, gtP, geP, isNon, isP, isNotP, lenO, lenP, absP, min2P, max2P, listP, tupleP, allP, sumP, intCP, isinP, tysOf, ixP, seqK, keyOf, dgetP, wNoPart, wPart, slcP, slcMP, wSl, wRevL, tyM, wBm, appendP, popAtP, joinP, wDnewM, wPairs, wCall, wCallK, wFrz, wDput, dputP, eqNilP, List.isEmpty_nil, List.isEmpty_cons, Bool.not_true, Bool.not_false, Bool.true_eq_false, Bool.false_eq_true, and_true, true_and, ↓reduceIte, Int.reduceToNat, Int.reducePow, Int.reduceNeg, Int.reduceAdd, Int.reduceSub, Int.reduceMul, Nat.reduceMul, Nat.reduceLT, Nat.reduceLeDiff, isB, String.reduceBEq, Bool.or_true, Bool.or_false, Bool.and_true, Bool.and_false, Bool.true_and, Bool.false_and, Bool.false_or, Bool.true_or, Int.cast_ofNat_Int, Int.reduceBEq, Int.reduceBNe, BEq.rfl, wYes, eqP, rdS, put_ne nb, put_ne nb.symm, put_same, drD_wide, drD_cells, drD_rest, drD_turn, drD_setR, drD_setT, drD_len, BEq.rfl, hx, Int.lt_irrefl, decide_false, put_ab nb]
      refine ⟨by decide, by rw [List.length_map]; have := List.length_pos_iff.mpr hc; omega, by decide, .inr (by omega), by decide, ⟨by decide, by decide, ?_⟩, by decide, by decide, .inr (by omega), .inl (by decide), .inr (by omega), ⟨by decide, by decide, ?_⟩, by decide, ⟨by decide, by decide⟩, h1, q _ [] 0 (t + 1) ?_ ?_ (by omega) (fun x h => nomatch h) (Nat.zero_le _) (by omega) (by omega)⟩
      · omega
      · exact mix_lt (by omega) (by omega)
      · exact Int.emod_nonneg _ (by omega)
      · exact Int.emod_lt_of_pos _ h1
  · simp only [startP, List.map_cons, List.map_nil, List.length_cons, List.length_nil, Nat.reduceAdd, Nat.reduceSub, List.reduceReplicate, List.cons_append, List.nil_append, List.append_nil, wSeq, wAsg, wgN, wgNil, wgCons, wgTup, wDrop, wRet, wRetN, wNext, wBrk, wCont, wIfS, wV, nth, stV, wC, wOp, wUn, wBool, wChain, wTru, truP, wAnd, wOr, wNot, wIfE, wAndV, wOrV, wNotV, wNil, wCons, wTup, wLst, wLstM, wCB, wPar, wPar3, wAug, wFor, wiSeq, wiRng1, wiRng2, seqL, seqO, rows, addP, intP, intP0, subP, fdivP, modP, powP, mulP, CDiv, CPow, CMul, neP, ordP, ltP, leP, gtP, geP, isNon, isP, isNotP, lenO, lenP, absP, min2P, max2P, listP, tupleP, allP, sumP, intCP, isinP, tysOf, ixP, seqK, keyOf, dgetP, wNoPart, wPart, slcP, slcMP, wSl, wRevL, tyM, wBm, appendP, popAtP, joinP, wDnewM, wPairs, wCall, wCallK, wFrz, wDput, dputP, eqNilP, List.isEmpty_nil, List.isEmpty_cons, Bool.not_true, Bool.not_false, Bool.true_eq_false, Bool.false_eq_true, and_true, true_and, ↓reduceIte, Int.reduceToNat, Int.reducePow, Int.reduceNeg, Int.reduceAdd, Int.reduceSub, Int.reduceMul, Nat.reduceMul, Nat.reduceLT, Nat.reduceLeDiff, isB, String.reduceBEq, Bool.or_true, Bool.or_false, Bool.and_true, Bool.and_false, Bool.true_and, Bool.false_and, Bool.false_or, Bool.true_or, Int.cast_ofNat_Int, Int.reduceBEq, Int.reduceBNe, BEq.rfl, wYes, eqP, rdS, put_ne nb, put_ne nb.symm, put_same, drD_wide, drD_cells, drD_rest, drD_turn, drD_setR, drD_setT, drD_len, beq_false_of_ne z, decide_eq_true (show 0 < r' by omega), put_ab nb]
    exact ⟨h1, ⟨h1, h2⟩, by decide, q _ _ _ _ (Int.emod_nonneg _ (by omega)) (Int.emod_lt_of_pos _ h1) (Int.ediv_nonneg hr' (by omega)) hw' h63 ht (by omega)⟩

theorem ok_law_take (T : Tx K mg base) : FnG P w K mg base 1 T.f__law_take T.d__law_take ["_law_state", "_law_size"] SpTake := by
  refine (ok_law_takeI T).via (fun xs S Q E h => by cases h; rfl) fun F H S xs Q E hd h => ?_
  cases h with
  | @mk p m n _ _ _ e h1 h2 hn q =>
  obtain ⟨b, r1, r2, nb, sb, ⟨w, c, r, t, rfl, rfl, a1, a2, a3, a4, a5, a6, a7⟩, hd'⟩ := hd.open2 e
  refine ⟨_, fun v S2 => ∃ (u : Int) (w' : List Int) (r' t' : Int), v = .int u ∧ 0 ≤ u ∧ u < m ∧ 0 ≤ r' ∧ (∀ x ∈ w', 0 ≤ x) ∧ w'.length ≤ 63 ∧ 0 ≤ t' ∧ t' ≤ (n + 1 : Nat) ∧ S2 = put (put S p (.raw (.dic (drD b c r' t')))) b (.raw (.lst (w'.map .int))), fun _ _ => False, hd',
    .mk nb a1 a2 a3 a4 a5 a6 a7 h1 h2 hn fun v w' r' t' b1 b2 b3 b4 b5 b6 b7 => ⟨v, w', r', t', rfl, b1, b2, b3, b4, b5, b6, b7, rfl⟩, fun v S2 ⟨u, w', r', t', z1, z2, z3, z4, z5, z6, z7, z8, z9⟩ => ?_, fun _ _ z => z.elim⟩
  subst z1 z9
  refine ⟨_, fun F2 H2 hd2 => ?_, q u z2 z3⟩
  have := hd2.close2 (p := p) (b := b) (n := n + 1) (ψ := drR) (by rw [put_ne nb.symm, put_same]) put_same nb ⟨w', c, r', t', rfl, rfl, z4, z5, a3, a4, z6, z7, z8⟩
  rwa [put_ab nb, rmv_put (by rw [put_ne nb]; exact sb)] at this
theorem ok_law_begunI (T : Tx K mg base) : FnG P w K mg base 1 T.f__law_begun T.d__law_begun ["_law_script"] SpBegunI := by
  refine okG T.F__law_begun sc_law_begun (fun xs S Q E h => by cases h; rfl) fun cdv A outer s H EX F0 xs S0 Q E hG hr hp tk h => ?_
  cases h with
  | @mk ns _ _ _ hl q =>
  refine ⟨_, (wss_cons (ws_setLc (mk := true) 1 rfl sc_law_begun.nd (wi_seq (we_var 0)) (own := [("_law_cell", 2)]) (blkOk_by (N := N_law_begun) (sc := defScope s_law_begun) (by decide +kernel)) (fun _ _ _ _ _ => (wg_name 2 sc_law_begun.nd)) (by decide) (fun _ _ _ _ _ => (wts_one (wt_cmp ow_ge (we_callB cw_abs T.m_abs (wa_cons (we_var 2) wa_nil)) (we_op ow_pow we_int we_int)))) (fun _ _ _ _ _ => (we_op ow_sub (we_callB cw_abs T.m_abs (wa_cons (we_var 2) wa_nil)) (we_op ow_pow we_int we_int))))
  (wss_one (ws_ret (we_dispM (WPs.cons we_str (we_var 1) (WPs.cons we_str (we_or (we_callTy (cw_list (mk := false)) T.m_list (wa_cons (we_var 0) wa_nil)) (we_one (we_lst (wa_cons we_int wa_nil)))) (WPs.cons we_str we_int (WPs.cons we_str we_int WPs.nil)))))))), ?_⟩
  simp only [startP, List.map_cons, List.map_nil, List.length_cons, List.length_nil, Nat.reduceAdd, Nat.reduceSub, List.reduceReplicate, List.cons_append, List.nil_append, List.append_nil, wSeq, wAsg, wgN, wgNil, wgCons, wgTup, wDrop, wRet, wRetN, wNext, wBrk, wCont, wIfS, wV, nth, stV, wC, wOp, wUn, wBool, wChain, wTru, truP, wAnd, wOr, wNot, wIfE, wAndV, wOrV, wNotV, wNil, wCons, wTup, wLst, wLstM, wCB, wPar, wPar3, wAug, wFor, wiSeq, wiRng1, wiRng2, seqL, seqO, rows, addP, intP, intP0, subP, fdivP, modP, powP, mulP, CDiv, CPow, CMul, neP, ordP, ltP, leP, gtP, geP, isNon, isP, isNotP, lenO, lenP, absP, min2P, max2P, listP, tupleP, allP, sumP, intCP, isinP, tysOf, ixP, seqK, keyOf, dgetP, wNoPart, wPart, slcP, slcMP, wSl, wRevL, tyM, wBm, appendP, popAtP, joinP, wDnewM, wPairs, wCall, wCallK, wFrz, wDput, dputP, eqNilP, List.isEmpty_nil, List.isEmpty_cons, Bool.not_true, Bool.not_false, Bool.true_eq_false, Bool.false_eq_true, and_true, true_and, ↓reduceIte, Int.reduceToNat, Int.reducePow, Int.reduceNeg, Int.reduceAdd, Int.reduceSub, Int.reduceMul, Nat.reduceMul, Nat.reduceLT, Nat.reduceLeDiff, isB, String.reduceBEq, Bool.or_true, Bool.or_false, Bool.and_true, Bool.and_false, Bool.true_and, Bool.false_and, Bool.false_or, Bool.true_or, Int.cast_ofNat_Int, Int.reduceBEq, Int.reduceBNe, BEq.rfl, wYes, N_law_begun, wLc, wDispM]
  intro D hD
  have hfm : ∀ l : List Int, (l.map PV.int).filterMap wideF = ((l.filter wideB).map wideV).map .int := by
    intro l
    induction l with
    | nil => rfl
    | cons i l ih =>
      by_cases z : wideB i = true
      · rw [List.map_cons, List.filterMap_cons_some (show wideF (.int i) = some (.int (wideV i)) from if_pos z), List.filter_cons_of_pos z, List.map_cons, List.map_cons, ih]
      · rw [List.map_cons, List.filterMap_cons_none (show wideF (.int i) = none from if_neg z), List.filter_cons_of_neg z, ih]
  refine lc_pure wideF (by rw [List.length_map]; exact Nat.le_trans hl (by decide)) (fun x hx S' R1 R0 _ k1 k0 => ?_) trivial ?_
  · obtain ⟨i, _, rfl⟩ := List.mem_map.mp hx
    simp only [startP, List.map_cons, List.map_nil, List.length_cons, List.length_nil, Nat.reduceAdd, Nat.reduceSub, List.reduceReplicate, List.cons_append, List.nil_append, List.append_nil, wSeq, wAsg, wgN, wgNil, wgCons, wgTup, wDrop, wRet, wRetN, wNext, wBrk, wCont, wIfS, wV, nth, stV, wC, wOp, wUn, wBool, wChain, wTru, truP, wAnd, wOr, wNot, wIfE, wAndV, wOrV, wNotV, wNil, wCons, wTup, wLst, wLstM, wCB, wPar, wPar3, wAug, wFor, wiSeq, wiRng1, wiRng2, seqL, seqO, rows, addP, intP, intP0, subP, fdivP, modP, powP, mulP, CDiv, CPow, CMul, neP, ordP, ltP, leP, gtP, geP, isNon, isP, isNotP, lenO, lenP, absP, min2P, max2P, listP, tupleP, allP, sumP, intCP, isinP, tysOf, ixP, seqK, keyOf, dgetP, wNoPart, wPart, slcP, slcMP, wSl, wRevL, tyM, wBm, appendP, popAtP, joinP, wDnewM, wPairs, wCall, wCallK, wFrz, wDput, dputP, eqNilP, List.isEmpty_nil, List.isEmpty_cons, Bool.not_true, Bool.not_false, Bool.true_eq_false, Bool.false_eq_true, and_true, true_and, ↓reduceIte, Int.reduceToNat, Int.reducePow, Int.reduceNeg, Int.reduceAdd, Int.reduceSub, Int.reduceMul, Nat.reduceMul, Nat.reduceLT, Nat.reduceLeDiff, isB, String.reduceBEq, Bool.or_true, Bool.or_false, Bool.and_true, Bool.and_false, Bool.true_and, Bool.false_and, Bool.false_or, Bool.true_or, Int.cast_ofNat_Int, Int.reduceBEq, Int.reduceBNe, BEq.rfl, wYes, wipeP]
    refine ⟨by decide, ?_⟩
    split
    · rename_i z
      exact ⟨by decide, k1 _ (if_pos z)⟩
    · rename_i z
      exact k0 (if_neg (by show ¬ (decide _ = true); rw [z]; decide))
  · show lcEnd true _ _ _ _
    simp only [lcEnd]
    intro p hp'
    have nb : D ≠ p := fun z => by rw [← z, put_same] at hp'; cases hp'
    rw [put_ne nb.symm] at hp'
    simp only [hfm, put_put, put_same]
    have hw : ∀ x ∈ (ns.filter wideB).map wideV, 0 ≤ x := fun x hx => by
      obtain ⟨i, hi, rfl⟩ := List.mem_map.mp hx
      have := of_decide_eq_true (List.mem_filter.mp hi).2
      unfold wideV
      omega
    have hwl : ((ns.filter wideB).map wideV).length ≤ 63 := by
      rw [List.length_map]
      exact Nat.le_trans (List.length_filter_le _ _) hl
    have hk : ∀ x y : PV, (match keysOf [(PV.str "wide", x), (PV.str "cells", y), (PV.str "rest", PV.int 0), (PV.str "turn", PV.int 0)] with
        | some ks => ks.Nodup
        | none => False) := fun x y => by
      show List.Nodup [(Sum.inr "wide" : Key), .inr "cells", .inr "rest", .inr "turn"]
      decide +kernel
    cases ns with
    | nil => exact ⟨trivial, hk (.ref D) (.lst [.int 1]), q p D _ [1] nb hp' hD hw (fun z => nomatch z) (by decide) hwl⟩
    | cons n1 ns => exact ⟨trivial, hk (.ref D) (.lst ((n1 :: ns).map .int)), q p D _ (n1 :: ns) nb hp' hD hw (fun z => nomatch z) hl hwl⟩
theorem ok_law_begun (T : Tx K mg base) : FnG P w K mg base 1 T.f__law_begun T.d__law_begun ["_law_script"] SpBegun := by
  refine (ok_law_begunI T).via (fun xs S Q E h => by cases h; rfl) fun F H S xs Q E hd h => ?_
  cases h with
  | @mk ns _ _ _ hl q =>
  refine ⟨S, fun v S2 => ∃ (p b : Addr) (w c : List Int), v = .ref p ∧ b ≠ p ∧ S p = none ∧ S b = none ∧ (∀ x ∈ w, 0 ≤ x) ∧ c ≠ [] ∧ c.length ≤ 63 ∧ w.length ≤ 63 ∧ S2 = put (put S b (.raw (.lst (w.map .int)))) p (.raw (.dic (drD b c 0 0))), fun _ _ => False, hd,
    .mk hl fun p b w c a1 a2 a3 a4 a5 a6 a7 => ⟨p, b, w, c, rfl, a1, a2, a3, a4, a5, a6, a7, rfl⟩, fun v S2 ⟨p, b, w, c, z1, nb, z2, z3, z4, z5, z6, z7, z8⟩ => ?_, fun _ _ z => z.elim⟩
  subst z1 z8
  refine ⟨_, fun F2 H2 hd2 => ?_, q p z2⟩
  have := hd2.close2 (p := p) (b := b) (n := 0) (ψ := drR) put_same (by rw [put_ne nb, put_same]) nb ⟨w, c, 0, 0, rfl, rfl, Int.le_refl 0, z4, z5, z6, z7, Int.le_refl 0, Int.le_refl 0⟩
  rwa [put_put, put_comm nb, rmv_put (by rw [put_ne nb]; exact z3)] at this
theorem ok_law_pick (T : Tx K mg base) : FnG P w K mg base 2 T.f__law_pick T.d__law_pick ["_law_state", "_law_some"] SpPick := by
  refine okG T.F__law_pick sc_law_pick (fun xs S Q E h => by cases h; rfl) fun cdv A outer s H EX F0 xs S0 Q E hG hr hp tk h => ?_
  cases h with
  | @mk p x xs n _ _ _ e hx h0 hl hn q =>
  refine ⟨_, (wss_one (ws_ret (we_ix (we_var 1) (we_call (ok_law_take T) hG (hr.mono (by decide)) T.g__law_take T.F__law_take.kp T.b__law_take dflt0 tk0 (wa_cons (we_var 0) (wa_cons (we_callB cw_len T.m_len (wa_cons (we_var 1) wa_nil)) wa_nil)))))), ?_⟩
  have hpos := List.length_pos_iff.mpr h0
  simp only [startP, N_law_pick, List.map_cons, List.map_nil, List.length_cons, List.length_nil, Nat.reduceAdd, Nat.reduceSub, List.reduceReplicate, List.append_nil, wRet, wOp, wV, nth, wCall, wCons, wCB, wNil, lenP, rows_len hx hl]
  refine .mk e (by omega) (by omega) hn fun r b1 b2 => ?_
  exact rows_ix (rows_put e hx) hl b1 b2 q

/-! ### what is a name, a number, a sum, a sale -/
theorem ok_is_number (T : Tx K mg base) : FnG P w K mg base 1 T.f_is_number T.d_is_number ["value"] (pure1 PlainC fun x => .bl (isNum x)) := by
  refine okG T.F_is_number sc_is_number pure1_len fun cdv A outer s H EX F0 xs S0 Q E hG hr hp tk h => ?_
  unfold pure1 at h
  split at h
  · rename_i x
    obtain ⟨h, q⟩ := h
    have hpl := h.plain
    refine ⟨_, (wss_one (ws_ret (we_and (we_callB cw_isi T.m_isinstance (wa_cons (we_var 0) (wa_cons (we_bty (n := "int") T.m_int) wa_nil))) (we_one (we_not (we_callB cw_isi T.m_isinstance (wa_cons (we_var 0) (wa_cons (we_bty (n := "bool") T.m_bool) wa_nil)))))))), ?_⟩
    cases x <;> first | cases hpl; done | (simp only [startP, List.map_cons, List.map_nil, List.length_cons, List.length_nil, Nat.reduceAdd, Nat.reduceSub, List.reduceReplicate, List.cons_append, List.nil_append, List.append_nil, wSeq, wAsg, wgN, wgNil, wgCons, wgTup, wDrop, wRet, wRetN, wNext, wBrk, wCont, wIfS, wV, nth, stV, wC, wOp, wUn, wBool, wChain, wTru, truP, wAnd, wOr, wNot, wIfE, wAndV, wOrV, wNotV, wNil, wCons, wTup, wLst, wLstM, wCB, wPar, wPar3, wAug, wFor, wiSeq, wiRng1, wiRng2, seqL, seqO, rows, addP, intP, intP0, subP, fdivP, modP, powP, mulP, CDiv, CPow, CMul, neP, ordP, ltP, leP, gtP, geP, isNon, isP, isNotP, lenO, lenP, absP, min2P, max2P, listP, tupleP, allP, sumP, intCP, isinP, tysOf, ixP, seqK, keyOf, dgetP, wNoPart, wPart, slcP, slcMP, wSl, wRevL, tyM, wBm, appendP, popAtP, joinP, wDnewM, wPairs, wCall, wCallK, wFrz, wDput, dputP, eqNilP, List.isEmpty_nil, List.isEmpty_cons, Bool.not_true, Bool.not_false, Bool.true_eq_false, Bool.false_eq_true, and_true, true_and, ↓reduceIte, Int.reduceToNat, Int.reducePow, Int.reduceNeg, Int.reduceAdd, Int.reduceSub, Int.reduceMul, Nat.reduceMul, Nat.reduceLT, Nat.reduceLeDiff, isB, String.reduceBEq, Bool.or_true, Bool.or_false, Bool.and_true, Bool.and_false, Bool.true_and, Bool.false_and, Bool.false_or, Bool.true_or, Int.cast_ofNat_Int, Int.reduceBEq, Int.reduceBNe, BEq.rfl, wYes, N_is_number, kind_int, kind_bool, tyN]; exact q)
  · exact h.elim
theorem ok_is_amount (T : Tx K mg base) : FnG P w K mg base 2 T.f_is_amount T.d_is_amount ["value"] (pure1 PlainC fun x => .bl (isAmt x)) := by
  refine okG T.F_is_amount sc_is_amount pure1_len fun cdv A outer s H EX F0 xs S0 Q E hG hr hp tk h => ?_
  unfold pure1 at h
  split at h
  · rename_i x
    obtain ⟨h, q⟩ := h
    have hpl := h.plain
    refine ⟨_, (wss_one (ws_ret (we_and (we_call (ok_is_number T) hG (hr.mono (by decide)) T.g_is_number T.F_is_number.kp T.b_is_number dflt0 tk0 (wa_cons (we_var 0) wa_nil)) (we_one (we_chain ow_le ow_le we_int (we_var 0) (we_ccon T.g_Accounts T.r_Accounts T.c_Accounts_MOST fun _ => .int _)))))), ?_⟩
    simp only [startP, List.map_cons, List.map_nil, List.length_cons, List.length_nil, Nat.reduceAdd, Nat.reduceSub, List.reduceReplicate, List.cons_append, List.nil_append, List.append_nil, wSeq, wAsg, wgN, wgNil, wgCons, wgTup, wDrop, wRet, wRetN, wNext, wBrk, wCont, wIfS, wV, nth, stV, wC, wOp, wUn, wBool, wChain, wTru, truP, wAnd, wOr, wNot, wIfE, wAndV, wOrV, wNotV, wNil, wCons, wTup, wLst, wLstM, wCB, wPar, wPar3, wAug, wFor, wiSeq, wiRng1, wiRng2, seqL, seqO, rows, addP, intP, intP0, subP, fdivP, modP, powP, mulP, CDiv, CPow, CMul, neP, ordP, ltP, leP, gtP, geP, isNon, isP, isNotP, lenO, lenP, absP, min2P, max2P, listP, tupleP, allP, sumP, intCP, isinP, tysOf, ixP, seqK, keyOf, dgetP, wNoPart, wPart, slcP, slcMP, wSl, wRevL, tyM, wBm, appendP, popAtP, joinP, wDnewM, wPairs, wCall, wCallK, wFrz, wDput, dputP, eqNilP, List.isEmpty_nil, List.isEmpty_cons, Bool.not_true, Bool.not_false, Bool.true_eq_false, Bool.false_eq_true, and_true, true_and, ↓reduceIte, Int.reduceToNat, Int.reducePow, Int.reduceNeg, Int.reduceAdd, Int.reduceSub, Int.reduceMul, Nat.reduceMul, Nat.reduceLT, Nat.reduceLeDiff, isB, String.reduceBEq, Bool.or_true, Bool.or_false, Bool.and_true, Bool.and_false, Bool.true_and, Bool.false_and, Bool.false_or, Bool.true_or, Int.cast_ofNat_Int, Int.reduceBEq, Int.reduceBNe, BEq.rfl, wYes, N_is_amount, pure1]
    refine ⟨h, ?_⟩
    cases x with
    | int i =>
      simp only [isNum, truP, startP, List.map_cons, List.map_nil, List.length_cons, List.length_nil, Nat.reduceAdd, Nat.reduceSub, List.reduceReplicate, List.cons_append, List.nil_append, List.append_nil, wSeq, wAsg, wgN, wgNil, wgCons, wgTup, wDrop, wRet, wRetN, wNext, wBrk, wCont, wIfS, wV, nth, stV, wC, wOp, wUn, wBool, wChain, wTru, truP, wAnd, wOr, wNot, wIfE, wAndV, wOrV, wNotV, wNil, wCons, wTup, wLst, wLstM, wCB, wPar, wPar3, wAug, wFor, wiSeq, wiRng1, wiRng2, seqL, seqO, rows, addP, intP, intP0, subP, fdivP, modP, powP, mulP, CDiv, CPow, CMul, neP, ordP, ltP, leP, gtP, geP, isNon, isP, isNotP, lenO, lenP, absP, min2P, max2P, listP, tupleP, allP, sumP, intCP, isinP, tysOf, ixP, seqK, keyOf, dgetP, wNoPart, wPart, slcP, slcMP, wSl, wRevL, tyM, wBm, appendP, popAtP, joinP, wDnewM, wPairs, wCall, wCallK, wFrz, wDput, dputP, eqNilP, List.isEmpty_nil, List.isEmpty_cons, Bool.not_true, Bool.not_false, Bool.true_eq_false, Bool.false_eq_true, and_true, true_and, ↓reduceIte, Int.reduceToNat, Int.reducePow, Int.reduceNeg, Int.reduceAdd, Int.reduceSub, Int.reduceMul, Nat.reduceMul, Nat.reduceLT, Nat.reduceLeDiff, isB, String.reduceBEq, Bool.or_true, Bool.or_false, Bool.and_true, Bool.and_false, Bool.true_and, Bool.false_and, Bool.false_or, Bool.true_or, Int.cast_ofNat_Int, Int.reduceBEq, Int.reduceBNe, BEq.rfl, wYes]
      replace q : Q (.bl (decide (0 ≤ i) && decide (i ≤ 1000000000))) S0 := q
      by_cases z : 0 ≤ i
      · simp only [z, decide_true, ↓reduceIte]
        rwa [decide_eq_true z, Bool.true_and] at q
      · simp only [z, decide_false, Bool.false_eq_true, ↓reduceIte]
        rwa [decide_eq_false z, Bool.false_and] at q
    | _ => exact q
  · exact h.elim
theorem ok_law_is_money (T : Tx K mg base) : FnG P w K mg base 1 T.f__law_is_money T.d__law_is_money ["_law_thing"] (pure1 PlainC fun x => .bl (isAmt x)) := by
  refine okG T.F__law_is_money sc_law_is_money pure1_len fun cdv A outer s H EX F0 xs S0 Q E hG hr hp tk h => ?_
  unfold pure1 at h
  split at h
  · rename_i x
    obtain ⟨h, q⟩ := h
    have hpl := h.plain
    refine ⟨_, (wss_one (ws_ret (we_and (we_callB cw_isi T.m_isinstance (wa_cons (we_var 0) (wa_cons (we_bty (n := "int") T.m_int) wa_nil))) (we_and (we_not (we_callB cw_isi T.m_isinstance (wa_cons (we_var 0) (wa_cons (we_bty (n := "bool") T.m_bool) wa_nil)))) (we_one (we_chain ow_le ow_le we_int (we_var 0) (we_op ow_pow we_int we_int))))))), ?_⟩
    cases x with
    | int i =>
      simp only [startP, List.map_cons, List.map_nil, List.length_cons, List.length_nil, Nat.reduceAdd, Nat.reduceSub, List.reduceReplicate, List.cons_append, List.nil_append, List.append_nil, wSeq, wAsg, wgN, wgNil, wgCons, wgTup, wDrop, wRet, wRetN, wNext, wBrk, wCont, wIfS, wV, nth, stV, wC, wOp, wUn, wBool, wChain, wTru, truP, wAnd, wOr, wNot, wIfE, wAndV, wOrV, wNotV, wNil, wCons, wTup, wLst, wLstM, wCB, wPar, wPar3, wAug, wFor, wiSeq, wiRng1, wiRng2, seqL, seqO, rows, addP, intP, intP0, subP, fdivP, modP, powP, mulP, CDiv, CPow, CMul, neP, ordP, ltP, leP, gtP, geP, isNon, isP, isNotP, lenO, lenP, absP, min2P, max2P, listP, tupleP, allP, sumP, intCP, isinP, tysOf, ixP, seqK, keyOf, dgetP, wNoPart, wPart, slcP, slcMP, wSl, wRevL, tyM, wBm, appendP, popAtP, joinP, wDnewM, wPairs, wCall, wCallK, wFrz, wDput, dputP, eqNilP, List.isEmpty_nil, List.isEmpty_cons, Bool.not_true, Bool.not_false, Bool.true_eq_false, Bool.false_eq_true, and_true, true_and, ↓reduceIte, Int.reduceToNat, Int.reducePow, Int.reduceNeg, Int.reduceAdd, Int.reduceSub, Int.reduceMul, Nat.reduceMul, Nat.reduceLT, Nat.reduceLeDiff, isB, String.reduceBEq, Bool.or_true, Bool.or_false, Bool.and_true, Bool.and_false, Bool.true_and, Bool.false_and, Bool.false_or, Bool.true_or, Int.cast_ofNat_Int, Int.reduceBEq, Int.reduceBNe, BEq.rfl, wYes, N_law_is_money, kind_int, kind_bool, tyN]
      replace q : Q (.bl (decide (0 ≤ i) && decide (i ≤ 1000000000))) S0 := q
      by_cases z : 0 ≤ i
      · rw [decide_eq_true z, Bool.true_and] at q
        simp only [z, decide_true, ↓reduceIte]
        exact ⟨by decide, q⟩
      · rw [decide_eq_false z, Bool.false_and] at q
        simp only [z, decide_false, Bool.false_eq_true, ↓reduceIte]
        exact q
    | _ => first | cases hpl; done | (simp only [startP, List.map_cons, List.map_nil, List.length_cons, List.length_nil, Nat.reduceAdd, Nat.reduceSub, List.reduceReplicate, List.cons_append, List.nil_append, List.append_nil, wSeq, wAsg, wgN, wgNil, wgCons, wgTup, wDrop, wRet, wRetN, wNext, wBrk, wCont, wIfS, wV, nth, stV, wC, wOp, wUn, wBool, wChain, wTru, truP, wAnd, wOr, wNot, wIfE, wAndV, wOrV, wNotV, wNil, wCons, wTup, wLst, wLstM, wCB, wPar, wPar3, wAug, wFor, wiSeq, wiRng1, wiRng2, seqL, seqO, rows, addP, intP, intP0, subP, fdivP, modP, powP, mulP, CDiv, CPow, CMul, neP, ordP, ltP, leP, gtP, geP, isNon, isP, isNotP, lenO, lenP, absP, min2P, max2P, listP, tupleP, allP, sumP, intCP, isinP, tysOf, ixP, seqK, keyOf, dgetP, wNoPart, wPart, slcP, slcMP, wSl, wRevL, tyM, wBm, appendP, popAtP, joinP, wDnewM, wPairs, wCall, wCallK, wFrz, wDput, dputP, eqNilP, List.isEmpty_nil, List.isEmpty_cons, Bool.not_true, Bool.not_false, Bool.true_eq_false, Bool.false_eq_true, and_true, true_and, ↓reduceIte, Int.reduceToNat, Int.reducePow, Int.reduceNeg, Int.reduceAdd, Int.reduceSub, Int.reduceMul, Nat.reduceMul, Nat.reduceLT, Nat.reduceLeDiff, isB, String.reduceBEq, Bool.or_true, Bool.or_false, Bool.and_true, Bool.and_false, Bool.true_and, Bool.false_and, Bool.false_or, Bool.true_or, Int.cast_ofNat_Int, Int.reduceBEq, Int.reduceBNe, BEq.rfl, wYes, N_law_is_money, kind_int, kind_bool, tyN]; exact q)
  · exact h.elim
theorem ok_is_name (T : Tx K mg base) : FnG P w K mg base 1 T.f_is_name T.d_is_name ["value"] (pure1 PlainC fun x => .bl (isNam x)) := by
  refine okG T.F_is_name sc_is_name pure1_len fun cdv A outer s H EX F0 xs S0 Q E hG hr hp tk h => ?_
  unfold pure1 at h
  split at h
  · rename_i x
    obtain ⟨h, q⟩ := h
    have hpl := h.plain
    refine ⟨_, (wss_cons (ws_if (WW.wt (ww_or (wt_not (wt_tru (we_callB cw_isi T.m_isinstance (wa_cons (we_var 0) (wa_cons (we_bty (n := "str") T.m_str) wa_nil))))) (ww_or1 (wt_not (wt_chain ow_le ow_le we_int (we_callB cw_len T.m_len (wa_cons (we_var 0) wa_nil)) (we_gint T.g_LONGEST_NAME))))))
  (wss_one (ws_ret we_bl))
  wss_nil)
  (wss_one (ws_ret (we_callB (cw_all rfl) T.m_all (wa_cons (we_lc (mk := false) rfl sc_is_name.nd (wi_seq (we_var 0)) (own := [("sign", 1)]) (blkOk_by (N := N_is_name) (sc := defScope s_is_name) (by decide +kernel)) (fun _ _ _ _ _ => (wg_name 1 sc_is_name.nd)) (by decide) (fun _ _ _ _ _ => wts_nil) (fun _ _ _ _ _ => (we_cmp (ow_in (hu_of hr)) (we_var 1) (we_gstr T.g_LETTERS)))) wa_nil))))), ?_⟩
    cases x with
    | str z =>
      have hz := h.str
      have hz2 : z.length ≤ sizeLine := Nat.le_trans hz (by decide)
      simp only [startP, List.map_cons, List.map_nil, List.length_cons, List.length_nil, Nat.reduceAdd, Nat.reduceSub, List.reduceReplicate, List.cons_append, List.nil_append, List.append_nil, wSeq, wAsg, wgN, wgNil, wgCons, wgTup, wDrop, wRet, wRetN, wNext, wBrk, wCont, wIfS, wV, nth, stV, wC, wOp, wUn, wBool, wChain, wTru, truP, wAnd, wOr, wNot, wIfE, wAndV, wOrV, wNotV, wNil, wCons, wTup, wLst, wLstM, wCB, wPar, wPar3, wAug, wFor, wiSeq, wiRng1, wiRng2, seqL, seqO, rows, addP, intP, intP0, subP, fdivP, modP, powP, mulP, CDiv, CPow, CMul, neP, ordP, ltP, leP, gtP, geP, isNon, isP, isNotP, lenO, lenP, absP, min2P, max2P, listP, tupleP, allP, sumP, intCP, isinP, tysOf, ixP, seqK, keyOf, dgetP, wNoPart, wPart, slcP, slcMP, wSl, wRevL, tyM, wBm, appendP, popAtP, joinP, wDnewM, wPairs, wCall, wCallK, wFrz, wDput, dputP, eqNilP, List.isEmpty_nil, List.isEmpty_cons, Bool.not_true, Bool.not_false, Bool.true_eq_false, Bool.false_eq_true, and_true, true_and, ↓reduceIte, Int.reduceToNat, Int.reducePow, Int.reduceNeg, Int.reduceAdd, Int.reduceSub, Int.reduceMul, Nat.reduceMul, Nat.reduceLT, Nat.reduceLeDiff, isB, String.reduceBEq, Bool.or_true, Bool.or_false, Bool.and_true, Bool.and_false, Bool.true_and, Bool.false_and, Bool.false_or, Bool.true_or, Int.cast_ofNat_Int, Int.reduceBEq, Int.reduceBNe, BEq.rfl, wYes, N_is_name, kind_str, tyN, hz2, wLc]
      replace q : Q (.bl (decide (1 ≤ z.length) && decide (z.length ≤ 8) && (signs z).all inLet)) S0 := q
      have e1 : decide ((1 : Int) ≤ (z.length : Int)) = decide (1 ≤ z.length) := decide_eq_decide.mpr (by omega)
      have e2 : decide ((z.length : Int) ≤ 8) = decide (z.length ≤ 8) := decide_eq_decide.mpr (by omega)
      simp only [e1, e2]
      by_cases a1 : 1 ≤ z.length
      · by_cases a2 : z.length ≤ 8
        · rw [decide_eq_true a1, decide_eq_true a2] at q ⊢
          simp only [Bool.not_true, ↓reduceIte, Bool.true_and] at q ⊢
          intro D hD
          refine lc_pureF (fun x => some (.bl (inLet x))) (by rw [signs_len]; exact hz2) hD (fun x hx S' R1 R0 _ k1 k0 => ?_) (fun _ _ => trivial) ?_
          · obtain ⟨c, _, rfl⟩ := List.mem_map.mp hx
            simp only [startP, List.map_cons, List.map_nil, List.length_cons, List.length_nil, Nat.reduceAdd, Nat.reduceSub, List.reduceReplicate, List.cons_append, List.nil_append, List.append_nil, wSeq, wAsg, wgN, wgNil, wgCons, wgTup, wDrop, wRet, wRetN, wNext, wBrk, wCont, wIfS, wV, nth, stV, wC, wOp, wUn, wBool, wChain, wTru, truP, wAnd, wOr, wNot, wIfE, wAndV, wOrV, wNotV, wNil, wCons, wTup, wLst, wLstM, wCB, wPar, wPar3, wAug, wFor, wiSeq, wiRng1, wiRng2, seqL, seqO, rows, addP, intP, intP0, subP, fdivP, modP, powP, mulP, CDiv, CPow, CMul, neP, ordP, ltP, leP, gtP, geP, isNon, isP, isNotP, lenO, lenP, absP, min2P, max2P, listP, tupleP, allP, sumP, intCP, isinP, tysOf, ixP, seqK, keyOf, dgetP, wNoPart, wPart, slcP, slcMP, wSl, wRevL, tyM, wBm, appendP, popAtP, joinP, wDnewM, wPairs, wCall, wCallK, wFrz, wDput, dputP, eqNilP, List.isEmpty_nil, List.isEmpty_cons, Bool.not_true, Bool.not_false, Bool.true_eq_false, Bool.false_eq_true, and_true, true_and, ↓reduceIte, Int.reduceToNat, Int.reducePow, Int.reduceNeg, Int.reduceAdd, Int.reduceSub, Int.reduceMul, Nat.reduceMul, Nat.reduceLT, Nat.reduceLeDiff, isB, String.reduceBEq, Bool.or_true, Bool.or_false, Bool.and_true, Bool.and_false, Bool.true_and, Bool.false_and, Bool.false_or, Bool.true_or, Int.cast_ofNat_Int, Int.reduceBEq, Int.reduceBNe, BEq.rfl, wYes, wipeP, wYes, inP, memP]
            exact k1 _ rfl
          · simp only [filterMap_some, boolsOf_in, all_id]
            exact q
        · rw [decide_eq_true a1, decide_eq_false a2] at q ⊢
          simpa using q
      · rw [decide_eq_false a1] at q ⊢
        simpa using q
    | _ => first | cases hpl; done | (simp only [startP, List.map_cons, List.map_nil, List.length_cons, List.length_nil, Nat.reduceAdd, Nat.reduceSub, List.reduceReplicate, List.cons_append, List.nil_append, List.append_nil, wSeq, wAsg, wgN, wgNil, wgCons, wgTup, wDrop, wRet, wRetN, wNext, wBrk, wCont, wIfS, wV, nth, stV, wC, wOp, wUn, wBool, wChain, wTru, truP, wAnd, wOr, wNot, wIfE, wAndV, wOrV, wNotV, wNil, wCons, wTup, wLst, wLstM, wCB, wPar, wPar3, wAug, wFor, wiSeq, wiRng1, wiRng2, seqL, seqO, rows, addP, intP, intP0, subP, fdivP, modP, powP, mulP, CDiv, CPow, CMul, neP, ordP, ltP, leP, gtP, geP, isNon, isP, isNotP, lenO, lenP, absP, min2P, max2P, listP, tupleP, allP, sumP, intCP, isinP, tysOf, ixP, seqK, keyOf, dgetP, wNoPart, wPart, slcP, slcMP, wSl, wRevL, tyM, wBm, appendP, popAtP, joinP, wDnewM, wPairs, wCall, wCallK, wFrz, wDput, dputP, eqNilP, List.isEmpty_nil, List.isEmpty_cons, Bool.not_true, Bool.not_false, Bool.true_eq_false, Bool.false_eq_true, and_true, true_and, ↓reduceIte, Int.reduceToNat, Int.reducePow, Int.reduceNeg, Int.reduceAdd, Int.reduceSub, Int.reduceMul, Nat.reduceMul, Nat.reduceLT, Nat.reduceLeDiff, isB, String.reduceBEq, Bool.or_true, Bool.or_false, Bool.and_true, Bool.and_false, Bool.true_and, Bool.false_and, Bool.false_or, Bool.true_or, Int.cast_ofNat_Int, Int.reduceBEq, Int.reduceBNe, BEq.rfl, wYes, N_is_name, kind_str, tyN]; exact q)
  · exact h.elim
theorem ok_law_is_name (T : Tx K mg base) : FnG P w K mg base 1 T.f__law_is_name T.d__law_is_name ["_law_thing"] (pure1 PlainC fun x => .bl (isNam x)) := by
  refine okG T.F__law_is_name sc_law_is_name pure1_len fun cdv A outer s H EX F0 xs S0 Q E hG hr hp tk h => ?_
  unfold pure1 at h
  split at h
  · rename_i x
    obtain ⟨h, q⟩ := h
    have hpl := h.plain
    refine ⟨_, (wss_cons (ws_if (WW.wt (ww_or (wt_not (wt_tru (we_callB cw_isi T.m_isinstance (wa_cons (we_var 0) (wa_cons (we_bty (n := "str") T.m_str) wa_nil))))) (ww_or1 (wt_not (wt_chain ow_le ow_le we_int (we_callB cw_len T.m_len (wa_cons (we_var 0) wa_nil)) we_int)))))
  (wss_one (ws_ret we_bl))
  wss_nil)
  (wss_one (ws_ret (we_cmp (ow_eqNil hr.units) (we_lc (mk := false) rfl sc_law_is_name.nd (wi_seq (we_var 0)) (own := [("_law_sign", 1)]) (blkOk_by (N := N_law_is_name) (sc := defScope s_law_is_name) (by decide +kernel)) (fun _ _ _ _ _ => (wg_name 1 sc_law_is_name.nd)) (by decide) (fun _ _ _ _ _ => (wts_one (wt_cmp (ow_notIn (hu_of hr)) (we_var 1) we_str))) (fun _ _ _ _ _ => (we_var 1))) (we_lst wa_nil))))), ?_⟩
    cases x with
    | str z =>
      have hz := h.str
      have hz2 : z.length ≤ sizeLine := Nat.le_trans hz (by decide)
      simp only [startP, List.map_cons, List.map_nil, List.length_cons, List.length_nil, Nat.reduceAdd, Nat.reduceSub, List.reduceReplicate, List.cons_append, List.nil_append, List.append_nil, wSeq, wAsg, wgN, wgNil, wgCons, wgTup, wDrop, wRet, wRetN, wNext, wBrk, wCont, wIfS, wV, nth, stV, wC, wOp, wUn, wBool, wChain, wTru, truP, wAnd, wOr, wNot, wIfE, wAndV, wOrV, wNotV, wNil, wCons, wTup, wLst, wLstM, wCB, wPar, wPar3, wAug, wFor, wiSeq, wiRng1, wiRng2, seqL, seqO, rows, addP, intP, intP0, subP, fdivP, modP, powP, mulP, CDiv, CPow, CMul, neP, ordP, ltP, leP, gtP, geP, isNon, isP, isNotP, lenO, lenP, absP, min2P, max2P, listP, tupleP, allP, sumP, intCP, isinP, tysOf, ixP, seqK, keyOf, dgetP, wNoPart, wPart, slcP, slcMP, wSl, wRevL, tyM, wBm, appendP, popAtP, joinP, wDnewM, wPairs, wCall, wCallK, wFrz, wDput, dputP, eqNilP, List.isEmpty_nil, List.isEmpty_cons, Bool.not_true, Bool.not_false, Bool.true_eq_false, Bool.false_eq_true, and_true, true_and, ↓reduceIte, Int.reduceToNat, Int.reducePow, Int.reduceNeg, Int.reduceAdd, Int.reduceSub, Int.reduceMul, Nat.reduceMul, Nat.reduceLT, Nat.reduceLeDiff, isB, String.reduceBEq, Bool.or_true, Bool.or_false, Bool.and_true, Bool.and_false, Bool.true_and, Bool.false_and, Bool.false_or, Bool.true_or, Int.cast_ofNat_Int, Int.reduceBEq, Int.reduceBNe, BEq.rfl, wYes, N_law_is_name, kind_str, tyN, hz2, wLc]
      replace q : Q (.bl (decide (1 ≤ z.length) && decide (z.length ≤ 8) && (signs z).all inLet)) S0 := q
      have e1 : decide ((1 : Int) ≤ (z.length : Int)) = decide (1 ≤ z.length) := decide_eq_decide.mpr (by omega)
      have e2 : decide ((z.length : Int) ≤ 8) = decide (z.length ≤ 8) := decide_eq_decide.mpr (by omega)
      simp only [e1, e2]
      by_cases a1 : 1 ≤ z.length
      · by_cases a2 : z.length ≤ 8
        · rw [decide_eq_true a1, decide_eq_true a2] at q ⊢
          simp only [Bool.not_true, ↓reduceIte, Bool.true_and] at q ⊢
          intro D hD
          refine lc_pureF (fun x => if inLet x = true then none else some x) (by rw [signs_len]; exact hz2) hD (fun x hx S' R1 R0 _ k1 k0 => ?_) (fun _ _ => trivial) ?_
          · obtain ⟨c, _, rfl⟩ := List.mem_map.mp hx
            simp only [startP, List.map_cons, List.map_nil, List.length_cons, List.length_nil, Nat.reduceAdd, Nat.reduceSub, List.reduceReplicate, List.cons_append, List.nil_append, List.append_nil, wSeq, wAsg, wgN, wgNil, wgCons, wgTup, wDrop, wRet, wRetN, wNext, wBrk, wCont, wIfS, wV, nth, stV, wC, wOp, wUn, wBool, wChain, wTru, truP, wAnd, wOr, wNot, wIfE, wAndV, wOrV, wNotV, wNil, wCons, wTup, wLst, wLstM, wCB, wPar, wPar3, wAug, wFor, wiSeq, wiRng1, wiRng2, seqL, seqO, rows, addP, intP, intP0, subP, fdivP, modP, powP, mulP, CDiv, CPow, CMul, neP, ordP, ltP, leP, gtP, geP, isNon, isP, isNotP, lenO, lenP, absP, min2P, max2P, listP, tupleP, allP, sumP, intCP, isinP, tysOf, ixP, seqK, keyOf, dgetP, wNoPart, wPart, slcP, slcMP, wSl, wRevL, tyM, wBm, appendP, popAtP, joinP, wDnewM, wPairs, wCall, wCallK, wFrz, wDput, dputP, eqNilP, List.isEmpty_nil, List.isEmpty_cons, Bool.not_true, Bool.not_false, Bool.true_eq_false, Bool.false_eq_true, and_true, true_and, ↓reduceIte, Int.reduceToNat, Int.reducePow, Int.reduceNeg, Int.reduceAdd, Int.reduceSub, Int.reduceMul, Nat.reduceMul, Nat.reduceLT, Nat.reduceLeDiff, isB, String.reduceBEq, Bool.or_true, Bool.or_false, Bool.and_true, Bool.and_false, Bool.true_and, Bool.false_and, Bool.false_or, Bool.true_or, Int.cast_ofNat_Int, Int.reduceBEq, Int.reduceBNe, BEq.rfl, wYes, wipeP, wYes, notInP, memP]
            split
            · rename_i b
              exact k1 _ (if_neg (by rw [inLet, lets]; simpa using b))
            · rename_i b
              exact k0 (if_pos (by rw [inLet, lets]; simpa using b))
          · simp only [none_bad]
            exact q
        · rw [decide_eq_true a1, decide_eq_false a2] at q ⊢
          simpa using q
      · rw [decide_eq_false a1] at q ⊢
        simpa using q
    | _ => first | cases hpl; done | (simp only [startP, List.map_cons, List.map_nil, List.length_cons, List.length_nil, Nat.reduceAdd, Nat.reduceSub, List.reduceReplicate, List.cons_append, List.nil_append, List.append_nil, wSeq, wAsg, wgN, wgNil, wgCons, wgTup, wDrop, wRet, wRetN, wNext, wBrk, wCont, wIfS, wV, nth, stV, wC, wOp, wUn, wBool, wChain, wTru, truP, wAnd, wOr, wNot, wIfE, wAndV, wOrV, wNotV, wNil, wCons, wTup, wLst, wLstM, wCB, wPar, wPar3, wAug, wFor, wiSeq, wiRng1, wiRng2, seqL, seqO, rows, addP, intP, intP0, subP, fdivP, modP, powP, mulP, CDiv, CPow, CMul, neP, ordP, ltP, leP, gtP, geP, isNon, isP, isNotP, lenO, lenP, absP, min2P, max2P, listP, tupleP, allP, sumP, intCP, isinP, tysOf, ixP, seqK, keyOf, dgetP, wNoPart, wPart, slcP, slcMP, wSl, wRevL, tyM, wBm, appendP, popAtP, joinP, wDnewM, wPairs, wCall, wCallK, wFrz, wDput, dputP, eqNilP, List.isEmpty_nil, List.isEmpty_cons, Bool.not_true, Bool.not_false, Bool.true_eq_false, Bool.false_eq_true, and_true, true_and, ↓reduceIte, Int.reduceToNat, Int.reducePow, Int.reduceNeg, Int.reduceAdd, Int.reduceSub, Int.reduceMul, Nat.reduceMul, Nat.reduceLT, Nat.reduceLeDiff, isB, String.reduceBEq, Bool.or_true, Bool.or_false, Bool.and_true, Bool.and_false, Bool.true_and, Bool.false_and, Bool.false_or, Bool.true_or, Int.cast_ofNat_Int, Int.reduceBEq, Int.reduceBNe, BEq.rfl, wYes, N_law_is_name, kind_str, tyN]; exact q)
  · exact h.elim
theorem ok_is_sale (T : Tx K mg base) : FnG P w K mg base 3 T.f_is_sale T.d_is_sale ["value"] (pure1 (RowC PlainC) fun x => .bl (isSal x)) := by
  refine okG T.F_is_sale sc_is_sale pure1_len fun cdv A outer s H EX F0 xs S0 Q E hG hr hp tk h => ?_
  unfold pure1 at h
  split at h
  · rename_i x
    obtain ⟨h, q⟩ := h
    refine ⟨_, (wss_cons (ws_if (WW.wt (ww_or (wt_not (wt_tru (we_callB cw_isi T.m_isinstance (wa_cons (we_var 0) (wa_cons (we_bty (n := "tuple") T.m_tuple) wa_nil))))) (ww_or1 (wt_cmp (ow_ne hr.units) (we_callB cw_len T.m_len (wa_cons (we_var 0) wa_nil)) we_int))))
  (wss_one (ws_ret we_bl))
  wss_nil)
  (wss_cons (ws_asg (we_var 0) (wg_tup (n := 8) rfl (wgs_cons (wg_name 1 sc_is_sale.nd) (wgs_cons (wg_name 2 sc_is_sale.nd) (wgs_cons (wg_name 3 sc_is_sale.nd) (wgs_cons (wg_name 4 sc_is_sale.nd) (wgs_cons (wg_name 5 sc_is_sale.nd) (wgs_cons (wg_name 6 sc_is_sale.nd) (wgs_cons (wg_name 7 sc_is_sale.nd) (wgs_cons (wg_name 8 sc_is_sale.nd) wgs_nil))))))))))
  (wss_cons (ws_if (WW.wt (ww_or (wt_not (wt_tru (we_call (ok_is_number T) hG (hr.mono (by decide)) T.g_is_number T.F_is_number.kp T.b_is_number dflt0 tk0 (wa_cons (we_var 1) wa_nil)))) (ww_or (wt_cmp ow_lt (we_var 1) we_int) (ww_or (wt_not (wt_tru (we_call (ok_is_amount T) hG (hr.mono (by decide)) T.g_is_amount T.F_is_amount.kp T.b_is_amount dflt0 tk0 (wa_cons (we_var 4) wa_nil)))) (ww_or (wt_not (wt_tru (we_call (ok_is_amount T) hG (hr.mono (by decide)) T.g_is_amount T.F_is_amount.kp T.b_is_amount dflt0 tk0 (wa_cons (we_var 5) wa_nil)))) (ww_or1 (wt_not (wt_tru (we_call (ok_is_amount T) hG (hr.mono (by decide)) T.g_is_amount T.F_is_amount.kp T.b_is_amount dflt0 tk0 (wa_cons (we_var 6) wa_nil))))))))))
  (wss_one (ws_ret we_bl))
  wss_nil)
  (wss_one (ws_ret (we_and (we_callB (cw_all rfl) T.m_all (wa_cons (we_lc (mk := false) rfl sc_is_sale.nd (wi_seq (we_tup (wa_cons (we_var 2) (wa_cons (we_var 3) (wa_cons (we_var 7) (wa_cons (we_var 8) wa_nil)))))) (own := [("name", 9)]) (blkOk_by (N := N_is_sale) (sc := defScope s_is_sale) (by decide +kernel)) (fun _ _ _ _ _ => (wg_name 9 sc_is_sale.nd)) (by decide) (fun _ _ _ _ _ => wts_nil) (fun _ _ _ _ _ => (we_call (ok_is_name T) hG (hr.mono (by decide)) T.g_is_name T.F_is_name.kp T.b_is_name dflt0 tk0 (wa_cons (we_var 9) wa_nil)))) wa_nil)) (we_one (we_cmp (ow_ne hr.units) (we_var 2) (we_var 3))))))))), ?_⟩
    cases h with
    | lst hx => simp only [startP, List.map_cons, List.map_nil, List.length_cons, List.length_nil, Nat.reduceAdd, Nat.reduceSub, List.reduceReplicate, List.cons_append, List.nil_append, List.append_nil, wSeq, wAsg, wgN, wgNil, wgCons, wgTup, wDrop, wRet, wRetN, wNext, wBrk, wCont, wIfS, wV, nth, stV, wC, wOp, wUn, wBool, wChain, wTru, truP, wAnd, wOr, wNot, wIfE, wAndV, wOrV, wNotV, wNil, wCons, wTup, wLst, wLstM, wCB, wPar, wPar3, wAug, wFor, wiSeq, wiRng1, wiRng2, seqL, seqO, rows, addP, intP, intP0, subP, fdivP, modP, powP, mulP, CDiv, CPow, CMul, neP, ordP, ltP, leP, gtP, geP, isNon, isP, isNotP, lenO, lenP, absP, min2P, max2P, listP, tupleP, allP, sumP, intCP, isinP, tysOf, ixP, seqK, keyOf, dgetP, wNoPart, wPart, slcP, slcMP, wSl, wRevL, tyM, wBm, appendP, popAtP, joinP, wDnewM, wPairs, wCall, wCallK, wFrz, wDput, dputP, eqNilP, List.isEmpty_nil, List.isEmpty_cons, Bool.not_true, Bool.not_false, Bool.true_eq_false, Bool.false_eq_true, and_true, true_and, ↓reduceIte, Int.reduceToNat, Int.reducePow, Int.reduceNeg, Int.reduceAdd, Int.reduceSub, Int.reduceMul, Nat.reduceMul, Nat.reduceLT, Nat.reduceLeDiff, isB, String.reduceBEq, Bool.or_true, Bool.or_false, Bool.and_true, Bool.and_false, Bool.true_and, Bool.false_and, Bool.false_or, Bool.true_or, Int.cast_ofNat_Int, Int.reduceBEq, Int.reduceBNe, BEq.rfl, wYes, N_is_sale, kind_tuple, tyN]; exact q
    | @tup xs hx =>
      simp only [startP, List.map_cons, List.map_nil, List.length_cons, List.length_nil, Nat.reduceAdd, Nat.reduceSub, List.reduceReplicate, List.cons_append, List.nil_append, List.append_nil, wSeq, wAsg, wgN, wgNil, wgCons, wgTup, wDrop, wRet, wRetN, wNext, wBrk, wCont, wIfS, wV, nth, stV, wC, wOp, wUn, wBool, wChain, wTru, truP, wAnd, wOr, wNot, wIfE, wAndV, wOrV, wNotV, wNil, wCons, wTup, wLst, wLstM, wCB, wPar, wPar3, wAug, wFor, wiSeq, wiRng1, wiRng2, seqL, seqO, rows, addP, intP, intP0, subP, fdivP, modP, powP, mulP, CDiv, CPow, CMul, neP, ordP, ltP, leP, gtP, geP, isNon, isP, isNotP, lenO, lenP, absP, min2P, max2P, listP, tupleP, allP, sumP, intCP, isinP, tysOf, ixP, seqK, keyOf, dgetP, wNoPart, wPart, slcP, slcMP, wSl, wRevL, tyM, wBm, appendP, popAtP, joinP, wDnewM, wPairs, wCall, wCallK, wFrz, wDput, dputP, eqNilP, List.isEmpty_nil, List.isEmpty_cons, Bool.not_true, Bool.not_false, Bool.true_eq_false, Bool.false_eq_true, and_true, true_and, ↓reduceIte, Int.reduceToNat, Int.reducePow, Int.reduceNeg, Int.reduceAdd, Int.reduceSub, Int.reduceMul, Nat.reduceMul, Nat.reduceLT, Nat.reduceLeDiff, isB, String.reduceBEq, Bool.or_true, Bool.or_false, Bool.and_true, Bool.and_false, Bool.true_and, Bool.false_and, Bool.false_or, Bool.true_or, Int.cast_ofNat_Int, Int.reduceBEq, Int.reduceBNe, BEq.rfl, wYes, N_is_sale, kind_tuple, tyN]
      by_cases hl : xs.length = 8
      · obtain ⟨a, b, c, d, e, f, g, h, rfl⟩ := eight hl
        have ha := hx a (by simp)
        have hb := hx b (by simp)
        have hc := hx c (by simp)
        have hd := hx d (by simp)
        have he := hx e (by simp)
        have hf := hx f (by simp)
        have hg := hx g (by simp)
        have hh := hx h (by simp)
        simp only [startP, List.map_cons, List.map_nil, List.length_cons, List.length_nil, Nat.reduceAdd, Nat.reduceSub, List.reduceReplicate, List.cons_append, List.nil_append, List.append_nil, wSeq, wAsg, wgN, wgNil, wgCons, wgTup, wDrop, wRet, wRetN, wNext, wBrk, wCont, wIfS, wV, nth, stV, wC, wOp, wUn, wBool, wChain, wTru, truP, wAnd, wOr, wNot, wIfE, wAndV, wOrV, wNotV, wNil, wCons, wTup, wLst, wLstM, wCB, wPar, wPar3, wAug, wFor, wiSeq, wiRng1, wiRng2, seqL, seqO, rows, addP, intP, intP0, subP, fdivP, modP, powP, mulP, CDiv, CPow, CMul, neP, ordP, ltP, leP, gtP, geP, isNon, isP, isNotP, lenO, lenP, absP, min2P, max2P, listP, tupleP, allP, sumP, intCP, isinP, tysOf, ixP, seqK, keyOf, dgetP, wNoPart, wPart, slcP, slcMP, wSl, wRevL, tyM, wBm, appendP, popAtP, joinP, wDnewM, wPairs, wCall, wCallK, wFrz, wDput, dputP, eqNilP, List.isEmpty_nil, List.isEmpty_cons, Bool.not_true, Bool.not_false, Bool.true_eq_false, Bool.false_eq_true, and_true, true_and, ↓reduceIte, Int.reduceToNat, Int.reducePow, Int.reduceNeg, Int.reduceAdd, Int.reduceSub, Int.reduceMul, Nat.reduceMul, Nat.reduceLT, Nat.reduceLeDiff, isB, String.reduceBEq, Bool.or_true, Bool.or_false, Bool.and_true, Bool.and_false, Bool.true_and, Bool.false_and, Bool.false_or, Bool.true_or, Int.cast_ofNat_Int, Int.reduceBEq, Int.reduceBNe, BEq.rfl, wYes, eqP, pure1, ha, hd, he, hf, Int.ofNat_eq_coe, wLc]
        replace q : Q (.bl (isPos a && isAmt d && isAmt e && isAmt f && isNam b && isNam c && isNam g && isNam h && neS b c)) S0 := q
        cases a with
        | int i =>
          by_cases z : i < 1
          · have e0 : isPos (.int i) = false := decide_eq_false (by omega)
            simp only [e0, startP, List.map_cons, List.map_nil, List.length_cons, List.length_nil, Nat.reduceAdd, Nat.reduceSub, List.reduceReplicate, List.cons_append, List.nil_append, List.append_nil, wSeq, wAsg, wgN, wgNil, wgCons, wgTup, wDrop, wRet, wRetN, wNext, wBrk, wCont, wIfS, wV, nth, stV, wC, wOp, wUn, wBool, wChain, wTru, truP, wAnd, wOr, wNot, wIfE, wAndV, wOrV, wNotV, wNil, wCons, wTup, wLst, wLstM, wCB, wPar, wPar3, wAug, wFor, wiSeq, wiRng1, wiRng2, seqL, seqO, rows, addP, intP, intP0, subP, fdivP, modP, powP, mulP, CDiv, CPow, CMul, neP, ordP, ltP, leP, gtP, geP, isNon, isP, isNotP, lenO, lenP, absP, min2P, max2P, listP, tupleP, allP, sumP, intCP, isinP, tysOf, ixP, seqK, keyOf, dgetP, wNoPart, wPart, slcP, slcMP, wSl, wRevL, tyM, wBm, appendP, popAtP, joinP, wDnewM, wPairs, wCall, wCallK, wFrz, wDput, dputP, eqNilP, List.isEmpty_nil, List.isEmpty_cons, Bool.not_true, Bool.not_false, Bool.true_eq_false, Bool.false_eq_true, and_true, true_and, ↓reduceIte, Int.reduceToNat, Int.reducePow, Int.reduceNeg, Int.reduceAdd, Int.reduceSub, Int.reduceMul, Nat.reduceMul, Nat.reduceLT, Nat.reduceLeDiff, isB, String.reduceBEq, Bool.or_true, Bool.or_false, Bool.and_true, Bool.and_false, Bool.true_and, Bool.false_and, Bool.false_or, Bool.true_or, Int.cast_ofNat_Int, Int.reduceBEq, Int.reduceBNe, BEq.rfl, wYes] at q
            simp only [isNum, z, decide_true, startP, List.map_cons, List.map_nil, List.length_cons, List.length_nil, Nat.reduceAdd, Nat.reduceSub, List.reduceReplicate, List.cons_append, List.nil_append, List.append_nil, wSeq, wAsg, wgN, wgNil, wgCons, wgTup, wDrop, wRet, wRetN, wNext, wBrk, wCont, wIfS, wV, nth, stV, wC, wOp, wUn, wBool, wChain, wTru, truP, wAnd, wOr, wNot, wIfE, wAndV, wOrV, wNotV, wNil, wCons, wTup, wLst, wLstM, wCB, wPar, wPar3, wAug, wFor, wiSeq, wiRng1, wiRng2, seqL, seqO, rows, addP, intP, intP0, subP, fdivP, modP, powP, mulP, CDiv, CPow, CMul, neP, ordP, ltP, leP, gtP, geP, isNon, isP, isNotP, lenO, lenP, absP, min2P, max2P, listP, tupleP, allP, sumP, intCP, isinP, tysOf, ixP, seqK, keyOf, dgetP, wNoPart, wPart, slcP, slcMP, wSl, wRevL, tyM, wBm, appendP, popAtP, joinP, wDnewM, wPairs, wCall, wCallK, wFrz, wDput, dputP, eqNilP, List.isEmpty_nil, List.isEmpty_cons, Bool.not_true, Bool.not_false, Bool.true_eq_false, Bool.false_eq_true, and_true, true_and, ↓reduceIte, Int.reduceToNat, Int.reducePow, Int.reduceNeg, Int.reduceAdd, Int.reduceSub, Int.reduceMul, Nat.reduceMul, Nat.reduceLT, Nat.reduceLeDiff, isB, String.reduceBEq, Bool.or_true, Bool.or_false, Bool.and_true, Bool.and_false, Bool.true_and, Bool.false_and, Bool.false_or, Bool.true_or, Int.cast_ofNat_Int, Int.reduceBEq, Int.reduceBNe, BEq.rfl, wYes]
            exact q
          · have e0 : isPos (.int i) = true := decide_eq_true (by omega)
            simp only [e0, startP, List.map_cons, List.map_nil, List.length_cons, List.length_nil, Nat.reduceAdd, Nat.reduceSub, List.reduceReplicate, List.cons_append, List.nil_append, List.append_nil, wSeq, wAsg, wgN, wgNil, wgCons, wgTup, wDrop, wRet, wRetN, wNext, wBrk, wCont, wIfS, wV, nth, stV, wC, wOp, wUn, wBool, wChain, wTru, truP, wAnd, wOr, wNot, wIfE, wAndV, wOrV, wNotV, wNil, wCons, wTup, wLst, wLstM, wCB, wPar, wPar3, wAug, wFor, wiSeq, wiRng1, wiRng2, seqL, seqO, rows, addP, intP, intP0, subP, fdivP, modP, powP, mulP, CDiv, CPow, CMul, neP, ordP, ltP, leP, gtP, geP, isNon, isP, isNotP, lenO, lenP, absP, min2P, max2P, listP, tupleP, allP, sumP, intCP, isinP, tysOf, ixP, seqK, keyOf, dgetP, wNoPart, wPart, slcP, slcMP, wSl, wRevL, tyM, wBm, appendP, popAtP, joinP, wDnewM, wPairs, wCall, wCallK, wFrz, wDput, dputP, eqNilP, List.isEmpty_nil, List.isEmpty_cons, Bool.not_true, Bool.not_false, Bool.true_eq_false, Bool.false_eq_true, and_true, true_and, ↓reduceIte, Int.reduceToNat, Int.reducePow, Int.reduceNeg, Int.reduceAdd, Int.reduceSub, Int.reduceMul, Nat.reduceMul, Nat.reduceLT, Nat.reduceLeDiff, isB, String.reduceBEq, Bool.or_true, Bool.or_false, Bool.and_true, Bool.and_false, Bool.true_and, Bool.false_and, Bool.false_or, Bool.true_or, Int.cast_ofNat_Int, Int.reduceBEq, Int.reduceBNe, BEq.rfl, wYes] at q
            simp only [isNum, z, decide_false, startP, List.map_cons, List.map_nil, List.length_cons, List.length_nil, Nat.reduceAdd, Nat.reduceSub, List.reduceReplicate, List.cons_append, List.nil_append, List.append_nil, wSeq, wAsg, wgN, wgNil, wgCons, wgTup, wDrop, wRet, wRetN, wNext, wBrk, wCont, wIfS, wV, nth, stV, wC, wOp, wUn, wBool, wChain, wTru, truP, wAnd, wOr, wNot, wIfE, wAndV, wOrV, wNotV, wNil, wCons, wTup, wLst, wLstM, wCB, wPar, wPar3, wAug, wFor, wiSeq, wiRng1, wiRng2, seqL, seqO, rows, addP, intP, intP0, subP, fdivP, modP, powP, mulP, CDiv, CPow, CMul, neP, ordP, ltP, leP, gtP, geP, isNon, isP, isNotP, lenO, lenP, absP, min2P, max2P, listP, tupleP, allP, sumP, intCP, isinP, tysOf, ixP, seqK, keyOf, dgetP, wNoPart, wPart, slcP, slcMP, wSl, wRevL, tyM, wBm, appendP, popAtP, joinP, wDnewM, wPairs, wCall, wCallK, wFrz, wDput, dputP, eqNilP, List.isEmpty_nil, List.isEmpty_cons, Bool.not_true, Bool.not_false, Bool.true_eq_false, Bool.false_eq_true, and_true, true_and, ↓reduceIte, Int.reduceToNat, Int.reducePow, Int.reduceNeg, Int.reduceAdd, Int.reduceSub, Int.reduceMul, Nat.reduceMul, Nat.reduceLT, Nat.reduceLeDiff, isB, String.reduceBEq, Bool.or_true, Bool.or_false, Bool.and_true, Bool.and_false, Bool.true_and, Bool.false_and, Bool.false_or, Bool.true_or, Int.cast_ofNat_Int, Int.reduceBEq, Int.reduceBNe, BEq.rfl, wYes]
            cases e1 : isAmt d with
            | false => simp only [e1, startP, List.map_cons, List.map_nil, List.length_cons, List.length_nil, Nat.reduceAdd, Nat.reduceSub, List.reduceReplicate, List.cons_append, List.nil_append, List.append_nil, wSeq, wAsg, wgN, wgNil, wgCons, wgTup, wDrop, wRet, wRetN, wNext, wBrk, wCont, wIfS, wV, nth, stV, wC, wOp, wUn, wBool, wChain, wTru, truP, wAnd, wOr, wNot, wIfE, wAndV, wOrV, wNotV, wNil, wCons, wTup, wLst, wLstM, wCB, wPar, wPar3, wAug, wFor, wiSeq, wiRng1, wiRng2, seqL, seqO, rows, addP, intP, intP0, subP, fdivP, modP, powP, mulP, CDiv, CPow, CMul, neP, ordP, ltP, leP, gtP, geP, isNon, isP, isNotP, lenO, lenP, absP, min2P, max2P, listP, tupleP, allP, sumP, intCP, isinP, tysOf, ixP, seqK, keyOf, dgetP, wNoPart, wPart, slcP, slcMP, wSl, wRevL, tyM, wBm, appendP, popAtP, joinP, wDnewM, wPairs, wCall, wCallK, wFrz, wDput, dputP, eqNilP, List.isEmpty_nil, List.isEmpty_cons, Bool.not_true, Bool.not_false, Bool.true_eq_false, Bool.false_eq_true, and_true, true_and, ↓reduceIte, Int.reduceToNat, Int.reducePow, Int.reduceNeg, Int.reduceAdd, Int.reduceSub, Int.reduceMul, Nat.reduceMul, Nat.reduceLT, Nat.reduceLeDiff, isB, String.reduceBEq, Bool.or_true, Bool.or_false, Bool.and_true, Bool.and_false, Bool.true_and, Bool.false_and, Bool.false_or, Bool.true_or, Int.cast_ofNat_Int, Int.reduceBEq, Int.reduceBNe, BEq.rfl, wYes] at q ⊢; exact q
            | true =>
            cases e2 : isAmt e with
            | false => simp only [e1, e2, startP, List.map_cons, List.map_nil, List.length_cons, List.length_nil, Nat.reduceAdd, Nat.reduceSub, List.reduceReplicate, List.cons_append, List.nil_append, List.append_nil, wSeq, wAsg, wgN, wgNil, wgCons, wgTup, wDrop, wRet, wRetN, wNext, wBrk, wCont, wIfS, wV, nth, stV, wC, wOp, wUn, wBool, wChain, wTru, truP, wAnd, wOr, wNot, wIfE, wAndV, wOrV, wNotV, wNil, wCons, wTup, wLst, wLstM, wCB, wPar, wPar3, wAug, wFor, wiSeq, wiRng1, wiRng2, seqL, seqO, rows, addP, intP, intP0, subP, fdivP, modP, powP, mulP, CDiv, CPow, CMul, neP, ordP, ltP, leP, gtP, geP, isNon, isP, isNotP, lenO, lenP, absP, min2P, max2P, listP, tupleP, allP, sumP, intCP, isinP, tysOf, ixP, seqK, keyOf, dgetP, wNoPart, wPart, slcP, slcMP, wSl, wRevL, tyM, wBm, appendP, popAtP, joinP, wDnewM, wPairs, wCall, wCallK, wFrz, wDput, dputP, eqNilP, List.isEmpty_nil, List.isEmpty_cons, Bool.not_true, Bool.not_false, Bool.true_eq_false, Bool.false_eq_true, and_true, true_and, ↓reduceIte, Int.reduceToNat, Int.reducePow, Int.reduceNeg, Int.reduceAdd, Int.reduceSub, Int.reduceMul, Nat.reduceMul, Nat.reduceLT, Nat.reduceLeDiff, isB, String.reduceBEq, Bool.or_true, Bool.or_false, Bool.and_true, Bool.and_false, Bool.true_and, Bool.false_and, Bool.false_or, Bool.true_or, Int.cast_ofNat_Int, Int.reduceBEq, Int.reduceBNe, BEq.rfl, wYes] at q ⊢; exact q
            | true =>
            cases e3 : isAmt f with
            | false => simp only [e1, e2, e3, startP, List.map_cons, List.map_nil, List.length_cons, List.length_nil, Nat.reduceAdd, Nat.reduceSub, List.reduceReplicate, List.cons_append, List.nil_append, List.append_nil, wSeq, wAsg, wgN, wgNil, wgCons, wgTup, wDrop, wRet, wRetN, wNext, wBrk, wCont, wIfS, wV, nth, stV, wC, wOp, wUn, wBool, wChain, wTru, truP, wAnd, wOr, wNot, wIfE, wAndV, wOrV, wNotV, wNil, wCons, wTup, wLst, wLstM, wCB, wPar, wPar3, wAug, wFor, wiSeq, wiRng1, wiRng2, seqL, seqO, rows, addP, intP, intP0, subP, fdivP, modP, powP, mulP, CDiv, CPow, CMul, neP, ordP, ltP, leP, gtP, geP, isNon, isP, isNotP, lenO, lenP, absP, min2P, max2P, listP, tupleP, allP, sumP, intCP, isinP, tysOf, ixP, seqK, keyOf, dgetP, wNoPart, wPart, slcP, slcMP, wSl, wRevL, tyM, wBm, appendP, popAtP, joinP, wDnewM, wPairs, wCall, wCallK, wFrz, wDput, dputP, eqNilP, List.isEmpty_nil, List.isEmpty_cons, Bool.not_true, Bool.not_false, Bool.true_eq_false, Bool.false_eq_true, and_true, true_and, ↓reduceIte, Int.reduceToNat, Int.reducePow, Int.reduceNeg, Int.reduceAdd, Int.reduceSub, Int.reduceMul, Nat.reduceMul, Nat.reduceLT, Nat.reduceLeDiff, isB, String.reduceBEq, Bool.or_true, Bool.or_false, Bool.and_true, Bool.and_false, Bool.true_and, Bool.false_and, Bool.false_or, Bool.true_or, Int.cast_ofNat_Int, Int.reduceBEq, Int.reduceBNe, BEq.rfl, wYes] at q ⊢; exact q
            | true =>
            simp only [e1, e2, e3, startP, List.map_cons, List.map_nil, List.length_cons, List.length_nil, Nat.reduceAdd, Nat.reduceSub, List.reduceReplicate, List.cons_append, List.nil_append, List.append_nil, wSeq, wAsg, wgN, wgNil, wgCons, wgTup, wDrop, wRet, wRetN, wNext, wBrk, wCont, wIfS, wV, nth, stV, wC, wOp, wUn, wBool, wChain, wTru, truP, wAnd, wOr, wNot, wIfE, wAndV, wOrV, wNotV, wNil, wCons, wTup, wLst, wLstM, wCB, wPar, wPar3, wAug, wFor, wiSeq, wiRng1, wiRng2, seqL, seqO, rows, addP, intP, intP0, subP, fdivP, modP, powP, mulP, CDiv, CPow, CMul, neP, ordP, ltP, leP, gtP, geP, isNon, isP, isNotP, lenO, lenP, absP, min2P, max2P, listP, tupleP, allP, sumP, intCP, isinP, tysOf, ixP, seqK, keyOf, dgetP, wNoPart, wPart, slcP, slcMP, wSl, wRevL, tyM, wBm, appendP, popAtP, joinP, wDnewM, wPairs, wCall, wCallK, wFrz, wDput, dputP, eqNilP, List.isEmpty_nil, List.isEmpty_cons, Bool.not_true, Bool.not_false, Bool.true_eq_false, Bool.false_eq_true, and_true, true_and, ↓reduceIte, Int.reduceToNat, Int.reducePow, Int.reduceNeg, Int.reduceAdd, Int.reduceSub, Int.reduceMul, Nat.reduceMul, Nat.reduceLT, Nat.reduceLeDiff, isB, String.reduceBEq, Bool.or_true, Bool.or_false, Bool.and_true, Bool.and_false, Bool.true_and, Bool.false_and, Bool.false_or, Bool.true_or, Int.cast_ofNat_Int, Int.reduceBEq, Int.reduceBNe, BEq.rfl, wYes] at q ⊢
            intro D hD
            refine lc_pureF (fun x => some (.bl (isNam x))) (show 4 ≤ sizeLine by decide) hD (fun x hx2 S' R1 R0 _ k1 k0 => ?_) (fun _ _ => trivial) ?_
            · have hx3 : PlainC x := by
                simp only [List.mem_cons, List.not_mem_nil, or_false] at hx2
                rcases hx2 with rfl | rfl | rfl | rfl <;> assumption
              simp only [startP, List.map_cons, List.map_nil, List.length_cons, List.length_nil, Nat.reduceAdd, Nat.reduceSub, List.reduceReplicate, List.cons_append, List.nil_append, List.append_nil, wSeq, wAsg, wgN, wgNil, wgCons, wgTup, wDrop, wRet, wRetN, wNext, wBrk, wCont, wIfS, wV, nth, stV, wC, wOp, wUn, wBool, wChain, wTru, truP, wAnd, wOr, wNot, wIfE, wAndV, wOrV, wNotV, wNil, wCons, wTup, wLst, wLstM, wCB, wPar, wPar3, wAug, wFor, wiSeq, wiRng1, wiRng2, seqL, seqO, rows, addP, intP, intP0, subP, fdivP, modP, powP, mulP, CDiv, CPow, CMul, neP, ordP, ltP, leP, gtP, geP, isNon, isP, isNotP, lenO, lenP, absP, min2P, max2P, listP, tupleP, allP, sumP, intCP, isinP, tysOf, ixP, seqK, keyOf, dgetP, wNoPart, wPart, slcP, slcMP, wSl, wRevL, tyM, wBm, appendP, popAtP, joinP, wDnewM, wPairs, wCall, wCallK, wFrz, wDput, dputP, eqNilP, List.isEmpty_nil, List.isEmpty_cons, Bool.not_true, Bool.not_false, Bool.true_eq_false, Bool.false_eq_true, and_true, true_and, ↓reduceIte, Int.reduceToNat, Int.reducePow, Int.reduceNeg, Int.reduceAdd, Int.reduceSub, Int.reduceMul, Nat.reduceMul, Nat.reduceLT, Nat.reduceLeDiff, isB, String.reduceBEq, Bool.or_true, Bool.or_false, Bool.and_true, Bool.and_false, Bool.true_and, Bool.false_and, Bool.false_or, Bool.true_or, Int.cast_ofNat_Int, Int.reduceBEq, Int.reduceBNe, BEq.rfl, wYes, wipeP, pure1, hx3]
              exact k1 _ rfl
            · simp only [startP, List.map_cons, List.map_nil, List.length_cons, List.length_nil, Nat.reduceAdd, Nat.reduceSub, List.reduceReplicate, List.cons_append, List.nil_append, List.append_nil, wSeq, wAsg, wgN, wgNil, wgCons, wgTup, wDrop, wRet, wRetN, wNext, wBrk, wCont, wIfS, wV, nth, stV, wC, wOp, wUn, wBool, wChain, wTru, truP, wAnd, wOr, wNot, wIfE, wAndV, wOrV, wNotV, wNil, wCons, wTup, wLst, wLstM, wCB, wPar, wPar3, wAug, wFor, wiSeq, wiRng1, wiRng2, seqL, seqO, rows, addP, intP, intP0, subP, fdivP, modP, powP, mulP, CDiv, CPow, CMul, neP, ordP, ltP, leP, gtP, geP, isNon, isP, isNotP, lenO, lenP, absP, min2P, max2P, listP, tupleP, allP, sumP, intCP, isinP, tysOf, ixP, seqK, keyOf, dgetP, wNoPart, wPart, slcP, slcMP, wSl, wRevL, tyM, wBm, appendP, popAtP, joinP, wDnewM, wPairs, wCall, wCallK, wFrz, wDput, dputP, eqNilP, List.isEmpty_nil, List.isEmpty_cons, Bool.not_true, Bool.not_false, Bool.true_eq_false, Bool.false_eq_true, and_true, true_and, ↓reduceIte, Int.reduceToNat, Int.reducePow, Int.reduceNeg, Int.reduceAdd, Int.reduceSub, Int.reduceMul, Nat.reduceMul, Nat.reduceLT, Nat.reduceLeDiff, isB, String.reduceBEq, Bool.or_true, Bool.or_false, Bool.and_true, Bool.and_false, Bool.true_and, Bool.false_and, Bool.false_or, Bool.true_or, Int.cast_ofNat_Int, Int.reduceBEq, Int.reduceBNe, BEq.rfl, wYes, List.filterMap_cons, List.filterMap_nil, boolsOf, List.all_cons, List.all_nil, id_eq]
              cases e4 : isNam b with
              | false => simp only [e4, startP, List.map_cons, List.map_nil, List.length_cons, List.length_nil, Nat.reduceAdd, Nat.reduceSub, List.reduceReplicate, List.cons_append, List.nil_append, List.append_nil, wSeq, wAsg, wgN, wgNil, wgCons, wgTup, wDrop, wRet, wRetN, wNext, wBrk, wCont, wIfS, wV, nth, stV, wC, wOp, wUn, wBool, wChain, wTru, truP, wAnd, wOr, wNot, wIfE, wAndV, wOrV, wNotV, wNil, wCons, wTup, wLst, wLstM, wCB, wPar, wPar3, wAug, wFor, wiSeq, wiRng1, wiRng2, seqL, seqO, rows, addP, intP, intP0, subP, fdivP, modP, powP, mulP, CDiv, CPow, CMul, neP, ordP, ltP, leP, gtP, geP, isNon, isP, isNotP, lenO, lenP, absP, min2P, max2P, listP, tupleP, allP, sumP, intCP, isinP, tysOf, ixP, seqK, keyOf, dgetP, wNoPart, wPart, slcP, slcMP, wSl, wRevL, tyM, wBm, appendP, popAtP, joinP, wDnewM, wPairs, wCall, wCallK, wFrz, wDput, dputP, eqNilP, List.isEmpty_nil, List.isEmpty_cons, Bool.not_true, Bool.not_false, Bool.true_eq_false, Bool.false_eq_true, and_true, true_and, ↓reduceIte, Int.reduceToNat, Int.reducePow, Int.reduceNeg, Int.reduceAdd, Int.reduceSub, Int.reduceMul, Nat.reduceMul, Nat.reduceLT, Nat.reduceLeDiff, isB, String.reduceBEq, Bool.or_true, Bool.or_false, Bool.and_true, Bool.and_false, Bool.true_and, Bool.false_and, Bool.false_or, Bool.true_or, Int.cast_ofNat_Int, Int.reduceBEq, Int.reduceBNe, BEq.rfl, wYes] at q ⊢; exact q
              | true =>
              cases e5 : isNam c with
              | false => simp only [e4, e5, startP, List.map_cons, List.map_nil, List.length_cons, List.length_nil, Nat.reduceAdd, Nat.reduceSub, List.reduceReplicate, List.cons_append, List.nil_append, List.append_nil, wSeq, wAsg, wgN, wgNil, wgCons, wgTup, wDrop, wRet, wRetN, wNext, wBrk, wCont, wIfS, wV, nth, stV, wC, wOp, wUn, wBool, wChain, wTru, truP, wAnd, wOr, wNot, wIfE, wAndV, wOrV, wNotV, wNil, wCons, wTup, wLst, wLstM, wCB, wPar, wPar3, wAug, wFor, wiSeq, wiRng1, wiRng2, seqL, seqO, rows, addP, intP, intP0, subP, fdivP, modP, powP, mulP, CDiv, CPow, CMul, neP, ordP, ltP, leP, gtP, geP, isNon, isP, isNotP, lenO, lenP, absP, min2P, max2P, listP, tupleP, allP, sumP, intCP, isinP, tysOf, ixP, seqK, keyOf, dgetP, wNoPart, wPart, slcP, slcMP, wSl, wRevL, tyM, wBm, appendP, popAtP, joinP, wDnewM, wPairs, wCall, wCallK, wFrz, wDput, dputP, eqNilP, List.isEmpty_nil, List.isEmpty_cons, Bool.not_true, Bool.not_false, Bool.true_eq_false, Bool.false_eq_true, and_true, true_and, ↓reduceIte, Int.reduceToNat, Int.reducePow, Int.reduceNeg, Int.reduceAdd, Int.reduceSub, Int.reduceMul, Nat.reduceMul, Nat.reduceLT, Nat.reduceLeDiff, isB, String.reduceBEq, Bool.or_true, Bool.or_false, Bool.and_true, Bool.and_false, Bool.true_and, Bool.false_and, Bool.false_or, Bool.true_or, Int.cast_ofNat_Int, Int.reduceBEq, Int.reduceBNe, BEq.rfl, wYes] at q ⊢; exact q
              | true =>
              cases e6 : isNam g with
              | false => simp only [e4, e5, e6, startP, List.map_cons, List.map_nil, List.length_cons, List.length_nil, Nat.reduceAdd, Nat.reduceSub, List.reduceReplicate, List.cons_append, List.nil_append, List.append_nil, wSeq, wAsg, wgN, wgNil, wgCons, wgTup, wDrop, wRet, wRetN, wNext, wBrk, wCont, wIfS, wV, nth, stV, wC, wOp, wUn, wBool, wChain, wTru, truP, wAnd, wOr, wNot, wIfE, wAndV, wOrV, wNotV, wNil, wCons, wTup, wLst, wLstM, wCB, wPar, wPar3, wAug, wFor, wiSeq, wiRng1, wiRng2, seqL, seqO, rows, addP, intP, intP0, subP, fdivP, modP, powP, mulP, CDiv, CPow, CMul, neP, ordP, ltP, leP, gtP, geP, isNon, isP, isNotP, lenO, lenP, absP, min2P, max2P, listP, tupleP, allP, sumP, intCP, isinP, tysOf, ixP, seqK, keyOf, dgetP, wNoPart, wPart, slcP, slcMP, wSl, wRevL, tyM, wBm, appendP, popAtP, joinP, wDnewM, wPairs, wCall, wCallK, wFrz, wDput, dputP, eqNilP, List.isEmpty_nil, List.isEmpty_cons, Bool.not_true, Bool.not_false, Bool.true_eq_false, Bool.false_eq_true, and_true, true_and, ↓reduceIte, Int.reduceToNat, Int.reducePow, Int.reduceNeg, Int.reduceAdd, Int.reduceSub, Int.reduceMul, Nat.reduceMul, Nat.reduceLT, Nat.reduceLeDiff, isB, String.reduceBEq, Bool.or_true, Bool.or_false, Bool.and_true, Bool.and_false, Bool.true_and, Bool.false_and, Bool.false_or, Bool.true_or, Int.cast_ofNat_Int, Int.reduceBEq, Int.reduceBNe, BEq.rfl, wYes] at q ⊢; exact q
              | true =>
              cases e7 : isNam h with
              | false => simp only [e4, e5, e6, e7, startP, List.map_cons, List.map_nil, List.length_cons, List.length_nil, Nat.reduceAdd, Nat.reduceSub, List.reduceReplicate, List.cons_append, List.nil_append, List.append_nil, wSeq, wAsg, wgN, wgNil, wgCons, wgTup, wDrop, wRet, wRetN, wNext, wBrk, wCont, wIfS, wV, nth, stV, wC, wOp, wUn, wBool, wChain, wTru, truP, wAnd, wOr, wNot, wIfE, wAndV, wOrV, wNotV, wNil, wCons, wTup, wLst, wLstM, wCB, wPar, wPar3, wAug, wFor, wiSeq, wiRng1, wiRng2, seqL, seqO, rows, addP, intP, intP0, subP, fdivP, modP, powP, mulP, CDiv, CPow, CMul, neP, ordP, ltP, leP, gtP, geP, isNon, isP, isNotP, lenO, lenP, absP, min2P, max2P, listP, tupleP, allP, sumP, intCP, isinP, tysOf, ixP, seqK, keyOf, dgetP, wNoPart, wPart, slcP, slcMP, wSl, wRevL, tyM, wBm, appendP, popAtP, joinP, wDnewM, wPairs, wCall, wCallK, wFrz, wDput, dputP, eqNilP, List.isEmpty_nil, List.isEmpty_cons, Bool.not_true, Bool.not_false, Bool.true_eq_false, Bool.false_eq_true, and_true, true_and, ↓reduceIte, Int.reduceToNat, Int.reducePow, Int.reduceNeg, Int.reduceAdd, Int.reduceSub, Int.reduceMul, Nat.reduceMul, Nat.reduceLT, Nat.reduceLeDiff, isB, String.reduceBEq, Bool.or_true, Bool.or_false, Bool.and_true, Bool.and_false, Bool.true_and, Bool.false_and, Bool.false_or, Bool.true_or, Int.cast_ofNat_Int, Int.reduceBEq, Int.reduceBNe, BEq.rfl, wYes] at q ⊢; exact q
              | true =>
              simp only [e4, e5, e6, e7, startP, List.map_cons, List.map_nil, List.length_cons, List.length_nil, Nat.reduceAdd, Nat.reduceSub, List.reduceReplicate, List.cons_append, List.nil_append, List.append_nil, wSeq, wAsg, wgN, wgNil, wgCons, wgTup, wDrop, wRet, wRetN, wNext, wBrk, wCont, wIfS, wV, nth, stV, wC, wOp, wUn, wBool, wChain, wTru, truP, wAnd, wOr, wNot, wIfE, wAndV, wOrV, wNotV, wNil, wCons, wTup, wLst, wLstM, wCB, wPar, wPar3, wAug, wFor, wiSeq, wiRng1, wiRng2, seqL, seqO, rows, addP, intP, intP0, subP, fdivP, modP, powP, mulP, CDiv, CPow, CMul, neP, ordP, ltP, leP, gtP, geP, isNon, isP, isNotP, lenO, lenP, absP, min2P, max2P, listP, tupleP, allP, sumP, intCP, isinP, tysOf, ixP, seqK, keyOf, dgetP, wNoPart, wPart, slcP, slcMP, wSl, wRevL, tyM, wBm, appendP, popAtP, joinP, wDnewM, wPairs, wCall, wCallK, wFrz, wDput, dputP, eqNilP, List.isEmpty_nil, List.isEmpty_cons, Bool.not_true, Bool.not_false, Bool.true_eq_false, Bool.false_eq_true, and_true, true_and, ↓reduceIte, Int.reduceToNat, Int.reducePow, Int.reduceNeg, Int.reduceAdd, Int.reduceSub, Int.reduceMul, Nat.reduceMul, Nat.reduceLT, Nat.reduceLeDiff, isB, String.reduceBEq, Bool.or_true, Bool.or_false, Bool.and_true, Bool.and_false, Bool.true_and, Bool.false_and, Bool.false_or, Bool.true_or, Int.cast_ofNat_Int, Int.reduceBEq, Int.reduceBNe, BEq.rfl, wYes] at q ⊢
              cases b with
              | str b =>
                cases c with
                | str c => exact q
                | _ => cases e5
              | _ => cases e4
        | _ => exact q
      · have e0 : ((xs.length : Int) == 8) = false := beq_eq_false_iff_ne.mpr (by omega)
        simp only [e0, eqP, startP, List.map_cons, List.map_nil, List.length_cons, List.length_nil, Nat.reduceAdd, Nat.reduceSub, List.reduceReplicate, List.cons_append, List.nil_append, List.append_nil, wSeq, wAsg, wgN, wgNil, wgCons, wgTup, wDrop, wRet, wRetN, wNext, wBrk, wCont, wIfS, wV, nth, stV, wC, wOp, wUn, wBool, wChain, wTru, truP, wAnd, wOr, wNot, wIfE, wAndV, wOrV, wNotV, wNil, wCons, wTup, wLst, wLstM, wCB, wPar, wPar3, wAug, wFor, wiSeq, wiRng1, wiRng2, seqL, seqO, rows, addP, intP, intP0, subP, fdivP, modP, powP, mulP, CDiv, CPow, CMul, neP, ordP, ltP, leP, gtP, geP, isNon, isP, isNotP, lenO, lenP, absP, min2P, max2P, listP, tupleP, allP, sumP, intCP, isinP, tysOf, ixP, seqK, keyOf, dgetP, wNoPart, wPart, slcP, slcMP, wSl, wRevL, tyM, wBm, appendP, popAtP, joinP, wDnewM, wPairs, wCall, wCallK, wFrz, wDput, dputP, eqNilP, List.isEmpty_nil, List.isEmpty_cons, Bool.not_true, Bool.not_false, Bool.true_eq_false, Bool.false_eq_true, and_true, true_and, ↓reduceIte, Int.reduceToNat, Int.reducePow, Int.reduceNeg, Int.reduceAdd, Int.reduceSub, Int.reduceMul, Nat.reduceMul, Nat.reduceLT, Nat.reduceLeDiff, isB, String.reduceBEq, Bool.or_true, Bool.or_false, Bool.and_true, Bool.and_false, Bool.true_and, Bool.false_and, Bool.false_or, Bool.true_or, Int.cast_ofNat_Int, Int.reduceBEq, Int.reduceBNe, BEq.rfl, wYes]
        replace q : Q (.bl (isSal (.tup xs))) S0 := q
        rwa [not_eight hl] at q
  · exact h.elim
theorem ok_law_is_sale (T : Tx K mg base) : FnG P w K mg base 2 T.f__law_is_sale T.d__law_is_sale ["_law_thing"] (pure1 (RowC PlainC) fun x => .bl (isSal x)) := by
  refine okG T.F__law_is_sale sc_law_is_sale pure1_len fun cdv A outer s H EX F0 xs S0 Q E hG hr hp tk h => ?_
  unfold pure1 at h
  split at h
  · rename_i x
    obtain ⟨h, q⟩ := h
    refine ⟨_, (wss_cons (ws_if (WW.wt (ww_or (wt_not (wt_tru (we_callB cw_isi T.m_isinstance (wa_cons (we_var 0) (wa_cons (we_bty (n := "tuple") T.m_tuple) wa_nil))))) (ww_or1 (wt_cmp (ow_ne hr.units) (we_callB cw_len T.m_len (wa_cons (we_var 0) wa_nil)) we_int))))
  (wss_one (ws_ret we_bl))
  wss_nil)
  (wss_cons (ws_if (WW.wt (ww_or (wt_not (wt_tru (we_callB cw_isi T.m_isinstance (wa_cons (we_ix (we_var 0) we_int) (wa_cons (we_bty (n := "int") T.m_int) wa_nil))))) (ww_or (wt_tru (we_callB cw_isi T.m_isinstance (wa_cons (we_ix (we_var 0) we_int) (wa_cons (we_bty (n := "bool") T.m_bool) wa_nil)))) (ww_or1 (wt_cmp ow_lt (we_ix (we_var 0) we_int) we_int)))))
  (wss_one (ws_ret we_bl))
  wss_nil)
  (wss_cons (ws_if (wt_cmp (ow_neNil hr.units) (we_lc (mk := false) rfl sc_law_is_sale.nd (wi_seq (we_sl sw_slc (we_var 0) (wo_some we_int) (wo_some we_int))) (own := [("_law_part", 1)]) (blkOk_by (N := N_law_is_sale) (sc := defScope s_law_is_sale) (by decide +kernel)) (fun _ _ _ _ _ => (wg_name 1 sc_law_is_sale.nd)) (by decide) (fun _ _ _ _ _ => (wts_one (wt_not (wt_tru (we_call (ok_law_is_money T) hG (hr.mono (by decide)) T.g__law_is_money T.F__law_is_money.kp T.b__law_is_money dflt0 tk0 (wa_cons (we_var 1) wa_nil)))))) (fun _ _ _ _ _ => (we_var 1))) (we_lst wa_nil))
  (wss_one (ws_ret we_bl))
  wss_nil)
  (wss_cons (ws_if (wt_cmp (ow_neNil hr.units) (we_lc (mk := false) rfl sc_law_is_sale.nd (wi_seq (we_op ow_add (we_sl sw_slc (we_var 0) (wo_some we_int) (wo_some we_int)) (we_sl sw_slc (we_var 0) (wo_some we_int) wo_none))) (own := [("_law_part", 1)]) (blkOk_by (N := N_law_is_sale) (sc := defScope s_law_is_sale) (by decide +kernel)) (fun _ _ _ _ _ => (wg_name 1 sc_law_is_sale.nd)) (by decide) (fun _ _ _ _ _ => (wts_one (wt_not (wt_tru (we_call (ok_law_is_name T) hG (hr.mono (by decide)) T.g__law_is_name T.F__law_is_name.kp T.b__law_is_name dflt0 tk0 (wa_cons (we_var 1) wa_nil)))))) (fun _ _ _ _ _ => (we_var 1))) (we_lst wa_nil))
  (wss_one (ws_ret we_bl))
  wss_nil)
  (wss_one (ws_ret (we_cmp (ow_ne hr.units) (we_ix (we_var 0) we_int) (we_ix (we_var 0) we_int)))))))), ?_⟩
    cases h with
    | lst hx => simp only [startP, List.map_cons, List.map_nil, List.length_cons, List.length_nil, Nat.reduceAdd, Nat.reduceSub, List.reduceReplicate, List.cons_append, List.nil_append, List.append_nil, wSeq, wAsg, wgN, wgNil, wgCons, wgTup, wDrop, wRet, wRetN, wNext, wBrk, wCont, wIfS, wV, nth, stV, wC, wOp, wUn, wBool, wChain, wTru, truP, wAnd, wOr, wNot, wIfE, wAndV, wOrV, wNotV, wNil, wCons, wTup, wLst, wLstM, wCB, wPar, wPar3, wAug, wFor, wiSeq, wiRng1, wiRng2, seqL, seqO, rows, addP, intP, intP0, subP, fdivP, modP, powP, mulP, CDiv, CPow, CMul, neP, ordP, ltP, leP, gtP, geP, isNon, isP, isNotP, lenO, lenP, absP, min2P, max2P, listP, tupleP, allP, sumP, intCP, isinP, tysOf, ixP, seqK, keyOf, dgetP, wNoPart, wPart, slcP, slcMP, wSl, wRevL, tyM, wBm, appendP, popAtP, joinP, wDnewM, wPairs, wCall, wCallK, wFrz, wDput, dputP, eqNilP, List.isEmpty_nil, List.isEmpty_cons, Bool.not_true, Bool.not_false, Bool.true_eq_false, Bool.false_eq_true, and_true, true_and, ↓reduceIte, Int.reduceToNat, Int.reducePow, Int.reduceNeg, Int.reduceAdd, Int.reduceSub, Int.reduceMul, Nat.reduceMul, Nat.reduceLT, Nat.reduceLeDiff, isB, String.reduceBEq, Bool.or_true, Bool.or_false, Bool.and_true, Bool.and_false, Bool.true_and, Bool.false_and, Bool.false_or, Bool.true_or, Int.cast_ofNat_Int, Int.reduceBEq, Int.reduceBNe, BEq.rfl, wYes, N_law_is_sale, kind_tuple, tyN]; exact q
    | @tup xs hx =>
      simp only [startP, List.map_cons, List.map_nil, List.length_cons, List.length_nil, Nat.reduceAdd, Nat.reduceSub, List.reduceReplicate, List.cons_append, List.nil_append, List.append_nil, wSeq, wAsg, wgN, wgNil, wgCons, wgTup, wDrop, wRet, wRetN, wNext, wBrk, wCont, wIfS, wV, nth, stV, wC, wOp, wUn, wBool, wChain, wTru, truP, wAnd, wOr, wNot, wIfE, wAndV, wOrV, wNotV, wNil, wCons, wTup, wLst, wLstM, wCB, wPar, wPar3, wAug, wFor, wiSeq, wiRng1, wiRng2, seqL, seqO, rows, addP, intP, intP0, subP, fdivP, modP, powP, mulP, CDiv, CPow, CMul, neP, ordP, ltP, leP, gtP, geP, isNon, isP, isNotP, lenO, lenP, absP, min2P, max2P, listP, tupleP, allP, sumP, intCP, isinP, tysOf, ixP, seqK, keyOf, dgetP, wNoPart, wPart, slcP, slcMP, wSl, wRevL, tyM, wBm, appendP, popAtP, joinP, wDnewM, wPairs, wCall, wCallK, wFrz, wDput, dputP, eqNilP, List.isEmpty_nil, List.isEmpty_cons, Bool.not_true, Bool.not_false, Bool.true_eq_false, Bool.false_eq_true, and_true, true_and, ↓reduceIte, Int.reduceToNat, Int.reducePow, Int.reduceNeg, Int.reduceAdd, Int.reduceSub, Int.reduceMul, Nat.reduceMul, Nat.reduceLT, Nat.reduceLeDiff, isB, String.reduceBEq, Bool.or_true, Bool.or_false, Bool.and_true, Bool.and_false, Bool.true_and, Bool.false_and, Bool.false_or, Bool.true_or, Int.cast_ofNat_Int, Int.reduceBEq, Int.reduceBNe, BEq.rfl, wYes, N_law_is_sale, kind_tuple, kind_int, kind_bool, tyN]
      by_cases hl : xs.length = 8
      · obtain ⟨a, b, c, d, e, f, g, h, rfl⟩ := eight hl
        have ha := hx a (by simp)
        have hb := hx b (by simp)
        have hc := hx c (by simp)
        have hd := hx d (by simp)
        have he := hx e (by simp)
        have hf := hx f (by simp)
        have hg := hx g (by simp)
        have hh := hx h (by simp)
        have i0 : atI [a, b, c, d, e, f, g, h] 0 = some a := rfl
        have i1 : atI [a, b, c, d, e, f, g, h] 1 = some b := rfl
        have i2 : atI [a, b, c, d, e, f, g, h] 2 = some c := rfl
        have c1 : cutP [a, b, c, d, e, f, g, h] (some 3) (some 6) = [d, e, f] := rfl
        have c2 : cutP [a, b, c, d, e, f, g, h] (some 1) (some 3) = [b, c] := rfl
        have c3 : cutP [a, b, c, d, e, f, g, h] (some 6) none = [g, h] := rfl
        simp only [startP, List.map_cons, List.map_nil, List.length_cons, List.length_nil, Nat.reduceAdd, Nat.reduceSub, List.reduceReplicate, List.cons_append, List.nil_append, List.append_nil, wSeq, wAsg, wgN, wgNil, wgCons, wgTup, wDrop, wRet, wRetN, wNext, wBrk, wCont, wIfS, wV, nth, stV, wC, wOp, wUn, wBool, wChain, wTru, truP, wAnd, wOr, wNot, wIfE, wAndV, wOrV, wNotV, wNil, wCons, wTup, wLst, wLstM, wCB, wPar, wPar3, wAug, wFor, wiSeq, wiRng1, wiRng2, seqL, seqO, rows, addP, intP, intP0, subP, fdivP, modP, powP, mulP, CDiv, CPow, CMul, neP, ordP, ltP, leP, gtP, geP, isNon, isP, isNotP, lenO, lenP, absP, min2P, max2P, listP, tupleP, allP, sumP, intCP, isinP, tysOf, ixP, seqK, keyOf, dgetP, wNoPart, wPart, slcP, slcMP, wSl, wRevL, tyM, wBm, appendP, popAtP, joinP, wDnewM, wPairs, wCall, wCallK, wFrz, wDput, dputP, eqNilP, List.isEmpty_nil, List.isEmpty_cons, Bool.not_true, Bool.not_false, Bool.true_eq_false, Bool.false_eq_true, and_true, true_and, ↓reduceIte, Int.reduceToNat, Int.reducePow, Int.reduceNeg, Int.reduceAdd, Int.reduceSub, Int.reduceMul, Nat.reduceMul, Nat.reduceLT, Nat.reduceLeDiff, isB, String.reduceBEq, Bool.or_true, Bool.or_false, Bool.and_true, Bool.and_false, Bool.true_and, Bool.false_and, Bool.false_or, Bool.true_or, Int.cast_ofNat_Int, Int.reduceBEq, Int.reduceBNe, BEq.rfl, wYes, eqP, i0, i1, i2, c1, c2, c3, wLc]
        replace q : Q (.bl (isPos a && isAmt d && isAmt e && isAmt f && isNam b && isNam c && isNam g && isNam h && neS b c)) S0 := q
        have hpa := ha.plain
        cases a with
        | int i =>
          by_cases z : i < 1
          · have e0 : isPos (.int i) = false := decide_eq_false (by omega)
            simp only [e0, startP, List.map_cons, List.map_nil, List.length_cons, List.length_nil, Nat.reduceAdd, Nat.reduceSub, List.reduceReplicate, List.cons_append, List.nil_append, List.append_nil, wSeq, wAsg, wgN, wgNil, wgCons, wgTup, wDrop, wRet, wRetN, wNext, wBrk, wCont, wIfS, wV, nth, stV, wC, wOp, wUn, wBool, wChain, wTru, truP, wAnd, wOr, wNot, wIfE, wAndV, wOrV, wNotV, wNil, wCons, wTup, wLst, wLstM, wCB, wPar, wPar3, wAug, wFor, wiSeq, wiRng1, wiRng2, seqL, seqO, rows, addP, intP, intP0, subP, fdivP, modP, powP, mulP, CDiv, CPow, CMul, neP, ordP, ltP, leP, gtP, geP, isNon, isP, isNotP, lenO, lenP, absP, min2P, max2P, listP, tupleP, allP, sumP, intCP, isinP, tysOf, ixP, seqK, keyOf, dgetP, wNoPart, wPart, slcP, slcMP, wSl, wRevL, tyM, wBm, appendP, popAtP, joinP, wDnewM, wPairs, wCall, wCallK, wFrz, wDput, dputP, eqNilP, List.isEmpty_nil, List.isEmpty_cons, Bool.not_true, Bool.not_false, Bool.true_eq_false, Bool.false_eq_true, and_true, true_and, ↓reduceIte, Int.reduceToNat, Int.reducePow, Int.reduceNeg, Int.reduceAdd, Int.reduceSub, Int.reduceMul, Nat.reduceMul, Nat.reduceLT, Nat.reduceLeDiff, isB, String.reduceBEq, Bool.or_true, Bool.or_false, Bool.and_true, Bool.and_false, Bool.true_and, Bool.false_and, Bool.false_or, Bool.true_or, Int.cast_ofNat_Int, Int.reduceBEq, Int.reduceBNe, BEq.rfl, wYes] at q
            simp only [z, decide_true, startP, List.map_cons, List.map_nil, List.length_cons, List.length_nil, Nat.reduceAdd, Nat.reduceSub, List.reduceReplicate, List.cons_append, List.nil_append, List.append_nil, wSeq, wAsg, wgN, wgNil, wgCons, wgTup, wDrop, wRet, wRetN, wNext, wBrk, wCont, wIfS, wV, nth, stV, wC, wOp, wUn, wBool, wChain, wTru, truP, wAnd, wOr, wNot, wIfE, wAndV, wOrV, wNotV, wNil, wCons, wTup, wLst, wLstM, wCB, wPar, wPar3, wAug, wFor, wiSeq, wiRng1, wiRng2, seqL, seqO, rows, addP, intP, intP0, subP, fdivP, modP, powP, mulP, CDiv, CPow, CMul, neP, ordP, ltP, leP, gtP, geP, isNon, isP, isNotP, lenO, lenP, absP, min2P, max2P, listP, tupleP, allP, sumP, intCP, isinP, tysOf, ixP, seqK, keyOf, dgetP, wNoPart, wPart, slcP, slcMP, wSl, wRevL, tyM, wBm, appendP, popAtP, joinP, wDnewM, wPairs, wCall, wCallK, wFrz, wDput, dputP, eqNilP, List.isEmpty_nil, List.isEmpty_cons, Bool.not_true, Bool.not_false, Bool.true_eq_false, Bool.false_eq_true, and_true, true_and, ↓reduceIte, Int.reduceToNat, Int.reducePow, Int.reduceNeg, Int.reduceAdd, Int.reduceSub, Int.reduceMul, Nat.reduceMul, Nat.reduceLT, Nat.reduceLeDiff, isB, String.reduceBEq, Bool.or_true, Bool.or_false, Bool.and_true, Bool.and_false, Bool.true_and, Bool.false_and, Bool.false_or, Bool.true_or, Int.cast_ofNat_Int, Int.reduceBEq, Int.reduceBNe, BEq.rfl, wYes]
            exact q
          · have e0 : isPos (.int i) = true := decide_eq_true (by omega)
            simp only [e0, startP, List.map_cons, List.map_nil, List.length_cons, List.length_nil, Nat.reduceAdd, Nat.reduceSub, List.reduceReplicate, List.cons_append, List.nil_append, List.append_nil, wSeq, wAsg, wgN, wgNil, wgCons, wgTup, wDrop, wRet, wRetN, wNext, wBrk, wCont, wIfS, wV, nth, stV, wC, wOp, wUn, wBool, wChain, wTru, truP, wAnd, wOr, wNot, wIfE, wAndV, wOrV, wNotV, wNil, wCons, wTup, wLst, wLstM, wCB, wPar, wPar3, wAug, wFor, wiSeq, wiRng1, wiRng2, seqL, seqO, rows, addP, intP, intP0, subP, fdivP, modP, powP, mulP, CDiv, CPow, CMul, neP, ordP, ltP, leP, gtP, geP, isNon, isP, isNotP, lenO, lenP, absP, min2P, max2P, listP, tupleP, allP, sumP, intCP, isinP, tysOf, ixP, seqK, keyOf, dgetP, wNoPart, wPart, slcP, slcMP, wSl, wRevL, tyM, wBm, appendP, popAtP, joinP, wDnewM, wPairs, wCall, wCallK, wFrz, wDput, dputP, eqNilP, List.isEmpty_nil, List.isEmpty_cons, Bool.not_true, Bool.not_false, Bool.true_eq_false, Bool.false_eq_true, and_true, true_and, ↓reduceIte, Int.reduceToNat, Int.reducePow, Int.reduceNeg, Int.reduceAdd, Int.reduceSub, Int.reduceMul, Nat.reduceMul, Nat.reduceLT, Nat.reduceLeDiff, isB, String.reduceBEq, Bool.or_true, Bool.or_false, Bool.and_true, Bool.and_false, Bool.true_and, Bool.false_and, Bool.false_or, Bool.true_or, Int.cast_ofNat_Int, Int.reduceBEq, Int.reduceBNe, BEq.rfl, wYes] at q
            simp only [z, decide_false, startP, List.map_cons, List.map_nil, List.length_cons, List.length_nil, Nat.reduceAdd, Nat.reduceSub, List.reduceReplicate, List.cons_append, List.nil_append, List.append_nil, wSeq, wAsg, wgN, wgNil, wgCons, wgTup, wDrop, wRet, wRetN, wNext, wBrk, wCont, wIfS, wV, nth, stV, wC, wOp, wUn, wBool, wChain, wTru, truP, wAnd, wOr, wNot, wIfE, wAndV, wOrV, wNotV, wNil, wCons, wTup, wLst, wLstM, wCB, wPar, wPar3, wAug, wFor, wiSeq, wiRng1, wiRng2, seqL, seqO, rows, addP, intP, intP0, subP, fdivP, modP, powP, mulP, CDiv, CPow, CMul, neP, ordP, ltP, leP, gtP, geP, isNon, isP, isNotP, lenO, lenP, absP, min2P, max2P, listP, tupleP, allP, sumP, intCP, isinP, tysOf, ixP, seqK, keyOf, dgetP, wNoPart, wPart, slcP, slcMP, wSl, wRevL, tyM, wBm, appendP, popAtP, joinP, wDnewM, wPairs, wCall, wCallK, wFrz, wDput, dputP, eqNilP, List.isEmpty_nil, List.isEmpty_cons, Bool.not_true, Bool.not_false, Bool.true_eq_false, Bool.false_eq_true, and_true, true_and, ↓reduceIte, Int.reduceToNat, Int.reducePow, Int.reduceNeg, Int.reduceAdd, Int.reduceSub, Int.reduceMul, Nat.reduceMul, Nat.reduceLT, Nat.reduceLeDiff, isB, String.reduceBEq, Bool.or_true, Bool.or_false, Bool.and_true, Bool.and_false, Bool.true_and, Bool.false_and, Bool.false_or, Bool.true_or, Int.cast_ofNat_Int, Int.reduceBEq, Int.reduceBNe, BEq.rfl, wYes]
            intro D hD
            refine lc_pureF (fun x => if isAmt x = true then none else some x) (show 3 ≤ sizeLine by decide) hD (fun x hx2 S' R1 R0 _ k1 k0 => ?_) (fun _ _ => trivial) ?_
            · have hx3 : PlainC x := by
                simp only [List.mem_cons, List.not_mem_nil, or_false] at hx2
                rcases hx2 with rfl | rfl | rfl <;> assumption
              simp only [startP, List.map_cons, List.map_nil, List.length_cons, List.length_nil, Nat.reduceAdd, Nat.reduceSub, List.reduceReplicate, List.cons_append, List.nil_append, List.append_nil, wSeq, wAsg, wgN, wgNil, wgCons, wgTup, wDrop, wRet, wRetN, wNext, wBrk, wCont, wIfS, wV, nth, stV, wC, wOp, wUn, wBool, wChain, wTru, truP, wAnd, wOr, wNot, wIfE, wAndV, wOrV, wNotV, wNil, wCons, wTup, wLst, wLstM, wCB, wPar, wPar3, wAug, wFor, wiSeq, wiRng1, wiRng2, seqL, seqO, rows, addP, intP, intP0, subP, fdivP, modP, powP, mulP, CDiv, CPow, CMul, neP, ordP, ltP, leP, gtP, geP, isNon, isP, isNotP, lenO, lenP, absP, min2P, max2P, listP, tupleP, allP, sumP, intCP, isinP, tysOf, ixP, seqK, keyOf, dgetP, wNoPart, wPart, slcP, slcMP, wSl, wRevL, tyM, wBm, appendP, popAtP, joinP, wDnewM, wPairs, wCall, wCallK, wFrz, wDput, dputP, eqNilP, List.isEmpty_nil, List.isEmpty_cons, Bool.not_true, Bool.not_false, Bool.true_eq_false, Bool.false_eq_true, and_true, true_and, ↓reduceIte, Int.reduceToNat, Int.reducePow, Int.reduceNeg, Int.reduceAdd, Int.reduceSub, Int.reduceMul, Nat.reduceMul, Nat.reduceLT, Nat.reduceLeDiff, isB, String.reduceBEq, Bool.or_true, Bool.or_false, Bool.and_true, Bool.and_false, Bool.true_and, Bool.false_and, Bool.false_or, Bool.true_or, Int.cast_ofNat_Int, Int.reduceBEq, Int.reduceBNe, BEq.rfl, wYes, wipeP, pure1, hx3]
              split
              · rename_i b
                exact k1 _ (if_neg (by simpa using b))
              · rename_i b
                exact k0 (if_pos (by simpa using b))
            · simp only [startP, List.map_cons, List.map_nil, List.length_cons, List.length_nil, Nat.reduceAdd, Nat.reduceSub, List.reduceReplicate, List.cons_append, List.nil_append, List.append_nil, wSeq, wAsg, wgN, wgNil, wgCons, wgTup, wDrop, wRet, wRetN, wNext, wBrk, wCont, wIfS, wV, nth, stV, wC, wOp, wUn, wBool, wChain, wTru, truP, wAnd, wOr, wNot, wIfE, wAndV, wOrV, wNotV, wNil, wCons, wTup, wLst, wLstM, wCB, wPar, wPar3, wAug, wFor, wiSeq, wiRng1, wiRng2, seqL, seqO, rows, addP, intP, intP0, subP, fdivP, modP, powP, mulP, CDiv, CPow, CMul, neP, ordP, ltP, leP, gtP, geP, isNon, isP, isNotP, lenO, lenP, absP, min2P, max2P, listP, tupleP, allP, sumP, intCP, isinP, tysOf, ixP, seqK, keyOf, dgetP, wNoPart, wPart, slcP, slcMP, wSl, wRevL, tyM, wBm, appendP, popAtP, joinP, wDnewM, wPairs, wCall, wCallK, wFrz, wDput, dputP, eqNilP, List.isEmpty_nil, List.isEmpty_cons, Bool.not_true, Bool.not_false, Bool.true_eq_false, Bool.false_eq_true, and_true, true_and, ↓reduceIte, Int.reduceToNat, Int.reducePow, Int.reduceNeg, Int.reduceAdd, Int.reduceSub, Int.reduceMul, Nat.reduceMul, Nat.reduceLT, Nat.reduceLeDiff, isB, String.reduceBEq, Bool.or_true, Bool.or_false, Bool.and_true, Bool.and_false, Bool.true_and, Bool.false_and, Bool.false_or, Bool.true_or, Int.cast_ofNat_Int, Int.reduceBEq, Int.reduceBNe, BEq.rfl, wYes, none_bad, List.all_cons, List.all_nil]
              cases e1 : isAmt d with
              | false => simp only [e1, startP, List.map_cons, List.map_nil, List.length_cons, List.length_nil, Nat.reduceAdd, Nat.reduceSub, List.reduceReplicate, List.cons_append, List.nil_append, List.append_nil, wSeq, wAsg, wgN, wgNil, wgCons, wgTup, wDrop, wRet, wRetN, wNext, wBrk, wCont, wIfS, wV, nth, stV, wC, wOp, wUn, wBool, wChain, wTru, truP, wAnd, wOr, wNot, wIfE, wAndV, wOrV, wNotV, wNil, wCons, wTup, wLst, wLstM, wCB, wPar, wPar3, wAug, wFor, wiSeq, wiRng1, wiRng2, seqL, seqO, rows, addP, intP, intP0, subP, fdivP, modP, powP, mulP, CDiv, CPow, CMul, neP, ordP, ltP, leP, gtP, geP, isNon, isP, isNotP, lenO, lenP, absP, min2P, max2P, listP, tupleP, allP, sumP, intCP, isinP, tysOf, ixP, seqK, keyOf, dgetP, wNoPart, wPart, slcP, slcMP, wSl, wRevL, tyM, wBm, appendP, popAtP, joinP, wDnewM, wPairs, wCall, wCallK, wFrz, wDput, dputP, eqNilP, List.isEmpty_nil, List.isEmpty_cons, Bool.not_true, Bool.not_false, Bool.true_eq_false, Bool.false_eq_true, and_true, true_and, ↓reduceIte, Int.reduceToNat, Int.reducePow, Int.reduceNeg, Int.reduceAdd, Int.reduceSub, Int.reduceMul, Nat.reduceMul, Nat.reduceLT, Nat.reduceLeDiff, isB, String.reduceBEq, Bool.or_true, Bool.or_false, Bool.and_true, Bool.and_false, Bool.true_and, Bool.false_and, Bool.false_or, Bool.true_or, Int.cast_ofNat_Int, Int.reduceBEq, Int.reduceBNe, BEq.rfl, wYes] at q ⊢; exact q
              | true =>
              cases e2 : isAmt e with
              | false => simp only [e1, e2, startP, List.map_cons, List.map_nil, List.length_cons, List.length_nil, Nat.reduceAdd, Nat.reduceSub, List.reduceReplicate, List.cons_append, List.nil_append, List.append_nil, wSeq, wAsg, wgN, wgNil, wgCons, wgTup, wDrop, wRet, wRetN, wNext, wBrk, wCont, wIfS, wV, nth, stV, wC, wOp, wUn, wBool, wChain, wTru, truP, wAnd, wOr, wNot, wIfE, wAndV, wOrV, wNotV, wNil, wCons, wTup, wLst, wLstM, wCB, wPar, wPar3, wAug, wFor, wiSeq, wiRng1, wiRng2, seqL, seqO, rows, addP, intP, intP0, subP, fdivP, modP, powP, mulP, CDiv, CPow, CMul, neP, ordP, ltP, leP, gtP, geP, isNon, isP, isNotP, lenO, lenP, absP, min2P, max2P, listP, tupleP, allP, sumP, intCP, isinP, tysOf, ixP, seqK, keyOf, dgetP, wNoPart, wPart, slcP, slcMP, wSl, wRevL, tyM, wBm, appendP, popAtP, joinP, wDnewM, wPairs, wCall, wCallK, wFrz, wDput, dputP, eqNilP, List.isEmpty_nil, List.isEmpty_cons, Bool.not_true, Bool.not_false, Bool.true_eq_false, Bool.false_eq_true, and_true, true_and, ↓reduceIte, Int.reduceToNat, Int.reducePow, Int.reduceNeg, Int.reduceAdd, Int.reduceSub, Int.reduceMul, Nat.reduceMul, Nat.reduceLT, Nat.reduceLeDiff, isB, String.reduceBEq, Bool.or_true, Bool.or_false, Bool.and_true, Bool.and_false, Bool.true_and, Bool.false_and, Bool.false_or, Bool.true_or, Int.cast_ofNat_Int, Int.reduceBEq, Int.reduceBNe, BEq.rfl, wYes] at q ⊢; exact q
              | true =>
              cases e3 : isAmt f with
              | false => simp only [e1, e2, e3, startP, List.map_cons, List.map_nil, List.length_cons, List.length_nil, Nat.reduceAdd, Nat.reduceSub, List.reduceReplicate, List.cons_append, List.nil_append, List.append_nil, wSeq, wAsg, wgN, wgNil, wgCons, wgTup, wDrop, wRet, wRetN, wNext, wBrk, wCont, wIfS, wV, nth, stV, wC, wOp, wUn, wBool, wChain, wTru, truP, wAnd, wOr, wNot, wIfE, wAndV, wOrV, wNotV, wNil, wCons, wTup, wLst, wLstM, wCB, wPar, wPar3, wAug, wFor, wiSeq, wiRng1, wiRng2, seqL, seqO, rows, addP, intP, intP0, subP, fdivP, modP, powP, mulP, CDiv, CPow, CMul, neP, ordP, ltP, leP, gtP, geP, isNon, isP, isNotP, lenO, lenP, absP, min2P, max2P, listP, tupleP, allP, sumP, intCP, isinP, tysOf, ixP, seqK, keyOf, dgetP, wNoPart, wPart, slcP, slcMP, wSl, wRevL, tyM, wBm, appendP, popAtP, joinP, wDnewM, wPairs, wCall, wCallK, wFrz, wDput, dputP, eqNilP, List.isEmpty_nil, List.isEmpty_cons, Bool.not_true, Bool.not_false, Bool.true_eq_false, Bool.false_eq_true, and_true, true_and, ↓reduceIte, Int.reduceToNat, Int.reducePow, Int.reduceNeg, Int.reduceAdd, Int.reduceSub, Int.reduceMul, Nat.reduceMul, Nat.reduceLT, Nat.reduceLeDiff, isB, String.reduceBEq, Bool.or_true, Bool.or_false, Bool.and_true, Bool.and_false, Bool.true_and, Bool.false_and, Bool.false_or, Bool.true_or, Int.cast_ofNat_Int, Int.reduceBEq, Int.reduceBNe, BEq.rfl, wYes] at q ⊢; exact q
              | true =>
              simp only [e1, e2, e3, startP, List.map_cons, List.map_nil, List.length_cons, List.length_nil, Nat.reduceAdd, Nat.reduceSub, List.reduceReplicate, List.cons_append, List.nil_append, List.append_nil, wSeq, wAsg, wgN, wgNil, wgCons, wgTup, wDrop, wRet, wRetN, wNext, wBrk, wCont, wIfS, wV, nth, stV, wC, wOp, wUn, wBool, wChain, wTru, truP, wAnd, wOr, wNot, wIfE, wAndV, wOrV, wNotV, wNil, wCons, wTup, wLst, wLstM, wCB, wPar, wPar3, wAug, wFor, wiSeq, wiRng1, wiRng2, seqL, seqO, rows, addP, intP, intP0, subP, fdivP, modP, powP, mulP, CDiv, CPow, CMul, neP, ordP, ltP, leP, gtP, geP, isNon, isP, isNotP, lenO, lenP, absP, min2P, max2P, listP, tupleP, allP, sumP, intCP, isinP, tysOf, ixP, seqK, keyOf, dgetP, wNoPart, wPart, slcP, slcMP, wSl, wRevL, tyM, wBm, appendP, popAtP, joinP, wDnewM, wPairs, wCall, wCallK, wFrz, wDput, dputP, eqNilP, List.isEmpty_nil, List.isEmpty_cons, Bool.not_true, Bool.not_false, Bool.true_eq_false, Bool.false_eq_true, and_true, true_and, ↓reduceIte, Int.reduceToNat, Int.reducePow, Int.reduceNeg, Int.reduceAdd, Int.reduceSub, Int.reduceMul, Nat.reduceMul, Nat.reduceLT, Nat.reduceLeDiff, isB, String.reduceBEq, Bool.or_true, Bool.or_false, Bool.and_true, Bool.and_false, Bool.true_and, Bool.false_and, Bool.false_or, Bool.true_or, Int.cast_ofNat_Int, Int.reduceBEq, Int.reduceBNe, BEq.rfl, wYes] at q ⊢
              refine ⟨by decide, fun D2 hD2 => ?_⟩
              refine lc_pureF (fun x => if isNam x = true then none else some x) (show 4 ≤ sizeLine by decide) hD2 (fun x hx2 S' R1 R0 _ k1 k0 => ?_) (fun _ _ => trivial) ?_
              · have hx3 : PlainC x := by
                  simp only [List.mem_cons, List.not_mem_nil, or_false] at hx2
                  rcases hx2 with rfl | rfl | rfl | rfl <;> assumption
                simp only [startP, List.map_cons, List.map_nil, List.length_cons, List.length_nil, Nat.reduceAdd, Nat.reduceSub, List.reduceReplicate, List.cons_append, List.nil_append, List.append_nil, wSeq, wAsg, wgN, wgNil, wgCons, wgTup, wDrop, wRet, wRetN, wNext, wBrk, wCont, wIfS, wV, nth, stV, wC, wOp, wUn, wBool, wChain, wTru, truP, wAnd, wOr, wNot, wIfE, wAndV, wOrV, wNotV, wNil, wCons, wTup, wLst, wLstM, wCB, wPar, wPar3, wAug, wFor, wiSeq, wiRng1, wiRng2, seqL, seqO, rows, addP, intP, intP0, subP, fdivP, modP, powP, mulP, CDiv, CPow, CMul, neP, ordP, ltP, leP, gtP, geP, isNon, isP, isNotP, lenO, lenP, absP, min2P, max2P, listP, tupleP, allP, sumP, intCP, isinP, tysOf, ixP, seqK, keyOf, dgetP, wNoPart, wPart, slcP, slcMP, wSl, wRevL, tyM, wBm, appendP, popAtP, joinP, wDnewM, wPairs, wCall, wCallK, wFrz, wDput, dputP, eqNilP, List.isEmpty_nil, List.isEmpty_cons, Bool.not_true, Bool.not_false, Bool.true_eq_false, Bool.false_eq_true, and_true, true_and, ↓reduceIte, Int.reduceToNat, Int.reducePow, Int.reduceNeg, Int.reduceAdd, Int.reduceSub, Int.reduceMul, Nat.reduceMul, Nat.reduceLT, Nat.reduceLeDiff, isB, String.reduceBEq, Bool.or_true, Bool.or_false, Bool.and_true, Bool.and_false, Bool.true_and, Bool.false_and, Bool.false_or, Bool.true_or, Int.cast_ofNat_Int, Int.reduceBEq, Int.reduceBNe, BEq.rfl, wYes, wipeP, pure1, hx3]
                split
                · rename_i b
                  exact k1 _ (if_neg (by simpa using b))
                · rename_i b
                  exact k0 (if_pos (by simpa using b))
              · simp only [startP, List.map_cons, List.map_nil, List.length_cons, List.length_nil, Nat.reduceAdd, Nat.reduceSub, List.reduceReplicate, List.cons_append, List.nil_append, List.append_nil, wSeq, wAsg, wgN, wgNil, wgCons, wgTup, wDrop, wRet, wRetN, wNext, wBrk, wCont, wIfS, wV, nth, stV, wC, wOp, wUn, wBool, wChain, wTru, truP, wAnd, wOr, wNot, wIfE, wAndV, wOrV, wNotV, wNil, wCons, wTup, wLst, wLstM, wCB, wPar, wPar3, wAug, wFor, wiSeq, wiRng1, wiRng2, seqL, seqO, rows, addP, intP, intP0, subP, fdivP, modP, powP, mulP, CDiv, CPow, CMul, neP, ordP, ltP, leP, gtP, geP, isNon, isP, isNotP, lenO, lenP, absP, min2P, max2P, listP, tupleP, allP, sumP, intCP, isinP, tysOf, ixP, seqK, keyOf, dgetP, wNoPart, wPart, slcP, slcMP, wSl, wRevL, tyM, wBm, appendP, popAtP, joinP, wDnewM, wPairs, wCall, wCallK, wFrz, wDput, dputP, eqNilP, List.isEmpty_nil, List.isEmpty_cons, Bool.not_true, Bool.not_false, Bool.true_eq_false, Bool.false_eq_true, and_true, true_and, ↓reduceIte, Int.reduceToNat, Int.reducePow, Int.reduceNeg, Int.reduceAdd, Int.reduceSub, Int.reduceMul, Nat.reduceMul, Nat.reduceLT, Nat.reduceLeDiff, isB, String.reduceBEq, Bool.or_true, Bool.or_false, Bool.and_true, Bool.and_false, Bool.true_and, Bool.false_and, Bool.false_or, Bool.true_or, Int.cast_ofNat_Int, Int.reduceBEq, Int.reduceBNe, BEq.rfl, wYes, none_bad, List.all_cons, List.all_nil]
                cases e4 : isNam b with
                | false => simp only [e4, startP, List.map_cons, List.map_nil, List.length_cons, List.length_nil, Nat.reduceAdd, Nat.reduceSub, List.reduceReplicate, List.cons_append, List.nil_append, List.append_nil, wSeq, wAsg, wgN, wgNil, wgCons, wgTup, wDrop, wRet, wRetN, wNext, wBrk, wCont, wIfS, wV, nth, stV, wC, wOp, wUn, wBool, wChain, wTru, truP, wAnd, wOr, wNot, wIfE, wAndV, wOrV, wNotV, wNil, wCons, wTup, wLst, wLstM, wCB, wPar, wPar3, wAug, wFor, wiSeq, wiRng1, wiRng2, seqL, seqO, rows, addP, intP, intP0, subP, fdivP, modP, powP, mulP, CDiv, CPow, CMul, neP, ordP, ltP, leP, gtP, geP, isNon, isP, isNotP, lenO, lenP, absP, min2P, max2P, listP, tupleP, allP, sumP, intCP, isinP, tysOf, ixP, seqK, keyOf, dgetP, wNoPart, wPart, slcP, slcMP, wSl, wRevL, tyM, wBm, appendP, popAtP, joinP, wDnewM, wPairs, wCall, wCallK, wFrz, wDput, dputP, eqNilP, List.isEmpty_nil, List.isEmpty_cons, Bool.not_true, Bool.not_false, Bool.true_eq_false, Bool.false_eq_true, and_true, true_and, ↓reduceIte, Int.reduceToNat, Int.reducePow, Int.reduceNeg, Int.reduceAdd, Int.reduceSub, Int.reduceMul, Nat.reduceMul, Nat.reduceLT, Nat.reduceLeDiff, isB, String.reduceBEq, Bool.or_true, Bool.or_false, Bool.and_true, Bool.and_false, Bool.true_and, Bool.false_and, Bool.false_or, Bool.true_or, Int.cast_ofNat_Int, Int.reduceBEq, Int.reduceBNe, BEq.rfl, wYes] at q ⊢; exact q
                | true =>
                cases e5 : isNam c with
                | false => simp only [e4, e5, startP, List.map_cons, List.map_nil, List.length_cons, List.length_nil, Nat.reduceAdd, Nat.reduceSub, List.reduceReplicate, List.cons_append, List.nil_append, List.append_nil, wSeq, wAsg, wgN, wgNil, wgCons, wgTup, wDrop, wRet, wRetN, wNext, wBrk, wCont, wIfS, wV, nth, stV, wC, wOp, wUn, wBool, wChain, wTru, truP, wAnd, wOr, wNot, wIfE, wAndV, wOrV, wNotV, wNil, wCons, wTup, wLst, wLstM, wCB, wPar, wPar3, wAug, wFor, wiSeq, wiRng1, wiRng2, seqL, seqO, rows, addP, intP, intP0, subP, fdivP, modP, powP, mulP, CDiv, CPow, CMul, neP, ordP, ltP, leP, gtP, geP, isNon, isP, isNotP, lenO, lenP, absP, min2P, max2P, listP, tupleP, allP, sumP, intCP, isinP, tysOf, ixP, seqK, keyOf, dgetP, wNoPart, wPart, slcP, slcMP, wSl, wRevL, tyM, wBm, appendP, popAtP, joinP, wDnewM, wPairs, wCall, wCallK, wFrz, wDput, dputP, eqNilP, List.isEmpty_nil, List.isEmpty_cons, Bool.not_true, Bool.not_false, Bool.true_eq_false, Bool.false_eq_true, and_true, true_and, ↓reduceIte, Int.reduceToNat, Int.reducePow, Int.reduceNeg, Int.reduceAdd, Int.reduceSub, Int.reduceMul, Nat.reduceMul, Nat.reduceLT, Nat.reduceLeDiff, isB, String.reduceBEq, Bool.or_true, Bool.or_false, Bool.and_true, Bool.and_false, Bool.true_and, Bool.false_and, Bool.false_or, Bool.true_or, Int.cast_ofNat_Int, Int.reduceBEq, Int.reduceBNe, BEq.rfl, wYes] at q ⊢; exact q
                | true =>
                cases e6 : isNam g with
                | false => simp only [e4, e5, e6, startP, List.map_cons, List.map_nil, List.length_cons, List.length_nil, Nat.reduceAdd, Nat.reduceSub, List.reduceReplicate, List.cons_append, List.nil_append, List.append_nil, wSeq, wAsg, wgN, wgNil, wgCons, wgTup, wDrop, wRet, wRetN, wNext, wBrk, wCont, wIfS, wV, nth, stV, wC, wOp, wUn, wBool, wChain, wTru, truP, wAnd, wOr, wNot, wIfE, wAndV, wOrV, wNotV, wNil, wCons, wTup, wLst, wLstM, wCB, wPar, wPar3, wAug, wFor, wiSeq, wiRng1, wiRng2, seqL, seqO, rows, addP, intP, intP0, subP, fdivP, modP, powP, mulP, CDiv, CPow, CMul, neP, ordP, ltP, leP, gtP, geP, isNon, isP, isNotP, lenO, lenP, absP, min2P, max2P, listP, tupleP, allP, sumP, intCP, isinP, tysOf, ixP, seqK, keyOf, dgetP, wNoPart, wPart, slcP, slcMP, wSl, wRevL, tyM, wBm, appendP, popAtP, joinP, wDnewM, wPairs, wCall, wCallK, wFrz, wDput, dputP, eqNilP, List.isEmpty_nil, List.isEmpty_cons, Bool.not_true, Bool.not_false, Bool.true_eq_false, Bool.false_eq_true, and_true, true_and, ↓reduceIte, Int.reduceToNat, Int.reducePow, Int.reduceNeg, Int.reduceAdd, Int.reduceSub, Int.reduceMul, Nat.reduceMul, Nat.reduceLT, Nat.reduceLeDiff, isB, String.reduceBEq, Bool.or_true, Bool.or_false, Bool.and_true, Bool.and_false, Bool.true_and, Bool.false_and, Bool.false_or, Bool.true_or, Int.cast_ofNat_Int, Int.reduceBEq, Int.reduceBNe, BEq.rfl, wYes] at q ⊢; exact q
                | true =>
                cases e7 : isNam h with
                | false => simp only [e4, e5, e6, e7, startP, List.map_cons, List.map_nil, List.length_cons, List.length_nil, Nat.reduceAdd, Nat.reduceSub, List.reduceReplicate, List.cons_append, List.nil_append, List.append_nil, wSeq, wAsg, wgN, wgNil, wgCons, wgTup, wDrop, wRet, wRetN, wNext, wBrk, wCont, wIfS, wV, nth, stV, wC, wOp, wUn, wBool, wChain, wTru, truP, wAnd, wOr, wNot, wIfE, wAndV, wOrV, wNotV, wNil, wCons, wTup, wLst, wLstM, wCB, wPar, wPar3, wAug, wFor, wiSeq, wiRng1, wiRng2, seqL, seqO, rows, addP, intP, intP0, subP, fdivP, modP, powP, mulP, CDiv, CPow, CMul, neP, ordP, ltP, leP, gtP, geP, isNon, isP, isNotP, lenO, lenP, absP, min2P, max2P, listP, tupleP, allP, sumP, intCP, isinP, tysOf, ixP, seqK, keyOf, dgetP, wNoPart, wPart, slcP, slcMP, wSl, wRevL, tyM, wBm, appendP, popAtP, joinP, wDnewM, wPairs, wCall, wCallK, wFrz, wDput, dputP, eqNilP, List.isEmpty_nil, List.isEmpty_cons, Bool.not_true, Bool.not_false, Bool.true_eq_false, Bool.false_eq_true, and_true, true_and, ↓reduceIte, Int.reduceToNat, Int.reducePow, Int.reduceNeg, Int.reduceAdd, Int.reduceSub, Int.reduceMul, Nat.reduceMul, Nat.reduceLT, Nat.reduceLeDiff, isB, String.reduceBEq, Bool.or_true, Bool.or_false, Bool.and_true, Bool.and_false, Bool.true_and, Bool.false_and, Bool.false_or, Bool.true_or, Int.cast_ofNat_Int, Int.reduceBEq, Int.reduceBNe, BEq.rfl, wYes] at q ⊢; exact q
                | true =>
                simp only [e4, e5, e6, e7, startP, List.map_cons, List.map_nil, List.length_cons, List.length_nil, Nat.reduceAdd, Nat.reduceSub, List.reduceReplicate, List.cons_append, List.nil_append, List.append_nil, wSeq, wAsg, wgN, wgNil, wgCons, wgTup, wDrop, wRet, wRetN, wNext, wBrk, wCont, wIfS, wV, nth, stV, wC, wOp, wUn, wBool, wChain, wTru, truP, wAnd, wOr, wNot, wIfE, wAndV, wOrV, wNotV, wNil, wCons, wTup, wLst, wLstM, wCB, wPar, wPar3, wAug, wFor, wiSeq, wiRng1, wiRng2, seqL, seqO, rows, addP, intP, intP0, subP, fdivP, modP, powP, mulP, CDiv, CPow, CMul, neP, ordP, ltP, leP, gtP, geP, isNon, isP, isNotP, lenO, lenP, absP, min2P, max2P, listP, tupleP, allP, sumP, intCP, isinP, tysOf, ixP, seqK, keyOf, dgetP, wNoPart, wPart, slcP, slcMP, wSl, wRevL, tyM, wBm, appendP, popAtP, joinP, wDnewM, wPairs, wCall, wCallK, wFrz, wDput, dputP, eqNilP, List.isEmpty_nil, List.isEmpty_cons, Bool.not_true, Bool.not_false, Bool.true_eq_false, Bool.false_eq_true, and_true, true_and, ↓reduceIte, Int.reduceToNat, Int.reducePow, Int.reduceNeg, Int.reduceAdd, Int.reduceSub, Int.reduceMul, Nat.reduceMul, Nat.reduceLT, Nat.reduceLeDiff, isB, String.reduceBEq, Bool.or_true, Bool.or_false, Bool.and_true, Bool.and_false, Bool.true_and, Bool.false_and, Bool.false_or, Bool.true_or, Int.cast_ofNat_Int, Int.reduceBEq, Int.reduceBNe, BEq.rfl, wYes] at q ⊢
                cases b with
                | str b =>
                  cases c with
                  | str c => exact q
                  | _ => cases e5
                | _ => cases e4
        | _ => first | cases hpa; done | exact q
      · have e0 : ((xs.length : Int) == 8) = false := beq_eq_false_iff_ne.mpr (by omega)
        simp only [e0, eqP, startP, List.map_cons, List.map_nil, List.length_cons, List.length_nil, Nat.reduceAdd, Nat.reduceSub, List.reduceReplicate, List.cons_append, List.nil_append, List.append_nil, wSeq, wAsg, wgN, wgNil, wgCons, wgTup, wDrop, wRet, wRetN, wNext, wBrk, wCont, wIfS, wV, nth, stV, wC, wOp, wUn, wBool, wChain, wTru, truP, wAnd, wOr, wNot, wIfE, wAndV, wOrV, wNotV, wNil, wCons, wTup, wLst, wLstM, wCB, wPar, wPar3, wAug, wFor, wiSeq, wiRng1, wiRng2, seqL, seqO, rows, addP, intP, intP0, subP, fdivP, modP, powP, mulP, CDiv, CPow, CMul, neP, ordP, ltP, leP, gtP, geP, isNon, isP, isNotP, lenO, lenP, absP, min2P, max2P, listP, tupleP, allP, sumP, intCP, isinP, tysOf, ixP, seqK, keyOf, dgetP, wNoPart, wPart, slcP, slcMP, wSl, wRevL, tyM, wBm, appendP, popAtP, joinP, wDnewM, wPairs, wCall, wCallK, wFrz, wDput, dputP, eqNilP, List.isEmpty_nil, List.isEmpty_cons, Bool.not_true, Bool.not_false, Bool.true_eq_false, Bool.false_eq_true, and_true, true_and, ↓reduceIte, Int.reduceToNat, Int.reducePow, Int.reduceNeg, Int.reduceAdd, Int.reduceSub, Int.reduceMul, Nat.reduceMul, Nat.reduceLT, Nat.reduceLeDiff, isB, String.reduceBEq, Bool.or_true, Bool.or_false, Bool.and_true, Bool.and_false, Bool.true_and, Bool.false_and, Bool.false_or, Bool.true_or, Int.cast_ofNat_Int, Int.reduceBEq, Int.reduceBNe, BEq.rfl, wYes]
        replace q : Q (.bl (isSal (.tup xs))) S0 := q
        rwa [not_eight hl] at q
  · exact h.elim

/-! ### sums, names, sales drawn -/
theorem ok_law_amount (T : Tx K mg base) : FnG P w K mg base 3 T.f__law_amount T.d__law_amount ["_law_state"] SpAmount := by
  refine okG T.F__law_amount sc_law_amount (fun xs S Q E h => by cases h; rfl) fun cdv A outer s H EX F0 xs S0 Q E hG hr hp tk h => ?_
  cases h with
  | @mk p n _ _ _ e hn q =>
  refine ⟨_, (wss_cons (ws_set 1 sc_law_amount.nd (we_lst (wa_cons (we_call (ok_law_take T) hG (hr.mono (by decide)) T.g__law_take T.F__law_take.kp T.b__law_take dflt0 tk0 (wa_cons (we_var 0) (wa_cons we_int wa_nil))) (wa_cons (we_call (ok_law_take T) hG (hr.mono (by decide)) T.g__law_take T.F__law_take.kp T.b__law_take dflt0 tk0 (wa_cons (we_var 0) (wa_cons we_int wa_nil))) (wa_cons (we_call (ok_law_take T) hG (hr.mono (by decide)) T.g__law_take T.F__law_take.kp T.b__law_take dflt0 tk0 (wa_cons (we_var 0) (wa_cons we_int wa_nil))) (wa_cons (we_op ow_sub (we_op ow_pow we_int we_int) (we_call (ok_law_take T) hG (hr.mono (by decide)) T.g__law_take T.F__law_take.kp T.b__law_take dflt0 tk0 (wa_cons (we_var 0) (wa_cons we_int wa_nil)))) wa_nil))))))
  (wss_one (ws_ret (we_call (ok_law_pick T) hG (hr.mono (by decide)) T.g__law_pick T.F__law_pick.kp T.b__law_pick dflt0 tk0 (wa_cons (we_var 0) (wa_cons (we_op ow_add (we_var 1) (we_lst (wa_cons (we_ix (we_var 1) we_int) (wa_cons (we_ix (we_var 1) we_int) (wa_cons (we_call (ok_law_take T) hG (hr.mono (by decide)) T.g__law_take T.F__law_take.kp T.b__law_take dflt0 tk0 (wa_cons (we_var 0) (wa_cons (we_op ow_add (we_op ow_pow we_int we_int) we_int) wa_nil))) wa_nil))))) wa_nil)))))), ?_⟩
  simp only [startP, List.map_cons, List.map_nil, List.length_cons, List.length_nil, Nat.reduceAdd, Nat.reduceSub, List.reduceReplicate, List.cons_append, List.nil_append, List.append_nil, wSeq, wAsg, wgN, wgNil, wgCons, wgTup, wDrop, wRet, wRetN, wNext, wBrk, wCont, wIfS, wV, nth, stV, wC, wOp, wUn, wBool, wChain, wTru, truP, wAnd, wOr, wNot, wIfE, wAndV, wOrV, wNotV, wNil, wCons, wTup, wLst, wLstM, wCB, wPar, wPar3, wAug, wFor, wiRng1, wiRng2, seqL, seqO, rows, subP, fdivP, modP, powP, mulP, CDiv, CPow, CMul, neP, ltP, leP, gtP, geP, isNon, isP, isNotP, lenO, lenP, absP, min2P, max2P, listP, tupleP, allP, sumP, intCP, isinP, tysOf, seqK, keyOf, dgetP, wNoPart, wPart, slcMP, wSl, wRevL, tyM, wBm, appendP, popAtP, joinP, wDnewM, wPairs, wCall, wCallK, wFrz, wDput, dputP, eqNilP, List.isEmpty_nil, List.isEmpty_cons, Bool.not_true, Bool.not_false, Bool.true_eq_false, Bool.false_eq_true, and_true, true_and, ↓reduceIte, Int.reduceToNat, Int.reducePow, Int.reduceNeg, Int.reduceAdd, Int.reduceSub, Int.reduceMul, Nat.reduceMul, Nat.reduceLT, Nat.reduceLeDiff, isB, String.reduceBEq, Bool.or_true, Bool.or_false, Bool.and_true, Bool.and_false, Bool.true_and, Bool.false_and, Bool.false_or, Bool.true_or, Int.cast_ofNat_Int, Int.reduceBEq, Int.reduceBNe, BEq.rfl, wYes, wCut, pow_ok9, pow_ok18, pow_ok30, line_eq, put_same, put_put, List.mem_cons, List.not_mem_nil, or_false, addP_int, addP_str, addP_tup, addP_lst, intP_int, intP0_int, ordP_int, eqP_int, eqP_str, eqP_bl, eqP_non, ixP_str, ixP_lst, ixP_tup, ixP_scr, slcP_str, slcP_tup, slcP_lst, wiSeq_eq, walkP_tup, walkP_str, walkP_lst, walkP_scr, N_law_amount]
  refine .mk e (by decide) (by decide) (by omega) fun r1 a1 b1 => ?_
  refine .mk put_same (by decide) (by decide) (by omega) fun r2 a2 b2 => ?_
  refine .mk put_same (by decide) (by decide) (by omega) fun r3 a3 b3 => ?_
  simp only [startP, List.map_cons, List.map_nil, List.length_cons, List.length_nil, Nat.reduceAdd, Nat.reduceSub, List.reduceReplicate, List.cons_append, List.nil_append, List.append_nil, wSeq, wAsg, wgN, wgNil, wgCons, wgTup, wDrop, wRet, wRetN, wNext, wBrk, wCont, wIfS, wV, nth, stV, wC, wOp, wUn, wBool, wChain, wTru, truP, wAnd, wOr, wNot, wIfE, wAndV, wOrV, wNotV, wNil, wCons, wTup, wLst, wLstM, wCB, wPar, wPar3, wAug, wFor, wiRng1, wiRng2, seqL, seqO, rows, subP, fdivP, modP, powP, mulP, CDiv, CPow, CMul, neP, ltP, leP, gtP, geP, isNon, isP, isNotP, lenO, lenP, absP, min2P, max2P, listP, tupleP, allP, sumP, intCP, isinP, tysOf, seqK, keyOf, dgetP, wNoPart, wPart, slcMP, wSl, wRevL, tyM, wBm, appendP, popAtP, joinP, wDnewM, wPairs, wCall, wCallK, wFrz, wDput, dputP, eqNilP, List.isEmpty_nil, List.isEmpty_cons, Bool.not_true, Bool.not_false, Bool.true_eq_false, Bool.false_eq_true, and_true, true_and, ↓reduceIte, Int.reduceToNat, Int.reducePow, Int.reduceNeg, Int.reduceAdd, Int.reduceSub, Int.reduceMul, Nat.reduceMul, Nat.reduceLT, Nat.reduceLeDiff, isB, String.reduceBEq, Bool.or_true, Bool.or_false, Bool.and_true, Bool.and_false, Bool.true_and, Bool.false_and, Bool.false_or, Bool.true_or, Int.cast_ofNat_Int, Int.reduceBEq, Int.reduceBNe, BEq.rfl, wYes, wCut, pow_ok9, pow_ok18, pow_ok30, line_eq, put_same, put_put, List.mem_cons, List.not_mem_nil, or_false, addP_int, addP_str, addP_tup, addP_lst, intP_int, intP0_int, ordP_int, eqP_int, eqP_str, eqP_bl, eqP_non, ixP_str, ixP_lst, ixP_tup, ixP_scr, slcP_str, slcP_tup, slcP_lst, wiSeq_eq, walkP_tup, walkP_str, walkP_lst, walkP_scr, put_put]
  refine .mk put_same (by decide) (by decide) (by omega) fun r4 a4 b4 => ?_
  have j1 : atI [PV.int r1, PV.int r2, PV.int r3, PV.int (1000000000 - r4)] 1 = some (.int r2) := rfl
  have j2 : atI [PV.int r1, PV.int r2, PV.int r3, PV.int (1000000000 - r4)] 2 = some (.int r3) := rfl
  simp only [startP, List.map_cons, List.map_nil, List.length_cons, List.length_nil, Nat.reduceAdd, Nat.reduceSub, List.reduceReplicate, List.cons_append, List.nil_append, List.append_nil, wSeq, wAsg, wgN, wgNil, wgCons, wgTup, wDrop, wRet, wRetN, wNext, wBrk, wCont, wIfS, wV, nth, stV, wC, wOp, wUn, wBool, wChain, wTru, truP, wAnd, wOr, wNot, wIfE, wAndV, wOrV, wNotV, wNil, wCons, wTup, wLst, wLstM, wCB, wPar, wPar3, wAug, wFor, wiRng1, wiRng2, seqL, seqO, rows, subP, fdivP, modP, powP, mulP, CDiv, CPow, CMul, neP, ltP, leP, gtP, geP, isNon, isP, isNotP, lenO, lenP, absP, min2P, max2P, listP, tupleP, allP, sumP, intCP, isinP, tysOf, seqK, keyOf, dgetP, wNoPart, wPart, slcMP, wSl, wRevL, tyM, wBm, appendP, popAtP, joinP, wDnewM, wPairs, wCall, wCallK, wFrz, wDput, dputP, eqNilP, List.isEmpty_nil, List.isEmpty_cons, Bool.not_true, Bool.not_false, Bool.true_eq_false, Bool.false_eq_true, and_true, true_and, ↓reduceIte, Int.reduceToNat, Int.reducePow, Int.reduceNeg, Int.reduceAdd, Int.reduceSub, Int.reduceMul, Nat.reduceMul, Nat.reduceLT, Nat.reduceLeDiff, isB, String.reduceBEq, Bool.or_true, Bool.or_false, Bool.and_true, Bool.and_false, Bool.true_and, Bool.false_and, Bool.false_or, Bool.true_or, Int.cast_ofNat_Int, Int.reduceBEq, Int.reduceBNe, BEq.rfl, wYes, wCut, pow_ok9, pow_ok18, pow_ok30, line_eq, put_same, put_put, List.mem_cons, List.not_mem_nil, or_false, addP_int, addP_str, addP_tup, addP_lst, intP_int, intP0_int, ordP_int, eqP_int, eqP_str, eqP_bl, eqP_non, ixP_str, ixP_lst, ixP_tup, ixP_scr, slcP_str, slcP_tup, slcP_lst, wiSeq_eq, walkP_tup, walkP_str, walkP_lst, walkP_scr, put_put, j1, j2]
  refine .mk (n := n + 4) put_same (by decide) (by decide) (by omega) fun r5 a5 b5 => ?_
  simp only [startP, List.map_cons, List.map_nil, List.length_cons, List.length_nil, Nat.reduceAdd, Nat.reduceSub, List.reduceReplicate, List.cons_append, List.nil_append, List.append_nil, wSeq, wAsg, wgN, wgNil, wgCons, wgTup, wDrop, wRet, wRetN, wNext, wBrk, wCont, wIfS, wV, nth, stV, wC, wOp, wUn, wBool, wChain, wTru, truP, wAnd, wOr, wNot, wIfE, wAndV, wOrV, wNotV, wNil, wCons, wTup, wLst, wLstM, wCB, wPar, wPar3, wAug, wFor, wiRng1, wiRng2, seqL, seqO, rows, subP, fdivP, modP, powP, mulP, CDiv, CPow, CMul, neP, ltP, leP, gtP, geP, isNon, isP, isNotP, lenO, lenP, absP, min2P, max2P, listP, tupleP, allP, sumP, intCP, isinP, tysOf, seqK, keyOf, dgetP, wNoPart, wPart, slcMP, wSl, wRevL, tyM, wBm, appendP, popAtP, joinP, wDnewM, wPairs, wCall, wCallK, wFrz, wDput, dputP, eqNilP, List.isEmpty_nil, List.isEmpty_cons, Bool.not_true, Bool.not_false, Bool.true_eq_false, Bool.false_eq_true, and_true, true_and, ↓reduceIte, Int.reduceToNat, Int.reducePow, Int.reduceNeg, Int.reduceAdd, Int.reduceSub, Int.reduceMul, Nat.reduceMul, Nat.reduceLT, Nat.reduceLeDiff, isB, String.reduceBEq, Bool.or_true, Bool.or_false, Bool.and_true, Bool.and_false, Bool.true_and, Bool.false_and, Bool.false_or, Bool.true_or, Int.cast_ofNat_Int, Int.reduceBEq, Int.reduceBNe, BEq.rfl, wYes, wCut, pow_ok9, pow_ok18, pow_ok30, line_eq, put_same, put_put, List.mem_cons, List.not_mem_nil, or_false, addP_int, addP_str, addP_tup, addP_lst, intP_int, intP0_int, ordP_int, eqP_int, eqP_str, eqP_bl, eqP_non, ixP_str, ixP_lst, ixP_tup, ixP_scr, slcP_str, slcP_tup, slcP_lst, wiSeq_eq, walkP_tup, walkP_str, walkP_lst, walkP_scr, put_put]
  refine .mk (n := n + 4 + 1) put_same rfl (by simp) (by simp) (by omega) fun y hy => ?_
  simp only [put_put]
  simp only [List.mem_cons, List.not_mem_nil, or_false] at hy
  rcases hy with rfl | rfl | rfl | rfl | rfl | rfl | rfl <;> exact q _ (by omega) (by omega)
theorem ok_law_names (T : Tx K mg base) : FnG P w K mg base 3 T.f__law_names T.d__law_names ["_law_state", "_law_many"] SpNames := by
  refine okG T.F__law_names sc_law_names (fun xs S Q E h => by cases h; rfl) fun cdv A outer s H EX F0 xs S0 Q E hG hr hp tk h => ?_
  cases h with
  | @mk p k n _ _ _ e h0 hk hn q =>
  refine ⟨_, (wss_cons (ws_asg (we_tup (wa_cons we_str (wa_cons (we_lstM wa_nil) wa_nil))) (wg_tup (n := 2) rfl (wgs_cons (wg_name 2 sc_law_names.nd) (wgs_cons (wg_name 3 sc_law_names.nd) wgs_nil))))
  (wss_cons (ws_set 4 sc_law_names.nd (we_lst (wa_cons we_str (wa_cons we_str (wa_cons we_str (wa_cons we_str (wa_cons we_str (wa_cons we_str (wa_cons we_str (wa_cons we_str (wa_cons we_str (wa_cons we_str (wa_cons we_str (wa_cons we_str wa_nil))))))))))))))
  (wss_cons (ws_for hp rfl (wi_rng1 T.m_range (wa_cons (we_var 1) wa_nil)) (wg_name 5 sc_law_names.nd)
  (wss_cons (ws_set 6 sc_law_names.nd (we_call (ok_law_pick T) hG (hr.mono (by decide)) T.g__law_pick T.F__law_pick.kp T.b__law_pick dflt0 tk0 (wa_cons (we_var 0) (wa_cons (we_var 4) wa_nil))))
  (wss_cut (ws_if (wt_cmp ow_gt (we_call (ok_law_take T) hG (hr.mono (by decide)) T.g__law_take T.F__law_take.kp T.b__law_take dflt0 tk0 (wa_cons (we_var 0) (wa_cons we_int wa_nil))) we_int)
  (wss_one (ws_set 6 sc_law_names.nd (we_bm PySem.F.plainAttrs_str PySem.F.slot_str_join PySem.F.type_str_join (by decide) mw_join we_str (wa_cons (we_lc (mk := false) rfl sc_law_names.nd (wi_rng1 T.m_range (wa_cons (we_op ow_add we_int (we_call (ok_law_take T) hG (hr.mono (by decide)) T.g__law_take T.F__law_take.kp T.b__law_take dflt0 tk0 (wa_cons (we_var 0) (wa_cons we_int wa_nil)))) wa_nil)) (own := [("_law_place", 7)]) (blkOk_by (N := N_law_names) (sc := defScope s_law_names) (by decide +kernel)) (fun _ _ _ _ _ => (wg_name 7 sc_law_names.nd)) (by decide) (fun _ _ _ _ _ => wts_nil) (fun _ _ _ _ _ => (we_call (ok_law_pick T) hG (hr.mono (by decide)) T.g__law_pick T.F__law_pick.kp T.b__law_pick dflt0 tk0 (wa_cons (we_var 0) (wa_cons (we_var 2) wa_nil))))) wa_nil))))
  wss_nil)
  (wss_cut (ws_if (wt_cmp (ow_in (hu_of hr)) (we_var 6) (we_var 3))
  (wss_one (ws_set 6 sc_law_names.nd (we_ix (we_lc (mk := false) rfl sc_law_names.nd (wi_seq (we_var 2)) (own := [("_law_letter", 8)]) (blkOk_by (N := N_law_names) (sc := defScope s_law_names) (by decide +kernel)) (fun _ _ _ _ _ => (wg_name 8 sc_law_names.nd)) (by decide) (fun _ _ _ _ _ => (wts_one (wt_cmp (ow_notIn (hu_of hr)) (we_op ow_add (we_sl sw_slc (we_var 6) wo_none (wo_some we_int)) (we_var 8)) (we_var 3)))) (fun _ _ _ _ _ => (we_op ow_add (we_sl sw_slc (we_var 6) wo_none (wo_some we_int)) (we_var 8)))) we_int)))
  wss_nil)
  (wss_one (ws_expr (we_bm PySem.F.plainAttrs_list PySem.F.slot_list_append PySem.F.type_list_append (by decide) mw_append (we_var 3) (wa_cons (we_var 6) wa_nil))))))))
  (wss_one (ws_ret (we_frz (we_var 3))))))), ?_⟩
  simp only [startP, List.map_cons, List.map_nil, List.length_cons, List.length_nil, Nat.reduceAdd, Nat.reduceSub, List.reduceReplicate, List.cons_append, List.nil_append, List.append_nil, wSeq, wAsg, wgN, wgNil, wgCons, wgTup, wDrop, wRet, wRetN, wNext, wBrk, wCont, wIfS, wV, nth, stV, wC, wOp, wUn, wBool, wChain, wTru, truP, wAnd, wOr, wNot, wIfE, wAndV, wOrV, wNotV, wNil, wCons, wTup, wLst, wLstM, wCB, wPar, wPar3, wAug, wFor, wiRng1, wiRng2, seqL, seqO, rows, subP, fdivP, modP, powP, mulP, CDiv, CPow, CMul, neP, ltP, leP, gtP, geP, isNon, isP, isNotP, lenO, lenP, absP, min2P, max2P, listP, tupleP, allP, sumP, intCP, isinP, tysOf, seqK, keyOf, dgetP, wNoPart, wPart, slcMP, wSl, wRevL, tyM, wBm, appendP, popAtP, joinP, wDnewM, wPairs, wCall, wCallK, wFrz, wDput, dputP, eqNilP, List.isEmpty_nil, List.isEmpty_cons, Bool.not_true, Bool.not_false, Bool.true_eq_false, Bool.false_eq_true, and_true, true_and, ↓reduceIte, Int.reduceToNat, Int.reducePow, Int.reduceNeg, Int.reduceAdd, Int.reduceSub, Int.reduceMul, Nat.reduceMul, Nat.reduceLT, Nat.reduceLeDiff, isB, String.reduceBEq, Bool.or_true, Bool.or_false, Bool.and_true, Bool.and_false, Bool.true_and, Bool.false_and, Bool.false_or, Bool.true_or, Int.cast_ofNat_Int, Int.reduceBEq, Int.reduceBNe, BEq.rfl, wYes, wCut, pow_ok9, pow_ok18, pow_ok30, line_eq, put_same, put_put, List.mem_cons, List.not_mem_nil, or_false, addP_int, addP_str, addP_tup, addP_lst, intP_int, intP0_int, ordP_int, eqP_int, eqP_str, eqP_bl, eqP_non, ixP_str, ixP_lst, ixP_tup, ixP_scr, slcP_str, slcP_tup, slcP_lst, wiSeq_eq, walkP_tup, walkP_str, walkP_lst, walkP_scr, N_law_names]
  intro a ha
  have nb : a ≠ p := fun z => by rw [z, e] at ha; cases ha
  refine ⟨by omega, by omega, ?_⟩
  refine for_inv (fun done ρ S => ∃ (ws : List Str) (m : Nat) (t v : Option PV), ws.length = done.length ∧ ws.Nodup ∧ (∀ w ∈ ws, NameOk w) ∧ m ≤ n + 12 * done.length ∧ ρ = [some (.ref p), some (.int k), some (.str lets), some (.ref a), some (.lst wordsL), t, v, none, none] ∧ S = put (put S0 p (drw p m)) a (.raw (.lst (ws.map .str))))
    ⟨[], n, none, none, rfl, .nil, (fun _ z => nomatch z), Nat.le_refl n, rfl, ?_⟩ ?_ ?_
  · funext b
    by_cases z : b = p
    · rw [z, put_ne nb.symm, put_ne nb.symm, put_same, e]
    · by_cases z2 : b = a
      · rw [z2, put_same, put_same]; rfl
      · rw [put_ne z2, put_ne z2, put_ne z]
  · rintro ρ S ⟨ws, m, t, v, e1, e2, e3, e4, rfl, rfl⟩
    simp only [startP, List.map_cons, List.map_nil, List.length_cons, List.length_nil, Nat.reduceAdd, Nat.reduceSub, List.reduceReplicate, List.cons_append, List.nil_append, List.append_nil, wSeq, wAsg, wgN, wgNil, wgCons, wgTup, wDrop, wRet, wRetN, wNext, wBrk, wCont, wIfS, wV, nth, stV, wC, wOp, wUn, wBool, wChain, wTru, truP, wAnd, wOr, wNot, wIfE, wAndV, wOrV, wNotV, wNil, wCons, wTup, wLst, wLstM, wCB, wPar, wPar3, wAug, wFor, wiRng1, wiRng2, seqL, seqO, rows, subP, fdivP, modP, powP, mulP, CDiv, CPow, CMul, neP, ltP, leP, gtP, geP, isNon, isP, isNotP, lenO, lenP, absP, min2P, max2P, listP, tupleP, allP, sumP, intCP, isinP, tysOf, seqK, keyOf, dgetP, wNoPart, wPart, slcMP, wSl, wRevL, tyM, wBm, appendP, popAtP, joinP, wDnewM, wPairs, wCall, wCallK, wFrz, wDput, dputP, eqNilP, List.isEmpty_nil, List.isEmpty_cons, Bool.not_true, Bool.not_false, Bool.true_eq_false, Bool.false_eq_true, and_true, true_and, ↓reduceIte, Int.reduceToNat, Int.reducePow, Int.reduceNeg, Int.reduceAdd, Int.reduceSub, Int.reduceMul, Nat.reduceMul, Nat.reduceLT, Nat.reduceLeDiff, isB, String.reduceBEq, Bool.or_true, Bool.or_false, Bool.and_true, Bool.and_false, Bool.true_and, Bool.false_and, Bool.false_or, Bool.true_or, Int.cast_ofNat_Int, Int.reduceBEq, Int.reduceBNe, BEq.rfl, wYes, wCut, pow_ok9, pow_ok18, pow_ok30, line_eq, put_same, put_put, List.mem_cons, List.not_mem_nil, or_false, addP_int, addP_str, addP_tup, addP_lst, intP_int, intP0_int, ordP_int, eqP_int, eqP_str, eqP_bl, eqP_non, ixP_str, ixP_lst, ixP_tup, ixP_scr, slcP_str, slcP_tup, slcP_lst, wiSeq_eq, walkP_tup, walkP_str, walkP_lst, walkP_scr]
    rw [rng_len] at e1 e4
    refine ⟨a, ws.map .str, rfl, put_same, ?_⟩
    rw [rmv_put (by rw [put_ne nb]; exact ha)]
    exact q ws m e1 e2 e3 e4
  · rintro done x rest ρ S ed ⟨ws, m, t, v, e1, e2, e3, e4, rfl, rfl⟩
    have hdl : done.length < 20 := by
      have := congrArg List.length ed
      rw [rng_len, List.length_append, List.length_cons] at this
      omega
    refine ⟨trivial, ?_⟩
    simp only [startP, List.map_cons, List.map_nil, List.length_cons, List.length_nil, Nat.reduceAdd, Nat.reduceSub, List.reduceReplicate, List.cons_append, List.nil_append, List.append_nil, wSeq, wAsg, wgN, wgNil, wgCons, wgTup, wDrop, wRet, wRetN, wNext, wBrk, wCont, wIfS, wV, nth, stV, wC, wOp, wUn, wBool, wChain, wTru, truP, wAnd, wOr, wNot, wIfE, wAndV, wOrV, wNotV, wNil, wCons, wTup, wLst, wLstM, wCB, wPar, wPar3, wAug, wFor, wiRng1, wiRng2, seqL, seqO, rows, subP, fdivP, modP, powP, mulP, CDiv, CPow, CMul, neP, ltP, leP, gtP, geP, isNon, isP, isNotP, lenO, lenP, absP, min2P, max2P, listP, tupleP, allP, sumP, intCP, isinP, tysOf, seqK, keyOf, dgetP, wNoPart, wPart, slcMP, wSl, wRevL, tyM, wBm, appendP, popAtP, joinP, wDnewM, wPairs, wCall, wCallK, wFrz, wDput, dputP, eqNilP, List.isEmpty_nil, List.isEmpty_cons, Bool.not_true, Bool.not_false, Bool.true_eq_false, Bool.false_eq_true, and_true, true_and, ↓reduceIte, Int.reduceToNat, Int.reducePow, Int.reduceNeg, Int.reduceAdd, Int.reduceSub, Int.reduceMul, Nat.reduceMul, Nat.reduceLT, Nat.reduceLeDiff, isB, String.reduceBEq, Bool.or_true, Bool.or_false, Bool.and_true, Bool.and_false, Bool.true_and, Bool.false_and, Bool.false_or, Bool.true_or, Int.cast_ofNat_Int, Int.reduceBEq, Int.reduceBNe, BEq.rfl, wYes, wCut, pow_ok9, pow_ok18, pow_ok30, line_eq, put_same, put_put, List.mem_cons, List.not_mem_nil, or_false, addP_int, addP_str, addP_tup, addP_lst, intP_int, intP0_int, ordP_int, eqP_int, eqP_str, eqP_bl, eqP_non, ixP_str, ixP_lst, ixP_tup, ixP_scr, slcP_str, slcP_tup, slcP_lst, wiSeq_eq, walkP_tup, walkP_str, walkP_lst, walkP_scr]
    refine .mk (n := m) (xs := wordsL) (by rw [put_ne nb.symm, put_same]) rfl (by decide) (by decide) (by omega) fun y hy => ?_
    obtain ⟨w, rfl, hw⟩ := words_ok y hy
    simp only [put_ab nb]
    refine ⟨fun ρ S => ∃ (w : Str) (m' : Nat), NameOk w ∧ m' ≤ m + 12 ∧ ρ = [some (.ref p), some (.int k), some (.str lets), some (.ref a), some (.lst wordsL), some x, some (.str w), none, none] ∧ S = put (put S0 p (drw p m')) a (.raw (.lst (ws.map .str))), ?_, ?_⟩
    · refine .mk (n := m + 1) (by rw [put_ne nb.symm, put_same]) (by decide) (by decide) (by omega) fun r a1 b1 => ?_
      simp only [put_ab nb, startP, List.map_cons, List.map_nil, List.length_cons, List.length_nil, Nat.reduceAdd, Nat.reduceSub, List.reduceReplicate, List.cons_append, List.nil_append, List.append_nil, wSeq, wAsg, wgN, wgNil, wgCons, wgTup, wDrop, wRet, wRetN, wNext, wBrk, wCont, wIfS, wV, nth, stV, wC, wOp, wUn, wBool, wChain, wTru, truP, wAnd, wOr, wNot, wIfE, wAndV, wOrV, wNotV, wNil, wCons, wTup, wLst, wLstM, wCB, wPar, wPar3, wAug, wFor, wiRng1, wiRng2, seqL, seqO, rows, subP, fdivP, modP, powP, mulP, CDiv, CPow, CMul, neP, ltP, leP, gtP, geP, isNon, isP, isNotP, lenO, lenP, absP, min2P, max2P, listP, tupleP, allP, sumP, intCP, isinP, tysOf, seqK, keyOf, dgetP, wNoPart, wPart, slcMP, wSl, wRevL, tyM, wBm, appendP, popAtP, joinP, wDnewM, wPairs, wCall, wCallK, wFrz, wDput, dputP, eqNilP, List.isEmpty_nil, List.isEmpty_cons, Bool.not_true, Bool.not_false, Bool.true_eq_false, Bool.false_eq_true, and_true, true_and, ↓reduceIte, Int.reduceToNat, Int.reducePow, Int.reduceNeg, Int.reduceAdd, Int.reduceSub, Int.reduceMul, Nat.reduceMul, Nat.reduceLT, Nat.reduceLeDiff, isB, String.reduceBEq, Bool.or_true, Bool.or_false, Bool.and_true, Bool.and_false, Bool.true_and, Bool.false_and, Bool.false_or, Bool.true_or, Int.cast_ofNat_Int, Int.reduceBEq, Int.reduceBNe, BEq.rfl, wYes, wCut, pow_ok9, pow_ok18, pow_ok30, line_eq, put_same, put_put, List.mem_cons, List.not_mem_nil, or_false, addP_int, addP_str, addP_tup, addP_lst, intP_int, intP0_int, ordP_int, eqP_int, eqP_str, eqP_bl, eqP_non, ixP_str, ixP_lst, ixP_tup, ixP_scr, slcP_str, slcP_tup, slcP_lst, wiSeq_eq, walkP_tup, walkP_str, walkP_lst, walkP_scr]
      split
      · simp only [startP, List.map_cons, List.map_nil, List.length_cons, List.length_nil, Nat.reduceAdd, Nat.reduceSub, List.reduceReplicate, List.cons_append, List.nil_append, List.append_nil, wSeq, wAsg, wgN, wgNil, wgCons, wgTup, wDrop, wRet, wRetN, wNext, wBrk, wCont, wIfS, wV, nth, stV, wC, wOp, wUn, wBool, wChain, wTru, truP, wAnd, wOr, wNot, wIfE, wAndV, wOrV, wNotV, wNil, wCons, wTup, wLst, wLstM, wCB, wPar, wPar3, wAug, wFor, wiRng1, wiRng2, seqL, seqO, rows, subP, fdivP, modP, powP, mulP, CDiv, CPow, CMul, neP, ltP, leP, gtP, geP, isNon, isP, isNotP, lenO, lenP, absP, min2P, max2P, listP, tupleP, allP, sumP, intCP, isinP, tysOf, seqK, keyOf, dgetP, wNoPart, wPart, slcMP, wSl, wRevL, tyM, wBm, appendP, popAtP, joinP, wDnewM, wPairs, wCall, wCallK, wFrz, wDput, dputP, eqNilP, List.isEmpty_nil, List.isEmpty_cons, Bool.not_true, Bool.not_false, Bool.true_eq_false, Bool.false_eq_true, and_true, true_and, ↓reduceIte, Int.reduceToNat, Int.reducePow, Int.reduceNeg, Int.reduceAdd, Int.reduceSub, Int.reduceMul, Nat.reduceMul, Nat.reduceLT, Nat.reduceLeDiff, isB, String.reduceBEq, Bool.or_true, Bool.or_false, Bool.and_true, Bool.and_false, Bool.true_and, Bool.false_and, Bool.false_or, Bool.true_or, Int.cast_ofNat_Int, Int.reduceBEq, Int.reduceBNe, BEq.rfl, wYes, wCut, pow_ok9, pow_ok18, pow_ok30, line_eq, put_same, put_put, List.mem_cons, List.not_mem_nil, or_false, addP_int, addP_str, addP_tup, addP_lst, intP_int, intP0_int, ordP_int, eqP_int, eqP_str, eqP_bl, eqP_non, ixP_str, ixP_lst, ixP_tup, ixP_scr, slcP_str, slcP_tup, slcP_lst, wiSeq_eq, walkP_tup, walkP_str, walkP_lst, walkP_scr, wLc]
        refine .mk (n := m + 2) (by rw [put_ne nb.symm, put_same]) (by decide) (by decide) (by omega) fun r2 a2 b2 => ?_
        simp only [put_ab nb, startP, List.map_cons, List.map_nil, List.length_cons, List.length_nil, Nat.reduceAdd, Nat.reduceSub, List.reduceReplicate, List.cons_append, List.nil_append, List.append_nil, wSeq, wAsg, wgN, wgNil, wgCons, wgTup, wDrop, wRet, wRetN, wNext, wBrk, wCont, wIfS, wV, nth, stV, wC, wOp, wUn, wBool, wChain, wTru, truP, wAnd, wOr, wNot, wIfE, wAndV, wOrV, wNotV, wNil, wCons, wTup, wLst, wLstM, wCB, wPar, wPar3, wAug, wFor, wiRng1, wiRng2, seqL, seqO, rows, subP, fdivP, modP, powP, mulP, CDiv, CPow, CMul, neP, ltP, leP, gtP, geP, isNon, isP, isNotP, lenO, lenP, absP, min2P, max2P, listP, tupleP, allP, sumP, intCP, isinP, tysOf, seqK, keyOf, dgetP, wNoPart, wPart, slcMP, wSl, wRevL, tyM, wBm, appendP, popAtP, joinP, wDnewM, wPairs, wCall, wCallK, wFrz, wDput, dputP, eqNilP, List.isEmpty_nil, List.isEmpty_cons, Bool.not_true, Bool.not_false, Bool.true_eq_false, Bool.false_eq_true, and_true, true_and, ↓reduceIte, Int.reduceToNat, Int.reducePow, Int.reduceNeg, Int.reduceAdd, Int.reduceSub, Int.reduceMul, Nat.reduceMul, Nat.reduceLT, Nat.reduceLeDiff, isB, String.reduceBEq, Bool.or_true, Bool.or_false, Bool.and_true, Bool.and_false, Bool.true_and, Bool.false_and, Bool.false_or, Bool.true_or, Int.cast_ofNat_Int, Int.reduceBEq, Int.reduceBNe, BEq.rfl, wYes, wCut, pow_ok9, pow_ok18, pow_ok30, line_eq, put_same, put_put, List.mem_cons, List.not_mem_nil, or_false, addP_int, addP_str, addP_tup, addP_lst, intP_int, intP0_int, ordP_int, eqP_int, eqP_str, eqP_bl, eqP_non, ixP_str, ixP_lst, ixP_tup, ixP_scr, slcP_str, slcP_tup, slcP_lst, wiSeq_eq, walkP_tup, walkP_str, walkP_lst, walkP_scr]
        refine ⟨by omega, by omega, fun D hD => ?_⟩
        refine lc_letters (p := p) (m := m + 3) (z := lets) hD (by rw [put_ne nb.symm, put_same]) (by rw [rng_len]; omega) (by rw [rng_len]; omega) (fun x S' Q' m' e' h' k' => ?_) (fun bs hb hb2 => ?_)
        · simp only [startP, List.map_cons, List.map_nil, List.length_cons, List.length_nil, Nat.reduceAdd, Nat.reduceSub, List.reduceReplicate, List.cons_append, List.nil_append, List.append_nil, wSeq, wAsg, wgN, wgNil, wgCons, wgTup, wDrop, wRet, wRetN, wNext, wBrk, wCont, wIfS, wV, nth, stV, wC, wOp, wUn, wBool, wChain, wTru, truP, wAnd, wOr, wNot, wIfE, wAndV, wOrV, wNotV, wNil, wCons, wTup, wLst, wLstM, wCB, wPar, wPar3, wAug, wFor, wiRng1, wiRng2, seqL, seqO, rows, subP, fdivP, modP, powP, mulP, CDiv, CPow, CMul, neP, ltP, leP, gtP, geP, isNon, isP, isNotP, lenO, lenP, absP, min2P, max2P, listP, tupleP, allP, sumP, intCP, isinP, tysOf, seqK, keyOf, dgetP, wNoPart, wPart, slcMP, wSl, wRevL, tyM, wBm, appendP, popAtP, joinP, wDnewM, wPairs, wCall, wCallK, wFrz, wDput, dputP, eqNilP, List.isEmpty_nil, List.isEmpty_cons, Bool.not_true, Bool.not_false, Bool.true_eq_false, Bool.false_eq_true, and_true, true_and, ↓reduceIte, Int.reduceToNat, Int.reducePow, Int.reduceNeg, Int.reduceAdd, Int.reduceSub, Int.reduceMul, Nat.reduceMul, Nat.reduceLT, Nat.reduceLeDiff, isB, String.reduceBEq, Bool.or_true, Bool.or_false, Bool.and_true, Bool.and_false, Bool.true_and, Bool.false_and, Bool.false_or, Bool.true_or, Int.cast_ofNat_Int, Int.reduceBEq, Int.reduceBNe, BEq.rfl, wYes, wCut, pow_ok9, pow_ok18, pow_ok30, line_eq, put_same, put_put, List.mem_cons, List.not_mem_nil, or_false, addP_int, addP_str, addP_tup, addP_lst, intP_int, intP0_int, ordP_int, eqP_int, eqP_str, eqP_bl, eqP_non, ixP_str, ixP_lst, ixP_tup, ixP_scr, slcP_str, slcP_tup, slcP_lst, wiSeq_eq, walkP_tup, walkP_str, walkP_lst, walkP_scr, wipeP]
          exact .mk e' rfl lets_ne lets_len h' k'
        · rw [rng_len] at hb ⊢
          have h1s : ∀ b ∈ bs, b.length = 1 := fun b h => (letter_ok (hb2 b h)).1
          simp only [startP, List.map_cons, List.map_nil, List.length_cons, List.length_nil, Nat.reduceAdd, Nat.reduceSub, List.reduceReplicate, List.cons_append, List.nil_append, List.append_nil, wSeq, wAsg, wgN, wgNil, wgCons, wgTup, wDrop, wRet, wRetN, wNext, wBrk, wCont, wIfS, wV, nth, stV, wC, wOp, wUn, wBool, wChain, wTru, truP, wAnd, wOr, wNot, wIfE, wAndV, wOrV, wNotV, wNil, wCons, wTup, wLst, wLstM, wCB, wPar, wPar3, wAug, wFor, wiRng1, wiRng2, seqL, seqO, rows, subP, fdivP, modP, powP, mulP, CDiv, CPow, CMul, neP, ltP, leP, gtP, geP, isNon, isP, isNotP, lenO, lenP, absP, min2P, max2P, listP, tupleP, allP, sumP, intCP, isinP, tysOf, seqK, keyOf, dgetP, wNoPart, wPart, slcMP, wSl, wRevL, tyM, wBm, appendP, popAtP, joinP, wDnewM, wPairs, wCall, wCallK, wFrz, wDput, dputP, eqNilP, List.isEmpty_nil, List.isEmpty_cons, Bool.not_true, Bool.not_false, Bool.true_eq_false, Bool.false_eq_true, and_true, true_and, ↓reduceIte, Int.reduceToNat, Int.reducePow, Int.reduceNeg, Int.reduceAdd, Int.reduceSub, Int.reduceMul, Nat.reduceMul, Nat.reduceLT, Nat.reduceLeDiff, isB, String.reduceBEq, Bool.or_true, Bool.or_false, Bool.and_true, Bool.and_false, Bool.true_and, Bool.false_and, Bool.false_or, Bool.true_or, Int.cast_ofNat_Int, Int.reduceBEq, Int.reduceBNe, BEq.rfl, wYes, wCut, pow_ok9, pow_ok18, pow_ok30, line_eq, put_same, put_put, List.mem_cons, List.not_mem_nil, or_false, addP_int, addP_str, addP_tup, addP_lst, intP_int, intP0_int, ordP_int, eqP_int, eqP_str, eqP_bl, eqP_non, ixP_str, ixP_lst, ixP_tup, ixP_scr, slcP_str, slcP_tup, slcP_lst, wiSeq_eq, walkP_tup, walkP_str, walkP_lst, walkP_scr, strsOf_map, put_ab nb]
          refine ⟨by rw [join_sum (z := lets) h1s]; omega, Txt.join "" bs, m + 3 + (1 + r2).toNat, name_join hb2 (by omega) (by omega), by omega, rfl, rfl⟩
      · exact ⟨w, m + 2, hw, by omega, rfl, rfl⟩
    · rintro ρ S ⟨w, m', hw, hm', rfl, rfl⟩
      simp only [startP, List.map_cons, List.map_nil, List.length_cons, List.length_nil, Nat.reduceAdd, Nat.reduceSub, List.reduceReplicate, List.cons_append, List.nil_append, List.append_nil, wSeq, wAsg, wgN, wgNil, wgCons, wgTup, wDrop, wRet, wRetN, wNext, wBrk, wCont, wIfS, wV, nth, stV, wC, wOp, wUn, wBool, wChain, wTru, truP, wAnd, wOr, wNot, wIfE, wAndV, wOrV, wNotV, wNil, wCons, wTup, wLst, wLstM, wCB, wPar, wPar3, wAug, wFor, wiRng1, wiRng2, seqL, seqO, rows, subP, fdivP, modP, powP, mulP, CDiv, CPow, CMul, neP, ltP, leP, gtP, geP, isNon, isP, isNotP, lenO, lenP, absP, min2P, max2P, listP, tupleP, allP, sumP, intCP, isinP, tysOf, seqK, keyOf, dgetP, wNoPart, wPart, slcMP, wSl, wRevL, tyM, wBm, appendP, popAtP, joinP, wDnewM, wPairs, wCall, wCallK, wFrz, wDput, dputP, eqNilP, List.isEmpty_nil, List.isEmpty_cons, Bool.not_true, Bool.not_false, Bool.true_eq_false, Bool.false_eq_true, and_true, true_and, ↓reduceIte, Int.reduceToNat, Int.reducePow, Int.reduceNeg, Int.reduceAdd, Int.reduceSub, Int.reduceMul, Nat.reduceMul, Nat.reduceLT, Nat.reduceLeDiff, isB, String.reduceBEq, Bool.or_true, Bool.or_false, Bool.and_true, Bool.and_false, Bool.true_and, Bool.false_and, Bool.false_or, Bool.true_or, Int.cast_ofNat_Int, Int.reduceBEq, Int.reduceBNe, BEq.rfl, wYes, wCut, pow_ok9, pow_ok18, pow_ok30, line_eq, put_same, put_put, List.mem_cons, List.not_mem_nil, or_false, addP_int, addP_str, addP_tup, addP_lst, intP_int, intP0_int, ordP_int, eqP_int, eqP_str, eqP_bl, eqP_non, ixP_str, ixP_lst, ixP_tup, ixP_scr, slcP_str, slcP_tup, slcP_lst, wiSeq_eq, walkP_tup, walkP_str, walkP_lst, walkP_scr]
      have ra : rdS (put (put S0 p (drw p m')) a (.raw (.lst (ws.map .str)))) a = some (.lst (ws.map .str)) := rdS_raw put_same
      refine ⟨fun ρ S => ∃ (w : Str) (m' : Nat), NameOk w ∧ w ∉ ws ∧ m' ≤ m + 12 ∧ ρ = [some (.ref p), some (.int k), some (.str lets), some (.ref a), some (.lst wordsL), some x, some (.str w), none, none] ∧ S = put (put S0 p (drw p m')) a (.raw (.lst (ws.map .str))), ?_, ?_⟩
      · simp only [inP, memP_strs ra]
        by_cases hin : w ∈ ws
        · simp only [hin, decide_true, startP, List.map_cons, List.map_nil, List.length_cons, List.length_nil, Nat.reduceAdd, Nat.reduceSub, List.reduceReplicate, List.cons_append, List.nil_append, List.append_nil, wSeq, wAsg, wgN, wgNil, wgCons, wgTup, wDrop, wRet, wRetN, wNext, wBrk, wCont, wIfS, wV, nth, stV, wC, wOp, wUn, wBool, wChain, wTru, truP, wAnd, wOr, wNot, wIfE, wAndV, wOrV, wNotV, wNil, wCons, wTup, wLst, wLstM, wCB, wPar, wPar3, wAug, wFor, wiRng1, wiRng2, seqL, seqO, rows, subP, fdivP, modP, powP, mulP, CDiv, CPow, CMul, neP, ltP, leP, gtP, geP, isNon, isP, isNotP, lenO, lenP, absP, min2P, max2P, listP, tupleP, allP, sumP, intCP, isinP, tysOf, seqK, keyOf, dgetP, wNoPart, wPart, slcMP, wSl, wRevL, tyM, wBm, appendP, popAtP, joinP, wDnewM, wPairs, wCall, wCallK, wFrz, wDput, dputP, eqNilP, List.isEmpty_nil, List.isEmpty_cons, Bool.not_true, Bool.not_false, Bool.true_eq_false, Bool.false_eq_true, and_true, true_and, ↓reduceIte, Int.reduceToNat, Int.reducePow, Int.reduceNeg, Int.reduceAdd, Int.reduceSub, Int.reduceMul, Nat.reduceMul, Nat.reduceLT, Nat.reduceLeDiff, isB, String.reduceBEq, Bool.or_true, Bool.or_false, Bool.and_true, Bool.and_false, Bool.true_and, Bool.false_and, Bool.false_or, Bool.true_or, Int.cast_ofNat_Int, Int.reduceBEq, Int.reduceBNe, BEq.rfl, wYes, wCut, pow_ok9, pow_ok18, pow_ok30, line_eq, put_same, put_put, List.mem_cons, List.not_mem_nil, or_false, addP_int, addP_str, addP_tup, addP_lst, intP_int, intP0_int, ordP_int, eqP_int, eqP_str, eqP_bl, eqP_non, ixP_str, ixP_lst, ixP_tup, ixP_scr, slcP_str, slcP_tup, slcP_lst, wiSeq_eq, walkP_tup, walkP_str, walkP_lst, walkP_scr, wLc]
          intro D hD
          have nD : a ≠ D := fun z => by rw [← z, put_same] at hD; cases hD
          refine lc_pureF (freshF w ws) (by rw [line_eq]; exact lets_len) hD (fun y hy S' R1 R0 hS k1 k0 => ?_) (fun _ _ => trivial) ?_
          · obtain ⟨c, _, rfl⟩ := List.mem_map.mp hy
            have ra' : rdS S' a = some (.lst (ws.map .str)) := by
              rw [← ra]
              simp only [rdS, hS a nD]
            simp only [startP, List.map_cons, List.map_nil, List.length_cons, List.length_nil, Nat.reduceAdd, Nat.reduceSub, List.reduceReplicate, List.cons_append, List.nil_append, List.append_nil, wSeq, wAsg, wgN, wgNil, wgCons, wgTup, wDrop, wRet, wRetN, wNext, wBrk, wCont, wIfS, wV, nth, stV, wC, wOp, wUn, wBool, wChain, wTru, truP, wAnd, wOr, wNot, wIfE, wAndV, wOrV, wNotV, wNil, wCons, wTup, wLst, wLstM, wCB, wPar, wPar3, wAug, wFor, wiRng1, wiRng2, seqL, seqO, rows, subP, fdivP, modP, powP, mulP, CDiv, CPow, CMul, neP, ltP, leP, gtP, geP, isNon, isP, isNotP, lenO, lenP, absP, min2P, max2P, listP, tupleP, allP, sumP, intCP, isinP, tysOf, seqK, keyOf, dgetP, wNoPart, wPart, slcMP, wSl, wRevL, tyM, wBm, appendP, popAtP, joinP, wDnewM, wPairs, wCall, wCallK, wFrz, wDput, dputP, eqNilP, List.isEmpty_nil, List.isEmpty_cons, Bool.not_true, Bool.not_false, Bool.true_eq_false, Bool.false_eq_true, and_true, true_and, ↓reduceIte, Int.reduceToNat, Int.reducePow, Int.reduceNeg, Int.reduceAdd, Int.reduceSub, Int.reduceMul, Nat.reduceMul, Nat.reduceLT, Nat.reduceLeDiff, isB, String.reduceBEq, Bool.or_true, Bool.or_false, Bool.and_true, Bool.and_false, Bool.true_and, Bool.false_and, Bool.false_or, Bool.true_or, Int.cast_ofNat_Int, Int.reduceBEq, Int.reduceBNe, BEq.rfl, wYes, wCut, pow_ok9, pow_ok18, pow_ok30, line_eq, put_same, put_put, List.mem_cons, List.not_mem_nil, or_false, addP_int, addP_str, addP_tup, addP_lst, intP_int, intP0_int, ordP_int, eqP_int, eqP_str, eqP_bl, eqP_non, ixP_str, ixP_lst, ixP_tup, ixP_scr, slcP_str, slcP_tup, slcP_lst, wiSeq_eq, walkP_tup, walkP_str, walkP_lst, walkP_scr, wipeP, notInP, memP_strs ra']
            have hz := (name_cut hw hy).2.1
            rw [len_app] at hz
            have hw1 := hw.2.1
            refine ⟨by omega, by omega, ?_⟩
            by_cases y : Txt.slice w none (some 7) ++ (⟨#[c]⟩ : Str) ∈ ws
            · simp only [y, decide_true, Bool.not_true]
              exact k0 (if_pos y)
            · simp only [y, decide_false, Bool.not_false]
              exact ⟨by omega, by omega, k1 _ (if_neg y)⟩
          · obtain ⟨l, r, e5, hl, hn⟩ := fresh_first (w := w) (ws := ws) (by omega)
            simp only [e5, atI_zero, startP, List.map_cons, List.map_nil, List.length_cons, List.length_nil, Nat.reduceAdd, Nat.reduceSub, List.reduceReplicate, List.cons_append, List.nil_append, List.append_nil, wSeq, wAsg, wgN, wgNil, wgCons, wgTup, wDrop, wRet, wRetN, wNext, wBrk, wCont, wIfS, wV, nth, stV, wC, wOp, wUn, wBool, wChain, wTru, truP, wAnd, wOr, wNot, wIfE, wAndV, wOrV, wNotV, wNil, wCons, wTup, wLst, wLstM, wCB, wPar, wPar3, wAug, wFor, wiRng1, wiRng2, seqL, seqO, rows, subP, fdivP, modP, powP, mulP, CDiv, CPow, CMul, neP, ltP, leP, gtP, geP, isNon, isP, isNotP, lenO, lenP, absP, min2P, max2P, listP, tupleP, allP, sumP, intCP, isinP, tysOf, seqK, keyOf, dgetP, wNoPart, wPart, slcMP, wSl, wRevL, tyM, wBm, appendP, popAtP, joinP, wDnewM, wPairs, wCall, wCallK, wFrz, wDput, dputP, eqNilP, List.isEmpty_nil, List.isEmpty_cons, Bool.not_true, Bool.not_false, Bool.true_eq_false, Bool.false_eq_true, and_true, true_and, ↓reduceIte, Int.reduceToNat, Int.reducePow, Int.reduceNeg, Int.reduceAdd, Int.reduceSub, Int.reduceMul, Nat.reduceMul, Nat.reduceLT, Nat.reduceLeDiff, isB, String.reduceBEq, Bool.or_true, Bool.or_false, Bool.and_true, Bool.and_false, Bool.true_and, Bool.false_and, Bool.false_or, Bool.true_or, Int.cast_ofNat_Int, Int.reduceBEq, Int.reduceBNe, BEq.rfl, wYes, wCut, pow_ok9, pow_ok18, pow_ok30, line_eq, put_same, put_put, List.mem_cons, List.not_mem_nil, or_false, addP_int, addP_str, addP_tup, addP_lst, intP_int, intP0_int, ordP_int, eqP_int, eqP_str, eqP_bl, eqP_non, ixP_str, ixP_lst, ixP_tup, ixP_scr, slcP_str, slcP_tup, slcP_lst, wiSeq_eq, walkP_tup, walkP_str, walkP_lst, walkP_scr]
            exact ⟨_, m', name_cut hw hl, hn, hm', rfl, rfl⟩
        · simp only [hin, decide_false, startP, List.map_cons, List.map_nil, List.length_cons, List.length_nil, Nat.reduceAdd, Nat.reduceSub, List.reduceReplicate, List.cons_append, List.nil_append, List.append_nil, wSeq, wAsg, wgN, wgNil, wgCons, wgTup, wDrop, wRet, wRetN, wNext, wBrk, wCont, wIfS, wV, nth, stV, wC, wOp, wUn, wBool, wChain, wTru, truP, wAnd, wOr, wNot, wIfE, wAndV, wOrV, wNotV, wNil, wCons, wTup, wLst, wLstM, wCB, wPar, wPar3, wAug, wFor, wiRng1, wiRng2, seqL, seqO, rows, subP, fdivP, modP, powP, mulP, CDiv, CPow, CMul, neP, ltP, leP, gtP, geP, isNon, isP, isNotP, lenO, lenP, absP, min2P, max2P, listP, tupleP, allP, sumP, intCP, isinP, tysOf, seqK, keyOf, dgetP, wNoPart, wPart, slcMP, wSl, wRevL, tyM, wBm, appendP, popAtP, joinP, wDnewM, wPairs, wCall, wCallK, wFrz, wDput, dputP, eqNilP, List.isEmpty_nil, List.isEmpty_cons, Bool.not_true, Bool.not_false, Bool.true_eq_false, Bool.false_eq_true, and_true, true_and, ↓reduceIte, Int.reduceToNat, Int.reducePow, Int.reduceNeg, Int.reduceAdd, Int.reduceSub, Int.reduceMul, Nat.reduceMul, Nat.reduceLT, Nat.reduceLeDiff, isB, String.reduceBEq, Bool.or_true, Bool.or_false, Bool.and_true, Bool.and_false, Bool.true_and, Bool.false_and, Bool.false_or, Bool.true_or, Int.cast_ofNat_Int, Int.reduceBEq, Int.reduceBNe, BEq.rfl, wYes, wCut, pow_ok9, pow_ok18, pow_ok30, line_eq, put_same, put_put, List.mem_cons, List.not_mem_nil, or_false, addP_int, addP_str, addP_tup, addP_lst, intP_int, intP0_int, ordP_int, eqP_int, eqP_str, eqP_bl, eqP_non, ixP_str, ixP_lst, ixP_tup, ixP_scr, slcP_str, slcP_tup, slcP_lst, wiSeq_eq, walkP_tup, walkP_str, walkP_lst, walkP_scr]
          exact ⟨w, m', hw, hin, hm', rfl, rfl⟩
      · rintro ρ S ⟨w, m', hw, hn, hm', rfl, rfl⟩
        simp only [startP, List.map_cons, List.map_nil, List.length_cons, List.length_nil, Nat.reduceAdd, Nat.reduceSub, List.reduceReplicate, List.cons_append, List.nil_append, List.append_nil, wSeq, wAsg, wgN, wgNil, wgCons, wgTup, wDrop, wRet, wRetN, wNext, wBrk, wCont, wIfS, wV, nth, stV, wC, wOp, wUn, wBool, wChain, wTru, truP, wAnd, wOr, wNot, wIfE, wAndV, wOrV, wNotV, wNil, wCons, wTup, wLst, wLstM, wCB, wPar, wPar3, wAug, wFor, wiRng1, wiRng2, seqL, seqO, rows, subP, fdivP, modP, powP, mulP, CDiv, CPow, CMul, neP, ltP, leP, gtP, geP, isNon, isP, isNotP, lenO, lenP, absP, min2P, max2P, listP, tupleP, allP, sumP, intCP, isinP, tysOf, seqK, keyOf, dgetP, wNoPart, wPart, slcMP, wSl, wRevL, tyM, wBm, appendP, popAtP, joinP, wDnewM, wPairs, wCall, wCallK, wFrz, wDput, dputP, eqNilP, List.isEmpty_nil, List.isEmpty_cons, Bool.not_true, Bool.not_false, Bool.true_eq_false, Bool.false_eq_true, and_true, true_and, ↓reduceIte, Int.reduceToNat, Int.reducePow, Int.reduceNeg, Int.reduceAdd, Int.reduceSub, Int.reduceMul, Nat.reduceMul, Nat.reduceLT, Nat.reduceLeDiff, isB, String.reduceBEq, Bool.or_true, Bool.or_false, Bool.and_true, Bool.and_false, Bool.true_and, Bool.false_and, Bool.false_or, Bool.true_or, Int.cast_ofNat_Int, Int.reduceBEq, Int.reduceBNe, BEq.rfl, wYes, wCut, pow_ok9, pow_ok18, pow_ok30, line_eq, put_same, put_put, List.mem_cons, List.not_mem_nil, or_false, addP_int, addP_str, addP_tup, addP_lst, intP_int, intP0_int, ordP_int, eqP_int, eqP_str, eqP_bl, eqP_non, ixP_str, ixP_lst, ixP_tup, ixP_scr, slcP_str, slcP_tup, slcP_lst, wiSeq_eq, walkP_tup, walkP_str, walkP_lst, walkP_scr, rdS]
        refine ⟨by rw [List.length_map]; omega, done ++ [x], by rw [ed, List.append_assoc]; rfl, ws ++ [w], m', some x, some (.str w), by rw [List.length_append, List.length_append, e1]; rfl, ?_, ?_, ?_, rfl, by rw [List.map_append]; rfl⟩
        · rw [List.nodup_append]
          exact ⟨e2, List.nodup_cons.mpr ⟨List.not_mem_nil, List.nodup_nil⟩, fun x hx y hy e => hn (by rw [List.mem_singleton] at hy; rw [← hy, ← e]; exact hx)⟩
        · intro z hz
          rcases List.mem_append.mp hz with hz | hz
          · exact e3 z hz
          · rw [List.mem_singleton] at hz; rw [hz]; exact hw
        · rw [List.length_append]
          show m' ≤ n + 12 * (done.length + 1)
          omega

theorem ok_law_sales (T : Tx K mg base) : FnG P w K mg base 4 T.f__law_sales T.d__law_sales ["_law_state", "_law_names_here", "_law_many", "_law_times"] SpSales := by
  refine okG T.F__law_sales sc_law_sales (fun xs S Q E h => by cases h; rfl) fun cdv A outer s H EX F0 xs S0 Q E hG hr hp tk h => ?_
  cases h with
  | @mk p ws k ts n _ _ _ e hw h2 hw20 h0 hk ht htl hn q =>
  refine ⟨_, (wss_cut (ws_asg (we_tup (wa_cons (we_lstM wa_nil) (wa_cons we_int (wa_cons (we_call (ok_law_pick T) hG (hr.mono (by decide)) T.g__law_pick T.F__law_pick.kp T.b__law_pick dflt0 tk0 (wa_cons (we_var 0) (wa_cons (we_var 1) wa_nil))) wa_nil)))) (wg_tup (n := 3) rfl (wgs_cons (wg_name 4 sc_law_sales.nd) (wgs_cons (wg_name 5 sc_law_sales.nd) (wgs_cons (wg_name 6 sc_law_sales.nd) wgs_nil)))))
  (wss_cut (ws_for hp rfl (wi_rng1 T.m_range (wa_cons (we_var 2) wa_nil)) (wg_name 7 sc_law_sales.nd)
  (wss_cut (ws_set 5 sc_law_sales.nd (we_op ow_add (we_op ow_add (we_var 5) we_int) (we_call (ok_law_pick T) hG (hr.mono (by decide)) T.g__law_pick T.F__law_pick.kp T.b__law_pick dflt0 tk0 (wa_cons (we_var 0) (wa_cons (we_lst (wa_cons we_int (wa_cons we_int (wa_cons we_int (wa_cons (we_call (ok_law_take T) hG (hr.mono (by decide)) T.g__law_take T.F__law_take.kp T.b__law_take dflt0 tk0 (wa_cons (we_var 0) (wa_cons we_int wa_nil))) wa_nil))))) wa_nil)))))
  (wss_cut (ws_set 8 sc_law_sales.nd (we_call (ok_law_pick T) hG (hr.mono (by decide)) T.g__law_pick T.F__law_pick.kp T.b__law_pick dflt0 tk0 (wa_cons (we_var 0) (wa_cons (we_lc (mk := false) rfl sc_law_sales.nd (wi_seq (we_var 1)) (own := [("_law_name", 11)]) (blkOk_by (N := N_law_sales) (sc := defScope s_law_sales) (by decide +kernel)) (fun _ _ _ _ _ => (wg_name 11 sc_law_sales.nd)) (by decide) (fun _ _ _ _ _ => (wts_one (wt_cmp (ow_ne hr.units) (we_var 11) (we_var 6)))) (fun _ _ _ _ _ => (we_var 11))) wa_nil))))
  (wss_cut (ws_set 9 sc_law_sales.nd (we_lstM (wa_cons (we_call (ok_law_pick T) hG (hr.mono (by decide)) T.g__law_pick T.F__law_pick.kp T.b__law_pick dflt0 tk0 (wa_cons (we_var 0) (wa_cons (we_lst (wa_cons (we_var 6) (wa_cons (we_var 6) (wa_cons (we_var 6) (wa_cons (we_call (ok_law_pick T) hG (hr.mono (by decide)) T.g__law_pick T.F__law_pick.kp T.b__law_pick dflt0 tk0 (wa_cons (we_var 0) (wa_cons (we_var 1) wa_nil))) wa_nil))))) wa_nil))) wa_nil)))
  (wss_cut (ws_expr (we_bm PySem.F.plainAttrs_list PySem.F.slot_list_append PySem.F.type_list_append (by decide) mw_append (we_var 9) (wa_cons (we_call (ok_law_pick T) hG (hr.mono (by decide)) T.g__law_pick T.F__law_pick.kp T.b__law_pick dflt0 tk0 (wa_cons (we_var 0) (wa_cons (we_lst (wa_cons (we_var 8) (wa_cons (we_var 8) (wa_cons (we_var 8) (wa_cons (we_call (ok_law_pick T) hG (hr.mono (by decide)) T.g__law_pick T.F__law_pick.kp T.b__law_pick dflt0 tk0 (wa_cons (we_var 0) (wa_cons (we_var 1) wa_nil))) wa_nil))))) wa_nil))) wa_nil)))
  (wss_cut (ws_set 10 sc_law_sales.nd (we_tup (wa_cons (we_var 5) (wa_cons (we_var 6) (wa_cons (we_var 8) (wa_cons (we_call (ok_law_amount T) hG (hr.mono (by decide)) T.g__law_amount T.F__law_amount.kp T.b__law_amount dflt0 tk0 (wa_cons (we_var 0) wa_nil)) (wa_cons (we_call (ok_law_amount T) hG (hr.mono (by decide)) T.g__law_amount T.F__law_amount.kp T.b__law_amount dflt0 tk0 (wa_cons (we_var 0) wa_nil)) (wa_cons (we_call (ok_law_pick T) hG (hr.mono (by decide)) T.g__law_pick T.F__law_pick.kp T.b__law_pick dflt0 tk0 (wa_cons (we_var 0) (wa_cons (we_var 3) wa_nil))) wa_nil))))))))
  (wss_cut (ws_expr (we_bm PySem.F.plainAttrs_list PySem.F.slot_list_append PySem.F.type_list_append (by decide) mw_append (we_var 4) (wa_cons (we_op ow_add (we_var 10) (we_callTy cw_tuple T.m_tuple (wa_cons (we_frz (we_var 9)) wa_nil))) wa_nil)))
  (wss_one (ws_set 6 sc_law_sales.nd (we_var 8))))))))))
  (wss_one (ws_ret (we_frz (we_var 4)))))), ?_⟩
  refine cut_intro (fun ρ S => ∃ (a : Addr) (s0 : Str), a ≠ p ∧ S0 a = none ∧ s0 ∈ ws ∧ ρ = [some (.ref p), some (.lst (ws.map .str)), some (.int k), some (.lst ts), some (.ref a), some (.int 0), some (.str s0), none, none, none, none, none] ∧ S = put (put S0 p (drw p (n + 1))) a (.raw (.lst []))) ?_ ?_
  · simp only [startP, List.map_cons, List.map_nil, List.length_cons, List.length_nil, Nat.reduceAdd, Nat.reduceSub, List.reduceReplicate, List.cons_append, List.nil_append, List.append_nil, wSeq, wAsg, wgN, wgNil, wgCons, wgTup, wDrop, wRet, wRetN, wNext, wBrk, wCont, wIfS, wV, nth, stV, wC, wOp, wUn, wBool, wChain, wTru, truP, wAnd, wOr, wNot, wIfE, wAndV, wOrV, wNotV, wNil, wCons, wTup, wLst, wLstM, wCB, wPar, wPar3, wAug, wFor, wiRng1, wiRng2, seqL, seqO, rows, subP, fdivP, modP, powP, mulP, CDiv, CPow, CMul, neP, ltP, leP, gtP, geP, isNon, isP, isNotP, lenO, lenP, absP, min2P, max2P, listP, tupleP, allP, sumP, intCP, isinP, tysOf, seqK, keyOf, dgetP, wNoPart, wPart, slcMP, wSl, wRevL, tyM, wBm, appendP, popAtP, joinP, wDnewM, wPairs, wCall, wCallK, wFrz, wDput, dputP, eqNilP, List.isEmpty_nil, List.isEmpty_cons, Bool.not_true, Bool.not_false, Bool.true_eq_false, Bool.false_eq_true, and_true, true_and, ↓reduceIte, Int.reduceToNat, Int.reducePow, Int.reduceNeg, Int.reduceAdd, Int.reduceSub, Int.reduceMul, Nat.reduceMul, Nat.reduceLT, Nat.reduceLeDiff, isB, String.reduceBEq, Bool.or_true, Bool.or_false, Bool.and_true, Bool.and_false, Bool.true_and, Bool.false_and, Bool.false_or, Bool.true_or, Int.cast_ofNat_Int, Int.reduceBEq, Int.reduceBNe, BEq.rfl, wYes, wCut, pow_ok9, pow_ok18, pow_ok30, line_eq, put_same, put_put, List.mem_cons, List.not_mem_nil, or_false, addP_int, addP_str, addP_tup, addP_lst, intP_int, intP0_int, ordP_int, eqP_int, eqP_str, eqP_bl, eqP_non, ixP_str, ixP_lst, ixP_tup, ixP_scr, slcP_str, slcP_tup, slcP_lst, wiSeq_eq, walkP_tup, walkP_str, walkP_lst, walkP_scr, N_law_sales]
    intro a ha
    have nb : a ≠ p := fun z => by rw [z, e] at ha; cases ha
    refine .mk (n := n) (xs := ws.map .str) (by rw [put_ne nb.symm]; exact e) rfl (by intro z; have := congrArg List.length z; rw [List.length_map, List.length_nil] at this; omega) (by rw [List.length_map]; omega) (by omega) fun y hy => ?_
    obtain ⟨s0, hs0, rfl⟩ := List.mem_map.mp hy
    exact ⟨a, s0, nb, ha, hs0, rfl, put_comm nb⟩
  rintro ρ S ⟨a, s0, nb, ha, hs0, rfl, rfl⟩
  refine cut_intro (fun ρ S => ∃ (rs : List SaleR) (m : Nat) (num : Int) (sl : Str) (t v u z : Option PV), rs.length = k.toNat ∧ m ≤ n + 1 + 20 * k.toNat ∧ 0 ≤ num ∧ num ≤ 52 * k.toNat ∧ sl ∈ ws ∧ RowsOk ws ts num sl rs ∧ ρ = [some (.ref p), some (.lst (ws.map .str)), some (.int k), some (.lst ts), some (.ref a), some (.int num), some (.str sl), t, v, u, z, none] ∧ S = put (put S0 p (drw p m)) a (.raw (.lst (rs.map SaleR.pv)))) ?_ ?_
  · simp only [wFor, wiRng1, wCons, wNil, wV, nth]
    refine ⟨by omega, by omega, ?_⟩
    refine for_inv (fun done ρ S => ∃ (rs : List SaleR) (m : Nat) (num : Int) (sl : Str) (t v u z : Option PV), rs.length = done.length ∧ m ≤ n + 1 + 20 * done.length ∧ 0 ≤ num ∧ num ≤ 52 * done.length ∧ sl ∈ ws ∧ RowsOk ws ts num sl rs ∧ ρ = [some (.ref p), some (.lst (ws.map .str)), some (.int k), some (.lst ts), some (.ref a), some (.int num), some (.str sl), t, v, u, z, none] ∧ S = put (put S0 p (drw p m)) a (.raw (.lst (rs.map SaleR.pv))))
      ⟨[], n + 1, 0, s0, none, none, none, none, rfl, Nat.le_refl _, Int.le_refl 0, Int.le_refl 0, hs0, rows0, rfl, rfl⟩ ?_ ?_
    · rintro ρ S ⟨rs, m, num, sl, t, v, u, z, e1, e2, e3, e4, e5, e6, rfl, rfl⟩
      rw [rng_len] at e1 e2 e4
      exact ⟨trivial, rs, m, num, sl, t, v, u, z, e1, e2, e3, e4, e5, e6, rfl, rfl⟩
    · rintro done x rest ρ S ed ⟨rs, m, num, sl, t, v, u, z, e1, e2, e3, e4, e5, e6, rfl, rfl⟩
      have hdl : done.length < 20 := by
        have := congrArg List.length ed
        rw [rng_len, List.length_append, List.length_cons] at this
        omega
      have nsne : ws.map PV.str ≠ [] := fun z => by have := congrArg List.length z; rw [List.length_map, List.length_nil] at this; omega
      have nslen : (ws.map PV.str).length ≤ 16777216 := by rw [List.length_map]; omega
      refine ⟨trivial, ?_⟩
      refine cut_intro (fun ρ S => ∃ n2 : Int, num < n2 ∧ n2 ≤ num + 51 ∧ ρ = [some (.ref p), some (.lst (ws.map .str)), some (.int k), some (.lst ts), some (.ref a), some (.int n2), some (.str sl), some x, v, u, z, none] ∧ S = put (put S0 p (drw p (m + 2))) a (.raw (.lst (rs.map SaleR.pv)))) ?_ ?_
      · simp only [startP, List.map_cons, List.map_nil, List.length_cons, List.length_nil, Nat.reduceAdd, Nat.reduceSub, List.reduceReplicate, List.cons_append, List.nil_append, List.append_nil, wSeq, wAsg, wgN, wgNil, wgCons, wgTup, wDrop, wRet, wRetN, wNext, wBrk, wCont, wIfS, wV, nth, stV, wC, wOp, wUn, wBool, wChain, wTru, truP, wAnd, wOr, wNot, wIfE, wAndV, wOrV, wNotV, wNil, wCons, wTup, wLst, wLstM, wCB, wPar, wPar3, wAug, wFor, wiRng1, wiRng2, seqL, seqO, rows, subP, fdivP, modP, powP, mulP, CDiv, CPow, CMul, neP, ltP, leP, gtP, geP, isNon, isP, isNotP, lenO, lenP, absP, min2P, max2P, listP, tupleP, allP, sumP, intCP, isinP, tysOf, seqK, keyOf, dgetP, wNoPart, wPart, slcMP, wSl, wRevL, tyM, wBm, appendP, popAtP, joinP, wDnewM, wPairs, wCall, wCallK, wFrz, wDput, dputP, eqNilP, List.isEmpty_nil, List.isEmpty_cons, Bool.not_true, Bool.not_false, Bool.true_eq_false, Bool.false_eq_true, and_true, true_and, ↓reduceIte, Int.reduceToNat, Int.reducePow, Int.reduceNeg, Int.reduceAdd, Int.reduceSub, Int.reduceMul, Nat.reduceMul, Nat.reduceLT, Nat.reduceLeDiff, isB, String.reduceBEq, Bool.or_true, Bool.or_false, Bool.and_true, Bool.and_false, Bool.true_and, Bool.false_and, Bool.false_or, Bool.true_or, Int.cast_ofNat_Int, Int.reduceBEq, Int.reduceBNe, BEq.rfl, wYes, wCut, pow_ok9, pow_ok18, pow_ok30, line_eq, put_same, put_put, List.mem_cons, List.not_mem_nil, or_false, addP_int, addP_str, addP_tup, addP_lst, intP_int, intP0_int, ordP_int, eqP_int, eqP_str, eqP_bl, eqP_non, ixP_str, ixP_lst, ixP_tup, ixP_scr, slcP_str, slcP_tup, slcP_lst, wiSeq_eq, walkP_tup, walkP_str, walkP_lst, walkP_scr]
        refine .mk (n := m) (by rw [put_ne nb.symm, put_same]) (by decide) (by decide) (by omega) fun r1 a1 b1 => ?_
        refine .mk (n := m + 1) (xs := [.int 0, .int 0, .int 1, .int r1]) (by rw [put_ab nb, put_ne nb.symm, put_same]) rfl (by simp) (by simp) (by omega) fun y hy => ?_
        simp only [put_ab nb, put_put]
        simp only [List.mem_cons, List.not_mem_nil, or_false] at hy
        rcases hy with rfl | rfl | rfl | rfl <;> exact ⟨_, by omega, by omega, rfl, rfl⟩
      rintro ρ S ⟨n2, g1, g2, rfl, rfl⟩
      refine cut_intro (fun ρ S => ∃ by_ : Str, by_ ∈ ws ∧ sl ≠ by_ ∧ ρ = [some (.ref p), some (.lst (ws.map .str)), some (.int k), some (.lst ts), some (.ref a), some (.int n2), some (.str sl), some x, some (.str by_), u, z, none] ∧ S = put (put S0 p (drw p (m + 3))) a (.raw (.lst (rs.map SaleR.pv)))) ?_ ?_
      · simp only [startP, List.map_cons, List.map_nil, List.length_cons, List.length_nil, Nat.reduceAdd, Nat.reduceSub, List.reduceReplicate, List.cons_append, List.nil_append, List.append_nil, wSeq, wAsg, wgN, wgNil, wgCons, wgTup, wDrop, wRet, wRetN, wNext, wBrk, wCont, wIfS, wV, nth, stV, wC, wOp, wUn, wBool, wChain, wTru, truP, wAnd, wOr, wNot, wIfE, wAndV, wOrV, wNotV, wNil, wCons, wTup, wLst, wLstM, wCB, wPar, wPar3, wAug, wFor, wiRng1, wiRng2, seqL, seqO, rows, subP, fdivP, modP, powP, mulP, CDiv, CPow, CMul, neP, ltP, leP, gtP, geP, isNon, isP, isNotP, lenO, lenP, absP, min2P, max2P, listP, tupleP, allP, sumP, intCP, isinP, tysOf, seqK, keyOf, dgetP, wNoPart, wPart, slcMP, wSl, wRevL, tyM, wBm, appendP, popAtP, joinP, wDnewM, wPairs, wCall, wCallK, wFrz, wDput, dputP, eqNilP, List.isEmpty_nil, List.isEmpty_cons, Bool.not_true, Bool.not_false, Bool.true_eq_false, Bool.false_eq_true, and_true, true_and, ↓reduceIte, Int.reduceToNat, Int.reducePow, Int.reduceNeg, Int.reduceAdd, Int.reduceSub, Int.reduceMul, Nat.reduceMul, Nat.reduceLT, Nat.reduceLeDiff, isB, String.reduceBEq, Bool.or_true, Bool.or_false, Bool.and_true, Bool.and_false, Bool.true_and, Bool.false_and, Bool.false_or, Bool.true_or, Int.cast_ofNat_Int, Int.reduceBEq, Int.reduceBNe, BEq.rfl, wYes, wCut, pow_ok9, pow_ok18, pow_ok30, line_eq, put_same, put_put, List.mem_cons, List.not_mem_nil, or_false, addP_int, addP_str, addP_tup, addP_lst, intP_int, intP0_int, ordP_int, eqP_int, eqP_str, eqP_bl, eqP_non, ixP_str, ixP_lst, ixP_tup, ixP_scr, slcP_str, slcP_tup, slcP_lst, wiSeq_eq, walkP_tup, walkP_str, walkP_lst, walkP_scr, wLc]
        intro D hD
        refine lc_pureF (otherF sl) nslen hD (fun y hy S' R1 R0 hS k1 k0 => ?_) (fun _ _ => trivial) ?_
        · obtain ⟨c, _, rfl⟩ := List.mem_map.mp hy
          simp only [startP, List.map_cons, List.map_nil, List.length_cons, List.length_nil, Nat.reduceAdd, Nat.reduceSub, List.reduceReplicate, List.cons_append, List.nil_append, List.append_nil, wSeq, wAsg, wgN, wgNil, wgCons, wgTup, wDrop, wRet, wRetN, wNext, wBrk, wCont, wIfS, wV, nth, stV, wC, wOp, wUn, wBool, wChain, wTru, truP, wAnd, wOr, wNot, wIfE, wAndV, wOrV, wNotV, wNil, wCons, wTup, wLst, wLstM, wCB, wPar, wPar3, wAug, wFor, wiRng1, wiRng2, seqL, seqO, rows, subP, fdivP, modP, powP, mulP, CDiv, CPow, CMul, neP, ltP, leP, gtP, geP, isNon, isP, isNotP, lenO, lenP, absP, min2P, max2P, listP, tupleP, allP, sumP, intCP, isinP, tysOf, seqK, keyOf, dgetP, wNoPart, wPart, slcMP, wSl, wRevL, tyM, wBm, appendP, popAtP, joinP, wDnewM, wPairs, wCall, wCallK, wFrz, wDput, dputP, eqNilP, List.isEmpty_nil, List.isEmpty_cons, Bool.not_true, Bool.not_false, Bool.true_eq_false, Bool.false_eq_true, and_true, true_and, ↓reduceIte, Int.reduceToNat, Int.reducePow, Int.reduceNeg, Int.reduceAdd, Int.reduceSub, Int.reduceMul, Nat.reduceMul, Nat.reduceLT, Nat.reduceLeDiff, isB, String.reduceBEq, Bool.or_true, Bool.or_false, Bool.and_true, Bool.and_false, Bool.true_and, Bool.false_and, Bool.false_or, Bool.true_or, Int.cast_ofNat_Int, Int.reduceBEq, Int.reduceBNe, BEq.rfl, wYes, wCut, pow_ok9, pow_ok18, pow_ok30, line_eq, put_same, put_put, List.mem_cons, List.not_mem_nil, or_false, addP_int, addP_str, addP_tup, addP_lst, intP_int, intP0_int, ordP_int, eqP_int, eqP_str, eqP_bl, eqP_non, ixP_str, ixP_lst, ixP_tup, ixP_scr, slcP_str, slcP_tup, slcP_lst, wiSeq_eq, walkP_tup, walkP_str, walkP_lst, walkP_scr, wipeP]
          by_cases y : c = sl
          · subst y
            simp only [BEq.rfl, Bool.not_true]
            exact k0 (if_pos rfl)
          · simp only [beq_false_of_ne y, Bool.not_false]
            exact k1 _ (if_neg y)
        · rw [others]
          refine .mk (n := m + 2) (by rw [put_ne nb.symm, put_same]) rfl (fun z => others_ne (s := sl) hw h2 (List.map_eq_nil_iff.mp z)) (by rw [List.length_map]; have := List.length_filter_le (fun z => decide (z ≠ sl)) ws; omega) (by omega) fun y hy => ?_
          obtain ⟨b, hb, rfl⟩ := List.mem_map.mp hy
          rw [List.mem_filter] at hb
          rw [put_ab nb]
          exact ⟨b, hb.1, fun z => (of_decide_eq_true hb.2) z.symm, rfl, rfl⟩
      rintro ρ S ⟨by_, g3, g4, rfl, rfl⟩
      refine cut_intro (fun ρ S => ∃ (d : Addr) (r1 : Str), d ≠ p ∧ d ≠ a ∧ S0 d = none ∧ r1 ∈ ws ∧ ρ = [some (.ref p), some (.lst (ws.map .str)), some (.int k), some (.lst ts), some (.ref a), some (.int n2), some (.str sl), some x, some (.str by_), some (.ref d), z, none] ∧ S = put (put (put S0 p (drw p (m + 5))) a (.raw (.lst (rs.map SaleR.pv)))) d (.raw (.lst [.str r1]))) ?_ ?_
      · simp only [startP, List.map_cons, List.map_nil, List.length_cons, List.length_nil, Nat.reduceAdd, Nat.reduceSub, List.reduceReplicate, List.cons_append, List.nil_append, List.append_nil, wSeq, wAsg, wgN, wgNil, wgCons, wgTup, wDrop, wRet, wRetN, wNext, wBrk, wCont, wIfS, wV, nth, stV, wC, wOp, wUn, wBool, wChain, wTru, truP, wAnd, wOr, wNot, wIfE, wAndV, wOrV, wNotV, wNil, wCons, wTup, wLst, wLstM, wCB, wPar, wPar3, wAug, wFor, wiRng1, wiRng2, seqL, seqO, rows, subP, fdivP, modP, powP, mulP, CDiv, CPow, CMul, neP, ltP, leP, gtP, geP, isNon, isP, isNotP, lenO, lenP, absP, min2P, max2P, listP, tupleP, allP, sumP, intCP, isinP, tysOf, seqK, keyOf, dgetP, wNoPart, wPart, slcMP, wSl, wRevL, tyM, wBm, appendP, popAtP, joinP, wDnewM, wPairs, wCall, wCallK, wFrz, wDput, dputP, eqNilP, List.isEmpty_nil, List.isEmpty_cons, Bool.not_true, Bool.not_false, Bool.true_eq_false, Bool.false_eq_true, and_true, true_and, ↓reduceIte, Int.reduceToNat, Int.reducePow, Int.reduceNeg, Int.reduceAdd, Int.reduceSub, Int.reduceMul, Nat.reduceMul, Nat.reduceLT, Nat.reduceLeDiff, isB, String.reduceBEq, Bool.or_true, Bool.or_false, Bool.and_true, Bool.and_false, Bool.true_and, Bool.false_and, Bool.false_or, Bool.true_or, Int.cast_ofNat_Int, Int.reduceBEq, Int.reduceBNe, BEq.rfl, wYes, wCut, pow_ok9, pow_ok18, pow_ok30, line_eq, put_same, put_put, List.mem_cons, List.not_mem_nil, or_false, addP_int, addP_str, addP_tup, addP_lst, intP_int, intP0_int, ordP_int, eqP_int, eqP_str, eqP_bl, eqP_non, ixP_str, ixP_lst, ixP_tup, ixP_scr, slcP_str, slcP_tup, slcP_lst, wiSeq_eq, walkP_tup, walkP_str, walkP_lst, walkP_scr]
        refine .mk (n := m + 3) (by rw [put_ne nb.symm, put_same]) rfl nsne nslen (by omega) fun y hy => ?_
        obtain ⟨c, hc, rfl⟩ := List.mem_map.mp hy
        refine .mk (n := m + 4) (xs := [.str sl, .str sl, .str sl, .str c]) (by rw [put_ab nb, put_ne nb.symm, put_same]) rfl (by simp) (by simp) (by omega) fun y2 hy2 => ?_
        simp only [put_ab nb, put_put]
        intro d hd
        obtain ⟨d1, hd⟩ := put_none hd
        obtain ⟨d2, hd⟩ := put_none hd
        simp only [List.mem_cons, List.not_mem_nil, or_false] at hy2
        rcases hy2 with rfl | rfl | rfl | rfl
        · exact ⟨d, _, d2, d1, hd, e5, rfl, rfl⟩
        · exact ⟨d, _, d2, d1, hd, e5, rfl, rfl⟩
        · exact ⟨d, _, d2, d1, hd, e5, rfl, rfl⟩
        · exact ⟨d, _, d2, d1, hd, hc, rfl, rfl⟩
      rintro ρ S ⟨d, r1, g5, g6, g7, g8, rfl, rfl⟩
      refine cut_intro (fun ρ S => ∃ (r2 : Str), r2 ∈ ws ∧ ρ = [some (.ref p), some (.lst (ws.map .str)), some (.int k), some (.lst ts), some (.ref a), some (.int n2), some (.str sl), some x, some (.str by_), some (.ref d), z, none] ∧ S = put (put (put S0 p (drw p (m + 7))) a (.raw (.lst (rs.map SaleR.pv)))) d (.raw (.lst [.str r1, .str r2]))) ?_ ?_
      · simp only [startP, List.map_cons, List.map_nil, List.length_cons, List.length_nil, Nat.reduceAdd, Nat.reduceSub, List.reduceReplicate, List.cons_append, List.nil_append, List.append_nil, wSeq, wAsg, wgN, wgNil, wgCons, wgTup, wDrop, wRet, wRetN, wNext, wBrk, wCont, wIfS, wV, nth, stV, wC, wOp, wUn, wBool, wChain, wTru, truP, wAnd, wOr, wNot, wIfE, wAndV, wOrV, wNotV, wNil, wCons, wTup, wLst, wLstM, wCB, wPar, wPar3, wAug, wFor, wiRng1, wiRng2, seqL, seqO, rows, subP, fdivP, modP, powP, mulP, CDiv, CPow, CMul, neP, ltP, leP, gtP, geP, isNon, isP, isNotP, lenO, lenP, absP, min2P, max2P, listP, tupleP, allP, sumP, intCP, isinP, tysOf, seqK, keyOf, dgetP, wNoPart, wPart, slcMP, wSl, wRevL, tyM, wBm, appendP, popAtP, joinP, wDnewM, wPairs, wCall, wCallK, wFrz, wDput, dputP, eqNilP, List.isEmpty_nil, List.isEmpty_cons, Bool.not_true, Bool.not_false, Bool.true_eq_false, Bool.false_eq_true, and_true, true_and, ↓reduceIte, Int.reduceToNat, Int.reducePow, Int.reduceNeg, Int.reduceAdd, Int.reduceSub, Int.reduceMul, Nat.reduceMul, Nat.reduceLT, Nat.reduceLeDiff, isB, String.reduceBEq, Bool.or_true, Bool.or_false, Bool.and_true, Bool.and_false, Bool.true_and, Bool.false_and, Bool.false_or, Bool.true_or, Int.cast_ofNat_Int, Int.reduceBEq, Int.reduceBNe, BEq.rfl, wYes, wCut, pow_ok9, pow_ok18, pow_ok30, line_eq, put_same, put_put, List.mem_cons, List.not_mem_nil, or_false, addP_int, addP_str, addP_tup, addP_lst, intP_int, intP0_int, ordP_int, eqP_int, eqP_str, eqP_bl, eqP_non, ixP_str, ixP_lst, ixP_tup, ixP_scr, slcP_str, slcP_tup, slcP_lst, wiSeq_eq, walkP_tup, walkP_str, walkP_lst, walkP_scr, rdS]
        refine .mk (n := m + 5) (by rw [put_ne g5.symm, put_ne nb.symm, put_same]) rfl nsne nslen (by omega) fun y hy => ?_
        obtain ⟨c, hc, rfl⟩ := List.mem_map.mp hy
        refine .mk (n := m + 6) (xs := [.str by_, .str by_, .str by_, .str c]) (by rw [put_ab3 nb g5, put_ne g5.symm, put_ne nb.symm, put_same]) rfl (by simp) (by simp) (by omega) fun y2 hy2 => ?_
        simp only [put_ab3 nb g5, put_same, put_put, List.length_cons, List.length_nil]
        simp only [List.mem_cons, List.not_mem_nil, or_false] at hy2
        rcases hy2 with rfl | rfl | rfl | rfl
        · exact ⟨by decide, _, g3, rfl⟩
        · exact ⟨by decide, _, g3, rfl⟩
        · exact ⟨by decide, _, g3, rfl⟩
        · exact ⟨by decide, _, hc, rfl⟩
      rintro ρ S ⟨r2, g9, rfl, rfl⟩
      refine cut_intro (fun ρ S => ∃ (pr pe : Int) (tm : PV), (0 ≤ pr ∧ pr ≤ 1000000000) ∧ (0 ≤ pe ∧ pe ≤ 1000000000) ∧ tm ∈ ts ∧ ρ = [some (.ref p), some (.lst (ws.map .str)), some (.int k), some (.lst ts), some (.ref a), some (.int n2), some (.str sl), some x, some (.str by_), some (.ref d), some (.tup [.int n2, .str sl, .str by_, .int pr, .int pe, tm]), none] ∧ S = put (put (put S0 p (drw p (m + 20))) a (.raw (.lst (rs.map SaleR.pv)))) d (.raw (.lst [.str r1, .str r2]))) ?_ ?_
      · simp only [startP, List.map_cons, List.map_nil, List.length_cons, List.length_nil, Nat.reduceAdd, Nat.reduceSub, List.reduceReplicate, List.cons_append, List.nil_append, List.append_nil, wSeq, wAsg, wgN, wgNil, wgCons, wgTup, wDrop, wRet, wRetN, wNext, wBrk, wCont, wIfS, wV, nth, stV, wC, wOp, wUn, wBool, wChain, wTru, truP, wAnd, wOr, wNot, wIfE, wAndV, wOrV, wNotV, wNil, wCons, wTup, wLst, wLstM, wCB, wPar, wPar3, wAug, wFor, wiRng1, wiRng2, seqL, seqO, rows, subP, fdivP, modP, powP, mulP, CDiv, CPow, CMul, neP, ltP, leP, gtP, geP, isNon, isP, isNotP, lenO, lenP, absP, min2P, max2P, listP, tupleP, allP, sumP, intCP, isinP, tysOf, seqK, keyOf, dgetP, wNoPart, wPart, slcMP, wSl, wRevL, tyM, wBm, appendP, popAtP, joinP, wDnewM, wPairs, wCall, wCallK, wFrz, wDput, dputP, eqNilP, List.isEmpty_nil, List.isEmpty_cons, Bool.not_true, Bool.not_false, Bool.true_eq_false, Bool.false_eq_true, and_true, true_and, ↓reduceIte, Int.reduceToNat, Int.reducePow, Int.reduceNeg, Int.reduceAdd, Int.reduceSub, Int.reduceMul, Nat.reduceMul, Nat.reduceLT, Nat.reduceLeDiff, isB, String.reduceBEq, Bool.or_true, Bool.or_false, Bool.and_true, Bool.and_false, Bool.true_and, Bool.false_and, Bool.false_or, Bool.true_or, Int.cast_ofNat_Int, Int.reduceBEq, Int.reduceBNe, BEq.rfl, wYes, wCut, pow_ok9, pow_ok18, pow_ok30, line_eq, put_same, put_put, List.mem_cons, List.not_mem_nil, or_false, addP_int, addP_str, addP_tup, addP_lst, intP_int, intP0_int, ordP_int, eqP_int, eqP_str, eqP_bl, eqP_non, ixP_str, ixP_lst, ixP_tup, ixP_scr, slcP_str, slcP_tup, slcP_lst, wiSeq_eq, walkP_tup, walkP_str, walkP_lst, walkP_scr]
        refine .mk (n := m + 7) (by rw [put_ne g5.symm, put_ne nb.symm, put_same]) (by omega) fun pr p1 p2 => ?_
        simp only [put_ab3 nb g5]
        refine .mk (n := m + 13) (by rw [put_ne g5.symm, put_ne nb.symm, put_same]) (by omega) fun pe p3 p4 => ?_
        simp only [put_ab3 nb g5]
        refine .mk (n := m + 19) (by rw [put_ne g5.symm, put_ne nb.symm, put_same]) rfl ht htl (by omega) fun tm hm => ?_
        simp only [put_ab3 nb g5]
        exact ⟨pr, pe, tm, ⟨p1, p2⟩, ⟨p3, p4⟩, hm, by trivial, by trivial⟩
      rintro ρ S ⟨pr, pe, tm, g10, g11, g12, rfl, rfl⟩
      refine cut_intro (fun ρ S => ρ = [some (.ref p), some (.lst (ws.map .str)), some (.int k), some (.lst ts), some (.ref a), some (.int n2), some (.str sl), some x, some (.str by_), some (.ref d), some (.tup [.int n2, .str sl, .str by_, .int pr, .int pe, tm]), none] ∧ S = put (put S0 p (drw p (m + 20))) a (.raw (.lst ((rs ++ [SaleR.mk n2 sl by_ pr pe tm r1 r2]).map SaleR.pv)))) ?_ ?_
      · have rm : rmv (put (put (put S0 p (drw p (m + 20))) a (.raw (.lst (rs.map SaleR.pv)))) d (.raw (.lst [.str r1, .str r2]))) d = put (put S0 p (drw p (m + 20))) a (.raw (.lst (rs.map SaleR.pv))) := rmv_put (by rw [put_ne g6, put_ne g5]; exact g7)
        simp only [startP, List.map_cons, List.map_nil, List.length_cons, List.length_nil, Nat.reduceAdd, Nat.reduceSub, List.reduceReplicate, List.cons_append, List.nil_append, List.append_nil, wSeq, wAsg, wgN, wgNil, wgCons, wgTup, wDrop, wRet, wRetN, wNext, wBrk, wCont, wIfS, wV, nth, stV, wC, wOp, wUn, wBool, wChain, wTru, truP, wAnd, wOr, wNot, wIfE, wAndV, wOrV, wNotV, wNil, wCons, wTup, wLst, wLstM, wCB, wPar, wPar3, wAug, wFor, wiRng1, wiRng2, seqL, seqO, rows, subP, fdivP, modP, powP, mulP, CDiv, CPow, CMul, neP, ltP, leP, gtP, geP, isNon, isP, isNotP, lenO, lenP, absP, min2P, max2P, listP, tupleP, allP, sumP, intCP, isinP, tysOf, seqK, keyOf, dgetP, wNoPart, wPart, slcMP, wSl, wRevL, tyM, wBm, appendP, popAtP, joinP, wDnewM, wPairs, wCall, wCallK, wFrz, wDput, dputP, eqNilP, List.isEmpty_nil, List.isEmpty_cons, Bool.not_true, Bool.not_false, Bool.true_eq_false, Bool.false_eq_true, and_true, true_and, ↓reduceIte, Int.reduceToNat, Int.reducePow, Int.reduceNeg, Int.reduceAdd, Int.reduceSub, Int.reduceMul, Nat.reduceMul, Nat.reduceLT, Nat.reduceLeDiff, isB, String.reduceBEq, Bool.or_true, Bool.or_false, Bool.and_true, Bool.and_false, Bool.true_and, Bool.false_and, Bool.false_or, Bool.true_or, Int.cast_ofNat_Int, Int.reduceBEq, Int.reduceBNe, BEq.rfl, wYes, wCut, pow_ok9, pow_ok18, pow_ok30, line_eq, put_same, put_put, List.mem_cons, List.not_mem_nil, or_false, addP_int, addP_str, addP_tup, addP_lst, intP_int, intP0_int, ordP_int, eqP_int, eqP_str, eqP_bl, eqP_non, ixP_str, ixP_lst, ixP_tup, ixP_scr, slcP_str, slcP_tup, slcP_lst, wiSeq_eq, walkP_tup, walkP_str, walkP_lst, walkP_scr, rdS, put_ne (Ne.symm g6)]
        refine ⟨d, [PV.str r1, PV.str r2], rfl, put_same, ?_⟩
        simp only [startP, List.map_cons, List.map_nil, List.length_cons, List.length_nil, Nat.reduceAdd, Nat.reduceSub, List.reduceReplicate, List.cons_append, List.nil_append, List.append_nil, wSeq, wAsg, wgN, wgNil, wgCons, wgTup, wDrop, wRet, wRetN, wNext, wBrk, wCont, wIfS, wV, nth, stV, wC, wOp, wUn, wBool, wChain, wTru, truP, wAnd, wOr, wNot, wIfE, wAndV, wOrV, wNotV, wNil, wCons, wTup, wLst, wLstM, wCB, wPar, wPar3, wAug, wFor, wiRng1, wiRng2, seqL, seqO, rows, subP, fdivP, modP, powP, mulP, CDiv, CPow, CMul, neP, ltP, leP, gtP, geP, isNon, isP, isNotP, lenO, lenP, absP, min2P, max2P, listP, tupleP, allP, sumP, intCP, isinP, tysOf, seqK, keyOf, dgetP, wNoPart, wPart, slcMP, wSl, wRevL, tyM, wBm, appendP, popAtP, joinP, wDnewM, wPairs, wCall, wCallK, wFrz, wDput, dputP, eqNilP, List.isEmpty_nil, List.isEmpty_cons, Bool.not_true, Bool.not_false, Bool.true_eq_false, Bool.false_eq_true, and_true, true_and, ↓reduceIte, Int.reduceToNat, Int.reducePow, Int.reduceNeg, Int.reduceAdd, Int.reduceSub, Int.reduceMul, Nat.reduceMul, Nat.reduceLT, Nat.reduceLeDiff, isB, String.reduceBEq, Bool.or_true, Bool.or_false, Bool.and_true, Bool.and_false, Bool.true_and, Bool.false_and, Bool.false_or, Bool.true_or, Int.cast_ofNat_Int, Int.reduceBEq, Int.reduceBNe, BEq.rfl, wYes, wCut, pow_ok9, pow_ok18, pow_ok30, line_eq, put_same, put_put, List.mem_cons, List.not_mem_nil, or_false, addP_int, addP_str, addP_tup, addP_lst, intP_int, intP0_int, ordP_int, eqP_int, eqP_str, eqP_bl, eqP_non, ixP_str, ixP_lst, ixP_tup, ixP_scr, slcP_str, slcP_tup, slcP_lst, wiSeq_eq, walkP_tup, walkP_str, walkP_lst, walkP_scr, rm]
        exact ⟨by rw [List.length_map]; omega, by rw [List.map_append]; rfl⟩
      rintro ρ S ⟨rfl, rfl⟩
      simp only [startP, List.map_cons, List.map_nil, List.length_cons, List.length_nil, Nat.reduceAdd, Nat.reduceSub, List.reduceReplicate, List.cons_append, List.nil_append, List.append_nil, wSeq, wAsg, wgN, wgNil, wgCons, wgTup, wDrop, wRet, wRetN, wNext, wBrk, wCont, wIfS, wV, nth, stV, wC, wOp, wUn, wBool, wChain, wTru, truP, wAnd, wOr, wNot, wIfE, wAndV, wOrV, wNotV, wNil, wCons, wTup, wLst, wLstM, wCB, wPar, wPar3, wAug, wFor, wiRng1, wiRng2, seqL, seqO, rows, subP, fdivP, modP, powP, mulP, CDiv, CPow, CMul, neP, ltP, leP, gtP, geP, isNon, isP, isNotP, lenO, lenP, absP, min2P, max2P, listP, tupleP, allP, sumP, intCP, isinP, tysOf, seqK, keyOf, dgetP, wNoPart, wPart, slcMP, wSl, wRevL, tyM, wBm, appendP, popAtP, joinP, wDnewM, wPairs, wCall, wCallK, wFrz, wDput, dputP, eqNilP, List.isEmpty_nil, List.isEmpty_cons, Bool.not_true, Bool.not_false, Bool.true_eq_false, Bool.false_eq_true, and_true, true_and, ↓reduceIte, Int.reduceToNat, Int.reducePow, Int.reduceNeg, Int.reduceAdd, Int.reduceSub, Int.reduceMul, Nat.reduceMul, Nat.reduceLT, Nat.reduceLeDiff, isB, String.reduceBEq, Bool.or_true, Bool.or_false, Bool.and_true, Bool.and_false, Bool.true_and, Bool.false_and, Bool.false_or, Bool.true_or, Int.cast_ofNat_Int, Int.reduceBEq, Int.reduceBNe, BEq.rfl, wYes, wCut, pow_ok9, pow_ok18, pow_ok30, line_eq, put_same, put_put, List.mem_cons, List.not_mem_nil, or_false, addP_int, addP_str, addP_tup, addP_lst, intP_int, intP0_int, ordP_int, eqP_int, eqP_str, eqP_bl, eqP_non, ixP_str, ixP_lst, ixP_tup, ixP_scr, slcP_str, slcP_tup, slcP_lst, wiSeq_eq, walkP_tup, walkP_str, walkP_lst, walkP_scr]
      refine ⟨done ++ [x], by rw [ed, List.append_assoc]; rfl, rs ++ [SaleR.mk n2 sl by_ pr pe tm r1 r2], m + 20, n2, by_, some x, some (.str by_), some (.ref d), some (.tup [.int n2, .str sl, .str by_, .int pr, .int pe, tm]), by rw [List.length_append, List.length_append, e1]; rfl, ?_, by omega, ?_, g3, e6.snoc (r := SaleR.mk n2 sl by_ pr pe tm r1 r2) ⟨by show 1 ≤ n2; omega, e5, g3, g4, g10, g11, g12, g8, g9⟩ g1 rfl, rfl, rfl⟩
      · rw [List.length_append]
        show m + 20 ≤ n + 1 + 20 * (done.length + 1)
        omega
      · rw [List.length_append]
        show n2 ≤ 52 * ((done.length + 1 : Nat) : Int)
        omega
  rintro ρ S ⟨rs, m, num, sl, t, v, u, z, e1, e2, e3, e4, e5, e6, rfl, rfl⟩
  simp only [startP, List.map_cons, List.map_nil, List.length_cons, List.length_nil, Nat.reduceAdd, Nat.reduceSub, List.reduceReplicate, List.cons_append, List.nil_append, List.append_nil, wSeq, wAsg, wgN, wgNil, wgCons, wgTup, wDrop, wRet, wRetN, wNext, wBrk, wCont, wIfS, wV, nth, stV, wC, wOp, wUn, wBool, wChain, wTru, truP, wAnd, wOr, wNot, wIfE, wAndV, wOrV, wNotV, wNil, wCons, wTup, wLst, wLstM, wCB, wPar, wPar3, wAug, wFor, wiRng1, wiRng2, seqL, seqO, rows, subP, fdivP, modP, powP, mulP, CDiv, CPow, CMul, neP, ltP, leP, gtP, geP, isNon, isP, isNotP, lenO, lenP, absP, min2P, max2P, listP, tupleP, allP, sumP, intCP, isinP, tysOf, seqK, keyOf, dgetP, wNoPart, wPart, slcMP, wSl, wRevL, tyM, wBm, appendP, popAtP, joinP, wDnewM, wPairs, wCall, wCallK, wFrz, wDput, dputP, eqNilP, List.isEmpty_nil, List.isEmpty_cons, Bool.not_true, Bool.not_false, Bool.true_eq_false, Bool.false_eq_true, and_true, true_and, ↓reduceIte, Int.reduceToNat, Int.reducePow, Int.reduceNeg, Int.reduceAdd, Int.reduceSub, Int.reduceMul, Nat.reduceMul, Nat.reduceLT, Nat.reduceLeDiff, isB, String.reduceBEq, Bool.or_true, Bool.or_false, Bool.and_true, Bool.and_false, Bool.true_and, Bool.false_and, Bool.false_or, Bool.true_or, Int.cast_ofNat_Int, Int.reduceBEq, Int.reduceBNe, BEq.rfl, wYes, wCut, pow_ok9, pow_ok18, pow_ok30, line_eq, put_same, put_put, List.mem_cons, List.not_mem_nil, or_false, addP_int, addP_str, addP_tup, addP_lst, intP_int, intP0_int, ordP_int, eqP_int, eqP_str, eqP_bl, eqP_non, ixP_str, ixP_lst, ixP_tup, ixP_scr, slcP_str, slcP_tup, slcP_lst, wiSeq_eq, walkP_tup, walkP_str, walkP_lst, walkP_scr]
  refine ⟨a, rs.map SaleR.pv, rfl, put_same, ?_⟩
  rw [rmv_put (by rw [put_ne nb]; exact ha)]
  exact q rs m num sl e1 e6 (by omega) (by omega)

theorem ok_law_word (T : Tx K mg base) : FnG P w K mg base 3 T.f__law_word T.d__law_word ["_law_state"] SpWord := by
  refine okG T.F__law_word sc_law_word (fun xs S Q E h => by cases h; rfl) fun cdv A outer s H EX F0 xs S0 Q E hG hr hp tk h => ?_
  cases h with
  | @mk p n _ _ _ e hn q =>
  refine ⟨_, (wss_cons (ws_set 1 sc_law_word.nd we_str)
  (wss_cons (ws_set 2 sc_law_word.nd (we_bm PySem.F.plainAttrs_str PySem.F.slot_str_join PySem.F.type_str_join (by decide) mw_join we_str (wa_cons (we_lc (mk := false) rfl sc_law_word.nd (wi_rng1 T.m_range (wa_cons (we_call (ok_law_take T) hG (hr.mono (by decide)) T.g__law_take T.F__law_take.kp T.b__law_take dflt0 tk0 (wa_cons (we_var 0) (wa_cons we_int wa_nil))) wa_nil)) (own := [("_law_place", 5)]) (blkOk_by (N := N_law_word) (sc := defScope s_law_word) (by decide +kernel)) (fun _ _ _ _ _ => (wg_name 5 sc_law_word.nd)) (by decide) (fun _ _ _ _ _ => wts_nil) (fun _ _ _ _ _ => (we_call (ok_law_pick T) hG (hr.mono (by decide)) T.g__law_pick T.F__law_pick.kp T.b__law_pick dflt0 tk0 (wa_cons (we_var 0) (wa_cons (we_var 1) wa_nil))))) wa_nil)))
  (wss_cons (ws_set 3 sc_law_word.nd (we_call (ok_law_take T) hG (hr.mono (by decide)) T.g__law_take T.F__law_take.kp T.b__law_take dflt0 tk0 (wa_cons (we_var 0) (wa_cons (we_op ow_add (we_callB cw_len T.m_len (wa_cons (we_var 2) wa_nil)) we_int) wa_nil))))
  (wss_cons (ws_set 4 sc_law_word.nd (we_call (ok_law_pick T) hG (hr.mono (by decide)) T.g__law_pick T.F__law_pick.kp T.b__law_pick dflt0 tk0 (wa_cons (we_var 0) (wa_cons we_str wa_nil))))
  (wss_one (ws_ret (we_call (ok_law_pick T) hG (hr.mono (by decide)) T.g__law_pick T.F__law_pick.kp T.b__law_pick dflt0 tk0 (wa_cons (we_var 0) (wa_cons (we_lst (wa_cons (we_var 2) (wa_cons (we_var 2) (wa_cons (we_op ow_add (we_op ow_add (we_sl sw_slc (we_var 2) wo_none (wo_some (we_var 3))) (we_var 4)) (we_sl sw_slc (we_var 2) (wo_some (we_op ow_add (we_var 3) we_int)) wo_none)) (wa_cons (we_op ow_add (we_op ow_add (we_sl sw_slc (we_var 2) wo_none (wo_some (we_var 3))) (we_var 4)) (we_sl sw_slc (we_var 2) (wo_some (we_var 3)) wo_none)) wa_nil))))) wa_nil))))))))), ?_⟩
  simp only [startP, List.map_cons, List.map_nil, List.length_cons, List.length_nil, Nat.reduceAdd, Nat.reduceSub, List.reduceReplicate, List.cons_append, List.nil_append, List.append_nil, wSeq, wAsg, wgN, wgNil, wgCons, wgTup, wDrop, wRet, wRetN, wNext, wBrk, wCont, wIfS, wV, nth, stV, wC, wOp, wUn, wBool, wChain, wTru, truP, wAnd, wOr, wNot, wIfE, wAndV, wOrV, wNotV, wNil, wCons, wTup, wLst, wLstM, wCB, wPar, wPar3, wAug, wFor, wiRng1, wiRng2, seqL, seqO, rows, subP, fdivP, modP, powP, mulP, CDiv, CPow, CMul, neP, ltP, leP, gtP, geP, isNon, isP, isNotP, lenO, lenP, absP, min2P, max2P, listP, tupleP, allP, sumP, intCP, isinP, tysOf, seqK, keyOf, dgetP, wNoPart, wPart, slcMP, wSl, wRevL, tyM, wBm, appendP, popAtP, joinP, wDnewM, wPairs, wCall, wCallK, wFrz, wDput, dputP, eqNilP, List.isEmpty_nil, List.isEmpty_cons, Bool.not_true, Bool.not_false, Bool.true_eq_false, Bool.false_eq_true, and_true, true_and, ↓reduceIte, Int.reduceToNat, Int.reducePow, Int.reduceNeg, Int.reduceAdd, Int.reduceSub, Int.reduceMul, Nat.reduceMul, Nat.reduceLT, Nat.reduceLeDiff, isB, String.reduceBEq, Bool.or_true, Bool.or_false, Bool.and_true, Bool.and_false, Bool.true_and, Bool.false_and, Bool.false_or, Bool.true_or, Int.cast_ofNat_Int, Int.reduceBEq, Int.reduceBNe, BEq.rfl, wYes, wCut, pow_ok9, pow_ok18, pow_ok30, line_eq, put_same, put_put, List.mem_cons, List.not_mem_nil, or_false, addP_int, addP_str, addP_tup, addP_lst, intP_int, intP0_int, ordP_int, eqP_int, eqP_str, eqP_bl, eqP_non, ixP_str, ixP_lst, ixP_tup, ixP_scr, slcP_str, slcP_tup, slcP_lst, wiSeq_eq, walkP_tup, walkP_str, walkP_lst, walkP_scr, N_law_word, wLc]
  refine .mk (n := n) e (by decide) (by decide) (by omega) fun r1 a1 b1 => ?_
  refine ⟨by omega, by omega, fun D hD => ?_⟩
  refine lc_letters (p := p) (m := n + 1) (z := lets) hD put_same (by rw [rng_len]; omega) (by rw [rng_len]; omega) (fun x S' Q' m' e' h' k' => ?_) (fun bs hb hb2 => ?_)
  · simp only [startP, List.map_cons, List.map_nil, List.length_cons, List.length_nil, Nat.reduceAdd, Nat.reduceSub, List.reduceReplicate, List.cons_append, List.nil_append, List.append_nil, wSeq, wAsg, wgN, wgNil, wgCons, wgTup, wDrop, wRet, wRetN, wNext, wBrk, wCont, wIfS, wV, nth, stV, wC, wOp, wUn, wBool, wChain, wTru, truP, wAnd, wOr, wNot, wIfE, wAndV, wOrV, wNotV, wNil, wCons, wTup, wLst, wLstM, wCB, wPar, wPar3, wAug, wFor, wiRng1, wiRng2, seqL, seqO, rows, subP, fdivP, modP, powP, mulP, CDiv, CPow, CMul, neP, ltP, leP, gtP, geP, isNon, isP, isNotP, lenO, lenP, absP, min2P, max2P, listP, tupleP, allP, sumP, intCP, isinP, tysOf, seqK, keyOf, dgetP, wNoPart, wPart, slcMP, wSl, wRevL, tyM, wBm, appendP, popAtP, joinP, wDnewM, wPairs, wCall, wCallK, wFrz, wDput, dputP, eqNilP, List.isEmpty_nil, List.isEmpty_cons, Bool.not_true, Bool.not_false, Bool.true_eq_false, Bool.false_eq_true, and_true, true_and, ↓reduceIte, Int.reduceToNat, Int.reducePow, Int.reduceNeg, Int.reduceAdd, Int.reduceSub, Int.reduceMul, Nat.reduceMul, Nat.reduceLT, Nat.reduceLeDiff, isB, String.reduceBEq, Bool.or_true, Bool.or_false, Bool.and_true, Bool.and_false, Bool.true_and, Bool.false_and, Bool.false_or, Bool.true_or, Int.cast_ofNat_Int, Int.reduceBEq, Int.reduceBNe, BEq.rfl, wYes, wCut, pow_ok9, pow_ok18, pow_ok30, line_eq, put_same, put_put, List.mem_cons, List.not_mem_nil, or_false, addP_int, addP_str, addP_tup, addP_lst, intP_int, intP0_int, ordP_int, eqP_int, eqP_str, eqP_bl, eqP_non, ixP_str, ixP_lst, ixP_tup, ixP_scr, slcP_str, slcP_tup, slcP_lst, wiSeq_eq, walkP_tup, walkP_str, walkP_lst, walkP_scr, wipeP]
    exact .mk e' rfl lets_ne lets_len h' k'
  · rw [rng_len] at hb ⊢
    have h1s : ∀ b ∈ bs, b.length = 1 := fun b h => (letter_ok (hb2 b h)).1
    obtain ⟨jl, jo⟩ := join_letters hb2
    have jl2 : (Txt.join "" bs).length ≤ 16777216 := by omega
    simp only [startP, List.map_cons, List.map_nil, List.length_cons, List.length_nil, Nat.reduceAdd, Nat.reduceSub, List.reduceReplicate, List.cons_append, List.nil_append, List.append_nil, wSeq, wAsg, wgN, wgNil, wgCons, wgTup, wDrop, wRet, wRetN, wNext, wBrk, wCont, wIfS, wV, nth, stV, wC, wOp, wUn, wBool, wChain, wTru, truP, wAnd, wOr, wNot, wIfE, wAndV, wOrV, wNotV, wNil, wCons, wTup, wLst, wLstM, wCB, wPar, wPar3, wAug, wFor, wiRng1, wiRng2, seqL, seqO, rows, subP, fdivP, modP, powP, mulP, CDiv, CPow, CMul, neP, ltP, leP, gtP, geP, isNon, isP, isNotP, lenO, lenP, absP, min2P, max2P, listP, tupleP, allP, sumP, intCP, isinP, tysOf, seqK, keyOf, dgetP, wNoPart, wPart, slcMP, wSl, wRevL, tyM, wBm, appendP, popAtP, joinP, wDnewM, wPairs, wCall, wCallK, wFrz, wDput, dputP, eqNilP, List.isEmpty_nil, List.isEmpty_cons, Bool.not_true, Bool.not_false, Bool.true_eq_false, Bool.false_eq_true, and_true, true_and, ↓reduceIte, Int.reduceToNat, Int.reducePow, Int.reduceNeg, Int.reduceAdd, Int.reduceSub, Int.reduceMul, Nat.reduceMul, Nat.reduceLT, Nat.reduceLeDiff, isB, String.reduceBEq, Bool.or_true, Bool.or_false, Bool.and_true, Bool.and_false, Bool.true_and, Bool.false_and, Bool.false_or, Bool.true_or, Int.cast_ofNat_Int, Int.reduceBEq, Int.reduceBNe, BEq.rfl, wYes, wCut, pow_ok9, pow_ok18, pow_ok30, line_eq, put_same, put_put, List.mem_cons, List.not_mem_nil, or_false, addP_int, addP_str, addP_tup, addP_lst, intP_int, intP0_int, ordP_int, eqP_int, eqP_str, eqP_bl, eqP_non, ixP_str, ixP_lst, ixP_tup, ixP_scr, slcP_str, slcP_tup, slcP_lst, wiSeq_eq, walkP_tup, walkP_str, walkP_lst, walkP_scr, strsOf_map, jl2]
    refine ⟨by rw [join_sum (z := lets) h1s]; omega, .mk (n := n + 1 + r1.toNat) put_same (by omega) (by omega) (by omega) fun r2 a2 b2 => ?_⟩
    refine .mk (n := n + 1 + r1.toNat + 1) (xs := signs oddSigns) put_same rfl odd_ne odd_len (by omega) fun y hy => ?_
    obtain ⟨c, hc, rfl⟩ := List.mem_map.mp hy
    have ho := odd_ok hy
    have hw : okS 10 (Txt.join "" bs) := low_ok jo (by omega)
    have s1 := hw.slice none (some r2)
    have s2 := hw.slice (some (r2 + 1)) none
    have s3 := hw.slice (some r2) none
    have l1 := s1.1
    have l2 := s2.1
    have l3 := s3.1
    have l4 := ho.1
    have l5 : (Txt.slice (Txt.join "" bs) none (some r2) ++ (⟨#[c]⟩ : Str)).length ≤ 11 := (s1.app ho).1
    simp only [startP, List.map_cons, List.map_nil, List.length_cons, List.length_nil, Nat.reduceAdd, Nat.reduceSub, List.reduceReplicate, List.cons_append, List.nil_append, List.append_nil, wSeq, wAsg, wgN, wgNil, wgCons, wgTup, wDrop, wRet, wRetN, wNext, wBrk, wCont, wIfS, wV, nth, stV, wC, wOp, wUn, wBool, wChain, wTru, truP, wAnd, wOr, wNot, wIfE, wAndV, wOrV, wNotV, wNil, wCons, wTup, wLst, wLstM, wCB, wPar, wPar3, wAug, wFor, wiRng1, wiRng2, seqL, seqO, rows, subP, fdivP, modP, powP, mulP, CDiv, CPow, CMul, neP, ltP, leP, gtP, geP, isNon, isP, isNotP, lenO, lenP, absP, min2P, max2P, listP, tupleP, allP, sumP, intCP, isinP, tysOf, seqK, keyOf, dgetP, wNoPart, wPart, slcMP, wSl, wRevL, tyM, wBm, appendP, popAtP, joinP, wDnewM, wPairs, wCall, wCallK, wFrz, wDput, dputP, eqNilP, List.isEmpty_nil, List.isEmpty_cons, Bool.not_true, Bool.not_false, Bool.true_eq_false, Bool.false_eq_true, and_true, true_and, ↓reduceIte, Int.reduceToNat, Int.reducePow, Int.reduceNeg, Int.reduceAdd, Int.reduceSub, Int.reduceMul, Nat.reduceMul, Nat.reduceLT, Nat.reduceLeDiff, isB, String.reduceBEq, Bool.or_true, Bool.or_false, Bool.and_true, Bool.and_false, Bool.true_and, Bool.false_and, Bool.false_or, Bool.true_or, Int.cast_ofNat_Int, Int.reduceBEq, Int.reduceBNe, BEq.rfl, wYes, wCut, pow_ok9, pow_ok18, pow_ok30, line_eq, put_same, put_put, List.mem_cons, List.not_mem_nil, or_false, addP_int, addP_str, addP_tup, addP_lst, intP_int, intP0_int, ordP_int, eqP_int, eqP_str, eqP_bl, eqP_non, ixP_str, ixP_lst, ixP_tup, ixP_scr, slcP_str, slcP_tup, slcP_lst, wiSeq_eq, walkP_tup, walkP_str, walkP_lst, walkP_scr, jl2]
    refine ⟨by omega, by omega, by omega, by omega, ?_⟩
    refine .mk (n := n + 1 + r1.toNat + 1 + 1) put_same rfl (by simp) (by simp) (by omega) fun y hy => ?_
    simp only [List.mem_cons, List.not_mem_nil, or_false] at hy
    rcases hy with rfl | rfl | rfl | rfl <;> rw [put_put] <;> refine q _ _ ?_ (by omega)
    · exact hw.mono (by omega)
    · exact hw.mono (by omega)
    · exact ((s1.app ho).app s2).mono (by omega)
    · exact ((s1.app ho).app s3).mono (by omega)

theorem ok_law_bent (T : Tx K mg base) : FnG P w K mg base 3 T.f__law_bent T.d__law_bent ["_law_state", "_law_thing"] (SpBent PlainC) := by
  refine okG T.F__law_bent sc_law_bent (fun xs S Q E h => by cases h; rfl) fun cdv A outer s H EX F0 xs S0 Q E hG hr hp tk h => ?_
  cases h with
  | @mk p thing n L _ _ _ e hx hL hn q =>
  refine ⟨_, (wss_cut (ws_par (i := 2) (j := 3) rfl sc_law_bent.nd (wa_cons (we_callTy (cw_list (mk := false)) T.m_list (wa_cons (we_var 1) wa_nil)) (wa_cons (we_call (ok_law_take T) hG (hr.mono (by decide)) T.g__law_take T.F__law_take.kp T.b__law_take dflt0 tk0 (wa_cons (we_var 0) (wa_cons (we_op ow_add (we_callB cw_len T.m_len (wa_cons (we_var 1) wa_nil)) we_int) wa_nil))) wa_nil)))
  (wss_cut (ws_set 4 sc_law_bent.nd (we_lst (wa_cons we_non (wa_cons we_bl (wa_cons we_bl (wa_cons we_int (wa_cons (we_un un_negW we_int) (wa_cons we_str (wa_cons we_str (wa_cons we_str (wa_cons we_str (wa_cons we_str (wa_cons (we_op ow_pow we_int we_int) (wa_cons (we_op ow_add (we_op ow_pow we_int we_int) we_int) (wa_cons (we_op ow_pow we_int we_int) (wa_cons (we_lst wa_nil) (wa_cons we_dnew (wa_cons (we_tup (wa_cons we_str wa_nil)) wa_nil))))))))))))))))))
  (wss_cut (ws_set 4 sc_law_bent.nd (we_call (ok_law_pick T) hG (hr.mono (by decide)) T.g__law_pick T.F__law_pick.kp T.b__law_pick dflt0 tk0 (wa_cons (we_var 0) (wa_cons (we_op ow_add (we_op ow_add (we_var 4) (we_lst (wa_cons we_str (wa_cons we_int (wa_cons we_int wa_nil))))) (we_var 2)) wa_nil))))
  (wss_cut (ws_set 5 sc_law_bent.nd (we_lstM (wa_cons (we_callTy cw_tuple T.m_tuple (wa_cons (we_op ow_add (we_sl sw_slc (we_var 2) wo_none (wo_some (we_var 3))) (we_sl sw_slc (we_var 2) (wo_some (we_op ow_add (we_var 3) we_int)) wo_none)) wa_nil)) (wa_cons (we_callTy cw_tuple T.m_tuple (wa_cons (we_op ow_add (we_op ow_add (we_sl sw_slc (we_var 2) wo_none (wo_some (we_var 3))) (we_lst (wa_cons (we_var 4) wa_nil))) (we_sl sw_slc (we_var 2) (wo_some (we_var 3)) wo_none)) wa_nil)) wa_nil))))
  (wss_cut (ws_expr (we_bm PySem.F.plainAttrs_list PySem.F.slot_list_append PySem.F.type_list_append (by decide) mw_append (we_var 5) (wa_cons (we_callTy cw_tuple T.m_tuple (wa_cons (we_op ow_add (we_op ow_add (we_sl sw_slc (we_var 2) wo_none (wo_some (we_var 3))) (we_revL (we_sl sw_slc (we_var 2) (wo_some (we_var 3)) (wo_some (we_op ow_add (we_var 3) we_int))))) (we_sl sw_slc (we_var 2) (wo_some (we_op ow_add (we_var 3) we_int)) wo_none)) wa_nil)) wa_nil)))
  (wss_cut (ws_set 5 sc_law_bent.nd (we_op ow_add (we_frz (we_var 5)) (we_repLit (wa_cons (we_callTy cw_tuple T.m_tuple (wa_cons (we_op ow_add (we_op ow_add (we_sl sw_slc (we_var 2) wo_none (wo_some (we_var 3))) (we_lst (wa_cons (we_var 4) wa_nil))) (we_sl sw_slc (we_var 2) (wo_some (we_op ow_add (we_var 3) we_int)) wo_none)) wa_nil)) wa_nil) we_int)))
  (wss_one (ws_ret (we_call (ok_law_pick T) hG (hr.mono (by decide)) T.g__law_pick T.F__law_pick.kp T.b__law_pick dflt0 tk0 (wa_cons (we_var 0) (wa_cons (we_op ow_add (we_var 5) (we_lst (wa_cons (we_var 2) wa_nil))) wa_nil))))))))))), ?_⟩
  obtain ⟨cs, hcs, hcl, hso, hlo⟩ : ∃ cs : List PV, (∀ x ∈ cs, PlainC x) ∧ cs.length ≤ L ∧ (∀ S, seqO S thing = some cs) ∧ (∀ S, lenO S thing = some cs.length) := by
    cases hx with
    | tup h hl => exact ⟨_, h, hl, fun _ => rfl, fun _ => rfl⟩
    | lst h hl => exact ⟨_, h, hl, fun _ => rfl, fun _ => rfl⟩
  refine cut_intro (fun ρ S => ∃ at_ : Int, ρ = [some (.ref p), some thing, some (.lst cs), some (.int at_), none, none] ∧ S = put S0 p (drw p (n + 1))) ?_ ?_
  · simp only [startP, N_law_bent, List.map_cons, List.map_nil, List.length_cons, List.length_nil, Nat.reduceAdd, Nat.reduceSub, List.reduceReplicate, List.cons_append, List.nil_append, List.append_nil, wPar, wCons, wNil, wCB, wV, nth, wCall, wOp, wC, stV, listP, lenP, hso, hlo, addP_int, Bool.false_eq_true, ↓reduceIte]
    exact .mk e (by omega) (by omega) (by omega) fun r a1 b1 => ⟨r, rfl, rfl⟩
  rintro ρ S ⟨at_, rfl, rfl⟩
  refine cut_intro (fun ρ S => ρ = [some (.ref p), some thing, some (.lst cs), some (.int at_), some (.lst oddsL), none] ∧ S = put S0 p (drw p (n + 1))) ?_ ?_
  · simp only [startP, List.map_cons, List.map_nil, List.length_cons, List.length_nil, Nat.reduceAdd, Nat.reduceSub, List.reduceReplicate, List.cons_append, List.nil_append, List.append_nil, wSeq, wAsg, wgN, wgNil, wgCons, wgTup, wDrop, wRet, wRetN, wNext, wBrk, wCont, wIfS, wV, nth, stV, wC, wOp, wUn, wBool, wChain, wTru, truP, wAnd, wOr, wNot, wIfE, wAndV, wOrV, wNotV, wNil, wCons, wTup, wLst, wLstM, wCB, wPar, wPar3, wAug, wFor, wiRng1, wiRng2, seqL, seqO, rows, subP, fdivP, modP, powP, mulP, CDiv, CPow, CMul, neP, ltP, leP, gtP, geP, isNon, isP, isNotP, lenO, lenP, absP, min2P, max2P, listP, tupleP, allP, sumP, intCP, isinP, tysOf, seqK, keyOf, dgetP, wNoPart, wPart, slcMP, wSl, wRevL, tyM, wBm, appendP, popAtP, joinP, wDnewM, wPairs, wCall, wCallK, wFrz, wDput, dputP, eqNilP, List.isEmpty_nil, List.isEmpty_cons, Bool.not_true, Bool.not_false, Bool.true_eq_false, Bool.false_eq_true, and_true, true_and, ↓reduceIte, Int.reduceToNat, Int.reducePow, Int.reduceNeg, Int.reduceAdd, Int.reduceSub, Int.reduceMul, Nat.reduceMul, Nat.reduceLT, Nat.reduceLeDiff, isB, String.reduceBEq, Bool.or_true, Bool.or_false, Bool.and_true, Bool.and_false, Bool.true_and, Bool.false_and, Bool.false_or, Bool.true_or, Int.cast_ofNat_Int, Int.reduceBEq, Int.reduceBNe, BEq.rfl, wYes, wCut, pow_ok9, pow_ok18, pow_ok30, line_eq, put_same, put_put, List.mem_cons, List.not_mem_nil, or_false, addP_int, addP_str, addP_tup, addP_lst, intP_int, intP0_int, ordP_int, eqP_int, eqP_str, eqP_bl, eqP_non, ixP_str, ixP_lst, ixP_tup, ixP_scr, slcP_str, slcP_tup, slcP_lst, wiSeq_eq, walkP_tup, walkP_str, walkP_lst, walkP_scr]
    first | exact ⟨rfl, trivial⟩ | rfl | trivial
  rintro ρ S ⟨rfl, rfl⟩
  refine cut_intro (fun ρ S => ∃ o : PV, PlainC o ∧ ρ = [some (.ref p), some thing, some (.lst cs), some (.int at_), some o, none] ∧ S = put S0 p (drw p (n + 2))) ?_ ?_
  · simp only [startP, List.map_cons, List.map_nil, List.length_cons, List.length_nil, Nat.reduceAdd, Nat.reduceSub, List.reduceReplicate, List.cons_append, List.nil_append, List.append_nil, wSeq, wAsg, wgN, wgNil, wgCons, wgTup, wDrop, wRet, wRetN, wNext, wBrk, wCont, wIfS, wV, nth, stV, wC, wOp, wUn, wBool, wChain, wTru, truP, wAnd, wOr, wNot, wIfE, wAndV, wOrV, wNotV, wNil, wCons, wTup, wLst, wLstM, wCB, wPar, wPar3, wAug, wFor, wiRng1, wiRng2, seqL, seqO, rows, subP, fdivP, modP, powP, mulP, CDiv, CPow, CMul, neP, ltP, leP, gtP, geP, isNon, isP, isNotP, lenO, lenP, absP, min2P, max2P, listP, tupleP, allP, sumP, intCP, isinP, tysOf, seqK, keyOf, dgetP, wNoPart, wPart, slcMP, wSl, wRevL, tyM, wBm, appendP, popAtP, joinP, wDnewM, wPairs, wCall, wCallK, wFrz, wDput, dputP, eqNilP, List.isEmpty_nil, List.isEmpty_cons, Bool.not_true, Bool.not_false, Bool.true_eq_false, Bool.false_eq_true, and_true, true_and, ↓reduceIte, Int.reduceToNat, Int.reducePow, Int.reduceNeg, Int.reduceAdd, Int.reduceSub, Int.reduceMul, Nat.reduceMul, Nat.reduceLT, Nat.reduceLeDiff, isB, String.reduceBEq, Bool.or_true, Bool.or_false, Bool.and_true, Bool.and_false, Bool.true_and, Bool.false_and, Bool.false_or, Bool.true_or, Int.cast_ofNat_Int, Int.reduceBEq, Int.reduceBNe, BEq.rfl, wYes, wCut, pow_ok9, pow_ok18, pow_ok30, line_eq, put_same, put_put, List.mem_cons, List.not_mem_nil, or_false, addP_int, addP_str, addP_tup, addP_lst, intP_int, intP0_int, ordP_int, eqP_int, eqP_str, eqP_bl, eqP_non, ixP_str, ixP_lst, ixP_tup, ixP_scr, slcP_str, slcP_tup, slcP_lst, wiSeq_eq, walkP_tup, walkP_str, walkP_lst, walkP_scr]
    have l1 : (oddsL ++ [PV.str "1", .int 1, .int 5]).length = 19 := rfl
    have l0 : oddsL.length = 16 := rfl
    simp only [l1, l0]
    refine ⟨by omega, by omega, .mk (n := n + 1) put_same rfl (by simp [oddsL]) (by rw [List.length_append, l1]; omega) (by omega) fun y hy => ⟨y, ?_, rfl, by rw [put_put]⟩⟩
    rcases List.mem_append.mp hy with hy | hy
    · exact odds_fit y hy
    · exact hcs y hy
  rintro ρ S ⟨o, ho, rfl, rfl⟩
  have cl : ∀ lo hi, (cutP cs lo hi).length ≤ L := fun lo hi => Nat.le_trans cut_len hcl
  have cm : ∀ {lo hi}, ∀ x ∈ cutP cs lo hi, PlainC x := fun x h => hcs x (mem_cut h)
  have g2 : ∀ {a b : List PV}, (∀ x ∈ a, PlainC x) → (∀ x ∈ b, PlainC x) → ∀ x ∈ a ++ b, PlainC x := fun h k x hx => (List.mem_append.mp hx).elim (h x) (k x)
  have go : ∀ x ∈ [o], PlainC x := fun x hx => by rw [List.mem_singleton.mp hx]; exact ho
  refine cut_intro (fun ρ S => ∃ (d : Addr) (x1 x2 : List PV), d ≠ p ∧ S0 d = none ∧ RowN PlainC (3 * L + 1) (.tup x1) ∧ RowN PlainC (3 * L + 1) (.tup x2) ∧ ρ = [some (.ref p), some thing, some (.lst cs), some (.int at_), some o, some (.ref d)] ∧ S = put (put S0 p (drw p (n + 2))) d (.raw (.lst [.tup x1, .tup x2]))) ?_ ?_
  · simp only [startP, List.map_cons, List.map_nil, List.length_cons, List.length_nil, Nat.reduceAdd, Nat.reduceSub, List.reduceReplicate, List.cons_append, List.nil_append, List.append_nil, wSeq, wAsg, wgN, wgNil, wgCons, wgTup, wDrop, wRet, wRetN, wNext, wBrk, wCont, wIfS, wV, nth, stV, wC, wOp, wUn, wBool, wChain, wTru, truP, wAnd, wOr, wNot, wIfE, wAndV, wOrV, wNotV, wNil, wCons, wTup, wLst, wLstM, wCB, wPar, wPar3, wAug, wFor, wiRng1, wiRng2, seqL, seqO, rows, subP, fdivP, modP, powP, mulP, CDiv, CPow, CMul, neP, ltP, leP, gtP, geP, isNon, isP, isNotP, lenO, lenP, absP, min2P, max2P, listP, tupleP, allP, sumP, intCP, isinP, tysOf, seqK, keyOf, dgetP, wNoPart, wPart, slcMP, wSl, wRevL, tyM, wBm, appendP, popAtP, joinP, wDnewM, wPairs, wCall, wCallK, wFrz, wDput, dputP, eqNilP, List.isEmpty_nil, List.isEmpty_cons, Bool.not_true, Bool.not_false, Bool.true_eq_false, Bool.false_eq_true, and_true, true_and, ↓reduceIte, Int.reduceToNat, Int.reducePow, Int.reduceNeg, Int.reduceAdd, Int.reduceSub, Int.reduceMul, Nat.reduceMul, Nat.reduceLT, Nat.reduceLeDiff, isB, String.reduceBEq, Bool.or_true, Bool.or_false, Bool.and_true, Bool.and_false, Bool.true_and, Bool.false_and, Bool.false_or, Bool.true_or, Int.cast_ofNat_Int, Int.reduceBEq, Int.reduceBNe, BEq.rfl, wYes, wCut, pow_ok9, pow_ok18, pow_ok30, line_eq, put_same, put_put, List.mem_cons, List.not_mem_nil, or_false, addP_int, addP_str, addP_tup, addP_lst, intP_int, intP0_int, ordP_int, eqP_int, eqP_str, eqP_bl, eqP_non, ixP_str, ixP_lst, ixP_tup, ixP_scr, slcP_str, slcP_tup, slcP_lst, wiSeq_eq, walkP_tup, walkP_str, walkP_lst, walkP_scr]
    have k1 := cl none (some at_)
    have k2 := cl (some (at_ + 1)) none
    have k3 := cl (some at_) none
    refine ⟨by omega, by omega, by rw [List.length_append]; simp only [List.length_cons, List.length_nil]; omega, fun d hd => ?_⟩
    obtain ⟨d1, d2⟩ := put_none hd
    refine ⟨d, _, _, d1, d2, .tup (g2 cm cm) (by rw [List.length_append]; omega), .tup (g2 (g2 cm go) cm) (by rw [List.length_append, List.length_append]; simp only [List.length_cons, List.length_nil]; omega), rfl, rfl⟩
  rintro ρ S ⟨d, x1, x2, d1, d2, r1, r2, rfl, rfl⟩
  refine cut_intro (fun ρ S => ∃ (x3 : List PV), RowN PlainC (3 * L + 1) (.tup x3) ∧ ρ = [some (.ref p), some thing, some (.lst cs), some (.int at_), some o, some (.ref d)] ∧ S = put (put S0 p (drw p (n + 2))) d (.raw (.lst [.tup x1, .tup x2, .tup x3]))) ?_ ?_
  · simp only [startP, List.map_cons, List.map_nil, List.length_cons, List.length_nil, Nat.reduceAdd, Nat.reduceSub, List.reduceReplicate, List.cons_append, List.nil_append, List.append_nil, wSeq, wAsg, wgN, wgNil, wgCons, wgTup, wDrop, wRet, wRetN, wNext, wBrk, wCont, wIfS, wV, nth, stV, wC, wOp, wUn, wBool, wChain, wTru, truP, wAnd, wOr, wNot, wIfE, wAndV, wOrV, wNotV, wNil, wCons, wTup, wLst, wLstM, wCB, wPar, wPar3, wAug, wFor, wiRng1, wiRng2, seqL, seqO, rows, subP, fdivP, modP, powP, mulP, CDiv, CPow, CMul, neP, ltP, leP, gtP, geP, isNon, isP, isNotP, lenO, lenP, absP, min2P, max2P, listP, tupleP, allP, sumP, intCP, isinP, tysOf, seqK, keyOf, dgetP, wNoPart, wPart, slcMP, wSl, wRevL, tyM, wBm, appendP, popAtP, joinP, wDnewM, wPairs, wCall, wCallK, wFrz, wDput, dputP, eqNilP, List.isEmpty_nil, List.isEmpty_cons, Bool.not_true, Bool.not_false, Bool.true_eq_false, Bool.false_eq_true, and_true, true_and, ↓reduceIte, Int.reduceToNat, Int.reducePow, Int.reduceNeg, Int.reduceAdd, Int.reduceSub, Int.reduceMul, Nat.reduceMul, Nat.reduceLT, Nat.reduceLeDiff, isB, String.reduceBEq, Bool.or_true, Bool.or_false, Bool.and_true, Bool.and_false, Bool.true_and, Bool.false_and, Bool.false_or, Bool.true_or, Int.cast_ofNat_Int, Int.reduceBEq, Int.reduceBNe, BEq.rfl, wYes, wCut, pow_ok9, pow_ok18, pow_ok30, line_eq, put_same, put_put, List.mem_cons, List.not_mem_nil, or_false, addP_int, addP_str, addP_tup, addP_lst, intP_int, intP0_int, ordP_int, eqP_int, eqP_str, eqP_bl, eqP_non, ixP_str, ixP_lst, ixP_tup, ixP_scr, slcP_str, slcP_tup, slcP_lst, wiSeq_eq, walkP_tup, walkP_str, walkP_lst, walkP_scr, rdS]
    have k1 := cl none (some at_)
    have k2 := cl (some (at_ + 2)) none
    have k3 := cl (some at_) (some (at_ + 2))
    refine ⟨by rw [List.length_reverse]; omega, by rw [List.length_append, List.length_reverse]; omega, _, .tup (g2 (g2 cm fun x hx => cm x (List.mem_reverse.mp hx)) cm) ?_, rfl⟩
    rw [List.length_append, List.length_append, List.length_reverse]
    omega
  rintro ρ S ⟨x3, r3, rfl, rfl⟩
  refine cut_intro (fun ρ S => ∃ (ls : List PV), (∀ y ∈ ls, RowN PlainC (3 * L + 1) y) ∧ ls.length ≤ 8 ∧ ρ = [some (.ref p), some thing, some (.lst cs), some (.int at_), some o, some (.lst ls)] ∧ S = put S0 p (drw p (n + 2))) ?_ ?_
  · simp only [startP, List.map_cons, List.map_nil, List.length_cons, List.length_nil, Nat.reduceAdd, Nat.reduceSub, List.reduceReplicate, List.cons_append, List.nil_append, List.append_nil, wSeq, wAsg, wgN, wgNil, wgCons, wgTup, wDrop, wRet, wRetN, wNext, wBrk, wCont, wIfS, wV, nth, stV, wC, wOp, wUn, wBool, wChain, wTru, truP, wAnd, wOr, wNot, wIfE, wAndV, wOrV, wNotV, wNil, wCons, wTup, wLst, wLstM, wCB, wPar, wPar3, wAug, wFor, wiRng1, wiRng2, seqL, seqO, rows, subP, fdivP, modP, powP, mulP, CDiv, CPow, CMul, neP, ltP, leP, gtP, geP, isNon, isP, isNotP, lenO, lenP, absP, min2P, max2P, listP, tupleP, allP, sumP, intCP, isinP, tysOf, seqK, keyOf, dgetP, wNoPart, wPart, slcMP, wSl, wRevL, tyM, wBm, appendP, popAtP, joinP, wDnewM, wPairs, wCall, wCallK, wFrz, wDput, dputP, eqNilP, List.isEmpty_nil, List.isEmpty_cons, Bool.not_true, Bool.not_false, Bool.true_eq_false, Bool.false_eq_true, and_true, true_and, ↓reduceIte, Int.reduceToNat, Int.reducePow, Int.reduceNeg, Int.reduceAdd, Int.reduceSub, Int.reduceMul, Nat.reduceMul, Nat.reduceLT, Nat.reduceLeDiff, isB, String.reduceBEq, Bool.or_true, Bool.or_false, Bool.and_true, Bool.and_false, Bool.true_and, Bool.false_and, Bool.false_or, Bool.true_or, Int.cast_ofNat_Int, Int.reduceBEq, Int.reduceBNe, BEq.rfl, wYes, wCut, pow_ok9, pow_ok18, pow_ok30, line_eq, put_same, put_put, List.mem_cons, List.not_mem_nil, or_false, addP_int, addP_str, addP_tup, addP_lst, intP_int, intP0_int, ordP_int, eqP_int, eqP_str, eqP_bl, eqP_non, ixP_str, ixP_lst, ixP_tup, ixP_scr, slcP_str, slcP_tup, slcP_lst, wiSeq_eq, walkP_tup, walkP_str, walkP_lst, walkP_scr, wRepLit]
    have k1 := cl none (some at_)
    have k2 := cl (some (at_ + 1)) none
    have rm : rmv (put (put S0 p (drw p (n + 2))) d (.raw (.lst [.tup x1, .tup x2, .tup x3]))) d = put S0 p (drw p (n + 2)) := rmv_put (by rw [put_ne d1]; exact d2)
    have r4 : RowN PlainC (3 * L + 1) (.tup (cutP cs none (some at_) ++ [o] ++ cutP cs (some (at_ + 1)) none)) := .tup (g2 (g2 cm go) cm) (by rw [List.length_append, List.length_append]; simp only [List.length_cons, List.length_nil]; omega)
    refine ⟨d, [.tup x1, .tup x2, .tup x3], rfl, put_same, by omega, by rw [List.length_append]; simp only [List.length_cons, List.length_nil]; omega, fun d3 hd3 => ⟨by decide, by simp, _, ?_, ?_, rfl, ?_⟩⟩
    · intro y hy
      simp only [List.flatten_cons, List.flatten_nil, List.cons_append, List.nil_append, List.mem_cons, List.not_mem_nil, or_false] at hy
      rcases hy with rfl | rfl | rfl | rfl | rfl | rfl | rfl | rfl <;> assumption
    · simp
    · rw [rm] at hd3 ⊢
      exact rmv_put hd3
  rintro ρ S ⟨ls, gl, ll, rfl, rfl⟩
  simp only [startP, List.map_cons, List.map_nil, List.length_cons, List.length_nil, Nat.reduceAdd, Nat.reduceSub, List.reduceReplicate, List.cons_append, List.nil_append, List.append_nil, wSeq, wAsg, wgN, wgNil, wgCons, wgTup, wDrop, wRet, wRetN, wNext, wBrk, wCont, wIfS, wV, nth, stV, wC, wOp, wUn, wBool, wChain, wTru, truP, wAnd, wOr, wNot, wIfE, wAndV, wOrV, wNotV, wNil, wCons, wTup, wLst, wLstM, wCB, wPar, wPar3, wAug, wFor, wiRng1, wiRng2, seqL, seqO, rows, subP, fdivP, modP, powP, mulP, CDiv, CPow, CMul, neP, ltP, leP, gtP, geP, isNon, isP, isNotP, lenO, lenP, absP, min2P, max2P, listP, tupleP, allP, sumP, intCP, isinP, tysOf, seqK, keyOf, dgetP, wNoPart, wPart, slcMP, wSl, wRevL, tyM, wBm, appendP, popAtP, joinP, wDnewM, wPairs, wCall, wCallK, wFrz, wDput, dputP, eqNilP, List.isEmpty_nil, List.isEmpty_cons, Bool.not_true, Bool.not_false, Bool.true_eq_false, Bool.false_eq_true, and_true, true_and, ↓reduceIte, Int.reduceToNat, Int.reducePow, Int.reduceNeg, Int.reduceAdd, Int.reduceSub, Int.reduceMul, Nat.reduceMul, Nat.reduceLT, Nat.reduceLeDiff, isB, String.reduceBEq, Bool.or_true, Bool.or_false, Bool.and_true, Bool.and_false, Bool.true_and, Bool.false_and, Bool.false_or, Bool.true_or, Int.cast_ofNat_Int, Int.reduceBEq, Int.reduceBNe, BEq.rfl, wYes, wCut, pow_ok9, pow_ok18, pow_ok30, line_eq, put_same, put_put, List.mem_cons, List.not_mem_nil, or_false, addP_int, addP_str, addP_tup, addP_lst, intP_int, intP0_int, ordP_int, eqP_int, eqP_str, eqP_bl, eqP_non, ixP_str, ixP_lst, ixP_tup, ixP_scr, slcP_str, slcP_tup, slcP_lst, wiSeq_eq, walkP_tup, walkP_str, walkP_lst, walkP_scr]
  refine ⟨by omega, .mk (n := n + 2) put_same rfl (by simp) (by rw [List.length_append]; simp only [List.length_cons, List.length_nil]; omega) (by omega) fun y hy => ?_⟩
  rw [put_put]
  rcases List.mem_append.mp hy with hy | hy
  · exact q y (gl y hy)
  · rw [List.mem_singleton] at hy
    subst hy
    exact q _ (.lst hcs (by omega))

def sp_law : PSp := fun xs S Q E => ∃ ns : List Int, xs = [.scr (ns.map PV.int)] ∧ ns.length ≤ 63 ∧ ∀ S', Q (.bl true) S'
theorem fine_bls {a b : Bool} : FineR (.lst [.bl a, .bl b]) :=
  (fit_lst (a := 0) (b := 0) (xs := [.bl a, .bl b]) fun x hx => by
    simp only [List.mem_cons, List.not_mem_nil, or_false] at hx
    rcases hx with rfl | rfl <;> exact fit_bl).fine (by decide) (show (0 + 1) * 2 ≤ 200000 by decide)
theorem last_at {ls : List PV} (h : ls ≠ []) : ∃ c, atI ls (-1) = some c ∧ c ∈ ls := by
  have hp := List.length_pos_iff.mpr h
  have e : ixN ls.length (-1) = some (ls.length - 1) := by
    unfold ixN
    rw [if_neg (by omega), if_pos (by omega)]
    congr 1
    omega
  refine ⟨ls[ls.length - 1], ?_, List.getElem_mem _⟩
  unfold atI
  rw [e]
  exact List.getElem?_eq_getElem _
theorem plain_int {k : Int} (h : k.natAbs < 10 ^ 50) : PlainC (.int k) := (fit_int (a := 1) h).mono (Nat.le_refl 1) (by decide)
theorem plain_name {w : Str} (h : NameOk w) : PlainC (.str w) := fit_str ((low_ok h.2.2 h.2.1).mono (by decide))
theorem row_cells {ws : List Str} {ts : List PV} {num : Int} {sl : Str} {rs : List SaleR} (hw : ∀ w ∈ ws, NameOk w) (ht : ∀ t ∈ ts, PlainC t) (hn : num ≤ 1000000) (h : RowsOk ws ts num sl rs) : ∀ r ∈ rs, RowN PlainC 8 r.pv := by
  intro r hr
  obtain ⟨k, k2⟩ := h.all r hr
  refine .tup (fun x hx => ?_) (Nat.le_refl 8)
  simp only [List.mem_cons, List.not_mem_nil, or_false] at hx
  have h1 := k.pos
  have h2 := k.price
  have h3 := k.pen
  have big : (10 : Nat) ^ 50 = 100000000000000000000000000000000000000000000000000 := by decide
  rcases hx with rfl | rfl | rfl | rfl | rfl | rfl | rfl | rfl
  · exact plain_int (by rw [big]; omega)
  · exact plain_name (hw _ k.seller)
  · exact plain_name (hw _ k.buyer)
  · exact plain_int (by rw [big]; omega)
  · exact plain_int (by rw [big]; omega)
  · exact ht _ k.time
  · exact plain_name (hw _ k.refunder)
  · exact plain_name (hw _ k.guarantor)
def bendL : Nat → Nat
  | 0 => 8
  | n + 1 => 3 * bendL n + 1
theorem ok_law (T : Tx K mg base) : FnG P w K mg base 5 T.f_law T.d_law ["_law_script"] sp_law := by
  refine okG T.F_law sc_law (fun xs S Q E h => by obtain ⟨_, rfl, _⟩ := h; rfl) fun cdv A outer s H EX F0 xs S0 Q E hG hr hp tk h => ?_
  obtain ⟨ns, rfl, hns, q⟩ := h
  refine ⟨_, (wss_cut (ws_set 1 sc_law.nd (we_call (ok_law_begun T) hG (hr.mono (by decide)) T.g__law_begun T.F__law_begun.kp T.b__law_begun dflt0 tk0 (wa_cons (we_var 0) wa_nil)))
  (wss_cut (ws_for hp rfl (wi_rng1 T.m_range (wa_cons (we_op ow_add we_int (we_callB (cw_min2 rfl) T.m_min (wa_cons (we_callB cw_len T.m_len (wa_cons (we_var 0) wa_nil)) (wa_cons we_int wa_nil)))) wa_nil)) (wg_name 2 sc_law.nd)
  (wss_cut (ws_set 3 sc_law.nd (we_call (ok_law_names T) hG (hr.mono (by decide)) T.g__law_names T.F__law_names.kp T.b__law_names dflt0 tk0 (wa_cons (we_var 1) (wa_cons (we_op ow_add we_int (we_call (ok_law_take T) hG (hr.mono (by decide)) T.g__law_take T.F__law_take.kp T.b__law_take dflt0 tk0 (wa_cons (we_var 1) (wa_cons we_int wa_nil)))) wa_nil))))
  (wss_cut (ws_set 4 sc_law.nd (we_call (ok_law_sales T) hG (hr.mono (by decide)) T.g__law_sales T.F__law_sales.kp T.b__law_sales dflt0 tk0 (wa_cons (we_var 1) (wa_cons (we_var 3) (wa_cons (we_op ow_add we_int (we_call (ok_law_take T) hG (hr.mono (by decide)) T.g__law_take T.F__law_take.kp T.b__law_take dflt0 tk0 (wa_cons (we_var 1) (wa_cons we_int wa_nil)))) (wa_cons (we_lst (wa_cons we_int (wa_cons we_int (wa_cons (we_op ow_pow we_int we_int) (wa_cons (we_call (ok_law_amount T) hG (hr.mono (by decide)) T.g__law_amount T.F__law_amount.kp T.b__law_amount dflt0 tk0 (wa_cons (we_var 1) wa_nil)) wa_nil))))) wa_nil))))))
  (wss_cut (ws_set 5 sc_law.nd (we_ix (we_var 4) (we_un un_negW we_int)))
  (wss_cut (ws_for hp rfl (wi_rng1 T.m_range (wa_cons (we_call (ok_law_pick T) hG (hr.mono (by decide)) T.g__law_pick T.F__law_pick.kp T.b__law_pick dflt0 tk0 (wa_cons (we_var 1) (wa_cons (we_lst (wa_cons we_int (wa_cons we_int (wa_cons we_int (wa_cons we_int wa_nil))))) wa_nil))) wa_nil)) (wg_name 6 sc_law.nd)
  (wss_one (ws_if (wt_tru (we_callB cw_isi T.m_isinstance (wa_cons (we_var 5) (wa_cons (we_tup (wa_cons (we_bty (n := "list") T.m_list) (wa_cons (we_bty (n := "tuple") T.m_tuple) wa_nil))) wa_nil))))
  (wss_one (ws_set 5 sc_law.nd (we_call (ok_law_bent T) hG (hr.mono (by decide)) T.g__law_bent T.F__law_bent.kp T.b__law_bent dflt0 tk0 (wa_cons (we_var 1) (wa_cons (we_var 5) wa_nil)))))
  wss_nil)))
  (wss_cut (ws_par (i := 7) (j := 8) rfl sc_law.nd (wa_cons (we_callB (cw_repr hG (hu80 hr) T.noSys) T.m_repr (wa_cons (we_var 5) wa_nil)) (wa_cons (we_call (ok_law_is_sale T) hG (hr.mono (by decide)) T.g__law_is_sale T.F__law_is_sale.kp T.b__law_is_sale dflt0 tk0 (wa_cons (we_var 5) wa_nil)) wa_nil)))
  (wss_cut (ws_if (WW.wt (ww_or (wt_cmp (ow_ne hr.units) (we_callB (cw_repr hG (hu80 hr) T.noSys) T.m_repr (wa_cons (we_lst (wa_cons (we_call (ok_is_sale T) hG (hr.mono (by decide)) T.g_is_sale T.F_is_sale.kp T.b_is_sale dflt0 tk0 (wa_cons (we_var 5) wa_nil)) (wa_cons (we_callK0 (ok_is_sale T) hG (hr.mono (by decide)) T.g_is_sale T.F_is_sale.kp T.kb_is_sale_value tk0 (wk_cons (we_var 5) wk_nil)) wa_nil))) wa_nil)) (we_callB (cw_repr hG (hu80 hr) T.noSys) T.m_repr (wa_cons (we_lst (wa_cons (we_var 8) (wa_cons (we_var 8) wa_nil))) wa_nil))) (ww_or1 (wt_cmp (ow_ne hr.units) (we_callB (cw_repr hG (hu80 hr) T.noSys) T.m_repr (wa_cons (we_var 5) wa_nil)) (we_var 7)))))
  (wss_one (ws_ret we_bl))
  wss_nil)
  (wss_cut (ws_set 9 sc_law.nd (we_call (ok_law_pick T) hG (hr.mono (by decide)) T.g__law_pick T.F__law_pick.kp T.b__law_pick dflt0 tk0 (wa_cons (we_var 1) (wa_cons (we_lst (wa_cons (we_call (ok_law_word T) hG (hr.mono (by decide)) T.g__law_word T.F__law_word.kp T.b__law_word dflt0 tk0 (wa_cons (we_var 1) wa_nil)) (wa_cons (we_call (ok_law_word T) hG (hr.mono (by decide)) T.g__law_word T.F__law_word.kp T.b__law_word dflt0 tk0 (wa_cons (we_var 1) wa_nil)) (wa_cons we_non (wa_cons we_int (wa_cons we_bl (wa_cons (we_lst (wa_cons we_str wa_nil)) (wa_cons (we_tup (wa_cons we_str wa_nil)) (wa_cons we_dnew wa_nil))))))))) wa_nil))))
  (wss_cut (ws_if (wt_cmp (ow_ne hr.units) (we_callB (cw_repr hG (hu80 hr) T.noSys) T.m_repr (wa_cons (we_lst (wa_cons (we_call (ok_is_name T) hG (hr.mono (by decide)) T.g_is_name T.F_is_name.kp T.b_is_name dflt0 tk0 (wa_cons (we_var 9) wa_nil)) (wa_cons (we_callK0 (ok_is_name T) hG (hr.mono (by decide)) T.g_is_name T.F_is_name.kp T.kb_is_name_value tk0 (wk_cons (we_var 9) wk_nil)) wa_nil))) wa_nil)) (we_callB (cw_repr hG (hu80 hr) T.noSys) T.m_repr (wa_cons (we_lst (wa_cons (we_call (ok_law_is_name T) hG (hr.mono (by decide)) T.g__law_is_name T.F__law_is_name.kp T.b__law_is_name dflt0 tk0 (wa_cons (we_var 9) wa_nil)) (wa_cons (we_call (ok_law_is_name T) hG (hr.mono (by decide)) T.g__law_is_name T.F__law_is_name.kp T.b__law_is_name dflt0 tk0 (wa_cons (we_var 9) wa_nil)) wa_nil))) wa_nil)))
  (wss_one (ws_ret we_bl))
  wss_nil)
  (wss_cut (ws_set 10 sc_law.nd (we_call (ok_law_pick T) hG (hr.mono (by decide)) T.g__law_pick T.F__law_pick.kp T.b__law_pick dflt0 tk0 (wa_cons (we_var 1) (wa_cons (we_lst (wa_cons (we_call (ok_law_amount T) hG (hr.mono (by decide)) T.g__law_amount T.F__law_amount.kp T.b__law_amount dflt0 tk0 (wa_cons (we_var 1) wa_nil)) (wa_cons (we_call (ok_law_amount T) hG (hr.mono (by decide)) T.g__law_amount T.F__law_amount.kp T.b__law_amount dflt0 tk0 (wa_cons (we_var 1) wa_nil)) (wa_cons (we_op ow_sub (we_op ow_add (we_op ow_pow we_int we_int) we_int) (we_call (ok_law_take T) hG (hr.mono (by decide)) T.g__law_take T.F__law_take.kp T.b__law_take dflt0 tk0 (wa_cons (we_var 1) (wa_cons we_int wa_nil)))) wa_nil)))) wa_nil))))
  (wss_cut (ws_set 10 sc_law.nd (we_call (ok_law_pick T) hG (hr.mono (by decide)) T.g__law_pick T.F__law_pick.kp T.b__law_pick dflt0 tk0 (wa_cons (we_var 1) (wa_cons (we_lst (wa_cons (we_var 10) (wa_cons (we_var 10) (wa_cons (we_un un_negW we_int) (wa_cons we_int (wa_cons we_bl (wa_cons we_bl (wa_cons we_non (wa_cons we_str (wa_cons (we_lst (wa_cons we_int wa_nil)) (wa_cons (we_tup (wa_cons we_int wa_nil)) (wa_cons (we_op ow_pow we_int we_int) (wa_cons (we_un un_negW (we_op ow_pow we_int we_int)) wa_nil))))))))))))) wa_nil))))
  (wss_one (ws_if (wt_cmp (ow_ne hr.units) (we_callB (cw_repr hG (hu80 hr) T.noSys) T.m_repr (wa_cons (we_lst (wa_cons (we_call (ok_is_amount T) hG (hr.mono (by decide)) T.g_is_amount T.F_is_amount.kp T.b_is_amount dflt0 tk0 (wa_cons (we_var 10) wa_nil)) (wa_cons (we_callK0 (ok_is_amount T) hG (hr.mono (by decide)) T.g_is_amount T.F_is_amount.kp T.kb_is_amount_value tk0 (wk_cons (we_var 10) wk_nil)) wa_nil))) wa_nil)) (we_callB (cw_repr hG (hu80 hr) T.noSys) T.m_repr (wa_cons (we_lst (wa_cons (we_call (ok_law_is_money T) hG (hr.mono (by decide)) T.g__law_is_money T.F__law_is_money.kp T.b__law_is_money dflt0 tk0 (wa_cons (we_var 10) wa_nil)) (wa_cons (we_call (ok_law_is_money T) hG (hr.mono (by decide)) T.g__law_is_money T.F__law_is_money.kp T.b__law_is_money dflt0 tk0 (wa_cons (we_var 10) wa_nil)) wa_nil))) wa_nil)))
  (wss_one (ws_ret we_bl))
  wss_nil)))))))))))))
  (wss_one (ws_ret we_bl)))), ?_⟩
  refine cut_intro (fun ρ S => ∃ p : Addr, ρ = [some (.scr (ns.map .int)), some (.ref p), none, none, none, none, none, none, none, none, none] ∧ S = put S0 p (drw p 0)) ?_ ?_
  · simp only [startP, List.map_cons, List.map_nil, List.length_cons, List.length_nil, Nat.reduceAdd, Nat.reduceSub, List.reduceReplicate, List.cons_append, List.nil_append, List.append_nil, wSeq, wAsg, wgN, wgNil, wgCons, wgTup, wDrop, wRet, wRetN, wNext, wBrk, wCont, wIfS, wV, nth, stV, wC, wOp, wUn, wBool, wChain, wTru, truP, wAnd, wOr, wNot, wIfE, wAndV, wOrV, wNotV, wNil, wCons, wTup, wLst, wLstM, wCB, wPar, wPar3, wAug, wFor, wiRng1, wiRng2, seqL, seqO, rows, subP, fdivP, modP, powP, mulP, CDiv, CPow, CMul, neP, ltP, leP, gtP, geP, isNon, isP, isNotP, lenO, lenP, absP, min2P, max2P, listP, tupleP, allP, sumP, intCP, isinP, tysOf, seqK, keyOf, dgetP, wNoPart, wPart, slcMP, wSl, wRevL, tyM, wBm, appendP, popAtP, joinP, wDnewM, wPairs, wCall, wCallK, wFrz, wDput, dputP, eqNilP, List.isEmpty_nil, List.isEmpty_cons, Bool.not_true, Bool.not_false, Bool.true_eq_false, Bool.false_eq_true, and_true, true_and, ↓reduceIte, Int.reduceToNat, Int.reducePow, Int.reduceNeg, Int.reduceAdd, Int.reduceSub, Int.reduceMul, Nat.reduceMul, Nat.reduceLT, Nat.reduceLeDiff, isB, String.reduceBEq, Bool.or_true, Bool.or_false, Bool.and_true, Bool.and_false, Bool.true_and, Bool.false_and, Bool.false_or, Bool.true_or, Int.cast_ofNat_Int, Int.reduceBEq, Int.reduceBNe, BEq.rfl, wYes, wCut, pow_ok9, pow_ok18, pow_ok30, line_eq, put_same, put_put, List.mem_cons, List.not_mem_nil, or_false, addP_int, addP_str, addP_tup, addP_lst, intP_int, intP0_int, ordP_int, eqP_int, eqP_str, eqP_bl, eqP_non, ixP_str, ixP_lst, ixP_tup, ixP_scr, slcP_str, slcP_tup, slcP_lst, wiSeq_eq, walkP_tup, walkP_str, walkP_lst, walkP_scr, N_law]
    exact .mk hns fun p hp => ⟨p, by trivial, rfl⟩
  rintro ρ S ⟨p, rfl, rfl⟩
  refine cut_intro (fun ρ S => True) ?_ ?_
  · simp only [wFor, wiRng1, wCons, wNil, wV, nth, wOp, wC, wCB, lenP, lenO, min2P, addP_int]
    rw [List.length_map]
    refine ⟨by omega, by omega, ?_⟩
    refine for_inv (fun done ρ S => ∃ (m : Nat) (a b c d e f g h i : Option PV), m ≤ 200 * done.length ∧ ρ = [some (.scr (ns.map .int)), some (.ref p), a, b, c, d, e, f, g, h, i] ∧ S = put S0 p (drw p m))
      ⟨0, none, none, none, none, none, none, none, none, none, Nat.le_refl 0, rfl, rfl⟩ (fun _ _ _ => ⟨trivial, trivial⟩) ?_
    rintro done x rest ρ S ed ⟨m, a, b, c, d, e, f, g, h, i, hm, rfl, rfl⟩
    have hdl : done.length < 26 := by
      have := congrArg List.length ed
      rw [rng_len, List.length_append, List.length_cons] at this
      omega
    refine ⟨trivial, ?_⟩
    -- the names
    refine cut_intro (fun ρ S => ∃ (ws : List Str) (m1 : Nat), ws.Nodup ∧ 2 ≤ ws.length ∧ ws.length ≤ 5 ∧ (∀ w ∈ ws, NameOk w) ∧ m1 ≤ m + 61 ∧ ρ = [some (.scr (ns.map .int)), some (.ref p), some x, some (.lst (ws.map .str)), c, d, e, f, g, h, i] ∧ S = put S0 p (drw p m1)) ?_ ?_
    · simp only [startP, List.map_cons, List.map_nil, List.length_cons, List.length_nil, Nat.reduceAdd, Nat.reduceSub, List.reduceReplicate, List.cons_append, List.nil_append, List.append_nil, wSeq, wAsg, wgN, wgNil, wgCons, wgTup, wDrop, wRet, wRetN, wNext, wBrk, wCont, wIfS, wV, nth, stV, wC, wOp, wUn, wBool, wChain, wTru, truP, wAnd, wOr, wNot, wIfE, wAndV, wOrV, wNotV, wNil, wCons, wTup, wLst, wLstM, wCB, wPar, wPar3, wAug, wFor, wiRng1, wiRng2, seqL, seqO, rows, subP, fdivP, modP, powP, mulP, CDiv, CPow, CMul, neP, ltP, leP, gtP, geP, isNon, isP, isNotP, lenO, lenP, absP, min2P, max2P, listP, tupleP, allP, sumP, intCP, isinP, tysOf, seqK, keyOf, dgetP, wNoPart, wPart, slcMP, wSl, wRevL, tyM, wBm, appendP, popAtP, joinP, wDnewM, wPairs, wCall, wCallK, wFrz, wDput, dputP, eqNilP, List.isEmpty_nil, List.isEmpty_cons, Bool.not_true, Bool.not_false, Bool.true_eq_false, Bool.false_eq_true, and_true, true_and, ↓reduceIte, Int.reduceToNat, Int.reducePow, Int.reduceNeg, Int.reduceAdd, Int.reduceSub, Int.reduceMul, Nat.reduceMul, Nat.reduceLT, Nat.reduceLeDiff, isB, String.reduceBEq, Bool.or_true, Bool.or_false, Bool.and_true, Bool.and_false, Bool.true_and, Bool.false_and, Bool.false_or, Bool.true_or, Int.cast_ofNat_Int, Int.reduceBEq, Int.reduceBNe, BEq.rfl, wYes, wCut, pow_ok9, pow_ok18, pow_ok30, line_eq, put_same, put_put, List.mem_cons, List.not_mem_nil, or_false, addP_int, addP_str, addP_tup, addP_lst, intP_int, intP0_int, ordP_int, eqP_int, eqP_str, eqP_bl, eqP_non, ixP_str, ixP_lst, ixP_tup, ixP_scr, slcP_str, slcP_tup, slcP_lst, wiSeq_eq, walkP_tup, walkP_str, walkP_lst, walkP_scr]
      refine .mk (n := m) put_same (by decide) (by decide) (by omega) fun r a1 b1 => ?_
      refine .mk (n := m + 1) put_same (by omega) (by omega) (by omega) fun ws m1 k1 k2 k3 k4 => ?_
      exact ⟨ws, m1, k2, by omega, by omega, k3, by omega, by trivial, by rw [put_put, put_put]⟩
    rintro ρ S ⟨ws, m1, w1, w2, w3, w4, hm1, rfl, rfl⟩
    -- the rows
    refine cut_intro (fun ρ S => ∃ (ls : List PV) (m2 : Nat), ls ≠ [] ∧ (∀ r ∈ ls, RowN PlainC 8 r) ∧ m2 ≤ m1 + 68 ∧ ρ = [some (.scr (ns.map .int)), some (.ref p), some x, some (.lst (ws.map .str)), some (.lst ls), d, e, f, g, h, i] ∧ S = put S0 p (drw p m2)) ?_ ?_
    · simp only [startP, List.map_cons, List.map_nil, List.length_cons, List.length_nil, Nat.reduceAdd, Nat.reduceSub, List.reduceReplicate, List.cons_append, List.nil_append, List.append_nil, wSeq, wAsg, wgN, wgNil, wgCons, wgTup, wDrop, wRet, wRetN, wNext, wBrk, wCont, wIfS, wV, nth, stV, wC, wOp, wUn, wBool, wChain, wTru, truP, wAnd, wOr, wNot, wIfE, wAndV, wOrV, wNotV, wNil, wCons, wTup, wLst, wLstM, wCB, wPar, wPar3, wAug, wFor, wiRng1, wiRng2, seqL, seqO, rows, subP, fdivP, modP, powP, mulP, CDiv, CPow, CMul, neP, ltP, leP, gtP, geP, isNon, isP, isNotP, lenO, lenP, absP, min2P, max2P, listP, tupleP, allP, sumP, intCP, isinP, tysOf, seqK, keyOf, dgetP, wNoPart, wPart, slcMP, wSl, wRevL, tyM, wBm, appendP, popAtP, joinP, wDnewM, wPairs, wCall, wCallK, wFrz, wDput, dputP, eqNilP, List.isEmpty_nil, List.isEmpty_cons, Bool.not_true, Bool.not_false, Bool.true_eq_false, Bool.false_eq_true, and_true, true_and, ↓reduceIte, Int.reduceToNat, Int.reducePow, Int.reduceNeg, Int.reduceAdd, Int.reduceSub, Int.reduceMul, Nat.reduceMul, Nat.reduceLT, Nat.reduceLeDiff, isB, String.reduceBEq, Bool.or_true, Bool.or_false, Bool.and_true, Bool.and_false, Bool.true_and, Bool.false_and, Bool.false_or, Bool.true_or, Int.cast_ofNat_Int, Int.reduceBEq, Int.reduceBNe, BEq.rfl, wYes, wCut, pow_ok9, pow_ok18, pow_ok30, line_eq, put_same, put_put, List.mem_cons, List.not_mem_nil, or_false, addP_int, addP_str, addP_tup, addP_lst, intP_int, intP0_int, ordP_int, eqP_int, eqP_str, eqP_bl, eqP_non, ixP_str, ixP_lst, ixP_tup, ixP_scr, slcP_str, slcP_tup, slcP_lst, wiSeq_eq, walkP_tup, walkP_str, walkP_lst, walkP_scr]
      refine .mk (n := m1) put_same (by decide) (by decide) (by omega) fun r a1 b1 => ?_
      refine .mk (n := m1 + 1) put_same (by omega) fun r2 a2 b2 => ?_
      refine .mk (n := m1 + 1 + 6) (by rw [put_put, put_same]) w1 w2 (by omega) (by omega) (by omega) (by simp) (by simp) (by omega) fun rs m2 num sl k1 k2 k3 k4 => ?_
      refine ⟨rs.map SaleR.pv, m2, ?_, ?_, by omega, by trivial, by rw [put_put, put_put, put_put]⟩
      · intro z
        have := congrArg List.length z
        rw [List.length_map, List.length_nil] at this
        omega
      · intro y hy
        obtain ⟨rr, hrr, rfl⟩ := List.mem_map.mp hy
        refine row_cells w4 (fun t ht => ?_) (by omega) k2 rr hrr
        have big : (10 : Nat) ^ 50 = 100000000000000000000000000000000000000000000000000 := by decide
        simp only [List.mem_cons, List.not_mem_nil, or_false] at ht
        rcases ht with rfl | rfl | rfl | rfl <;> exact plain_int (by rw [big]; omega)
    rintro ρ S ⟨ls, m2, l1, l2, hm2, rfl, rfl⟩
    refine cut_intro (fun ρ S => ∃ y, RowN PlainC 8 y ∧ ρ = [some (.scr (ns.map .int)), some (.ref p), some x, some (.lst (ws.map .str)), some (.lst ls), some y, e, f, g, h, i] ∧ S = put S0 p (drw p m2)) ?_ ?_
    · obtain ⟨c0, e0, m0⟩ := last_at l1
      simp only [startP, List.map_cons, List.map_nil, List.length_cons, List.length_nil, Nat.reduceAdd, Nat.reduceSub, List.reduceReplicate, List.cons_append, List.nil_append, List.append_nil, wSeq, wAsg, wgN, wgNil, wgCons, wgTup, wDrop, wRet, wRetN, wNext, wBrk, wCont, wIfS, wV, nth, stV, wC, wOp, wUn, wBool, wChain, wTru, truP, wAnd, wOr, wNot, wIfE, wAndV, wOrV, wNotV, wNil, wCons, wTup, wLst, wLstM, wCB, wPar, wPar3, wAug, wFor, wiRng1, wiRng2, seqL, seqO, rows, subP, fdivP, modP, powP, mulP, CDiv, CPow, CMul, neP, ltP, leP, gtP, geP, isNon, isP, isNotP, lenO, lenP, absP, min2P, max2P, listP, tupleP, allP, sumP, intCP, isinP, tysOf, seqK, keyOf, dgetP, wNoPart, wPart, slcMP, wSl, wRevL, tyM, wBm, appendP, popAtP, joinP, wDnewM, wPairs, wCall, wCallK, wFrz, wDput, dputP, eqNilP, List.isEmpty_nil, List.isEmpty_cons, Bool.not_true, Bool.not_false, Bool.true_eq_false, Bool.false_eq_true, and_true, true_and, ↓reduceIte, Int.reduceToNat, Int.reducePow, Int.reduceNeg, Int.reduceAdd, Int.reduceSub, Int.reduceMul, Nat.reduceMul, Nat.reduceLT, Nat.reduceLeDiff, isB, String.reduceBEq, Bool.or_true, Bool.or_false, Bool.and_true, Bool.and_false, Bool.true_and, Bool.false_and, Bool.false_or, Bool.true_or, Int.cast_ofNat_Int, Int.reduceBEq, Int.reduceBNe, BEq.rfl, wYes, wCut, pow_ok9, pow_ok18, pow_ok30, line_eq, put_same, put_put, List.mem_cons, List.not_mem_nil, or_false, addP_int, addP_str, addP_tup, addP_lst, intP_int, intP0_int, ordP_int, eqP_int, eqP_str, eqP_bl, eqP_non, ixP_str, ixP_lst, ixP_tup, ixP_scr, slcP_str, slcP_tup, slcP_lst, wiSeq_eq, walkP_tup, walkP_str, walkP_lst, walkP_scr, e0]
      exact ⟨c0, l2 c0 m0, by trivial⟩
    rintro ρ S ⟨y0, hy0, rfl, rfl⟩
    -- bends
    refine cut_intro (fun ρ S => ∃ (y : PV) (m3 : Nat) (e : Option PV), RowN PlainC 76 y ∧ m3 ≤ m2 + 7 ∧ ρ = [some (.scr (ns.map .int)), some (.ref p), some x, some (.lst (ws.map .str)), some (.lst ls), some y, e, f, g, h, i] ∧ S = put S0 p (drw p m3)) ?_ ?_
    · simp only [wFor, wiRng1, wCons, wNil, wV, nth, wOp, wC, wCall, wLst, List.append_nil]
      refine .mk (n := m2) put_same rfl (by simp) (by simp) (by omega) fun y1 hy1 => ?_
      obtain ⟨j, rfl, j0, j2⟩ : ∃ j : Int, y1 = .int j ∧ 0 ≤ j ∧ j ≤ 2 := by
        simp only [List.mem_cons, List.not_mem_nil, or_false] at hy1
        rcases hy1 with rfl | rfl | rfl | rfl <;> exact ⟨_, rfl, by decide, by decide⟩
      refine ⟨by omega, by omega, for_inv (fun done2 ρ S => ∃ (y : PV) (m3 : Nat) (e : Option PV), RowN PlainC (bendL done2.length) y ∧ m3 ≤ m2 + 1 + 3 * done2.length ∧ ρ = [some (.scr (ns.map .int)), some (.ref p), some x, some (.lst (ws.map .str)), some (.lst ls), some y, e, f, g, h, i] ∧ S = put S0 p (drw p m3)) ⟨y0, m2 + 1, e, hy0, Nat.le_refl _, rfl, by rw [put_put]⟩ ?_ ?_⟩
      · rintro ρ S ⟨y, m3, e, hy, hm3, rfl, rfl⟩
        rw [rng_len] at hy hm3
        refine ⟨trivial, y, m3, e, hy.mono ?_, by omega, rfl, rfl⟩
        have : j = 0 ∨ j = 1 ∨ j = 2 := by omega
        rcases this with rfl | rfl | rfl <;> decide
      · rintro done2 x2 rest2 ρ S ed2 ⟨y, m3, e, hy, hm3, rfl, rfl⟩
        have hd2 : done2.length < 2 := by
          have := congrArg List.length ed2
          rw [rng_len, List.length_append, List.length_cons] at this
          omega
        have hbl : bendL done2.length ≤ 25 := by
          have : done2.length = 0 ∨ done2.length = 1 := by omega
          rcases this with z | z <;> rw [z] <;> decide
        have fin : SpBent PlainC [.ref p, y] (put S0 p (drw p m3)) (fun v S' => ∃ d, rngP 0 j.toNat = d ++ rest2 ∧ ∃ (y : PV) (m3 : Nat) (e : Option PV), RowN PlainC (bendL d.length) y ∧ m3 ≤ m2 + 1 + 3 * d.length ∧ [some (.scr (ns.map .int)), some (.ref p), some x, some (.lst (ws.map .str)), some (.lst ls), some v, some x2, f, g, h, i] = [some (.scr (ns.map .int)), some (.ref p), some x, some (.lst (ws.map .str)), some (.lst ls), some y, e, f, g, h, i] ∧ S' = put S0 p (drw p m3)) fun _ _ => False := by
          refine .mk (n := m3) put_same hy (by omega) (by omega) fun v hv => ⟨done2 ++ [x2], by rw [ed2, List.append_assoc]; rfl, v, m3 + 3, some x2, ?_, ?_, rfl, by rw [put_put]⟩
          · rw [List.length_append]; exact hv
          · rw [List.length_append]
            show m3 + 3 ≤ m2 + 1 + 3 * (done2.length + 1)
            omega
        refine ⟨trivial, ?_⟩
        cases hy with
        | tup hh hl =>
          simp only [startP, List.map_cons, List.map_nil, List.length_cons, List.length_nil, Nat.reduceAdd, Nat.reduceSub, List.reduceReplicate, List.cons_append, List.nil_append, List.append_nil, wSeq, wAsg, wgN, wgNil, wgCons, wgTup, wDrop, wRet, wRetN, wNext, wBrk, wCont, wIfS, wV, nth, stV, wC, wOp, wUn, wBool, wChain, wTru, truP, wAnd, wOr, wNot, wIfE, wAndV, wOrV, wNotV, wNil, wCons, wTup, wLst, wLstM, wCB, wPar, wPar3, wAug, wFor, wiRng1, wiRng2, seqL, seqO, rows, subP, fdivP, modP, powP, mulP, CDiv, CPow, CMul, neP, ltP, leP, gtP, geP, isNon, isP, isNotP, lenO, lenP, absP, min2P, max2P, listP, tupleP, allP, sumP, intCP, isinP, tysOf, seqK, keyOf, dgetP, wNoPart, wPart, slcMP, wSl, wRevL, tyM, wBm, appendP, popAtP, joinP, wDnewM, wPairs, wCall, wCallK, wFrz, wDput, dputP, eqNilP, List.isEmpty_nil, List.isEmpty_cons, Bool.not_true, Bool.not_false, Bool.true_eq_false, Bool.false_eq_true, and_true, true_and, ↓reduceIte, Int.reduceToNat, Int.reducePow, Int.reduceNeg, Int.reduceAdd, Int.reduceSub, Int.reduceMul, Nat.reduceMul, Nat.reduceLT, Nat.reduceLeDiff, isB, String.reduceBEq, Bool.or_true, Bool.or_false, Bool.and_true, Bool.and_false, Bool.true_and, Bool.false_and, Bool.false_or, Bool.true_or, Int.cast_ofNat_Int, Int.reduceBEq, Int.reduceBNe, BEq.rfl, wYes, wCut, pow_ok9, pow_ok18, pow_ok30, line_eq, put_same, put_put, List.mem_cons, List.not_mem_nil, or_false, addP_int, addP_str, addP_tup, addP_lst, intP_int, intP0_int, ordP_int, eqP_int, eqP_str, eqP_bl, eqP_non, ixP_str, ixP_lst, ixP_tup, ixP_scr, slcP_str, slcP_tup, slcP_lst, wiSeq_eq, walkP_tup, walkP_str, walkP_lst, walkP_scr, kind_list, kind_tuple, tyN]
          exact fin
        | lst hh hl =>
          simp only [startP, List.map_cons, List.map_nil, List.length_cons, List.length_nil, Nat.reduceAdd, Nat.reduceSub, List.reduceReplicate, List.cons_append, List.nil_append, List.append_nil, wSeq, wAsg, wgN, wgNil, wgCons, wgTup, wDrop, wRet, wRetN, wNext, wBrk, wCont, wIfS, wV, nth, stV, wC, wOp, wUn, wBool, wChain, wTru, truP, wAnd, wOr, wNot, wIfE, wAndV, wOrV, wNotV, wNil, wCons, wTup, wLst, wLstM, wCB, wPar, wPar3, wAug, wFor, wiRng1, wiRng2, seqL, seqO, rows, subP, fdivP, modP, powP, mulP, CDiv, CPow, CMul, neP, ltP, leP, gtP, geP, isNon, isP, isNotP, lenO, lenP, absP, min2P, max2P, listP, tupleP, allP, sumP, intCP, isinP, tysOf, seqK, keyOf, dgetP, wNoPart, wPart, slcMP, wSl, wRevL, tyM, wBm, appendP, popAtP, joinP, wDnewM, wPairs, wCall, wCallK, wFrz, wDput, dputP, eqNilP, List.isEmpty_nil, List.isEmpty_cons, Bool.not_true, Bool.not_false, Bool.true_eq_false, Bool.false_eq_true, and_true, true_and, ↓reduceIte, Int.reduceToNat, Int.reducePow, Int.reduceNeg, Int.reduceAdd, Int.reduceSub, Int.reduceMul, Nat.reduceMul, Nat.reduceLT, Nat.reduceLeDiff, isB, String.reduceBEq, Bool.or_true, Bool.or_false, Bool.and_true, Bool.and_false, Bool.true_and, Bool.false_and, Bool.false_or, Bool.true_or, Int.cast_ofNat_Int, Int.reduceBEq, Int.reduceBNe, BEq.rfl, wYes, wCut, pow_ok9, pow_ok18, pow_ok30, line_eq, put_same, put_put, List.mem_cons, List.not_mem_nil, or_false, addP_int, addP_str, addP_tup, addP_lst, intP_int, intP0_int, ordP_int, eqP_int, eqP_str, eqP_bl, eqP_non, ixP_str, ixP_lst, ixP_tup, ixP_scr, slcP_str, slcP_tup, slcP_lst, wiSeq_eq, walkP_tup, walkP_str, walkP_lst, walkP_scr, kind_list, kind_tuple, tyN]
          exact fin
    rintro ρ S ⟨y, m3, e, hy, hm3, rfl, rfl⟩
    have fy : FineR y := hy.fine (by decide) (by decide)
    refine cut_intro (fun ρ S => ρ = [some (.scr (ns.map .int)), some (.ref p), some x, some (.lst (ws.map .str)), some (.lst ls), some y, e, some (.str (shw y)), some (.bl (isSal y)), h, i] ∧ S = put S0 p (drw p m3)) ?_ ?_
    · simp only [startP, List.map_cons, List.map_nil, List.length_cons, List.length_nil, Nat.reduceAdd, Nat.reduceSub, List.reduceReplicate, List.cons_append, List.nil_append, List.append_nil, wSeq, wAsg, wgN, wgNil, wgCons, wgTup, wDrop, wRet, wRetN, wNext, wBrk, wCont, wIfS, wV, nth, stV, wC, wOp, wUn, wBool, wChain, wTru, truP, wAnd, wOr, wNot, wIfE, wAndV, wOrV, wNotV, wNil, wCons, wTup, wLst, wLstM, wCB, wPar, wPar3, wAug, wFor, wiRng1, wiRng2, seqL, seqO, rows, subP, fdivP, modP, powP, mulP, CDiv, CPow, CMul, neP, ltP, leP, gtP, geP, isNon, isP, isNotP, lenO, lenP, absP, min2P, max2P, listP, tupleP, allP, sumP, intCP, isinP, tysOf, seqK, keyOf, dgetP, wNoPart, wPart, slcMP, wSl, wRevL, tyM, wBm, appendP, popAtP, joinP, wDnewM, wPairs, wCall, wCallK, wFrz, wDput, dputP, eqNilP, List.isEmpty_nil, List.isEmpty_cons, Bool.not_true, Bool.not_false, Bool.true_eq_false, Bool.false_eq_true, and_true, true_and, ↓reduceIte, Int.reduceToNat, Int.reducePow, Int.reduceNeg, Int.reduceAdd, Int.reduceSub, Int.reduceMul, Nat.reduceMul, Nat.reduceLT, Nat.reduceLeDiff, isB, String.reduceBEq, Bool.or_true, Bool.or_false, Bool.and_true, Bool.and_false, Bool.true_and, Bool.false_and, Bool.false_or, Bool.true_or, Int.cast_ofNat_Int, Int.reduceBEq, Int.reduceBNe, BEq.rfl, wYes, wCut, pow_ok9, pow_ok18, pow_ok30, line_eq, put_same, put_put, List.mem_cons, List.not_mem_nil, or_false, addP_int, addP_str, addP_tup, addP_lst, intP_int, intP0_int, ordP_int, eqP_int, eqP_str, eqP_bl, eqP_non, ixP_str, ixP_lst, ixP_tup, ixP_scr, slcP_str, slcP_tup, slcP_lst, wiSeq_eq, walkP_tup, walkP_str, walkP_lst, walkP_scr, pure1, reprP]
      exact ⟨fy, hy.row⟩
    rintro ρ S ⟨rfl, rfl⟩
    refine cut_intro (fun ρ S => ρ = [some (.scr (ns.map .int)), some (.ref p), some x, some (.lst (ws.map .str)), some (.lst ls), some y, e, some (.str (shw y)), some (.bl (isSal y)), h, i] ∧ S = put S0 p (drw p m3)) ?_ ?_
    · simp only [startP, List.map_cons, List.map_nil, List.length_cons, List.length_nil, Nat.reduceAdd, Nat.reduceSub, List.reduceReplicate, List.cons_append, List.nil_append, List.append_nil, wSeq, wAsg, wgN, wgNil, wgCons, wgTup, wDrop, wRet, wRetN, wNext, wBrk, wCont, wIfS, wV, nth, stV, wC, wOp, wUn, wBool, wChain, wTru, truP, wAnd, wOr, wNot, wIfE, wAndV, wOrV, wNotV, wNil, wCons, wTup, wLst, wLstM, wCB, wPar, wPar3, wAug, wFor, wiRng1, wiRng2, seqL, seqO, rows, subP, fdivP, modP, powP, mulP, CDiv, CPow, CMul, neP, ltP, leP, gtP, geP, isNon, isP, isNotP, lenO, lenP, absP, min2P, max2P, listP, tupleP, allP, sumP, intCP, isinP, tysOf, seqK, keyOf, dgetP, wNoPart, wPart, slcMP, wSl, wRevL, tyM, wBm, appendP, popAtP, joinP, wDnewM, wPairs, wCall, wCallK, wFrz, wDput, dputP, eqNilP, List.isEmpty_nil, List.isEmpty_cons, Bool.not_true, Bool.not_false, Bool.true_eq_false, Bool.false_eq_true, and_true, true_and, ↓reduceIte, Int.reduceToNat, Int.reducePow, Int.reduceNeg, Int.reduceAdd, Int.reduceSub, Int.reduceMul, Nat.reduceMul, Nat.reduceLT, Nat.reduceLeDiff, isB, String.reduceBEq, Bool.or_true, Bool.or_false, Bool.and_true, Bool.and_false, Bool.true_and, Bool.false_and, Bool.false_or, Bool.true_or, Int.cast_ofNat_Int, Int.reduceBEq, Int.reduceBNe, BEq.rfl, wYes, wCut, pow_ok9, pow_ok18, pow_ok30, line_eq, put_same, put_put, List.mem_cons, List.not_mem_nil, or_false, addP_int, addP_str, addP_tup, addP_lst, intP_int, intP0_int, ordP_int, eqP_int, eqP_str, eqP_bl, eqP_non, ixP_str, ixP_lst, ixP_tup, ixP_scr, slcP_str, slcP_tup, slcP_lst, wiSeq_eq, walkP_tup, walkP_str, walkP_lst, walkP_scr, pure1, reprP]
      exact ⟨hy.row, hy.row, fine_bls, fine_bls, fy⟩
    rintro ρ S ⟨rfl, rfl⟩
    -- a word
    refine cut_intro (fun ρ S => ∃ (v : PV) (m4 : Nat), PlainC v ∧ m4 ≤ m3 + 27 ∧ ρ = [some (.scr (ns.map .int)), some (.ref p), some x, some (.lst (ws.map .str)), some (.lst ls), some y, e, some (.str (shw y)), some (.bl (isSal y)), some v, i] ∧ S = put S0 p (drw p m4)) ?_ ?_
    · simp only [startP, List.map_cons, List.map_nil, List.length_cons, List.length_nil, Nat.reduceAdd, Nat.reduceSub, List.reduceReplicate, List.cons_append, List.nil_append, List.append_nil, wSeq, wAsg, wgN, wgNil, wgCons, wgTup, wDrop, wRet, wRetN, wNext, wBrk, wCont, wIfS, wV, nth, stV, wC, wOp, wUn, wBool, wChain, wTru, truP, wAnd, wOr, wNot, wIfE, wAndV, wOrV, wNotV, wNil, wCons, wTup, wLst, wLstM, wCB, wPar, wPar3, wAug, wFor, wiRng1, wiRng2, seqL, seqO, rows, subP, fdivP, modP, powP, mulP, CDiv, CPow, CMul, neP, ltP, leP, gtP, geP, isNon, isP, isNotP, lenO, lenP, absP, min2P, max2P, listP, tupleP, allP, sumP, intCP, isinP, tysOf, seqK, keyOf, dgetP, wNoPart, wPart, slcMP, wSl, wRevL, tyM, wBm, appendP, popAtP, joinP, wDnewM, wPairs, wCall, wCallK, wFrz, wDput, dputP, eqNilP, List.isEmpty_nil, List.isEmpty_cons, Bool.not_true, Bool.not_false, Bool.true_eq_false, Bool.false_eq_true, and_true, true_and, ↓reduceIte, Int.reduceToNat, Int.reducePow, Int.reduceNeg, Int.reduceAdd, Int.reduceSub, Int.reduceMul, Nat.reduceMul, Nat.reduceLT, Nat.reduceLeDiff, isB, String.reduceBEq, Bool.or_true, Bool.or_false, Bool.and_true, Bool.and_false, Bool.true_and, Bool.false_and, Bool.false_or, Bool.true_or, Int.cast_ofNat_Int, Int.reduceBEq, Int.reduceBNe, BEq.rfl, wYes, wCut, pow_ok9, pow_ok18, pow_ok30, line_eq, put_same, put_put, List.mem_cons, List.not_mem_nil, or_false, addP_int, addP_str, addP_tup, addP_lst, intP_int, intP0_int, ordP_int, eqP_int, eqP_str, eqP_bl, eqP_non, ixP_str, ixP_lst, ixP_tup, ixP_scr, slcP_str, slcP_tup, slcP_lst, wiSeq_eq, walkP_tup, walkP_str, walkP_lst, walkP_scr]
      refine .mk (n := m3) put_same (by omega) fun w1 m4 o1 o2 => ?_
      refine .mk (n := m4) put_same (by omega) fun w2 m5 o3 o4 => ?_
      refine .mk (n := m5) (by rw [put_put, put_same]) rfl (by simp) (by simp) (by omega) fun v hv => ⟨v, m5 + 1, ?_, by omega, by trivial, by simp only [put_put]⟩
      simp only [List.mem_cons, List.not_mem_nil, or_false] at hv
      rcases hv with rfl | rfl | rfl | rfl | rfl | rfl | rfl | rfl
      · exact fit_str (o1.mono (by decide))
      · exact fit_str (o3.mono (by decide))
      · exact fit_non
      · exact plain_int (by decide)
      · exact fit_bl
      · exact (fit_lst (a := 0) (b := 5) fun x hx => by rw [List.mem_singleton.mp hx]; exact fit_lit (by decide +kernel)).mono (Nat.le_refl 1) (by decide)
      · exact (fit_tup (a := 0) (b := 5) fun x hx => by rw [List.mem_singleton.mp hx]; exact fit_lit (by decide +kernel)).mono (Nat.le_refl 1) (by decide)
      · exact fit_dic0
    rintro ρ S ⟨v, m4, hv, hm4, rfl, rfl⟩
    refine cut_intro (fun ρ S => ρ = [some (.scr (ns.map .int)), some (.ref p), some x, some (.lst (ws.map .str)), some (.lst ls), some y, e, some (.str (shw y)), some (.bl (isSal y)), some v, i] ∧ S = put S0 p (drw p m4)) ?_ ?_
    · simp only [startP, List.map_cons, List.map_nil, List.length_cons, List.length_nil, Nat.reduceAdd, Nat.reduceSub, List.reduceReplicate, List.cons_append, List.nil_append, List.append_nil, wSeq, wAsg, wgN, wgNil, wgCons, wgTup, wDrop, wRet, wRetN, wNext, wBrk, wCont, wIfS, wV, nth, stV, wC, wOp, wUn, wBool, wChain, wTru, truP, wAnd, wOr, wNot, wIfE, wAndV, wOrV, wNotV, wNil, wCons, wTup, wLst, wLstM, wCB, wPar, wPar3, wAug, wFor, wiRng1, wiRng2, seqL, seqO, rows, subP, fdivP, modP, powP, mulP, CDiv, CPow, CMul, neP, ltP, leP, gtP, geP, isNon, isP, isNotP, lenO, lenP, absP, min2P, max2P, listP, tupleP, allP, sumP, intCP, isinP, tysOf, seqK, keyOf, dgetP, wNoPart, wPart, slcMP, wSl, wRevL, tyM, wBm, appendP, popAtP, joinP, wDnewM, wPairs, wCall, wCallK, wFrz, wDput, dputP, eqNilP, List.isEmpty_nil, List.isEmpty_cons, Bool.not_true, Bool.not_false, Bool.true_eq_false, Bool.false_eq_true, and_true, true_and, ↓reduceIte, Int.reduceToNat, Int.reducePow, Int.reduceNeg, Int.reduceAdd, Int.reduceSub, Int.reduceMul, Nat.reduceMul, Nat.reduceLT, Nat.reduceLeDiff, isB, String.reduceBEq, Bool.or_true, Bool.or_false, Bool.and_true, Bool.and_false, Bool.true_and, Bool.false_and, Bool.false_or, Bool.true_or, Int.cast_ofNat_Int, Int.reduceBEq, Int.reduceBNe, BEq.rfl, wYes, wCut, pow_ok9, pow_ok18, pow_ok30, line_eq, put_same, put_put, List.mem_cons, List.not_mem_nil, or_false, addP_int, addP_str, addP_tup, addP_lst, intP_int, intP0_int, ordP_int, eqP_int, eqP_str, eqP_bl, eqP_non, ixP_str, ixP_lst, ixP_tup, ixP_scr, slcP_str, slcP_tup, slcP_lst, wiSeq_eq, walkP_tup, walkP_str, walkP_lst, walkP_scr, pure1, reprP]
      exact ⟨hv, hv, fine_bls, hv, hv, fine_bls⟩
    rintro ρ S ⟨rfl, rfl⟩
    -- a sum
    refine cut_intro (fun ρ S => ∃ k : Int, (0 ≤ k ∧ k ≤ 1000000001) ∧ ρ = [some (.scr (ns.map .int)), some (.ref p), some x, some (.lst (ws.map .str)), some (.lst ls), some y, e, some (.str (shw y)), some (.bl (isSal y)), some v, some (.int k)] ∧ S = put S0 p (drw p (m4 + 14))) ?_ ?_
    · simp only [startP, List.map_cons, List.map_nil, List.length_cons, List.length_nil, Nat.reduceAdd, Nat.reduceSub, List.reduceReplicate, List.cons_append, List.nil_append, List.append_nil, wSeq, wAsg, wgN, wgNil, wgCons, wgTup, wDrop, wRet, wRetN, wNext, wBrk, wCont, wIfS, wV, nth, stV, wC, wOp, wUn, wBool, wChain, wTru, truP, wAnd, wOr, wNot, wIfE, wAndV, wOrV, wNotV, wNil, wCons, wTup, wLst, wLstM, wCB, wPar, wPar3, wAug, wFor, wiRng1, wiRng2, seqL, seqO, rows, subP, fdivP, modP, powP, mulP, CDiv, CPow, CMul, neP, ltP, leP, gtP, geP, isNon, isP, isNotP, lenO, lenP, absP, min2P, max2P, listP, tupleP, allP, sumP, intCP, isinP, tysOf, seqK, keyOf, dgetP, wNoPart, wPart, slcMP, wSl, wRevL, tyM, wBm, appendP, popAtP, joinP, wDnewM, wPairs, wCall, wCallK, wFrz, wDput, dputP, eqNilP, List.isEmpty_nil, List.isEmpty_cons, Bool.not_true, Bool.not_false, Bool.true_eq_false, Bool.false_eq_true, and_true, true_and, ↓reduceIte, Int.reduceToNat, Int.reducePow, Int.reduceNeg, Int.reduceAdd, Int.reduceSub, Int.reduceMul, Nat.reduceMul, Nat.reduceLT, Nat.reduceLeDiff, isB, String.reduceBEq, Bool.or_true, Bool.or_false, Bool.and_true, Bool.and_false, Bool.true_and, Bool.false_and, Bool.false_or, Bool.true_or, Int.cast_ofNat_Int, Int.reduceBEq, Int.reduceBNe, BEq.rfl, wYes, wCut, pow_ok9, pow_ok18, pow_ok30, line_eq, put_same, put_put, List.mem_cons, List.not_mem_nil, or_false, addP_int, addP_str, addP_tup, addP_lst, intP_int, intP0_int, ordP_int, eqP_int, eqP_str, eqP_bl, eqP_non, ixP_str, ixP_lst, ixP_tup, ixP_scr, slcP_str, slcP_tup, slcP_lst, wiSeq_eq, walkP_tup, walkP_str, walkP_lst, walkP_scr]
      refine .mk (n := m4) put_same (by omega) fun k1 a1 b1 => ?_
      refine .mk (n := m4 + 6) put_same (by omega) fun k2 a2 b2 => ?_
      refine .mk (n := m4 + 12) (by rw [put_put, put_same]) (by decide) (by decide) (by omega) fun k3 a3 b3 => ?_
      simp only [startP, List.map_cons, List.map_nil, List.length_cons, List.length_nil, Nat.reduceAdd, Nat.reduceSub, List.reduceReplicate, List.cons_append, List.nil_append, List.append_nil, wSeq, wAsg, wgN, wgNil, wgCons, wgTup, wDrop, wRet, wRetN, wNext, wBrk, wCont, wIfS, wV, nth, stV, wC, wOp, wUn, wBool, wChain, wTru, truP, wAnd, wOr, wNot, wIfE, wAndV, wOrV, wNotV, wNil, wCons, wTup, wLst, wLstM, wCB, wPar, wPar3, wAug, wFor, wiRng1, wiRng2, seqL, seqO, rows, subP, fdivP, modP, powP, mulP, CDiv, CPow, CMul, neP, ltP, leP, gtP, geP, isNon, isP, isNotP, lenO, lenP, absP, min2P, max2P, listP, tupleP, allP, sumP, intCP, isinP, tysOf, seqK, keyOf, dgetP, wNoPart, wPart, slcMP, wSl, wRevL, tyM, wBm, appendP, popAtP, joinP, wDnewM, wPairs, wCall, wCallK, wFrz, wDput, dputP, eqNilP, List.isEmpty_nil, List.isEmpty_cons, Bool.not_true, Bool.not_false, Bool.true_eq_false, Bool.false_eq_true, and_true, true_and, ↓reduceIte, Int.reduceToNat, Int.reducePow, Int.reduceNeg, Int.reduceAdd, Int.reduceSub, Int.reduceMul, Nat.reduceMul, Nat.reduceLT, Nat.reduceLeDiff, isB, String.reduceBEq, Bool.or_true, Bool.or_false, Bool.and_true, Bool.and_false, Bool.true_and, Bool.false_and, Bool.false_or, Bool.true_or, Int.cast_ofNat_Int, Int.reduceBEq, Int.reduceBNe, BEq.rfl, wYes, wCut, pow_ok9, pow_ok18, pow_ok30, line_eq, put_same, put_put, List.mem_cons, List.not_mem_nil, or_false, addP_int, addP_str, addP_tup, addP_lst, intP_int, intP0_int, ordP_int, eqP_int, eqP_str, eqP_bl, eqP_non, ixP_str, ixP_lst, ixP_tup, ixP_scr, slcP_str, slcP_tup, slcP_lst, wiSeq_eq, walkP_tup, walkP_str, walkP_lst, walkP_scr]
      refine .mk (n := m4 + 13) put_same rfl (by simp) (by simp) (by omega) fun k hk => ?_
      simp only [List.mem_cons, List.not_mem_nil, or_false] at hk
      rcases hk with rfl | rfl | rfl
      · exact ⟨k1, ⟨by omega, by omega⟩, by trivial, by rw [put_put]⟩
      · exact ⟨k2, ⟨by omega, by omega⟩, by trivial, by rw [put_put]⟩
      · exact ⟨1000000001 - k3, ⟨by omega, by omega⟩, by trivial, by rw [put_put]⟩
    rintro ρ S ⟨k, hk, rfl, rfl⟩
    refine cut_intro (fun ρ S => ∃ u : PV, PlainC u ∧ ρ = [some (.scr (ns.map .int)), some (.ref p), some x, some (.lst (ws.map .str)), some (.lst ls), some y, e, some (.str (shw y)), some (.bl (isSal y)), some v, some u] ∧ S = put S0 p (drw p (m4 + 15))) ?_ ?_
    · simp only [startP, List.map_cons, List.map_nil, List.length_cons, List.length_nil, Nat.reduceAdd, Nat.reduceSub, List.reduceReplicate, List.cons_append, List.nil_append, List.append_nil, wSeq, wAsg, wgN, wgNil, wgCons, wgTup, wDrop, wRet, wRetN, wNext, wBrk, wCont, wIfS, wV, nth, stV, wC, wOp, wUn, wBool, wChain, wTru, truP, wAnd, wOr, wNot, wIfE, wAndV, wOrV, wNotV, wNil, wCons, wTup, wLst, wLstM, wCB, wPar, wPar3, wAug, wFor, wiRng1, wiRng2, seqL, seqO, rows, subP, fdivP, modP, powP, mulP, CDiv, CPow, CMul, neP, ltP, leP, gtP, geP, isNon, isP, isNotP, lenO, lenP, absP, min2P, max2P, listP, tupleP, allP, sumP, intCP, isinP, tysOf, seqK, keyOf, dgetP, wNoPart, wPart, slcMP, wSl, wRevL, tyM, wBm, appendP, popAtP, joinP, wDnewM, wPairs, wCall, wCallK, wFrz, wDput, dputP, eqNilP, List.isEmpty_nil, List.isEmpty_cons, Bool.not_true, Bool.not_false, Bool.true_eq_false, Bool.false_eq_true, and_true, true_and, ↓reduceIte, Int.reduceToNat, Int.reducePow, Int.reduceNeg, Int.reduceAdd, Int.reduceSub, Int.reduceMul, Nat.reduceMul, Nat.reduceLT, Nat.reduceLeDiff, isB, String.reduceBEq, Bool.or_true, Bool.or_false, Bool.and_true, Bool.and_false, Bool.true_and, Bool.false_and, Bool.false_or, Bool.true_or, Int.cast_ofNat_Int, Int.reduceBEq, Int.reduceBNe, BEq.rfl, wYes, wCut, pow_ok9, pow_ok18, pow_ok30, line_eq, put_same, put_put, List.mem_cons, List.not_mem_nil, or_false, addP_int, addP_str, addP_tup, addP_lst, intP_int, intP0_int, ordP_int, eqP_int, eqP_str, eqP_bl, eqP_non, ixP_str, ixP_lst, ixP_tup, ixP_scr, slcP_str, slcP_tup, slcP_lst, wiSeq_eq, walkP_tup, walkP_str, walkP_lst, walkP_scr]
      refine .mk (n := m4 + 14) put_same rfl (by simp) (by simp) (by omega) fun u hu => ⟨u, ?_, by trivial, by rw [put_put]⟩
      have big : (10 : Nat) ^ 50 = 100000000000000000000000000000000000000000000000000 := by decide
      simp only [List.mem_cons, List.not_mem_nil, or_false] at hu
      rcases hu with rfl | rfl | rfl | rfl | rfl | rfl | rfl | rfl | rfl | rfl | rfl | rfl
      · exact plain_int (by rw [big]; omega)
      · exact plain_int (by rw [big]; omega)
      · exact plain_int (by decide)
      · exact plain_int (by decide)
      · exact fit_bl
      · exact fit_bl
      · exact fit_non
      · exact fit_lit (by decide +kernel)
      · exact (fit_lst (a := 0) (b := 200) fun x hx => by rw [List.mem_singleton.mp hx]; exact fit_int (by decide)).mono (Nat.le_refl 1) (by decide)
      · exact (fit_tup (a := 0) (b := 200) fun x hx => by rw [List.mem_singleton.mp hx]; exact fit_int (by decide)).mono (Nat.le_refl 1) (by decide)
      · exact plain_int (by decide)
      · exact plain_int (by decide)
    rintro ρ S ⟨u, hu, rfl, rfl⟩
    simp only [startP, List.map_cons, List.map_nil, List.length_cons, List.length_nil, Nat.reduceAdd, Nat.reduceSub, List.reduceReplicate, List.cons_append, List.nil_append, List.append_nil, wSeq, wAsg, wgN, wgNil, wgCons, wgTup, wDrop, wRet, wRetN, wNext, wBrk, wCont, wIfS, wV, nth, stV, wC, wOp, wUn, wBool, wChain, wTru, truP, wAnd, wOr, wNot, wIfE, wAndV, wOrV, wNotV, wNil, wCons, wTup, wLst, wLstM, wCB, wPar, wPar3, wAug, wFor, wiRng1, wiRng2, seqL, seqO, rows, subP, fdivP, modP, powP, mulP, CDiv, CPow, CMul, neP, ltP, leP, gtP, geP, isNon, isP, isNotP, lenO, lenP, absP, min2P, max2P, listP, tupleP, allP, sumP, intCP, isinP, tysOf, seqK, keyOf, dgetP, wNoPart, wPart, slcMP, wSl, wRevL, tyM, wBm, appendP, popAtP, joinP, wDnewM, wPairs, wCall, wCallK, wFrz, wDput, dputP, eqNilP, List.isEmpty_nil, List.isEmpty_cons, Bool.not_true, Bool.not_false, Bool.true_eq_false, Bool.false_eq_true, and_true, true_and, ↓reduceIte, Int.reduceToNat, Int.reducePow, Int.reduceNeg, Int.reduceAdd, Int.reduceSub, Int.reduceMul, Nat.reduceMul, Nat.reduceLT, Nat.reduceLeDiff, isB, String.reduceBEq, Bool.or_true, Bool.or_false, Bool.and_true, Bool.and_false, Bool.true_and, Bool.false_and, Bool.false_or, Bool.true_or, Int.cast_ofNat_Int, Int.reduceBEq, Int.reduceBNe, BEq.rfl, wYes, wCut, pow_ok9, pow_ok18, pow_ok30, line_eq, put_same, put_put, List.mem_cons, List.not_mem_nil, or_false, addP_int, addP_str, addP_tup, addP_lst, intP_int, intP0_int, ordP_int, eqP_int, eqP_str, eqP_bl, eqP_non, ixP_str, ixP_lst, ixP_tup, ixP_scr, slcP_str, slcP_tup, slcP_lst, wiSeq_eq, walkP_tup, walkP_str, walkP_lst, walkP_scr, pure1, reprP]
    refine ⟨hu, hu, fine_bls, hu, hu, fine_bls, done ++ [x], by rw [ed, List.append_assoc]; rfl, m4 + 15, some x, some (.lst (ws.map .str)), some (.lst ls), some y, e, some (.str (shw y)), some (.bl (isSal y)), some v, some u, ?_, rfl, rfl⟩
    rw [List.length_append]
    show m4 + 15 ≤ 200 * (done.length + 1)
    omega
  rintro ρ S -
  simp only [startP, List.map_cons, List.map_nil, List.length_cons, List.length_nil, Nat.reduceAdd, Nat.reduceSub, List.reduceReplicate, List.cons_append, List.nil_append, List.append_nil, wSeq, wAsg, wgN, wgNil, wgCons, wgTup, wDrop, wRet, wRetN, wNext, wBrk, wCont, wIfS, wV, nth, stV, wC, wOp, wUn, wBool, wChain, wTru, truP, wAnd, wOr, wNot, wIfE, wAndV, wOrV, wNotV, wNil, wCons, wTup, wLst, wLstM, wCB, wPar, wPar3, wAug, wFor, wiRng1, wiRng2, seqL, seqO, rows, subP, fdivP, modP, powP, mulP, CDiv, CPow, CMul, neP, ltP, leP, gtP, geP, isNon, isP, isNotP, lenO, lenP, absP, min2P, max2P, listP, tupleP, allP, sumP, intCP, isinP, tysOf, seqK, keyOf, dgetP, wNoPart, wPart, slcMP, wSl, wRevL, tyM, wBm, appendP, popAtP, joinP, wDnewM, wPairs, wCall, wCallK, wFrz, wDput, dputP, eqNilP, List.isEmpty_nil, List.isEmpty_cons, Bool.not_true, Bool.not_false, Bool.true_eq_false, Bool.false_eq_true, and_true, true_and, ↓reduceIte, Int.reduceToNat, Int.reducePow, Int.reduceNeg, Int.reduceAdd, Int.reduceSub, Int.reduceMul, Nat.reduceMul, Nat.reduceLT, Nat.reduceLeDiff, isB, String.reduceBEq, Bool.or_true, Bool.or_false, Bool.and_true, Bool.and_false, Bool.true_and, Bool.false_and, Bool.false_or, Bool.true_or, Int.cast_ofNat_Int, Int.reduceBEq, Int.reduceBNe, BEq.rfl, wYes, wCut, pow_ok9, pow_ok18, pow_ok30, line_eq, put_same, put_put, List.mem_cons, List.not_mem_nil, or_false, addP_int, addP_str, addP_tup, addP_lst, intP_int, intP0_int, ordP_int, eqP_int, eqP_str, eqP_bl, eqP_non, ixP_str, ixP_lst, ixP_tup, ixP_scr, slcP_str, slcP_tup, slcP_lst, wiSeq_eq, walkP_tup, walkP_str, walkP_lst, walkP_scr]
  exact q _

theorem all_mk {l : PySem.W.OpenLaw} {w : World} {K : PySem.W.Frag} {h : Heap} {mg : Str → Option Value} {fa : Addr} (X : K.In h) (G : h.Ns mainGlobals mg) (hfa : mg "law" = some (.ref fa))
    {f_is_number : Addr} {od_is_number an_is_number : Option Addr} {sl_is_number : Array (Option Value)} {oc_is_number kV_is_number dc_is_number pm_is_number cd_is_number ct_is_number : Value} {f_is_name : Addr} {od_is_name an_is_name : Option Addr} {sl_is_name : Array (Option Value)} {oc_is_name kV_is_name dc_is_name pm_is_name cd_is_name ct_is_name : Value} {f_is_amount : Addr} {od_is_amount an_is_amount : Option Addr} {sl_is_amount : Array (Option Value)} {oc_is_amount kV_is_amount dc_is_amount pm_is_amount cd_is_amount ct_is_amount : Value} {f_is_sale : Addr} {od_is_sale an_is_sale : Option Addr} {sl_is_sale : Array (Option Value)} {oc_is_sale kV_is_sale dc_is_sale pm_is_sale cd_is_sale ct_is_sale : Value} {f_law_begun : Addr} {od_law_begun an_law_begun : Option Addr} {sl_law_begun : Array (Option Value)} {oc_law_begun kV_law_begun dc_law_begun pm_law_begun cd_law_begun ct_law_begun : Value} {f_law_take : Addr} {od_law_take an_law_take : Option Addr} {sl_law_take : Array (Option Value)} {oc_law_take kV_law_take dc_law_take pm_law_take cd_law_take ct_law_take : Value} {f_law_pick : Addr} {od_law_pick an_law_pick : Option Addr} {sl_law_pick : Array (Option Value)} {oc_law_pick kV_law_pick dc_law_pick pm_law_pick cd_law_pick ct_law_pick : Value} {f_law_names : Addr} {od_law_names an_law_names : Option Addr} {sl_law_names : Array (Option Value)} {oc_law_names kV_law_names dc_law_names pm_law_names cd_law_names ct_law_names : Value} {f_law_amount : Addr} {od_law_amount an_law_amount : Option Addr} {sl_law_amount : Array (Option Value)} {oc_law_amount kV_law_amount dc_law_amount pm_law_amount cd_law_amount ct_law_amount : Value} {f_law_sales : Addr} {od_law_sales an_law_sales : Option Addr} {sl_law_sales : Array (Option Value)} {oc_law_sales kV_law_sales dc_law_sales pm_law_sales cd_law_sales ct_law_sales : Value} {f_law_is_name : Addr} {od_law_is_name an_law_is_name : Option Addr} {sl_law_is_name : Array (Option Value)} {oc_law_is_name kV_law_is_name dc_law_is_name pm_law_is_name cd_law_is_name ct_law_is_name : Value} {f_law_is_money : Addr} {od_law_is_money an_law_is_money : Option Addr} {sl_law_is_money : Array (Option Value)} {oc_law_is_money kV_law_is_money dc_law_is_money pm_law_is_money cd_law_is_money ct_law_is_money : Value} {f_law_is_sale : Addr} {od_law_is_sale an_law_is_sale : Option Addr} {sl_law_is_sale : Array (Option Value)} {oc_law_is_sale kV_law_is_sale dc_law_is_sale pm_law_is_sale cd_law_is_sale ct_law_is_sale : Value} {f_law_bent : Addr} {od_law_bent an_law_bent : Option Addr} {sl_law_bent : Array (Option Value)} {oc_law_bent kV_law_bent dc_law_bent pm_law_bent cd_law_bent ct_law_bent : Value} {f_law_word : Addr} {od_law_word an_law_word : Option Addr} {sl_law_word : Array (Option Value)} {oc_law_word kV_law_word dc_law_word pm_law_word cd_law_word ct_law_word : Value} {f_law : Addr} {od_law an_law : Option Addr} {sl_law : Array (Option Value)} {oc_law kV_law dc_law pm_law cd_law ct_law : Value} {t_LETTERS : Tok} {t_LONGEST_NAME : Tok} {C_Accounts : Addr}  {t_Accounts_MOST : Tok}
        (z_is_number : PySem.W.nsIn K mainGlobals "is_number" = some (some (.ref f_is_number)))
    (l_is_number : K.lookup f_is_number = some ⟨oc_is_number, od_is_number, .func (PySem.W.fnOf "is_number" "is_number" (defArgs s_is_number) (defBody s_is_number) (defScope s_is_number) .none kV_is_number dc_is_number pm_is_number an_is_number cd_is_number ct_is_number), sl_is_number⟩) (c_is_number : PySem.W.codeIn K cd_is_number "is_number" = true) (k_is_number : PySem.W.keepIn K (.ref f_is_number) = true)
    (z_is_name : PySem.W.nsIn K mainGlobals "is_name" = some (some (.ref f_is_name)))
    (l_is_name : K.lookup f_is_name = some ⟨oc_is_name, od_is_name, .func (PySem.W.fnOf "is_name" "is_name" (defArgs s_is_name) (defBody s_is_name) (defScope s_is_name) .none kV_is_name dc_is_name pm_is_name an_is_name cd_is_name ct_is_name), sl_is_name⟩) (c_is_name : PySem.W.codeIn K cd_is_name "is_name" = true) (k_is_name : PySem.W.keepIn K (.ref f_is_name) = true)
    (z_is_amount : PySem.W.nsIn K mainGlobals "is_amount" = some (some (.ref f_is_amount)))
    (l_is_amount : K.lookup f_is_amount = some ⟨oc_is_amount, od_is_amount, .func (PySem.W.fnOf "is_amount" "is_amount" (defArgs s_is_amount) (defBody s_is_amount) (defScope s_is_amount) .none kV_is_amount dc_is_amount pm_is_amount an_is_amount cd_is_amount ct_is_amount), sl_is_amount⟩) (c_is_amount : PySem.W.codeIn K cd_is_amount "is_amount" = true) (k_is_amount : PySem.W.keepIn K (.ref f_is_amount) = true)
    (z_is_sale : PySem.W.nsIn K mainGlobals "is_sale" = some (some (.ref f_is_sale)))
    (l_is_sale : K.lookup f_is_sale = some ⟨oc_is_sale, od_is_sale, .func (PySem.W.fnOf "is_sale" "is_sale" (defArgs s_is_sale) (defBody s_is_sale) (defScope s_is_sale) .none kV_is_sale dc_is_sale pm_is_sale an_is_sale cd_is_sale ct_is_sale), sl_is_sale⟩) (c_is_sale : PySem.W.codeIn K cd_is_sale "is_sale" = true) (k_is_sale : PySem.W.keepIn K (.ref f_is_sale) = true)
    (z__law_begun : PySem.W.nsIn K mainGlobals "_law_begun" = some (some (.ref f_law_begun)))
    (l_law_begun : K.lookup f_law_begun = some ⟨oc_law_begun, od_law_begun, .func (PySem.W.fnOf "_law_begun" "_law_begun" (defArgs s_law_begun) (defBody s_law_begun) (defScope s_law_begun) .none kV_law_begun dc_law_begun pm_law_begun an_law_begun cd_law_begun ct_law_begun), sl_law_begun⟩) (c_law_begun : PySem.W.codeIn K cd_law_begun "_law_begun" = true) (k_law_begun : PySem.W.keepIn K (.ref f_law_begun) = true)
    (z__law_take : PySem.W.nsIn K mainGlobals "_law_take" = some (some (.ref f_law_take)))
    (l_law_take : K.lookup f_law_take = some ⟨oc_law_take, od_law_take, .func (PySem.W.fnOf "_law_take" "_law_take" (defArgs s_law_take) (defBody s_law_take) (defScope s_law_take) .none kV_law_take dc_law_take pm_law_take an_law_take cd_law_take ct_law_take), sl_law_take⟩) (c_law_take : PySem.W.codeIn K cd_law_take "_law_take" = true) (k_law_take : PySem.W.keepIn K (.ref f_law_take) = true)
    (z__law_pick : PySem.W.nsIn K mainGlobals "_law_pick" = some (some (.ref f_law_pick)))
    (l_law_pick : K.lookup f_law_pick = some ⟨oc_law_pick, od_law_pick, .func (PySem.W.fnOf "_law_pick" "_law_pick" (defArgs s_law_pick) (defBody s_law_pick) (defScope s_law_pick) .none kV_law_pick dc_law_pick pm_law_pick an_law_pick cd_law_pick ct_law_pick), sl_law_pick⟩) (c_law_pick : PySem.W.codeIn K cd_law_pick "_law_pick" = true) (k_law_pick : PySem.W.keepIn K (.ref f_law_pick) = true)
    (z__law_names : PySem.W.nsIn K mainGlobals "_law_names" = some (some (.ref f_law_names)))
    (l_law_names : K.lookup f_law_names = some ⟨oc_law_names, od_law_names, .func (PySem.W.fnOf "_law_names" "_law_names" (defArgs s_law_names) (defBody s_law_names) (defScope s_law_names) .none kV_law_names dc_law_names pm_law_names an_law_names cd_law_names ct_law_names), sl_law_names⟩) (c_law_names : PySem.W.codeIn K cd_law_names "_law_names" = true) (k_law_names : PySem.W.keepIn K (.ref f_law_names) = true)
    (z__law_amount : PySem.W.nsIn K mainGlobals "_law_amount" = some (some (.ref f_law_amount)))
    (l_law_amount : K.lookup f_law_amount = some ⟨oc_law_amount, od_law_amount, .func (PySem.W.fnOf "_law_amount" "_law_amount" (defArgs s_law_amount) (defBody s_law_amount) (defScope s_law_amount) .none kV_law_amount dc_law_amount pm_law_amount an_law_amount cd_law_amount ct_law_amount), sl_law_amount⟩) (c_law_amount : PySem.W.codeIn K cd_law_amount "_law_amount" = true) (k_law_amount : PySem.W.keepIn K (.ref f_law_amount) = true)
    (z__law_sales : PySem.W.nsIn K mainGlobals "_law_sales" = some (some (.ref f_law_sales)))
    (l_law_sales : K.lookup f_law_sales = some ⟨oc_law_sales, od_law_sales, .func (PySem.W.fnOf "_law_sales" "_law_sales" (defArgs s_law_sales) (defBody s_law_sales) (defScope s_law_sales) .none kV_law_sales dc_law_sales pm_law_sales an_law_sales cd_law_sales ct_law_sales), sl_law_sales⟩) (c_law_sales : PySem.W.codeIn K cd_law_sales "_law_sales" = true) (k_law_sales : PySem.W.keepIn K (.ref f_law_sales) = true)
    (z__law_is_name : PySem.W.nsIn K mainGlobals "_law_is_name" = some (some (.ref f_law_is_name)))
    (l_law_is_name : K.lookup f_law_is_name = some ⟨oc_law_is_name, od_law_is_name, .func (PySem.W.fnOf "_law_is_name" "_law_is_name" (defArgs s_law_is_name) (defBody s_law_is_name) (defScope s_law_is_name) .none kV_law_is_name dc_law_is_name pm_law_is_name an_law_is_name cd_law_is_name ct_law_is_name), sl_law_is_name⟩) (c_law_is_name : PySem.W.codeIn K cd_law_is_name "_law_is_name" = true) (k_law_is_name : PySem.W.keepIn K (.ref f_law_is_name) = true)
    (z__law_is_money : PySem.W.nsIn K mainGlobals "_law_is_money" = some (some (.ref f_law_is_money)))
    (l_law_is_money : K.lookup f_law_is_money = some ⟨oc_law_is_money, od_law_is_money, .func (PySem.W.fnOf "_law_is_money" "_law_is_money" (defArgs s_law_is_money) (defBody s_law_is_money) (defScope s_law_is_money) .none kV_law_is_money dc_law_is_money pm_law_is_money an_law_is_money cd_law_is_money ct_law_is_money), sl_law_is_money⟩) (c_law_is_money : PySem.W.codeIn K cd_law_is_money "_law_is_money" = true) (k_law_is_money : PySem.W.keepIn K (.ref f_law_is_money) = true)
    (z__law_is_sale : PySem.W.nsIn K mainGlobals "_law_is_sale" = some (some (.ref f_law_is_sale)))
    (l_law_is_sale : K.lookup f_law_is_sale = some ⟨oc_law_is_sale, od_law_is_sale, .func (PySem.W.fnOf "_law_is_sale" "_law_is_sale" (defArgs s_law_is_sale) (defBody s_law_is_sale) (defScope s_law_is_sale) .none kV_law_is_sale dc_law_is_sale pm_law_is_sale an_law_is_sale cd_law_is_sale ct_law_is_sale), sl_law_is_sale⟩) (c_law_is_sale : PySem.W.codeIn K cd_law_is_sale "_law_is_sale" = true) (k_law_is_sale : PySem.W.keepIn K (.ref f_law_is_sale) = true)
    (z__law_bent : PySem.W.nsIn K mainGlobals "_law_bent" = some (some (.ref f_law_bent)))
    (l_law_bent : K.lookup f_law_bent = some ⟨oc_law_bent, od_law_bent, .func (PySem.W.fnOf "_law_bent" "_law_bent" (defArgs s_law_bent) (defBody s_law_bent) (defScope s_law_bent) .none kV_law_bent dc_law_bent pm_law_bent an_law_bent cd_law_bent ct_law_bent), sl_law_bent⟩) (c_law_bent : PySem.W.codeIn K cd_law_bent "_law_bent" = true) (k_law_bent : PySem.W.keepIn K (.ref f_law_bent) = true)
    (z__law_word : PySem.W.nsIn K mainGlobals "_law_word" = some (some (.ref f_law_word)))
    (l_law_word : K.lookup f_law_word = some ⟨oc_law_word, od_law_word, .func (PySem.W.fnOf "_law_word" "_law_word" (defArgs s_law_word) (defBody s_law_word) (defScope s_law_word) .none kV_law_word dc_law_word pm_law_word an_law_word cd_law_word ct_law_word), sl_law_word⟩) (c_law_word : PySem.W.codeIn K cd_law_word "_law_word" = true) (k_law_word : PySem.W.keepIn K (.ref f_law_word) = true)
    (z_law : PySem.W.nsIn K mainGlobals "law" = some (some (.ref f_law)))
    (l_law : K.lookup f_law = some ⟨oc_law, od_law, .func (PySem.W.fnOf "law" "law" (defArgs s_law) (defBody s_law) (defScope s_law) .none kV_law dc_law pm_law an_law cd_law ct_law), sl_law⟩) (c_law : PySem.W.codeIn K cd_law "law" = true) (k_law : PySem.W.keepIn K (.ref f_law) = true)
    (z_abs : PySem.W.nsIn K mainGlobals "abs" = some none)
    (z_all : PySem.W.nsIn K mainGlobals "all" = some none)
    (z_bool : PySem.W.nsIn K mainGlobals "bool" = some none)
    (z_int : PySem.W.nsIn K mainGlobals "int" = some none)
    (z_isinstance : PySem.W.nsIn K mainGlobals "isinstance" = some none)
    (z_len : PySem.W.nsIn K mainGlobals "len" = some none)
    (z_list : PySem.W.nsIn K mainGlobals "list" = some none)
    (z_min : PySem.W.nsIn K mainGlobals "min" = some none)
    (z_range : PySem.W.nsIn K mainGlobals "range" = some none)
    (z_repr : PySem.W.nsIn K mainGlobals "repr" = some none)
    (z_str : PySem.W.nsIn K mainGlobals "str" = some none)
    (z_tuple : PySem.W.nsIn K mainGlobals "tuple" = some none)
    (z_LETTERS : PySem.W.nsIn K mainGlobals "LETTERS" = some (some (.str "abcdefghijklmnopqrstuvwxyz" t_LETTERS)))
    (z_LONGEST_NAME : PySem.W.nsIn K mainGlobals "LONGEST_NAME" = some (some (.int 8 t_LONGEST_NAME)))
    (z_Accounts : PySem.W.nsIn K mainGlobals "Accounts" = some (some (.ref C_Accounts)))
    (rd_Accounts : PySem.W.readsIn K C_Accounts (.type "type") = true) (ga_Accounts : PySem.W.specialIn K (.ref C_Accounts) "__getattribute__" = some (some (.builtin "type.__getattribute__")))
    (cv_Accounts_MOST : PySem.W.findCls K (.ref C_Accounts) (.type "type") "MOST" = some (.val (.int 1000000000 t_Accounts_MOST))) :
    ∃ fd : FuncData, (∀ (s : Shared) (v : Value), BindsTo s fd ⟨[v], []⟩ [("_law_script", v)]) ∧ ∀ base : Heap, K.In base → base.Ns mainGlobals mg → NoSys base → FnG l.prog w K mg base 5 fa fd ["_law_script"] sp_law := by
  obtain rfl : f_law = fa := (Value.ref.inj (Option.some.inj (hfa.symm.trans (PySem.W.mg_of X G z_law)))).symm
  let T : ∀ base : Heap, NoSys base → Tx K mg base := fun base B => { f_is_number := f_is_number, d_is_number := PySem.W.fnOf "is_number" "is_number" (defArgs s_is_number) (defBody s_is_number) (defScope s_is_number) .none kV_is_number dc_is_number pm_is_number an_is_number cd_is_number ct_is_number, F_is_number := fun_mk l_is_number c_is_number k_is_number, b_is_number := (fun_mk (st := s_is_number) l_is_number c_is_number k_is_number).binds (ps := ["value"]) fun _ _ _ _ _ _ us hl => match us, hl with | [_], _ => rfl, g_is_number := PySem.W.mg_of X G z_is_number, f_is_name := f_is_name, d_is_name := PySem.W.fnOf "is_name" "is_name" (defArgs s_is_name) (defBody s_is_name) (defScope s_is_name) .none kV_is_name dc_is_name pm_is_name an_is_name cd_is_name ct_is_name, F_is_name := fun_mk l_is_name c_is_name k_is_name, b_is_name := (fun_mk (st := s_is_name) l_is_name c_is_name k_is_name).binds (ps := ["value"]) fun _ _ _ _ _ _ us hl => match us, hl with | [_], _ => rfl, g_is_name := PySem.W.mg_of X G z_is_name, f_is_amount := f_is_amount, d_is_amount := PySem.W.fnOf "is_amount" "is_amount" (defArgs s_is_amount) (defBody s_is_amount) (defScope s_is_amount) .none kV_is_amount dc_is_amount pm_is_amount an_is_amount cd_is_amount ct_is_amount, F_is_amount := fun_mk l_is_amount c_is_amount k_is_amount, b_is_amount := (fun_mk (st := s_is_amount) l_is_amount c_is_amount k_is_amount).binds (ps := ["value"]) fun _ _ _ _ _ _ us hl => match us, hl with | [_], _ => rfl, g_is_amount := PySem.W.mg_of X G z_is_amount, f_is_sale := f_is_sale, d_is_sale := PySem.W.fnOf "is_sale" "is_sale" (defArgs s_is_sale) (defBody s_is_sale) (defScope s_is_sale) .none kV_is_sale dc_is_sale pm_is_sale an_is_sale cd_is_sale ct_is_sale, F_is_sale := fun_mk l_is_sale c_is_sale k_is_sale, b_is_sale := (fun_mk (st := s_is_sale) l_is_sale c_is_sale k_is_sale).binds (ps := ["value"]) fun _ _ _ _ _ _ us hl => match us, hl with | [_], _ => rfl, g_is_sale := PySem.W.mg_of X G z_is_sale, f__law_begun := f_law_begun, d__law_begun := PySem.W.fnOf "_law_begun" "_law_begun" (defArgs s_law_begun) (defBody s_law_begun) (defScope s_law_begun) .none kV_law_begun dc_law_begun pm_law_begun an_law_begun cd_law_begun ct_law_begun, F__law_begun := fun_mk l_law_begun c_law_begun k_law_begun, b__law_begun := (fun_mk (st := s_law_begun) l_law_begun c_law_begun k_law_begun).binds (ps := ["_law_script"]) fun _ _ _ _ _ _ us hl => match us, hl with | [_], _ => rfl, g__law_begun := PySem.W.mg_of X G z__law_begun, f__law_take := f_law_take, d__law_take := PySem.W.fnOf "_law_take" "_law_take" (defArgs s_law_take) (defBody s_law_take) (defScope s_law_take) .none kV_law_take dc_law_take pm_law_take an_law_take cd_law_take ct_law_take, F__law_take := fun_mk l_law_take c_law_take k_law_take, b__law_take := (fun_mk (st := s_law_take) l_law_take c_law_take k_law_take).binds (ps := ["_law_state", "_law_size"]) fun _ _ _ _ _ _ us hl => match us, hl with | [_, _], _ => rfl, g__law_take := PySem.W.mg_of X G z__law_take, f__law_pick := f_law_pick, d__law_pick := PySem.W.fnOf "_law_pick" "_law_pick" (defArgs s_law_pick) (defBody s_law_pick) (defScope s_law_pick) .none kV_law_pick dc_law_pick pm_law_pick an_law_pick cd_law_pick ct_law_pick, F__law_pick := fun_mk l_law_pick c_law_pick k_law_pick, b__law_pick := (fun_mk (st := s_law_pick) l_law_pick c_law_pick k_law_pick).binds (ps := ["_law_state", "_law_some"]) fun _ _ _ _ _ _ us hl => match us, hl with | [_, _], _ => rfl, g__law_pick := PySem.W.mg_of X G z__law_pick, f__law_names := f_law_names, d__law_names := PySem.W.fnOf "_law_names" "_law_names" (defArgs s_law_names) (defBody s_law_names) (defScope s_law_names) .none kV_law_names dc_law_names pm_law_names an_law_names cd_law_names ct_law_names, F__law_names := fun_mk l_law_names c_law_names k_law_names, b__law_names := (fun_mk (st := s_law_names) l_law_names c_law_names k_law_names).binds (ps := ["_law_state", "_law_many"]) fun _ _ _ _ _ _ us hl => match us, hl with | [_, _], _ => rfl, g__law_names := PySem.W.mg_of X G z__law_names, f__law_amount := f_law_amount, d__law_amount := PySem.W.fnOf "_law_amount" "_law_amount" (defArgs s_law_amount) (defBody s_law_amount) (defScope s_law_amount) .none kV_law_amount dc_law_amount pm_law_amount an_law_amount cd_law_amount ct_law_amount, F__law_amount := fun_mk l_law_amount c_law_amount k_law_amount, b__law_amount := (fun_mk (st := s_law_amount) l_law_amount c_law_amount k_law_amount).binds (ps := ["_law_state"]) fun _ _ _ _ _ _ us hl => match us, hl with | [_], _ => rfl, g__law_amount := PySem.W.mg_of X G z__law_amount, f__law_sales := f_law_sales, d__law_sales := PySem.W.fnOf "_law_sales" "_law_sales" (defArgs s_law_sales) (defBody s_law_sales) (defScope s_law_sales) .none kV_law_sales dc_law_sales pm_law_sales an_law_sales cd_law_sales ct_law_sales, F__law_sales := fun_mk l_law_sales c_law_sales k_law_sales, b__law_sales := (fun_mk (st := s_law_sales) l_law_sales c_law_sales k_law_sales).binds (ps := ["_law_state", "_law_names_here", "_law_many", "_law_times"]) fun _ _ _ _ _ _ us hl => match us, hl with | [_, _, _, _], _ => rfl, g__law_sales := PySem.W.mg_of X G z__law_sales, f__law_is_name := f_law_is_name, d__law_is_name := PySem.W.fnOf "_law_is_name" "_law_is_name" (defArgs s_law_is_name) (defBody s_law_is_name) (defScope s_law_is_name) .none kV_law_is_name dc_law_is_name pm_law_is_name an_law_is_name cd_law_is_name ct_law_is_name, F__law_is_name := fun_mk l_law_is_name c_law_is_name k_law_is_name, b__law_is_name := (fun_mk (st := s_law_is_name) l_law_is_name c_law_is_name k_law_is_name).binds (ps := ["_law_thing"]) fun _ _ _ _ _ _ us hl => match us, hl with | [_], _ => rfl, g__law_is_name := PySem.W.mg_of X G z__law_is_name, f__law_is_money := f_law_is_money, d__law_is_money := PySem.W.fnOf "_law_is_money" "_law_is_money" (defArgs s_law_is_money) (defBody s_law_is_money) (defScope s_law_is_money) .none kV_law_is_money dc_law_is_money pm_law_is_money an_law_is_money cd_law_is_money ct_law_is_money, F__law_is_money := fun_mk l_law_is_money c_law_is_money k_law_is_money, b__law_is_money := (fun_mk (st := s_law_is_money) l_law_is_money c_law_is_money k_law_is_money).binds (ps := ["_law_thing"]) fun _ _ _ _ _ _ us hl => match us, hl with | [_], _ => rfl, g__law_is_money := PySem.W.mg_of X G z__law_is_money, f__law_is_sale := f_law_is_sale, d__law_is_sale := PySem.W.fnOf "_law_is_sale" "_law_is_sale" (defArgs s_law_is_sale) (defBody s_law_is_sale) (defScope s_law_is_sale) .none kV_law_is_sale dc_law_is_sale pm_law_is_sale an_law_is_sale cd_law_is_sale ct_law_is_sale, F__law_is_sale := fun_mk l_law_is_sale c_law_is_sale k_law_is_sale, b__law_is_sale := (fun_mk (st := s_law_is_sale) l_law_is_sale c_law_is_sale k_law_is_sale).binds (ps := ["_law_thing"]) fun _ _ _ _ _ _ us hl => match us, hl with | [_], _ => rfl, g__law_is_sale := PySem.W.mg_of X G z__law_is_sale, f__law_bent := f_law_bent, d__law_bent := PySem.W.fnOf "_law_bent" "_law_bent" (defArgs s_law_bent) (defBody s_law_bent) (defScope s_law_bent) .none kV_law_bent dc_law_bent pm_law_bent an_law_bent cd_law_bent ct_law_bent, F__law_bent := fun_mk l_law_bent c_law_bent k_law_bent, b__law_bent := (fun_mk (st := s_law_bent) l_law_bent c_law_bent k_law_bent).binds (ps := ["_law_state", "_law_thing"]) fun _ _ _ _ _ _ us hl => match us, hl with | [_, _], _ => rfl, g__law_bent := PySem.W.mg_of X G z__law_bent, f__law_word := f_law_word, d__law_word := PySem.W.fnOf "_law_word" "_law_word" (defArgs s_law_word) (defBody s_law_word) (defScope s_law_word) .none kV_law_word dc_law_word pm_law_word an_law_word cd_law_word ct_law_word, F__law_word := fun_mk l_law_word c_law_word k_law_word, b__law_word := (fun_mk (st := s_law_word) l_law_word c_law_word k_law_word).binds (ps := ["_law_state"]) fun _ _ _ _ _ _ us hl => match us, hl with | [_], _ => rfl, g__law_word := PySem.W.mg_of X G z__law_word, f_law := f_law, d_law := PySem.W.fnOf "law" "law" (defArgs s_law) (defBody s_law) (defScope s_law) .none kV_law dc_law pm_law an_law cd_law ct_law, F_law := fun_mk l_law c_law k_law, b_law := (fun_mk (st := s_law) l_law c_law k_law).binds (ps := ["_law_script"]) fun _ _ _ _ _ _ us hl => match us, hl with | [_], _ => rfl, g_law := PySem.W.mg_of X G z_law, m_abs := PySem.W.mg_none_of X G z_abs, m_all := PySem.W.mg_none_of X G z_all, m_bool := PySem.W.mg_none_of X G z_bool, m_int := PySem.W.mg_none_of X G z_int, m_isinstance := PySem.W.mg_none_of X G z_isinstance, m_len := PySem.W.mg_none_of X G z_len, m_list := PySem.W.mg_none_of X G z_list, m_min := PySem.W.mg_none_of X G z_min, m_range := PySem.W.mg_none_of X G z_range, m_repr := PySem.W.mg_none_of X G z_repr, m_str := PySem.W.mg_none_of X G z_str, m_tuple := PySem.W.mg_none_of X G z_tuple, t_LETTERS := t_LETTERS, g_LETTERS := PySem.W.mg_of X G z_LETTERS, t_LONGEST_NAME := t_LONGEST_NAME, g_LONGEST_NAME := PySem.W.mg_of X G z_LONGEST_NAME, C_Accounts := C_Accounts, mc_Accounts := .type "type", g_Accounts := PySem.W.mg_of X G z_Accounts, r_Accounts := ⟨rd_Accounts, ga_Accounts⟩, t_Accounts_MOST := t_Accounts_MOST, c_Accounts_MOST := ⟨cv_Accounts_MOST, ⟨_, rfl⟩⟩, kb_is_amount_value := ⟨fun s us ws _ h1 h2 => match us, h1, ws, h2 with | [], _, [_], _ => .of_eq rfl, fun _ _ r1 r2 q1 q2 => ⟨_, r1.append r2, q1.app q2⟩⟩, kb_is_name_value := ⟨fun s us ws _ h1 h2 => match us, h1, ws, h2 with | [], _, [_], _ => .of_eq rfl, fun _ _ r1 r2 q1 q2 => ⟨_, r1.append r2, q1.app q2⟩⟩, kb_is_sale_value := ⟨fun s us ws _ h1 h2 => match us, h1, ws, h2 with | [], _, [_], _ => .of_eq rfl, fun _ _ r1 r2 q1 q2 => ⟨_, r1.append r2, q1.app q2⟩⟩, noSys := B }
  exact ⟨_, fun s v => .of_eq rfl, fun base _ _ B => ok_law (T base B)⟩
end
end L2.Pv
open PySem PySem.W PyProof.Rows
set_option maxHeartbeats 0 in
theorem PySem.Challenge.cw_regretmart_k02_sales_judged_holds : PySem.Challenge.rw_regretmart_k02_sales_judged.Holds := by
  w_on; o_law; k_head; (case hw => w_witness2)
  k_fill
  refine L2.Pv.walk_ofG (l := PySem.Challenge.rw_regretmart_k02_sales_judged) (n := 63) (k := 5) (x := "_law_script") (sp := L2.Pv.sp_law) (by decide +kernel) rfl (by decide) rfl ⟨rfl, by decide, by decide⟩ (fun w h Y => PySem.W.kIn_of Y) ?F (fun ns hl => ⟨ns, rfl, hl, fun _ => rfl⟩)
  case F =>
    intro w mg fa h KX G hmg
    refine' L2.Pv.all_mk KX G hmg ?z_is_number ?l_is_number ?c_is_number ?k_is_number ?z_is_name ?l_is_name ?c_is_name ?k_is_name ?z_is_amount ?l_is_amount ?c_is_amount ?k_is_amount ?z_is_sale ?l_is_sale ?c_is_sale ?k_is_sale ?z__law_begun ?l_law_begun ?c_law_begun ?k_law_begun ?z__law_take ?l_law_take ?c_law_take ?k_law_take ?z__law_pick ?l_law_pick ?c_law_pick ?k_law_pick ?z__law_names ?l_law_names ?c_law_names ?k_law_names ?z__law_amount ?l_law_amount ?c_law_amount ?k_law_amount ?z__law_sales ?l_law_sales ?c_law_sales ?k_law_sales ?z__law_is_name ?l_law_is_name ?c_law_is_name ?k_law_is_name ?z__law_is_money ?l_law_is_money ?c_law_is_money ?k_law_is_money ?z__law_is_sale ?l_law_is_sale ?c_law_is_sale ?k_law_is_sale ?z__law_bent ?l_law_bent ?c_law_bent ?k_law_bent ?z__law_word ?l_law_word ?c_law_word ?k_law_word ?z_law ?l_law ?c_law ?k_law ?z_abs ?z_all ?z_bool ?z_int ?z_isinstance ?z_len ?z_list ?z_min ?z_range ?z_repr ?z_str ?z_tuple ?z_LETTERS ?z_LONGEST_NAME ?z_Accounts ?rd_Accounts ?ga_Accounts ?cv_Accounts_MOST
    (case z_is_number => k_is); (case l_is_number => k_is); (case c_is_number => k_is); (case k_is_number => k_is); (case z_is_name => k_is); (case l_is_name => k_is); (case c_is_name => k_is); (case k_is_name => k_is); (case z_is_amount => k_is); (case l_is_amount => k_is); (case c_is_amount => k_is); (case k_is_amount => k_is); (case z_is_sale => k_is); (case l_is_sale => k_is); (case c_is_sale => k_is); (case k_is_sale => k_is); (case z__law_begun => k_is); (case l_law_begun => k_is); (case c_law_begun => k_is); (case k_law_begun => k_is); (case z__law_take => k_is); (case l_law_take => k_is); (case c_law_take => k_is); (case k_law_take => k_is); (case z__law_pick => k_is); (case l_law_pick => k_is); (case c_law_pick => k_is); (case k_law_pick => k_is); (case z__law_names => k_is); (case l_law_names => k_is); (case c_law_names => k_is); (case k_law_names => k_is); (case z__law_amount => k_is); (case l_law_amount => k_is); (case c_law_amount => k_is); (case k_law_amount => k_is); (case z__law_sales => k_is); (case l_law_sales => k_is); (case c_law_sales => k_is); (case k_law_sales => k_is); (case z__law_is_name => k_is); (case l_law_is_name => k_is); (case c_law_is_name => k_is); (case k_law_is_name => k_is); (case z__law_is_money => k_is); (case l_law_is_money => k_is); (case c_law_is_money => k_is); (case k_law_is_money => k_is); (case z__law_is_sale => k_is); (case l_law_is_sale => k_is); (case c_law_is_sale => k_is); (case k_law_is_sale => k_is); (case z__law_bent => k_is); (case l_law_bent => k_is); (case c_law_bent => k_is); (case k_law_bent => k_is); (case z__law_word => k_is); (case l_law_word => k_is); (case c_law_word => k_is); (case k_law_word => k_is); (case z_law => k_is); (case l_law => k_is); (case c_law => k_is); (case k_law => k_is); (case z_abs => k_is); (case z_all => k_is); (case z_bool => k_is); (case z_int => k_is); (case z_isinstance => k_is); (case z_len => k_is); (case z_list => k_is); (case z_min => k_is); (case z_range => k_is); (case z_repr => k_is); (case z_str => k_is); (case z_tuple => k_is); (case z_LETTERS => k_is); (case z_LONGEST_NAME => k_is); (case z_Accounts => k_is); (case rd_Accounts => k_is); (case ga_Accounts => k_is); (case cv_Accounts_MOST => k_is)
