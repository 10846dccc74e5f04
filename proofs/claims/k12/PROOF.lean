import PyProof.Rows.All
import Wide.All
import OpenK.AllK
import Wide.FinOn
import HandS.ForMost
import HandS.Exc
import HandS.Flow
import HandS.IsInst
import HandS.ExcInit
import HandS.Lambda
import HandS.Style
import HandS.Defaults
import HandS.Walk
import HandS.TupAny
import HandS.Codes
import HandS.Deep
import HandS.ClsMeth
import PyProof.ReprRoads
import PyProof.ReprLen
import HandS.Ends
import HandS.EndTab
import HandS.Text
import HandS.Zip
import HandS.RaiseMore
import HandS.ExcIs
import HandS.ExcField
import HandS.Small
import HandS.WordsExc
import PySem.Challenge.RW_regretmart_k12_segments_recognized
set_option Elab.async false
set_option linter.all false
set_option maxRecDepth 100000
/-! P1: pure values, their place in the heap, the store of what may change. -/
namespace L2.Pv
open PySem PySem.Spec PyProof.Rows L2
/-- the tables of code objects that the text's lambdas are looked up in, with the names -/
class TbC where
  T : List (Addr × Str)
inductive PV where
  | exc (C : Value) (fs : List (Str × PV)) | non | bl (b : Bool) | int (i : Int) | str (x : Str) | lst (xs : List PV) | tup (xs : List PV)
  | dic (kvs : List (PV × PV)) | ref (a : Addr) | ty (n : String) | scr (xs : List PV)
def keyP : Key → PV
  | .inl i => .int i
  | .inr x => .str x
/-- a tuple that is read: tracked, or of the written part -/
def TpAt (K : PySem.W.Frag) (F : Hp) (a : Addr) (vs : List V) : Prop := F a = some (.tup vs) ∨ ∃ (o : Obj) (its : Array Value) (n : Nat), K.lookup a = some o ∧ o.cls = .type "tuple" ∧ o.data = .seq its n ∧ its.size ≤ sizeLine ∧ Vals vs its.toList
/-- a caught exception that is read alone: its class, its dict -/
def ExcAt (C : Value) (d : Option Addr) (a : Addr) : HO := .ext fun h => ∃ (oe : Obj) (vs : Array Value), h.get? a = some oe ∧ Zc C d oe ∧ oe.data = .fields vs
mutual
inductive Rep (K : PySem.W.Frag) (F : Hp) : V → PV → Prop
  | non : Rep K F .non .non
  | bl (b : Bool) : Rep K F (.bl b) (.bl b)
  | int (i : Int) : Rep K F (.int i) (.int i)
  | str (x : Str) : Rep K F (.str x) (.str x)
  | ty (n : String) : Rep K F (.ty n) (.ty n)
  | ref (a : Addr) : Rep K F (.ref a) (.ref a)
  | lst {a : Addr} {vs : List V} {xs : List PV} : Rd F a (.lst vs) → Reps K F vs xs → Rep K F (.ref a) (.lst xs)
  | tup {a : Addr} {vs : List V} {xs : List PV} : TpAt K F a vs → Reps K F vs xs → Rep K F (.ref a) (.tup xs)
  | scr {a : Addr} {vs : List V} {xs : List PV} : SqL K F a vs → Reps K F vs xs → Rep K F (.ref a) (.scr xs)
  | dic {a : Addr} {vs : List (Key × V)} {xs : List (PV × PV)} : Rd F a (.dK vs) → RepK K F vs xs → Rep K F (.ref a) (.dic xs)
  | exc0 {a : Addr} {C : Value} : F a = some (ExcAt C none a) → Rep K F (.ref a) (.exc C [])
  | exc {a d : Addr} {C : Value} {vs : List (Str × V)} {xs : List (Str × PV)} : F a = some (ExcAt C (some d) a) → F d = some (.xd vs) → RepN K F vs xs → Rep K F (.ref a) (.exc C xs)
inductive Reps (K : PySem.W.Frag) (F : Hp) : List V → List PV → Prop
  | nil : Reps K F [] []
  | cons {v : V} {x : PV} {vs : List V} {xs : List PV} : Rep K F v x → Reps K F vs xs → Reps K F (v :: vs) (x :: xs)
inductive RepK (K : PySem.W.Frag) (F : Hp) : List (Key × V) → List (PV × PV) → Prop
  | nil : RepK K F [] []
  | cons {k : Key} {v : V} {x : PV} {vs : List (Key × V)} {xs : List (PV × PV)} : Rep K F v x → RepK K F vs xs → RepK K F ((k, v) :: vs) ((keyP k, x) :: xs)
inductive RepN (K : PySem.W.Frag) (F : Hp) : List (Str × V) → List (Str × PV) → Prop
  | nil : RepN K F [] []
  | cons {k : Str} {v : V} {x : PV} {vs : List (Str × V)} {xs : List (Str × PV)} : Rep K F v x → RepN K F vs xs → RepN K F ((k, v) :: vs) ((k, x) :: xs)
end
theorem rd_same {F F' : Hp} {a : Addr} {u : HO} (e : Same F F') (h : Rd F a u) : Rd F' a u := by
  rcases h with h | ⟨o, h⟩
  · exact .inl (e _ _ h)
  · exact .inr ⟨o, e _ _ h⟩
theorem sqT_same {K : PySem.W.Frag} {F F' : Hp} {a : Addr} {vs : List V} (e : Same F F') (h : TpAt K F a vs) : TpAt K F' a vs := by
  rcases h with h | h
  · exact .inl (e _ _ h)
  · exact .inr h
mutual
theorem Rep.mono {K : PySem.W.Frag} {F F' : Hp} (e : Same F F') : ∀ {v : V} {x : PV}, Rep K F v x → Rep K F' v x
  | _, _, .non => .non
  | _, _, .bl b => .bl b
  | _, _, .int i => .int i
  | _, _, .str x => .str x
  | _, _, .ty n => .ty n
  | _, _, .ref a => .ref a
  | _, _, .lst h r => .lst (rd_same e h) (Reps.mono e r)
  | _, _, .tup h r => .tup (sqT_same e h) (Reps.mono e r)
  | _, _, .dic h r => .dic (rd_same e h) (RepK.mono e r)
  | _, _, .scr h r => .scr (e.seq h) (Reps.mono e r)
  | _, _, .exc0 h => .exc0 (e _ _ h)
  | _, _, .exc h k r => .exc (e _ _ h) (e _ _ k) (RepN.mono e r)
theorem Reps.mono {K : PySem.W.Frag} {F F' : Hp} (e : Same F F') : ∀ {v : List V} {x : List PV}, Reps K F v x → Reps K F' v x
  | _, _, .nil => .nil
  | _, _, .cons h r => .cons (Rep.mono e h) (Reps.mono e r)
theorem RepK.mono {K : PySem.W.Frag} {F F' : Hp} (e : Same F F') : ∀ {v : List (Key × V)} {x : List (PV × PV)}, RepK K F v x → RepK K F' v x
  | _, _, .nil => .nil
  | _, _, .cons h r => .cons (Rep.mono e h) (RepK.mono e r)
theorem RepN.mono {K : PySem.W.Frag} {F F' : Hp} (e : Same F F') : ∀ {v : List (Str × V)} {x : List (Str × PV)}, RepN K F v x → RepN K F' v x
  | _, _, .nil => .nil
  | _, _, .cons h r => .cons (Rep.mono e h) (RepN.mono e r)
end
section
variable {K : PySem.W.Frag} {F : Hp}
theorem Reps.len : ∀ {vs : List V} {xs : List PV}, Reps K F vs xs → vs.length = xs.length
  | _, _, .nil => rfl
  | _, _, .cons _ r => by rw [List.length_cons, List.length_cons, Reps.len r]
theorem Reps.app : ∀ {vs ws : List V} {xs ys : List PV}, Reps K F vs xs → Reps K F ws ys → Reps K F (vs ++ ws) (xs ++ ys)
  | _, _, _, _, .nil, s => s
  | _, _, _, _, .cons h r, s => .cons h (Reps.app r s)
theorem Reps.get : ∀ {vs : List V} {xs : List PV} {i : Nat} {x : PV}, Reps K F vs xs → xs[i]? = some x → ∃ v, vs[i]? = some v ∧ Rep K F v x
  | _, _, _, _, .nil, e => by simp at e
  | _, _, 0, _, .cons h _, e => by simp at e; subst e; exact ⟨_, rfl, h⟩
  | _, _, i + 1, _, .cons _ r, e => Reps.get (i := i) r (by simpa using e)
theorem Reps.get' : ∀ {vs : List V} {xs : List PV} {i : Nat} {v : V}, Reps K F vs xs → vs[i]? = some v → ∃ x, xs[i]? = some x ∧ Rep K F v x
  | _, _, _, _, .nil, e => by simp at e
  | _, _, 0, _, .cons h _, e => by simp at e; subst e; exact ⟨_, rfl, h⟩
  | _, _, i + 1, _, .cons _ r, e => Reps.get' (i := i) r (by simpa using e)
theorem Reps.take : ∀ (n : Nat) {vs : List V} {xs : List PV}, Reps K F vs xs → Reps K F (vs.take n) (xs.take n)
  | 0, _, _, _ => .nil
  | _ + 1, _, _, .nil => .nil
  | n + 1, _, _, .cons h r => .cons h (Reps.take n r)
theorem Reps.drop : ∀ (n : Nat) {vs : List V} {xs : List PV}, Reps K F vs xs → Reps K F (vs.drop n) (xs.drop n)
  | 0, _, _, r => r
  | _ + 1, _, _, .nil => .nil
  | n + 1, _, _, .cons _ r => Reps.drop n r
theorem Reps.rev {vs : List V} {xs : List PV} (h : Reps K F vs xs) : Reps K F vs.reverse xs.reverse := by
  induction vs generalizing xs with
  | nil => cases h; exact .nil
  | cons v vs ih =>
    cases h with
    | cons h r =>
      rw [List.reverse_cons, List.reverse_cons]
      exact (ih r).app (.cons h .nil)
theorem Reps.rep {vs : List V} {xs : List PV} (h : Reps K F vs xs) : ∀ k : Nat, Reps K F (List.replicate k vs).flatten (List.replicate k xs).flatten
  | 0 => .nil
  | k + 1 => by
    rw [List.replicate_succ, List.replicate_succ, List.flatten_cons, List.flatten_cons]
    exact h.app (Reps.rep h k)
theorem Reps.ints : ∀ {vs : List V} {ns : List Int}, Reps K F vs (ns.map PV.int) → vs = ns.map V.int
  | _, [], .nil => rfl
  | _, n :: ns, .cons (.int _) r => by rw [Reps.ints r]; rfl
theorem Reps.of_ints : ∀ (ns : List Int), Reps K F (ns.map V.int) (ns.map PV.int)
  | [] => .nil
  | n :: ns => .cons (.int n) (Reps.of_ints ns)
theorem Reps.strs : ∀ {vs : List V} {ns : List Str}, Reps K F vs (ns.map PV.str) → vs = ns.map V.str
  | _, [], .nil => rfl
  | _, n :: ns, .cons (.str _) r => by rw [Reps.strs r]; rfl
theorem Reps.of_strs : ∀ (ns : List Str), Reps K F (ns.map V.str) (ns.map PV.str)
  | [] => .nil
  | n :: ns => .cons (.str n) (Reps.of_strs ns)
theorem Reps.bls : ∀ {vs : List V} {ns : List Bool}, Reps K F vs (ns.map PV.bl) → vs = ns.map V.bl
  | _, [], .nil => rfl
  | _, n :: ns, .cons (.bl _) r => by rw [Reps.bls r]; rfl
end
/-! ### what holds the frozen part -/
def Lkd : HO → Prop
  | .lst _ => True
  | .dK _ => True
  | .ins _ _ _ => True
  | _ => False
def Sub (F H : Hp) : Prop := ∀ a o, F a = some o → H a = some o ∨ (Lkd o ∧ ∃ ob, H a = some (.frz ob o))
theorem Sub.rd {F H : Hp} (e : Sub F H) {a : Addr} {u : HO} (h : Rd F a u) : Rd H a u := by
  rcases h with h | ⟨o, h⟩
  · rcases e _ _ h with q | ⟨_, ob, q⟩
    · exact .inl q
    · exact .inr ⟨ob, q⟩
  · rcases e _ _ h with q | ⟨m, ob, q⟩
    · exact .inr ⟨o, q⟩
    · exact m.elim
theorem Sub.tpAt {K : PySem.W.Frag} {F H : Hp} (e : Sub F H) {a : Addr} {vs : List V} (h : TpAt K F a vs) : TpAt K H a vs := by
  rcases h with h | h
  · rcases e _ _ h with q | ⟨m, _⟩
    · exact .inl q
    · exact m.elim
  · exact .inr h
theorem Sub.sqL {K : PySem.W.Frag} {F H : Hp} (e : Sub F H) {a : Addr} {vs : List V} (h : SqL K F a vs) : SqL K H a vs := by
  rcases h with h | h
  · exact .inl (e.rd h)
  · exact .inr h
theorem TpAt.sq {K : PySem.W.Frag} {H : Hp} {a : Addr} {vs : List V} (h : TpAt K H a vs) : SqT K H a vs := by
  rcases h with h | h
  · exact .inl (.inl h)
  · exact .inr h
theorem Sub.sqT {K : PySem.W.Frag} {F H : Hp} (e : Sub F H) {a : Addr} {vs : List V} (h : TpAt K F a vs) : SqT K H a vs := (e.tpAt h).sq
/-! ### the store -/
inductive RO where
  | lst (xs : List PV) | dic (kvs : List (PV × PV)) | ins (C : Addr) (fs : List (Str × PV))
abbrev RepF (K : PySem.W.Frag) (F : Hp) : List (Str × V) → List (Str × PV) → Prop := Paired fun p q => p.1 = q.1 ∧ Rep K F p.2 q.2
def RepO (K : PySem.W.Frag) (F : Hp) : HO → RO → Prop
  | .lst vs, .lst xs => Reps K F vs xs
  | .dK vs, .dic xs => RepK K F vs xs
  | .ins C _ fs, .ins C' xs => C = C' ∧ RepF K F fs xs
  | _, _ => False
theorem RepF.mono {K : PySem.W.Frag} {F F' : Hp} (e : Same F F') {a : List (Str × V)} {b : List (Str × PV)} (h : RepF K F a b) : RepF K F' a b := Paired.mapP h fun _ _ q => ⟨q.1, q.2.mono e⟩
theorem RepO.mono {K : PySem.W.Frag} {F F' : Hp} (e : Same F F') {o : HO} {r : RO} (h : RepO K F o r) : RepO K F' o r := by
  cases o <;> cases r <;> first
    | exact Reps.mono e h
    | exact RepK.mono e h
    | exact ⟨h.1, RepF.mono e h.2⟩
    | exact h.elim
abbrev RStore := Addr → Option (RO × Bool)
inductive MO where
  | raw (r : RO) | lck (r : RO) | abs (φ : Nat → RStore → Prop) (n : Nat)
abbrev Store := Addr → Option MO
def put {α : Type} (S : Addr → Option α) (a : Addr) (x : α) : Addr → Option α := fun b => if b = a then some x else S b
def rmv {α : Type} (S : Addr → Option α) (a : Addr) : Addr → Option α := fun b => if b = a then none else S b
@[simp] theorem put_same {α : Type} {S : Addr → Option α} {a : Addr} {x : α} : put S a x a = some x := by unfold put; rw [if_pos rfl]
theorem put_ne {α : Type} {S : Addr → Option α} {a b : Addr} {x : α} (h : b ≠ a) : put S a x b = S b := by unfold put; rw [if_neg h]
@[simp] theorem put_put {α : Type} {S : Addr → Option α} {a : Addr} {x y : α} : put (put S a x) a y = put S a y := by
  funext b; unfold put; split <;> rfl
theorem put_comm {α : Type} {S : Addr → Option α} {a b : Addr} {x y : α} (h : a ≠ b) : put (put S a x) b y = put (put S b y) a x := by
  funext c; unfold put; split <;> split <;> simp_all
@[simp] theorem rmv_same {α : Type} {S : Addr → Option α} {a : Addr} : rmv S a a = none := by unfold rmv; rw [if_pos rfl]
theorem rmv_ne {α : Type} {S : Addr → Option α} {a b : Addr} (h : b ≠ a) : rmv S a b = S b := by unfold rmv; rw [if_neg h]
theorem rmv_put {α : Type} {S : Addr → Option α} {a : Addr} {x : α} (h : S a = none) : rmv (put S a x) a = S := by
  funext c; unfold rmv put; split
  · rename_i e; rw [e, h]
  · rfl
/-! ### tables of code objects -/
def NoTb (o : Option HO) : Prop := (∀ ps, o ≠ some (.tbl ps)) ∧ ∀ φ, o ≠ some (.ext φ)
theorem tabs_upd {T : List (Addr × Str)} {H : Hp} {a : Addr} {o : HO} (t : LamX.Tabs T H) (n : NoTb (H a)) : LamX.Tabs T (upd H a o) := fun p hp => by
  obtain ⟨ps, h1, h2, h3⟩ := t p hp
  refine ⟨ps, ?_, h2, fun pos cv hc => ?_⟩
  · rw [upd_ne (fun z => n.1 ps (by rw [← z]; exact h1))]
    exact h1
  · obtain ⟨c, e1, e2⟩ := h3 pos cv hc
    refine ⟨c, e1, ?_⟩
    rw [upd_ne (fun z => n.2 _ (by rw [← z]; exact e2))]
    exact e2
theorem noTb_none {o : Option HO} (h : o = none) : NoTb o := ⟨fun _ z => (by rw [h] at z; cases z), fun _ z => (by rw [h] at z; cases z)⟩
theorem noTb_rep {K : PySem.W.Frag} {F : Hp} {o : HO} {r : RO} (h : RepO K F o r) : NoTb (some o) := by
  cases o <;> cases r <;> first | exact h.elim | exact ⟨fun _ z => (by cases z), fun _ z => (by cases z)⟩
theorem noT_upd {F : Hp} {a : Addr} {o : HO} (h : ∀ a ps, F a ≠ some (.tbl ps)) (n : ∀ ps, o ≠ .tbl ps) : ∀ b ps, upd F a o b ≠ some (.tbl ps) := fun b ps z => by
  by_cases w : b = a
  · rw [w, upd_same] at z
    exact n ps (Option.some.inj z)
  · rw [upd_ne w] at z
    exact h b ps z
section hold
variable [TbC]
structure HoldR (K : PySem.W.Frag) (F : Hp) (R : RStore) (H : Hp) : Prop where
  tabs : LamX.Tabs TbC.T H
  noT : ∀ a ps, F a ≠ some (.tbl ps)
  sub : Sub F H
  raw : ∀ a r, R a = some (r, false) → F a = none ∧ ∃ o, H a = some o ∧ RepO K F o r
  lck : ∀ a r, R a = some (r, true) → F a = none ∧ ∃ ob o, H a = some (.frz ob o) ∧ RepO K F o r
structure Own (S : Store) (R : RStore) (own : Addr → Option Addr) : Prop where
  self : ∀ a, S a ≠ none → own a = some a ∧ R a ≠ none
  there : ∀ b a, own b = some a → S a ≠ none
  raw : ∀ a r, S a = some (.raw r) → R a = some (r, false)
  lck : ∀ a r, S a = some (.lck r) → R a = some (r, true)
  abs : ∀ a φ n, S a = some (.abs φ n) → φ n fun b => if own b = some a then R b else none
def Hold (K : PySem.W.Frag) (F : Hp) (S : Store) (H : Hp) : Prop := ∃ R own, HoldR K F R H ∧ Own S R own
section
variable {K : PySem.W.Frag} {F H : Hp} {S : Store} {a p : Addr} {r r' : RO} {o : HO} {R : RStore}
theorem HoldR.at (h : HoldR K F R H) {b : Bool} (e : R a = some (r, b)) : H a ≠ none := fun z => by
  cases b with
  | false => obtain ⟨_, o, q, _⟩ := h.raw a r e; rw [z] at q; cases q
  | true => obtain ⟨_, ob, o, q, _⟩ := h.lck a r e; rw [z] at q; cases q
theorem Hold.sub (h : Hold K F S H) : Sub F H := let ⟨_, _, a, _⟩ := h; a.sub
theorem Hold.raw (h : Hold K F S H) (e : S a = some (.raw r)) : F a = none ∧ ∃ o, H a = some o ∧ RepO K F o r := by
  obtain ⟨R, own, hr, ow⟩ := h
  exact hr.raw a r (ow.raw a r e)
theorem Hold.lck (h : Hold K F S H) (e : S a = some (.lck r)) : F a = none ∧ ∃ ob o, H a = some (.frz ob o) ∧ RepO K F o r := by
  obtain ⟨R, own, hr, ow⟩ := h
  exact hr.lck a r (ow.lck a r e)
def rdS (S : Store) (a : Addr) : Option RO := match S a with
  | some (.raw r) => some r
  | some (.lck r) => some r
  | _ => none
theorem rdS_raw (e : S a = some (.raw r)) : rdS S a = some r := by unfold rdS; rw [e]
theorem rdS_lck (e : S a = some (.lck r)) : rdS S a = some r := by unfold rdS; rw [e]
theorem Hold.rd (h : Hold K F S H) (e : rdS S a = some r) : F a = none ∧ ∃ o, Rd H a o ∧ RepO K F o r := by
  unfold rdS at e
  split at e
  · rename_i r' q
    cases e
    obtain ⟨f, o, h1, h2⟩ := h.raw q
    exact ⟨f, o, .inl h1, h2⟩
  · rename_i r' q
    cases e
    obtain ⟨f, ob, o, h1, h2⟩ := h.lck q
    exact ⟨f, o, .inr ⟨ob, h1⟩, h2⟩
  · cases e
theorem Hold.freeS (h : Hold K F S H) (e : H p = none) : S p = none := by
  obtain ⟨R, own, hr, ow⟩ := h
  cases q : S p with
  | none => rfl
  | some m =>
    exfalso
    obtain ⟨_, n⟩ := ow.self p (by rw [q]; exact fun z => nomatch z)
    cases z : R p with
    | none => exact n z
    | some rb => obtain ⟨r, b⟩ := rb; exact hr.at z e
theorem Hold.freeF (h : Hold K F S H) (e : H p = none) : F p = none := by
  cases q : F p with
  | none => rfl
  | some m =>
    rcases h.sub _ _ q with z | ⟨_, ob, z⟩ <;> rw [e] at z <;> cases z
theorem sub_upd (s : Sub F H) (e : F a = none) : Sub F (upd H a o) := fun b u q => by
  rw [upd_ne (ne_of_none q e)]
  exact s b u q
theorem same_upd (e : F p = none) : Same F (upd F p o) := fun b u q => by
  rw [upd_ne (ne_of_none q e)]
  exact q
theorem Own.write {own : Addr → Option Addr} (ow : Own S R own) (e : S a = some (.raw r)) : Own (put S a (.raw r')) (put R a (r', false)) own := by
  have sa := ow.self a (by rw [e]; exact fun z => nomatch z)
  refine ⟨fun b n => ?_, fun b c q => ?_, fun b u q => ?_, fun b u q => ?_, fun b φ m q => ?_⟩
  · by_cases z : b = a
    · subst z
      exact ⟨sa.1, by rw [put_same]; exact fun z => nomatch z⟩
    · rw [put_ne z] at n ⊢
      exact ow.self b n
  · by_cases z : c = a
    · subst z
      rw [put_same]
      exact fun z => nomatch z
    · rw [put_ne z]
      exact ow.there b c q
  · by_cases z : b = a
    · subst z
      rw [put_same] at q ⊢
      cases q
      rfl
    · rw [put_ne z] at q ⊢
      exact ow.raw b u q
  · by_cases z : b = a
    · subst z
      rw [put_same] at q
      cases q
    · rw [put_ne z] at q ⊢
      exact ow.lck b u q
  · by_cases z : b = a
    · subst z
      rw [put_same] at q
      cases q
    · rw [put_ne z] at q
      have y := ow.abs b φ m q
      have ef : (fun c => if own c = some b then put R a (r', false) c else none) = fun c => if own c = some b then R c else none := by
        funext c
        by_cases w : own c = some b
        · rw [if_pos w, if_pos w, put_ne]
          rintro rfl
          rw [sa.1] at w
          exact z (Option.some.inj w).symm
        · rw [if_neg w, if_neg w]
      rw [ef]
      exact y
theorem Hold.write (h : Hold K F S H) (e : S a = some (.raw r)) (q : RepO K F o r') : Hold K F (put S a (.raw r')) (upd H a o) := by
  obtain ⟨R, own, hr, ow⟩ := h
  have fa := (hr.raw a r (ow.raw a r e)).1
  refine ⟨_, own, ⟨tabs_upd hr.tabs (by obtain ⟨_, o0, h0, r0⟩ := hr.raw a r (ow.raw a r e); rw [h0]; exact noTb_rep r0), hr.noT, sub_upd hr.sub fa, fun b u z => ?_, fun b u z => ?_⟩, ow.write e⟩
  · by_cases w : b = a
    · subst w
      rw [put_same] at z
      cases z
      exact ⟨fa, o, upd_same, q⟩
    · rw [put_ne w] at z
      obtain ⟨f, x, hx, rx⟩ := hr.raw b u z
      exact ⟨f, x, by rw [upd_ne w]; exact hx, rx⟩
  · by_cases w : b = a
    · subst w
      rw [put_same] at z
      cases z
    · rw [put_ne w] at z
      obtain ⟨f, ob, x, hx, rx⟩ := hr.lck b u z
      exact ⟨f, ob, x, by rw [upd_ne w]; exact hx, rx⟩
/-- something new that nobody speaks of -/
theorem Hold.junk (h : Hold K F S H) (e : H p = none) : Hold K F S (upd H p o) := by
  have fp := h.freeF e
  obtain ⟨R, own, hr, ow⟩ := h
  refine ⟨R, own, ⟨tabs_upd hr.tabs (noTb_none e), hr.noT, sub_upd hr.sub fp, fun b u z => ?_, fun b u z => ?_⟩, ow⟩
  · obtain ⟨f, x, hx, rx⟩ := hr.raw b u z
    exact ⟨f, x, by rw [upd_ne (ne_of_none hx e)]; exact hx, rx⟩
  · obtain ⟨f, ob, x, hx, rx⟩ := hr.lck b u z
    exact ⟨f, ob, x, by rw [upd_ne (ne_of_none hx e)]; exact hx, rx⟩
theorem Hold.newF (h : Hold K F S H) (e : H p = none) (no : ∀ ps, o ≠ .tbl ps := by intro _ z; cases z) : Hold K (upd F p o) S (upd H p o) := by
  have fp := h.freeF e
  obtain ⟨R, own, hr, ow⟩ := h
  refine ⟨R, own, ⟨tabs_upd hr.tabs (noTb_none e), noT_upd hr.noT no, fun b u z => ?_, fun b u z => ?_, fun b u z => ?_⟩, ow⟩
  · by_cases w : b = p
    · subst w
      rw [upd_same] at z ⊢
      exact .inl z
    · rw [upd_ne w] at z ⊢
      exact hr.sub b u z
  · obtain ⟨f, x, hx, rx⟩ := hr.raw b u z
    have w := ne_of_none hx e
    exact ⟨by rw [upd_ne w]; exact f, x, by rw [upd_ne w]; exact hx, rx.mono (same_upd fp)⟩
  · obtain ⟨f, ob, x, hx, rx⟩ := hr.lck b u z
    have w := ne_of_none hx e
    exact ⟨by rw [upd_ne w]; exact f, ob, x, by rw [upd_ne w]; exact hx, rx.mono (same_upd fp)⟩
theorem Own.new {own : Addr → Option Addr} (ow : Own S R own) (e : S p = none) (eR : R p = none) : Own (put S p (.raw r)) (put R p (r, false)) (fun b => if b = p then some p else own b) := by
  refine ⟨fun b n => ?_, fun b c q => ?_, fun b u q => ?_, fun b u q => ?_, fun b φ m q => ?_⟩
  · by_cases z : b = p
    · subst z
      exact ⟨if_pos rfl, by rw [put_same]; exact fun z => nomatch z⟩
    · rw [put_ne z] at n ⊢
      rw [if_neg z]
      exact ow.self b n
  · by_cases z : b = p
    · subst z
      rw [if_pos rfl] at q
      cases q
      rw [put_same]
      exact fun z => nomatch z
    · rw [if_neg z] at q
      have n := ow.there b c q
      have y : c ≠ p := fun y => n (by rw [y]; exact e)
      rw [put_ne y]
      exact n
  · by_cases z : b = p
    · subst z
      rw [put_same] at q ⊢
      cases q
      rfl
    · rw [put_ne z] at q ⊢
      exact ow.raw b u q
  · by_cases z : b = p
    · subst z
      rw [put_same] at q
      cases q
    · rw [put_ne z] at q ⊢
      exact ow.lck b u q
  · by_cases z : b = p
    · subst z
      rw [put_same] at q
      cases q
    · rw [put_ne z] at q
      have y := ow.abs b φ m q
      have ef : (fun c => if (if c = p then some p else own c) = some b then put R p (r, false) c else none) = fun c => if own c = some b then R c else none := by
        funext c
        by_cases w : c = p
        · subst w
          rw [if_pos rfl, if_neg (fun x => z (Option.some.inj x).symm), eR]
          split <;> rfl
        · rw [if_neg w, put_ne w]
      rw [ef]
      exact y
theorem HoldR.none (h : HoldR K F R H) (e : H p = Option.none) : R p = Option.none := by
  cases z : R p with
  | none => rfl
  | some rb => obtain ⟨r, b⟩ := rb; exact absurd e (h.at z)
theorem Hold.newS (h : Hold K F S H) (e : H p = Option.none) (q : RepO K F o r) : Hold K F (put S p (.raw r)) (upd H p o) := by
  have fp := h.freeF e
  have sp := h.freeS e
  obtain ⟨R, own, hr, ow⟩ := h
  refine ⟨_, _, ⟨tabs_upd hr.tabs (noTb_none e), hr.noT, sub_upd hr.sub fp, fun b u z => ?_, fun b u z => ?_⟩, ow.new sp (hr.none e)⟩
  · by_cases w : b = p
    · subst w
      rw [put_same] at z
      cases z
      exact ⟨fp, o, upd_same, q⟩
    · rw [put_ne w] at z
      obtain ⟨f, x, hx, rx⟩ := hr.raw b u z
      exact ⟨f, x, by rw [upd_ne w]; exact hx, rx⟩
  · by_cases w : b = p
    · subst w
      rw [put_same] at z
      cases z
    · rw [put_ne w] at z
      obtain ⟨f, ob, x, hx, rx⟩ := hr.lck b u z
      exact ⟨f, ob, x, by rw [upd_ne w]; exact hx, rx⟩
theorem Own.drop {own : Addr → Option Addr} (ow : Own S R own) (e : S a = some (.raw r)) : Own (rmv S a) (rmv R a) (fun b => if own b = some a then none else own b) := by
  have sa := ow.self a (by rw [e]; exact fun z => nomatch z)
  have ne : ∀ {b : Addr}, rmv S a b ≠ none → b ≠ a := fun {b} n w => n (by rw [w, rmv_same])
  have ow1 : ∀ {b : Addr}, b ≠ a → S b ≠ none → own b = some b := fun {b} _ n => (ow.self b n).1
  refine ⟨fun b n => ?_, fun b c q => ?_, fun b u q => ?_, fun b u q => ?_, fun b φ m q => ?_⟩
  · have z := ne n
    rw [rmv_ne z] at n ⊢
    have y := ow.self b n
    rw [y.1, if_neg (fun w => z (Option.some.inj w))]
    exact ⟨rfl, y.2⟩
  · by_cases z : own b = some a
    · rw [if_pos z] at q
      cases q
    · rw [if_neg z] at q
      have n := ow.there b c q
      have w : c ≠ a := fun w => z (by rw [q, w])
      rw [rmv_ne w]
      exact n
  · have z := ne (b := b) (by rw [q]; exact fun z => nomatch z)
    rw [rmv_ne z] at q ⊢
    exact ow.raw b u q
  · have z := ne (b := b) (by rw [q]; exact fun z => nomatch z)
    rw [rmv_ne z] at q ⊢
    exact ow.lck b u q
  · have z := ne (b := b) (by rw [q]; exact fun z => nomatch z)
    rw [rmv_ne z] at q
    have y := ow.abs b φ m q
    have ef : (fun c => if (if own c = some a then none else own c) = some b then rmv R a c else none) = fun c => if own c = some b then R c else none := by
      funext c
      by_cases w : own c = some a
      · rw [if_pos w, if_neg (fun x => nomatch x), w, if_neg (fun x => z (Option.some.inj x).symm)]
      · rw [if_neg w]
        by_cases v : own c = some b
        · rw [if_pos v, if_pos v, rmv_ne]
          rintro rfl
          exact w sa.1
        · rw [if_neg v, if_neg v]
    rw [ef]
    exact y
/-- an object that is changed no more -/
theorem Hold.freeze (h : Hold K F S H) (e : S a = some (.raw r)) : ∃ o, H a = some o ∧ RepO K F o r ∧ F a = Option.none ∧ Hold K (upd F a o) (rmv S a) H := by
  obtain ⟨fa, o, ho, ro⟩ := h.raw e
  obtain ⟨R, own, hr, ow⟩ := h
  refine ⟨o, ho, ro, fa, _, _, ⟨hr.tabs, noT_upd hr.noT (fun ps z => by subst z; cases r <;> exact ro.elim), fun b u z => ?_, fun b u z => ?_, fun b u z => ?_⟩, ow.drop e⟩
  · by_cases w : b = a
    · subst w
      rw [upd_same] at z
      cases z
      exact .inl ho
    · rw [upd_ne w] at z
      exact hr.sub b u z
  · by_cases w : b = a
    · subst w
      rw [rmv_same] at z
      cases z
    · rw [rmv_ne w] at z
      obtain ⟨f, x, hx, rx⟩ := hr.raw b u z
      exact ⟨by rw [upd_ne w]; exact f, x, hx, rx.mono (same_upd fa)⟩
  · by_cases w : b = a
    · subst w
      rw [rmv_same] at z
      cases z
    · rw [rmv_ne w] at z
      obtain ⟨f, ob, x, hx, rx⟩ := hr.lck b u z
      exact ⟨by rw [upd_ne w]; exact f, ob, x, hx, rx.mono (same_upd fa)⟩
end
end hold
end L2.Pv

/-! P2: the judgements over pure values; expressions, tests, arguments, small statements. -/
namespace L2.Pv
open PySem PySem.Spec PyProof.Rows L2
variable [TbC]
abbrev PEnv := List (Option PV)
abbrev PQ := PV → Store → Prop
abbrev PTE := PEnv → Store → PQ → Prop
abbrev PTT := PEnv → Store → (Bool → Store → Prop) → Prop
abbrev PTA := PEnv → Store → (List PV → Store → Prop) → Prop
structure PEnds where
  nx : PEnv → Store → Prop
  rt : PQ
  bk : PEnv → Store → Prop := fun _ _ => False
  ct : PEnv → Store → Prop := fun _ _ => False
abbrev PTS := PEnds → PEnv → Store → Prop
def EnvR (K : PySem.W.Frag) (F : Hp) : PEnv → St → Prop := Paired fun x v => ∀ y, x = some y → ∃ u, v = some u ∧ Rep K F u y
def nth : PEnv → Nat → Option PV
  | [], _ => none
  | x :: _, 0 => x
  | _ :: r, n + 1 => nth r n
def stV : PEnv → Nat → Option PV → PEnv
  | [], _, _ => []
  | _ :: r, 0, y => y :: r
  | x :: r, n + 1, y => x :: stV r n y
section
variable {K : PySem.W.Frag} {F F' : Hp}
theorem EnvR.mono (e : Same F F') {ρ : PEnv} {σ : St} (h : EnvR K F ρ σ) : EnvR K F' ρ σ :=
  Paired.mapP h fun _ _ q y z => let ⟨u, a, b⟩ := q y z; ⟨u, a, b.mono e⟩
theorem EnvR.get : ∀ {ρ : PEnv} {σ : St} {i : Nat} {x : PV}, EnvR K F ρ σ → nth ρ i = some x → ∃ v, σ[i]? = some (some v) ∧ Rep K F v x
  | [], _, _, _, _, e => nomatch e
  | y :: r, _ :: _, 0, x, .cons h _, e => by
    obtain ⟨u, a, b⟩ := h x e
    subst a
    exact ⟨u, rfl, b⟩
  | y :: r, _ :: _, i + 1, x, .cons _ t, e => by
    obtain ⟨u, a, b⟩ := EnvR.get (i := i) t e
    exact ⟨u, by simpa using a, b⟩
theorem EnvR.set : ∀ {ρ : PEnv} {σ : St} (i : Nat) {x : PV} {v : V}, EnvR K F ρ σ → Rep K F v x → EnvR K F (stV ρ i (some x)) (σ.set i (some v))
  | [], [], _, _, _, .nil, _ => .nil
  | _ :: _, _ :: _, 0, _, v, .cons _ t, h => .cons (fun y e => ⟨v, rfl, by cases e; exact h⟩) t
  | _ :: _, _ :: _, i + 1, _, _, .cons a t, h => .cons a (EnvR.set i t h)
theorem EnvR.unset : ∀ {ρ : PEnv} {σ : St} (i : Nat), EnvR K F ρ σ → EnvR K F (stV ρ i none) (σ.set i none)
  | [], [], _, .nil => .nil
  | _ :: _, _ :: _, 0, .cons _ t => .cons (fun y e => nomatch e) t
  | _ :: _, _ :: _, i + 1, .cons a t => .cons a (EnvR.unset i t)
end
structure At (K : PySem.W.Frag) (F0 F : Hp) (ρ : PEnv) (S : Store) (σ : St) (H : Hp) : Prop where
  base : Same F0 F
  hold : Hold K F S H
  env : EnvR K F ρ σ
def Le (K : PySem.W.Frag) (F : Hp) (P : PQ) (Q : VK) : Prop := ∀ x S, P x S → ∀ F' H v, Same F F' → Hold K F' S H → Rep K F' v x → Q v H
def LeB (K : PySem.W.Frag) (F : Hp) (P : Bool → Store → Prop) (Q : Bool → Hp → Prop) : Prop := ∀ x S, P x S → ∀ F' H, Same F F' → Hold K F' S H → Q x H
def LeA (K : PySem.W.Frag) (n : Nat) (F : Hp) (P : List PV → Store → Prop) (Q : List V → Hp → Prop) : Prop := ∀ x S, P x S → x.length = n → ∀ F' H v, Same F F' → Hold K F' S H → Reps K F' v x → Q v H
structure LeS (K : PySem.W.Frag) (F0 F : Hp) (P : PEnds) (D : Ends) : Prop where
  nx : ∀ ρ S, P.nx ρ S → ∀ F' σ H, Same F F' → At K F0 F' ρ S σ H → D.nx σ H
  rt : Le K F P.rt D.rt
  bk : ∀ ρ S, P.bk ρ S → ∀ F' σ H, Same F F' → At K F0 F' ρ S σ H → D.bk σ H
  ct : ∀ ρ S, P.ct ρ S → ∀ F' σ H, Same F F' → At K F0 F' ρ S σ H → D.ct σ H
section
variable {K : PySem.W.Frag} {F0 F F' : Hp} {ρ : PEnv} {S S' : Store} {σ : St} {H H' : Hp} {P : PEnds} {D : Ends}
theorem At.next (a : At K F0 F ρ S σ H) (e : Same F F') (h : Hold K F' S' H') : At K F0 F' ρ S' σ H' := ⟨a.base.trans e, h, a.env.mono e⟩
theorem Le.mono {P : PQ} {Q : VK} (l : Le K F P Q) (e : Same F F') : Le K F' P Q := fun x S h F1 H1 v e1 hd r => l x S h F1 H1 v (e.trans e1) hd r
theorem LeB.mono {P : Bool → Store → Prop} {Q : Bool → Hp → Prop} (l : LeB K F P Q) (e : Same F F') : LeB K F' P Q := fun x S h F1 H1 e1 hd => l x S h F1 H1 (e.trans e1) hd
theorem LeA.mono {n : Nat} {P : List PV → Store → Prop} {Q : List V → Hp → Prop} (l : LeA K n F P Q) (e : Same F F') : LeA K n F' P Q := fun x S h hn F1 H1 v e1 hd r => l x S h hn F1 H1 v (e.trans e1) hd r
theorem LeS.mono (l : LeS K F0 F P D) (e : Same F F') : LeS K F0 F' P D :=
  ⟨fun ρ S h F1 σ1 H1 e1 a => l.nx ρ S h F1 σ1 H1 (e.trans e1) a, l.rt.mono e, fun ρ S h F1 σ1 H1 e1 a => l.bk ρ S h F1 σ1 H1 (e.trans e1) a, fun ρ S h F1 σ1 H1 e1 a => l.ct ρ S h F1 σ1 H1 (e.trans e1) a⟩
end
def lft (K : PySem.W.Frag) (F0 : Hp) (t : PTE) : TE := fun σ H Q => ∃ F ρ S P, At K F0 F ρ S σ H ∧ t ρ S P ∧ Le K F P Q
def lftT (K : PySem.W.Frag) (F0 : Hp) (t : PTT) : TT := fun σ H Q => ∃ F ρ S P, At K F0 F ρ S σ H ∧ t ρ S P ∧ LeB K F P Q
def lftA (K : PySem.W.Frag) (F0 : Hp) (n : Nat) (t : PTA) : TA := fun σ H Q => ∃ F ρ S P, At K F0 F ρ S σ H ∧ t ρ S P ∧ LeA K n F P Q
def lftS (K : PySem.W.Frag) (F0 : Hp) (t : PTS) : TS := fun D σ H => ∃ F ρ S P, At K F0 F ρ S σ H ∧ t P ρ S ∧ LeS K F0 F P D
abbrev PR1 := PV → Store → PQ → Prop
abbrev PR2 := PV → PV → Store → PQ → Prop
abbrev PRs := List PV → Store → PQ → Prop
abbrev PRm := PV → List PV → Store → PQ → Prop
def lft1 (K : PySem.W.Frag) (r : PR1) : V → Hp → VK → Prop := fun v H Q => ∃ F S x P, Hold K F S H ∧ Rep K F v x ∧ r x S P ∧ Le K F P Q
def lft2 (K : PySem.W.Frag) (r : PR2) : R2 := fun v u H Q => ∃ F S x y P, Hold K F S H ∧ Rep K F v x ∧ Rep K F u y ∧ r x y S P ∧ Le K F P Q
def lftRs (K : PySem.W.Frag) (r : PRs) : List V → Hp → VK → Prop := fun vs H Q => ∃ F S xs P, Hold K F S H ∧ Reps K F vs xs ∧ r xs S P ∧ Le K F P Q
def lftM (K : PySem.W.Frag) (r : PRm) : V → List V → Hp → VK → Prop := fun v vs H Q => ∃ F S x xs P, Hold K F S H ∧ Rep K F v x ∧ Reps K F vs xs ∧ r x xs S P ∧ Le K F P Q
def OpW (X : Cx) (f : Value → Value → Sem Value) (r : PR2) : Prop := OpR X f (lft2 X.K r)
def UnW (X : Cx) (f : Value → Sem Value) (r : PR1) : Prop := UnR X f (lft1 X.K r)
def CallW (X : Cx) (f : Value) (r : PRs) : Prop := CallR X f (lftRs X.K r)
structure WE (X : Cx) (F0 : Hp) (e : Expr) (t : PTE) : Prop where
  pe : PE X e (lft X.K F0 t)
structure WT (X : Cx) (F0 : Hp) (e : Expr) (t : PTT) : Prop where
  pt : PT X e (lftT X.K F0 t)
structure WW (X : Cx) (F0 : Hp) (e : Expr) (t : PTT) : Prop where
  pw : PW X e (lftT X.K F0 t)
structure WA (X : Cx) (F0 : Hp) (n : Nat) (es : List Expr) (t : PTA) : Prop where
  pa : PA X es (lftA X.K F0 n t)
structure WS (X : Cx) (F0 : Hp) (st : Stmt) (t : PTS) : Prop where
  ps : PS X st (lftS X.K F0 t)
structure WSs (X : Cx) (F0 : Hp) (st : List Stmt) (t : PTS) : Prop where
  pss : PSs X st (lftS X.K F0 t)
theorem peImp {X : Cx} {e : Expr} {t t' : TE} (h : PE X e t) (i : ∀ σ H Q, t' σ H Q → t σ H Q) : PE X e t' := ⟨fun pins s σ H Q I q => h.run pins s σ H Q I (i _ _ _ q)⟩
theorem ptImp {X : Cx} {e : Expr} {t t' : TT} (h : PT X e t) (i : ∀ σ H Q, t' σ H Q → t σ H Q) : PT X e t' := ⟨fun pins s σ H Q I q => h.run pins s σ H Q I (i _ _ _ q)⟩
theorem pwImp {X : Cx} {e : Expr} {t t' : TT} (h : PW X e t) (i : ∀ σ H Q, t' σ H Q → t σ H Q) : PW X e t' := ⟨fun wh pins s σ H Q I q => h.run wh pins s σ H Q I (i _ _ _ q)⟩
theorem paImp {X : Cx} {e : List Expr} {t t' : TA} (h : PA X e t) (i : ∀ σ H Q, t' σ H Q → t σ H Q) : PA X e t' := ⟨fun pos pins s σ H Q I q => h.run pos pins s σ H Q I (i _ _ _ q)⟩
theorem psImp {X : Cx} {e : Stmt} {t t' : TS} (h : PS X e t) (i : ∀ D σ H, t' D σ H → t D σ H) : PS X e t' := ⟨fun pins s σ H D I q => h.run pins s σ H D I (i _ _ _ q)⟩
theorem pssImp {X : Cx} {e : List Stmt} {t t' : TS} (h : PSs X e t) (i : ∀ D σ H, t' D σ H → t D σ H) : PSs X e t' := ⟨fun pins s σ H D I q => h.run pins s σ H D I (i _ _ _ q)⟩
/-! ### names, constants -/
def wV (i : Nat) : PTE := fun ρ S Q => match nth ρ i with
  | some x => Q x S
  | none => False
def wC (x : PV) : PTE := fun _ S Q => Q x S
section
variable {X : Cx} {F0 : Hp} {a b c e : Expr} {ta tb tc te : PTE} {pos : Pos}
theorem we_var (i : Nat) {x : Str} (hN : X.N[i]? = some x := by rfl) (hv : Vis X.env.scope x := by first | exact Or.inl rfl | exact Or.inr (Or.inl rfl) | exact Or.inr (Or.inr rfl)) (hd : (x == ("__debug__" : Str)) = false := by decide)
    (hcd : (x == ("__classdict__" : Str)) = false := by decide) : WE X F0 (.Name x pos) (wV i) :=
  ⟨peImp (pe_var hN hv hd hcd) fun σ H Q ⟨F, ρ, S, P, at_, h, le⟩ => by
    unfold wV at h
    split at h
    · rename_i y q
      obtain ⟨v, e1, r⟩ := at_.env.get q
      exact ⟨v, e1, le y S h F H v (Same.refl F) at_.hold r⟩
    · exact h.elim⟩
theorem we_const {v : V} {x : PV} (h : PE X e (tC v)) (r : ∀ F, Rep X.K F v x) : WE X F0 e (wC x) :=
  ⟨peImp h fun σ H Q ⟨F, ρ, S, P, at_, h, le⟩ => le x S h F H v (Same.refl F) at_.hold (r F)⟩
theorem we_int {i : Int} {j : Nat} : WE X F0 (.Constant (.int i) j pos) (wC (.int i)) := we_const pe_int fun _ => .int i
theorem we_str {x : Str} {j : Nat} : WE X F0 (.Constant (.str x) j pos) (wC (.str x)) := we_const pe_str fun _ => .str x
theorem we_bl {i : Bool} {j : Nat} : WE X F0 (.Constant (.bool i) j pos) (wC (.bl i)) := we_const pe_bl fun _ => .bl i
theorem we_non {j : Nat} : WE X F0 (.Constant .none j pos) (wC .non) := we_const pe_non fun _ => .non
theorem we_glob {x : Str} {v : V} {y : PV} {u : Value} (hg : Gl X x) (hm : X.mg x = some u) (r : RelV v u) (ry : ∀ F, Rep X.K F v y) (hd : (x == ("__debug__" : Str)) = false := by decide) : WE X F0 (.Name x pos) (wC y) := we_const (pe_glob hg hm r hd) ry
theorem we_gstr {x z : Str} {t : Tok} (hm : X.mg x = some (.str z t)) (hg : Gl X x := by rfl) (hd : (x == ("__debug__" : Str)) = false := by decide) : WE X F0 (.Name x pos) (wC (.str z)) := we_const (pe_glob hg hm (v := .str z) ⟨t, rfl⟩ hd) fun _ => .str z
theorem we_gint {x : Str} {z : Int} {t : Tok} (hm : X.mg x = some (.int z t)) (hg : Gl X x := by rfl) (hd : (x == ("__debug__" : Str)) = false := by decide) : WE X F0 (.Name x pos) (wC (.int z)) := we_const (pe_glob hg hm (v := .int z) ⟨t, rfl⟩ hd) fun _ => .int z
theorem we_gref {x : Str} {z : Addr} (hm : X.mg x = some (.ref z)) (hg : Gl X x := by rfl) (hd : (x == ("__debug__" : Str)) = false := by decide) : WE X F0 (.Name x pos) (wC (.ref z)) := we_const (pe_glob hg hm (v := .ref z) rfl hd) fun _ => .ref z
theorem we_bty {x : Str} {n : String} (hm : X.mg x = none) (hv : bootBuiltins x = some (.type n) := by decide +kernel) (hg : Gl X x := by rfl) (hn : x ≠ "__name__" := by decide) (hd : (x == ("__debug__" : Str)) = false := by decide) : WE X F0 (.Name x pos) (wC (.ty n)) :=
  we_const (pe_bltn hg hm hv (v := .ty n) rfl hn hd) fun _ => .ty n
/-! ### operators -/
def wOp (r : PR2) (ta tb : PTE) : PTE := fun ρ S Q => ta ρ S fun x S1 => tb ρ S1 fun y S2 => r x y S2 Q
def wUn (r : PR1) (ta : PTE) : PTE := fun ρ S Q => ta ρ S fun x S1 => r x S1 Q
theorem two {r : PR2} {σ : St} {H : Hp} {Q : VK} (h : lft X.K F0 (wOp r ta tb) σ H Q) : tOp (lft2 X.K r) (lft X.K F0 ta) (lft X.K F0 tb) σ H Q := by
  obtain ⟨F, ρ, S, P, at_, h, le⟩ := h
  exact ⟨F, ρ, S, _, at_, h, fun x S1 h1 F1 H1 v e1 hd1 r1 => ⟨F1, ρ, S1, _, at_.next e1 hd1, h1, fun y S2 h2 F2 H2 u e2 hd2 r2 => ⟨F2, S2, x, y, P, hd2, r1.mono e2, r2, h2, le.mono (e1.trans e2)⟩⟩⟩
theorem we_op {op : Operator} {r : PR2} (ho : OpW X (binaryOp op) r) (ha : WE X F0 a ta) (hb : WE X F0 b tb) : WE X F0 (.BinOp a op b pos) (wOp r ta tb) :=
  ⟨peImp (pe_op ho ha.pe hb.pe) fun _ _ _ h => two h⟩
theorem we_un {op : UnaryOp} {r : PR1} (ho : UnW X (unaryOp op) r) (ha : WE X F0 a ta) : WE X F0 (.UnaryOp op a pos) (wUn r ta) :=
  ⟨peImp (pe_un ho ha.pe) fun σ H Q ⟨F, ρ, S, P, at_, h, le⟩ => ⟨F, ρ, S, _, at_, h, fun x S1 h1 F1 H1 v e1 hd1 r1 => ⟨F1, S1, x, P, hd1, r1, h1, le.mono e1⟩⟩⟩
theorem we_cmp {op : CmpOp} {r : PR2} (ho : OpW X (compareOp op) r) (ha : WE X F0 a ta) (hb : WE X F0 b tb) (hm : behindInMarks op b = false := by first | exact nomark _ | rfl) : WE X F0 (.Compare a [op] [b] pos) (wOp r ta tb) :=
  ⟨peImp (pe_cmpR ho ha.pe hb.pe hm) fun _ _ _ h => two h⟩
/-- a bool's value as a test -/
def wBool (t : PTE) : PTT := fun ρ S Q => t ρ S fun x S1 => match x with
  | .bl k => Q k S1
  | _ => False
theorem bool_of {x : PV} {v : V} {S : Store} {F : Hp} {Q : Bool → Store → Prop} (h : match x with | .bl k => Q k S | _ => False) (r : Rep X.K F v x) : ∃ k, v = .bl k ∧ Q k S := by
  cases r <;> first | exact h.elim | exact ⟨_, rfl, h⟩
theorem wt_cmp {op : CmpOp} {r : PR2} (ho : OpW X (compareOp op) r) (ha : WE X F0 a ta) (hb : WE X F0 b tb) (hm : behindInMarks op b = false := by first | exact nomark _ | rfl) : WT X F0 (.Compare a [op] [b] pos) (wBool (wOp r ta tb)) :=
  ⟨ptImp (pt_cmpR ho ha.pe hb.pe hm) fun σ H Q ⟨F, ρ, S, P, at_, h, le⟩ => two ⟨F, ρ, S, _, at_, h, fun x S1 h1 F1 H1 v e1 hd1 r1 => by
    obtain ⟨k, q1, q2⟩ := bool_of h1 r1
    exact ⟨k, q1, le k S1 q2 F1 H1 e1 hd1⟩⟩⟩
def wChain (r r' : PR2) (ta tb tc : PTE) : PTE := fun ρ S Q => ta ρ S fun x S1 => tb ρ S1 fun y S2 => r x y S2 fun z S3 => match z with
  | .bl k => if k = true then tc ρ S3 fun w S4 => r' y w S4 Q else Q (.bl false) S3
  | _ => False
theorem chain3 {r r' : PR2} {σ : St} {H : Hp} {Q : VK} (h : lft X.K F0 (wChain r r' ta tb tc) σ H Q) : tChain (lft2 X.K r) (lft2 X.K r') (lft X.K F0 ta) (lft X.K F0 tb) (lft X.K F0 tc) σ H Q := by
  obtain ⟨F, ρ, S, P, at_, h, le⟩ := h
  refine ⟨F, ρ, S, _, at_, h, fun x S1 h1 F1 H1 v e1 hd1 r1 => ⟨F1, ρ, S1, _, at_.next e1 hd1, h1, fun y S2 h2 F2 H2 u e2 hd2 r2 => ⟨F2, S2, x, y, _, hd2, r1.mono e2, r2, h2, fun z S3 h3 F3 H3 w e3 hd3 r3 => ?_⟩⟩⟩
  obtain ⟨k, q1, q2⟩ := bool_of (Q := fun k S3 => if k = true then tc ρ S3 fun w S4 => r' y w S4 P else P (.bl false) S3) h3 r3
  refine ⟨k, q1, ?_⟩
  have e13 := (e1.trans e2).trans e3
  cases k with
  | true =>
    exact ⟨F3, ρ, S3, _, at_.next e13 hd3, q2, fun w' S4 h4 F4 H4 v4 e4 hd4 r4 => ⟨F4, S4, y, w', P, hd4, (r2.mono e3).mono e4, r4, h4, le.mono (e13.trans e4)⟩⟩
  | false => exact le _ _ q2 F3 H3 _ e13 hd3 (.bl false)
theorem we_chain {op op' : CmpOp} {r r' : PR2} (ho : OpW X (compareOp op) r) (ho' : OpW X (compareOp op') r') (ha : WE X F0 a ta) (hb : WE X F0 b tb) (hc : WE X F0 c tc)
    (hm : lastMarks [op, op'] [b, c] = false := by with_unfolding_all rfl) : WE X F0 (.Compare a [op, op'] [b, c] pos) (wChain r r' ta tb tc) :=
  ⟨peImp (pe_chain ho ho' ha.pe hb.pe hc.pe hm) fun _ _ _ h => chain3 h⟩
theorem wt_chain {op op' : CmpOp} {r r' : PR2} (ho : OpW X (compareOp op) r) (ho' : OpW X (compareOp op') r') (ha : WE X F0 a ta) (hb : WE X F0 b tb) (hc : WE X F0 c tc)
    (hm : lastMarks [op, op'] [b, c] = false := by with_unfolding_all rfl) : WT X F0 (.Compare a [op, op'] [b, c] pos) (wBool (wChain r r' ta tb tc)) :=
  ⟨ptImp (pt_chain ho ho' ha.pe hb.pe hc.pe hm) fun σ H Q ⟨F, ρ, S, P, at_, h, le⟩ => chain3 ⟨F, ρ, S, _, at_, h, fun x S1 h1 F1 H1 v e1 hd1 r1 => by
    obtain ⟨k, q1, q2⟩ := bool_of h1 r1
    exact ⟨k, q1, le k S1 q2 F1 H1 e1 hd1⟩⟩⟩
/-! ### truth -/
def truP (S : Store) : PV → Option Bool
  | .non => some false
  | .bl b => some b
  | .int i => some (i != 0)
  | .str y => if y.length ≤ sizeLine then some ((y.length : Int) != 0) else none
  | .lst xs => some !xs.isEmpty
  | .tup xs => some !xs.isEmpty
  | .dic xs => some !xs.isEmpty
  | .ref a => match rdS S a with
    | some (.lst xs) => some !xs.isEmpty
    | some (.dic xs) => some !xs.isEmpty
    | _ => none
  | .ty _ => none
  | .scr _ => none
  | .exc _ _ => none
theorem reps_empty {K : PySem.W.Frag} {F : Hp} {vs : List V} {xs : List PV} (h : Reps K F vs xs) : vs.isEmpty = xs.isEmpty := by cases h <;> rfl
theorem repk_empty {K : PySem.W.Frag} {F : Hp} {vs : List (Key × V)} {xs : List (PV × PV)} (h : RepK K F vs xs) : vs.isEmpty = xs.isEmpty := by cases h <;> rfl
end
/-- truth of what is not a dict that is locked -/
theorem tru_rep {K : PySem.W.Frag} {F H : Hp} {S : Store} {v : V} {x : PV} {k : Bool} (hd : Hold K F S H) (r : Rep K F v x) (h : truP S x = some k)
    (nd : ∀ a kvs, v = .ref a → Rd H a (.dK kvs) → H a = some (.dK kvs)) : TruV K v H k := by
  cases r with
  | non => cases h; rfl
  | bl b => cases h; rfl
  | int i => cases h; rfl
  | str y =>
    simp only [truP] at h
    split at h
    · rename_i z
      cases h
      exact ⟨z, rfl⟩
    · cases h
  | lst a b =>
    cases h
    exact .inl ⟨_, .inl (hd.sub.rd a), by rw [reps_empty b]⟩
  | tup a b =>
    cases h
    exact .inr (.inl ⟨_, hd.sub.sqT a, by rw [reps_empty b]⟩)
  | dic a b =>
    cases h
    exact .inr (.inr ⟨_, nd _ _ rfl (hd.sub.rd a), by rw [repk_empty b]⟩)
  | ty n => cases h
  | scr a b => cases h
  | exc0 a => cases h
  | exc a b c => cases h
  | ref a =>
    simp only [truP] at h
    split at h
    · rename_i xs q
      cases h
      obtain ⟨_, o, ho, ro⟩ := hd.rd q
      cases o <;> first | exact ro.elim | skip
      exact .inl ⟨_, .inl ho, by rw [reps_empty ro]⟩
    · rename_i xs q
      cases h
      obtain ⟨_, o, ho, ro⟩ := hd.rd q
      cases o <;> first | exact ro.elim | skip
      exact .inr (.inr ⟨_, nd _ _ rfl ho, by rw [repk_empty ro]⟩)
    · cases h
end L2.Pv

/-! P3: truth, and, or, not; arguments; displays; calls of built-ins; statements. -/
namespace L2.Pv
open PySem PySem.Spec PyProof.Rows L2
variable [TbC]
section
variable {X : Cx} {F0 : Hp} {pins : List (Addr × Obj)} {σ : L2.St} {H : Hp} {s : Shared}
theorem tru_run {F : Hp} {S : Store} {v : V} {x : PV} {u : Value} {k : Bool} {Q : Bool → Shared → Prop} (I : Inv X pins σ H s) (hd : Hold X.K F S H) (rv : RelV v u) (r : Rep X.K F v x) (h : truP S x = some k)
    (q : ∀ s', Inv X pins σ H s' → Q k s') : wpAny (model X.prog X.w) X.A (truthy u) Q X.xe s := by
  have dict : ∀ a kvs, v = .ref a → Rd H a (.dK kvs) → k = !kvs.isEmpty → wpAny (model X.prog X.w) X.A (truthy u) Q X.xe s := fun a kvs e1 e2 e3 => by
    subst e1
    cases rv
    exact d_truth I e2 fun s' I' => by rw [← e3]; exact q s' I'
  have other : (∀ a kvs, v = .ref a → ¬ Rd H a (.dK kvs)) → wpAny (model X.prog X.w) X.A (truthy u) Q X.xe s := fun nd => by
    refine thn (tru_ok pins s σ H v u (fun b H' => b = k ∧ H' = H) I rv ⟨k, tru_rep hd r h (fun a kvs e1 e2 => (nd a kvs e1 e2).elim), rfl, rfl⟩) fun b s' ⟨H', I', e1, e2⟩ => ?_
    subst e1 e2
    exact q s' I'
  by_cases z : ∃ a kvs, v = .ref a ∧ Rd H a (.dK kvs)
  · obtain ⟨a, kvs, e1, e2⟩ := z
    subst e1
    have inj : ∀ w, Rd H a w → (∀ o u, w ≠ .frz o u) → w = .dK kvs := fun w r2 nf => by
      rcases e2 with r1 | ⟨o1, r1⟩ <;> rcases r2 with r2 | ⟨o2, r2⟩ <;> rw [r1] at r2 <;> cases r2 <;> first | rfl | exact (nf _ _ rfl).elim
    cases r with
    | lst a b => exact nomatch inj _ (hd.sub.rd a) fun _ _ z => nomatch z
    | tup a b =>
      rcases hd.sub.sqT a with q1 | ⟨o, its, n, q1, q2, _⟩
      · exact nomatch inj _ q1 fun _ _ z => nomatch z
      · exfalso
        obtain ⟨_, _, _, _, o', _, _, h1, h2, _⟩ := e2.ok I.hok
        have h3 := I.kIn _ _ q1
        rw [h1] at h3
        cases h3
        have := h2.1
        rw [q2] at this
        exact nomatch this
    | dic a b =>
      have e3 := inj _ (hd.sub.rd a) fun _ _ z => nomatch z
      cases e3
      cases h
      exact dict _ _ rfl e2 (by rw [repk_empty b])
    | scr a b => cases h
    | exc0 a => cases h
    | exc a b c => cases h
    | ref a =>
      simp only [truP] at h
      split at h
      · rename_i xs q1
        obtain ⟨_, o, ho, ro⟩ := hd.rd q1
        cases inj _ ho (fun z y q => by subst q; exact ro.elim)
        exact ro.elim
      · rename_i xs q1
        cases h
        obtain ⟨_, o, ho, ro⟩ := hd.rd q1
        cases inj _ ho (fun z y q => by subst q; exact ro.elim)
        exact dict _ _ rfl e2 (by rw [repk_empty ro])
      · cases h
  · exact other fun a kvs e1 e2 => z ⟨a, kvs, e1, e2⟩
end
def wTru (t : PTE) : PTT := fun ρ S Q => t ρ S fun x S1 => match truP S1 x with
  | some k => Q k S1
  | none => False
theorem tru_of {x : PV} {S : Store} {Q : Bool → Store → Prop} (h : match truP S x with | some k => Q k S | none => False) : ∃ k, truP S x = some k ∧ Q k S := by
  split at h
  · rename_i k e
    exact ⟨k, e, h⟩
  · exact h.elim
section
variable {X : Cx} {F0 : Hp} {a b c e : Expr} {es rest : List Expr} {ta tb tc te : PTE} {tA tB tC : PTT} {t : PTA} {n : Nat} {pos : Pos}
theorem wt_tru (ha : WE X F0 a ta) (he : ∀ whole, isTrue a X.env whole = (do let v ← whole; standAt a.pos; holding [v] (truthy v)) := by intro _; rfl) : WT X F0 a (wTru ta) :=
  ⟨⟨fun pins s σ H Q I ⟨F, ρ, S, P, at_, h, le⟩ => isTrue_plain (thn (ha.pe.run pins s σ H (fun v H' => ∃ F' S' x k, Same F F' ∧ Hold X.K F' S' H' ∧ Rep X.K F' v x ∧ truP S' x = some k ∧ P k S') I ⟨F, ρ, S, _, at_, h, fun x S1 h1 F1 H1 v e1 hd1 r1 => by
      obtain ⟨k, q1, q2⟩ := tru_of h1
      exact ⟨F1, S1, x, k, e1, hd1, r1, q1, q2⟩⟩) fun u s1 ⟨v, H1, I1, rv, F1, S1, x, k, e1, hd1, r1, q1, q2⟩ => tru_run I1 hd1 rv r1 q1 fun s' I' => ⟨H1, I', le k S1 q2 F1 H1 e1 hd1⟩) (he _)⟩⟩
def wAnd (t u : PTT) : PTT := fun ρ S Q => t ρ S fun c S1 => match c with
  | true => u ρ S1 Q
  | false => Q false S1
def wOr (t u : PTT) : PTT := fun ρ S Q => t ρ S fun c S1 => match c with
  | true => Q true S1
  | false => u ρ S1 Q
def wNot (t : PTT) : PTT := fun ρ S Q => t ρ S fun c S1 => Q (!c) S1
theorem ww_and1 (ha : WT X F0 a tA) : WW X F0 (.BoolOp .And [a] pos) tA := ⟨pw_and1 ha.pt⟩
theorem ww_or1 (ha : WT X F0 a tA) : WW X F0 (.BoolOp .Or [a] pos) tA := ⟨pw_or1 ha.pt⟩
theorem ww_and (ha : WT X F0 a tA) (hb : WW X F0 (.BoolOp .And (b :: rest) pos) tB) : WW X F0 (.BoolOp .And (a :: b :: rest) pos) (wAnd tA tB) :=
  ⟨pwImp (pw_and ha.pt hb.pw) fun σ H Q ⟨F, ρ, S, P, at_, h, le⟩ => ⟨F, ρ, S, _, at_, h, fun c S1 h1 F1 H1 e1 hd1 => by
    cases c with
    | true => exact ⟨F1, ρ, S1, P, at_.next e1 hd1, h1, le.mono e1⟩
    | false => exact le false S1 h1 F1 H1 e1 hd1⟩⟩
theorem ww_or (ha : WT X F0 a tA) (hb : WW X F0 (.BoolOp .Or (b :: rest) pos) tB) : WW X F0 (.BoolOp .Or (a :: b :: rest) pos) (wOr tA tB) :=
  ⟨pwImp (pw_or ha.pt hb.pw) fun σ H Q ⟨F, ρ, S, P, at_, h, le⟩ => ⟨F, ρ, S, _, at_, h, fun c S1 h1 F1 H1 e1 hd1 => by
    cases c with
    | true => exact le true S1 h1 F1 H1 e1 hd1
    | false => exact ⟨F1, ρ, S1, P, at_.next e1 hd1, h1, le.mono e1⟩⟩⟩
theorem WW.wt (h : WW X F0 e tA) : WT X F0 e tA := ⟨h.pw.pt⟩
theorem wt_not (ha : WT X F0 a tA) : WT X F0 (.UnaryOp .Not a pos) (wNot tA) :=
  ⟨ptImp (pt_not ha.pt) fun σ H Q ⟨F, ρ, S, P, at_, h, le⟩ => ⟨F, ρ, S, _, at_, h, fun c S1 h1 F1 H1 e1 hd1 => le _ S1 h1 F1 H1 e1 hd1⟩⟩
def wIfE (c : PTT) (ta tb : PTE) : PTE := fun ρ S Q => c ρ S fun k S1 => match k with
  | true => ta ρ S1 Q
  | false => tb ρ S1 Q
theorem we_if (hc : WT X F0 c tC) (ha : WE X F0 a ta) (hb : WE X F0 b tb) : WE X F0 (.IfExp c a b pos) (wIfE tC ta tb) :=
  ⟨peImp (pe_ifExp hc.pt ha.pe hb.pe) fun σ H Q ⟨F, ρ, S, P, at_, h, le⟩ => ⟨F, ρ, S, _, at_, h, fun k S1 h1 F1 H1 e1 hd1 => by
    cases k <;> exact ⟨F1, ρ, S1, P, at_.next e1 hd1, h1, le.mono e1⟩⟩⟩
/-- and, or, not as values -/
def wAndV (ta tb : PTE) : PTE := fun ρ S Q => ta ρ S fun x S1 => match truP S1 x with
  | some true => tb ρ S1 Q
  | some false => Q x S1
  | none => False
def wOrV (ta tb : PTE) : PTE := fun ρ S Q => ta ρ S fun x S1 => match truP S1 x with
  | some true => Q x S1
  | some false => tb ρ S1 Q
  | none => False
def wNotV (ta : PTE) : PTE := fun ρ S Q => ta ρ S fun x S1 => match truP S1 x with
  | some k => Q (.bl !k) S1
  | none => False
theorem we_one {op : BoolOp} (h : WE X F0 a ta) : WE X F0 (.BoolOp op [a] pos) ta := ⟨pe_one h.pe⟩
theorem we_and (ha : WE X F0 a ta) (hb : WE X F0 (.BoolOp .And (b :: rest) pos) tb) : WE X F0 (.BoolOp .And (a :: b :: rest) pos) (wAndV ta tb) :=
  ⟨⟨fun pins s σ H Q I ⟨F, ρ, S, P, at_, h, le⟩ => BoolOp_and (thn (ha.pe.run pins s σ H (fun v H' => ∃ F' S' x, Same F F' ∧ Hold X.K F' S' H' ∧ Rep X.K F' v x ∧ match truP S' x with
      | some true => tb ρ S' P
      | some false => P x S'
      | none => False) I ⟨F, ρ, S, _, at_, h, fun x S1 h1 F1 H1 v e1 hd1 r1 => ⟨F1, S1, x, e1, hd1, r1, h1⟩⟩) fun u s1 ⟨v, H1, I1, rv, F1, S1, x, e1, hd1, r1, q⟩ => by
    split at q
    · rename_i e
      exact tru_run I1 hd1 rv r1 e fun s' I' => hb.pe.run pins s' σ H1 Q I' ⟨F1, ρ, S1, P, at_.next e1 hd1, q, le.mono e1⟩
    · rename_i e
      exact tru_run I1 hd1 rv r1 e fun s' I' => ⟨v, H1, I', rv, le x S1 q F1 H1 v e1 hd1 r1⟩
    · exact q.elim)⟩⟩
theorem we_or (ha : WE X F0 a ta) (hb : WE X F0 (.BoolOp .Or (b :: rest) pos) tb) : WE X F0 (.BoolOp .Or (a :: b :: rest) pos) (wOrV ta tb) :=
  ⟨⟨fun pins s σ H Q I ⟨F, ρ, S, P, at_, h, le⟩ => BoolOp_or (thn (ha.pe.run pins s σ H (fun v H' => ∃ F' S' x, Same F F' ∧ Hold X.K F' S' H' ∧ Rep X.K F' v x ∧ match truP S' x with
      | some true => P x S'
      | some false => tb ρ S' P
      | none => False) I ⟨F, ρ, S, _, at_, h, fun x S1 h1 F1 H1 v e1 hd1 r1 => ⟨F1, S1, x, e1, hd1, r1, h1⟩⟩) fun u s1 ⟨v, H1, I1, rv, F1, S1, x, e1, hd1, r1, q⟩ => by
    split at q
    · rename_i e
      exact tru_run I1 hd1 rv r1 e fun s' I' => ⟨v, H1, I', rv, le x S1 q F1 H1 v e1 hd1 r1⟩
    · rename_i e
      exact tru_run I1 hd1 rv r1 e fun s' I' => hb.pe.run pins s' σ H1 Q I' ⟨F1, ρ, S1, P, at_.next e1 hd1, q, le.mono e1⟩
    · exact q.elim)⟩⟩
theorem we_not (ha : WE X F0 a ta) : WE X F0 (.UnaryOp .Not a pos) (wNotV ta) :=
  ⟨⟨fun pins s σ H Q I ⟨F, ρ, S, P, at_, h, le⟩ => UnaryOp_ (thn (ha.pe.run pins s σ H (fun v H' => ∃ F' S' x k, Same F F' ∧ Hold X.K F' S' H' ∧ Rep X.K F' v x ∧ truP S' x = some k ∧ P (.bl !k) S') I ⟨F, ρ, S, _, at_, h, fun x S1 h1 F1 H1 v e1 hd1 r1 => by
      obtain ⟨k, q1, q2⟩ := tru_of (Q := fun k S => P (.bl !k) S) h1
      exact ⟨F1, S1, x, k, e1, hd1, r1, q1, q2⟩⟩) fun u s1 ⟨v, H1, I1, rv, F1, S1, x, k, e1, hd1, r1, q1, q2⟩ => not_of (tru_run I1 hd1 rv r1 q1 fun s' I' => ⟨.bl (!k), H1, I', rfl, le _ S1 q2 F1 H1 _ e1 hd1 (.bl _)⟩))⟩⟩
/-! ### arguments, displays -/
def wNil : PTA := fun _ S Q => Q [] S
def wCons (ta : PTE) (t : PTA) : PTA := fun ρ S Q => ta ρ S fun x S1 => t ρ S1 fun xs S2 => Q (x :: xs) S2
theorem wa_nil : WA X F0 0 [] wNil := ⟨paImp pa_nil fun σ H Q ⟨F, ρ, S, P, at_, h, le⟩ => le [] S h rfl F H [] (Same.refl F) at_.hold .nil⟩
theorem wa_cons (ha : WE X F0 e te) (hr : WA X F0 n es t) (hs : starEach (e :: es) X.env = (false, eval e X.env) :: starEach es X.env := by rfl) : WA X F0 (n + 1) (e :: es) (wCons te t) :=
  ⟨paImp (pa_cons ha.pe hr.pa hs) fun σ H Q ⟨F, ρ, S, P, at_, h, le⟩ => ⟨F, ρ, S, _, at_, h, fun x S1 h1 F1 H1 v e1 hd1 r1 => ⟨F1, ρ, S1, _, at_.next e1 hd1, h1, fun xs S2 h2 hn F2 H2 vs e2 hd2 r2 =>
    le (x :: xs) S2 h2 (by rw [List.length_cons, hn]) F2 H2 (v :: vs) (e1.trans e2) hd2 (.cons (r1.mono e2) r2)⟩⟩⟩
theorem line1000 {n : Nat} (h : n ≤ 1000) : n ≤ sizeLine := Nat.le_of_lt (small1000 h)
def wTup (t : PTA) : PTE := fun ρ S Q => t ρ S fun xs S1 => Q (.tup xs) S1
def wLst (t : PTA) : PTE := fun ρ S Q => t ρ S fun xs S1 => Q (.lst xs) S1
def wLstM (t : PTA) : PTE := fun ρ S Q => t ρ S fun xs S1 => ∀ p, S1 p = none → Q (.ref p) (put S1 p (.raw (.lst xs)))
theorem new_tup {F1 : Hp} {S : Store} {H1 : Hp} {p : Addr} {vs : List V} {xs : List PV} (hd : Hold X.K F1 S H1) (np : H1 p = none) (r : Reps X.K F1 vs xs) : Same F1 (upd F1 p (.tup vs)) ∧ Hold X.K (upd F1 p (.tup vs)) S (upd H1 p (.tup vs)) ∧ Rep X.K (upd F1 p (.tup vs)) (.ref p) (.tup xs) := by
  have e := same_upd (o := HO.tup vs) (hd.freeF np)
  exact ⟨e, hd.newF np, .tup (.inl upd_same) (r.mono e)⟩
theorem new_lst {F1 : Hp} {S : Store} {H1 : Hp} {p : Addr} {vs : List V} {xs : List PV} (hd : Hold X.K F1 S H1) (np : H1 p = none) (r : Reps X.K F1 vs xs) : Same F1 (upd F1 p (.lst vs)) ∧ Hold X.K (upd F1 p (.lst vs)) S (upd H1 p (.lst vs)) ∧ Rep X.K (upd F1 p (.lst vs)) (.ref p) (.lst xs) := by
  have e := same_upd (o := HO.lst vs) (hd.freeF np)
  exact ⟨e, hd.newF np, .lst (.inl upd_same) (r.mono e)⟩
theorem we_tup {k : Nat} (h : WA X F0 n es t) (hn : n ≤ 1000 := by decide) : WE X F0 (.Tuple es k pos) (wTup t) :=
  ⟨peImp (pe_tup h.pa) fun σ H Q ⟨F, ρ, S, P, at_, h, le⟩ => ⟨F, ρ, S, _, at_, h, fun xs S1 h1 hl F1 H1 vs e1 hd1 r1 => ⟨line1000 (by rw [r1.len, hl]; exact hn), fun p np => by
    obtain ⟨e2, hd2, r2⟩ := new_tup hd1 np r1
    exact le _ S1 h1 _ _ _ (e1.trans e2) hd2 r2⟩⟩⟩
theorem we_lst (h : WA X F0 n es t) (hn : n ≤ 1000 := by decide) : WE X F0 (.List es pos) (wLst t) :=
  ⟨peImp (pe_lst h.pa) fun σ H Q ⟨F, ρ, S, P, at_, h, le⟩ => ⟨F, ρ, S, _, at_, h, fun xs S1 h1 hl F1 H1 vs e1 hd1 r1 => ⟨line1000 (by rw [r1.len, hl]; exact hn), fun p np => by
    obtain ⟨e2, hd2, r2⟩ := new_lst hd1 np r1
    exact le _ S1 h1 _ _ _ (e1.trans e2) hd2 r2⟩⟩⟩
theorem we_lstM (h : WA X F0 n es t) (hn : n ≤ 1000 := by decide) : WE X F0 (.List es pos) (wLstM t) :=
  ⟨peImp (pe_lst h.pa) fun σ H Q ⟨F, ρ, S, P, at_, h, le⟩ => ⟨F, ρ, S, _, at_, h, fun xs S1 h1 hl F1 H1 vs e1 hd1 r1 => ⟨line1000 (by rw [r1.len, hl]; exact hn), fun p np =>
    le _ _ (h1 p (hd1.freeS np)) F1 _ _ e1 (hd1.newS np r1) (.ref p)⟩⟩⟩
/-! ### built-ins by name -/
def wCB (r : PRs) (t : PTA) : PTE := fun ρ S Q => t ρ S fun xs S1 => r xs S1 Q
variable {x : Str} {id T : String} {p : Pos} {r : PRs}
theorem cb_of {σ : L2.St} {H : Hp} {Q : VK} (h : lft X.K F0 (wCB r t) σ H Q) : tCB (lftRs X.K r) (lftA X.K F0 n t) σ H Q := by
  obtain ⟨F, ρ, S, P, at_, h, le⟩ := h
  exact ⟨F, ρ, S, _, at_, h, fun xs S1 h1 _ F1 H1 vs e1 hd1 r1 => ⟨F1, S1, xs, P, hd1, r1, h1, le.mono e1⟩⟩
theorem we_callB (hc : CallW X (.builtin id) r) (hm : X.mg x = none) (ha : WA X F0 n (e :: es) t) (hg : Gl X x := by rfl) (hv : bootBuiltins x = some (.builtin id) := by decide +kernel) (hn : x ≠ "__name__" := by decide) (hdb : (x == ("__debug__" : Str)) = false := by decide)
    (he : starEach (e :: es) X.env = (false, eval e X.env) :: starEach es X.env := by rfl) (hpl : (backTo pos (starEach es X.env)).any (·.1) = false := by rfl) : WE X F0 (.Call (.Name x p) (e :: es) [] pos) (wCB r t) :=
  ⟨peImp (pe_callB hc hg hm hv ha.pa hn hdb he hpl) fun _ _ _ h => cb_of h⟩
theorem we_callTy (hc : CallW X (.type T) r) (hm : X.mg x = none) (ha : WA X F0 n (e :: es) t) (hg : Gl X x := by rfl) (hv : bootBuiltins x = some (.type T) := by decide +kernel) (hn : x ≠ "__name__" := by decide) (hdb : (x == ("__debug__" : Str)) = false := by decide)
    (he : starEach (e :: es) X.env = (false, eval e X.env) :: starEach es X.env := by rfl) (hpl : (backTo pos (starEach es X.env)).any (·.1) = false := by rfl) : WE X F0 (.Call (.Name x p) (e :: es) [] pos) (wCB r t) :=
  ⟨peImp (pe_callTy hc hg hm hv ha.pa hn hdb he hpl) fun _ _ _ h => cb_of h⟩
/-! ### methods of built-in types -/
def wBM (r : PRm) (to : PTE) (t : PTA) : PTE := fun ρ S Q => to ρ S fun x S1 => t ρ S1 fun xs S2 => r x xs S2 Q
end
end L2.Pv

/-! P4: targets, statements, loops, comprehensions. -/
namespace L2.Pv
open PySem PySem.Spec PyProof.Rows L2
variable [TbC]
abbrev PTG := PV → PEnv → Store → (PEnv → Store → Prop) → Prop
abbrev PTGs := List PV → PEnv → Store → (PEnv → Store → Prop) → Prop
def LeG (K : PySem.W.Frag) (F0 : Hp) (ks : List Nat) (F : Hp) (σ : L2.St) (P : PEnv → Store → Prop) (Q : L2.St → Hp → Prop) : Prop :=
  ∀ ρ' S', P ρ' S' → ∀ F' σ' H', Same F F' → At K F0 F' ρ' S' σ' H' → (∀ vs : List Nat, (∀ k ∈ ks, k ∈ vs) → wipe σ' vs = wipe σ vs) → Q σ' H'
def lftG (K : PySem.W.Frag) (F0 : Hp) (ks : List Nat) (g : PTG) : TG := fun v σ H Q => ∃ F ρ S x P, At K F0 F ρ S σ H ∧ Rep K F v x ∧ g x ρ S P ∧ LeG K F0 ks F σ P Q
def lftGs (K : PySem.W.Frag) (F0 : Hp) (ks : List Nat) (g : PTGs) : TGs := fun v σ H Q => ∃ F ρ S x P, At K F0 F ρ S σ H ∧ Reps K F v x ∧ g x ρ S P ∧ LeG K F0 ks F σ P Q
structure WG (X : Cx) (F0 : Hp) (ks : List Nat) (tg : Expr) (g : PTG) : Prop where
  pg : PG X tg (lftG X.K F0 ks g)
structure WGs (X : Cx) (F0 : Hp) (ks : List Nat) (tgs : List Expr) (g : PTGs) : Prop where
  pgs : PGs X tgs (lftGs X.K F0 ks g)
def wgN (i : Nat) : PTG := fun x ρ S Q => Q (stV ρ i (some x)) S
def wgNil : PTGs := fun xs ρ S Q => match xs with
  | [] => Q ρ S
  | _ :: _ => False
def wgCons (g : PTG) (gs : PTGs) : PTGs := fun xs ρ S Q => match xs with
  | [] => False
  | x :: r => g x ρ S fun ρ1 S1 => gs r ρ1 S1 Q
def wgTup (n : Nat) (gs : PTGs) : PTG := fun x ρ S Q => match x with
  | .tup xs => xs.length = n ∧ gs xs ρ S Q
  | _ => False
theorem pgImp {X : Cx} {e : Expr} {t t' : TG} (h : PG X e t) (i : ∀ v σ H Q, t' v σ H Q → t v σ H Q) : PG X e t' := ⟨fun pins s σ H v u Q I r q => h.run pins s σ H v u Q I r (i _ _ _ _ q)⟩
theorem pgsImp {X : Cx} {e : List Expr} {t t' : TGs} (h : PGs X e t) (i : ∀ v σ H Q, t' v σ H Q → t v σ H Q) : PGs X e t' := ⟨fun pins s σ H v u Q I r q => h.run pins s σ H v u Q I r (i _ _ _ _ q)⟩
theorem wipe_set {σ : L2.St} {i : Nat} {v : Option V} : ∀ {vs : List Nat}, i ∈ vs → wipe (σ.set i v) vs = wipe σ vs
  | [], h => nomatch h
  | j :: vs, h => by
    show (wipe (σ.set i v) vs).set j none = (wipe σ vs).set j none
    by_cases e : i = j
    · subst e
      by_cases m : i ∈ vs
      · rw [wipe_set m]
      · have c : ∀ (ws : List Nat) (τ : L2.St), i ∉ ws → wipe (τ.set i v) ws = (wipe τ ws).set i v := by
          intro ws
          induction ws with
          | nil => intro τ _; rfl
          | cons k ws ih =>
            intro τ hn
            have hk : i ≠ k := fun z => hn (by rw [z]; exact List.mem_cons_self)
            have hw : i ∉ ws := fun z => hn (List.mem_cons_of_mem _ z)
            show (wipe (τ.set i v) ws).set k none = ((wipe τ ws).set k none).set i v
            rw [ih τ hw, List.set_comm _ _ (by omega)]
        rw [c vs σ m, List.set_set]
    · have m : i ∈ vs := by
        rcases List.mem_cons.mp h with z | z
        · exact absurd z e
        · exact z
      rw [wipe_set m]
section
variable {X : Cx} {F0 : Hp} {e tg : Expr} {es : List Expr} {te : PTE} {g : PTG} {gs : PTGs} {ks ls : List Nat} {pos : Pos} {n : Nat}
theorem wg_name (i : Nat) {x : Str} (hN : X.N.Nodup) (hi : X.N[i]? = some x := by rfl) (hx : Loc X.env.scope x := by first | exact .inl rfl | exact .inr rfl) (hf : X.fn x = true ∨ X.env.scope.names.lookup x = some .local := by first | exact .inl rfl | exact .inr rfl) : WG X F0 [i] (.Name x pos) (wgN i) :=
  ⟨pgImp (pg_name hN hi hx hf) fun v σ H Q ⟨F, ρ, S, x, P, at_, r, h, le⟩ => le _ _ h F _ H (Same.refl F) ⟨at_.base, at_.hold, at_.env.set i r⟩ fun vs hv => wipe_set (hv i List.mem_cons_self)⟩
theorem wgs_nil : WGs X F0 [] [] wgNil :=
  ⟨pgsImp pgs_nil fun v σ H Q ⟨F, ρ, S, x, P, at_, r, h, le⟩ => by
    cases r with
    | nil => exact ⟨rfl, le _ _ h F σ H (Same.refl F) at_ fun _ _ => rfl⟩
    | cons _ _ => exact h.elim⟩
theorem wgs_cons (h1 : WG X F0 ks e g) (h2 : WGs X F0 ls es gs) (hs : (assignEach (e :: es) X.env).map (·.2) = assign e X.env :: (assignEach es X.env).map (·.2) := by rfl) : WGs X F0 (ks ++ ls) (e :: es) (wgCons g gs) :=
  ⟨pgsImp (pgs_cons h1.pg h2.pgs hs) fun v σ H Q ⟨F, ρ, S, x, P, at_, r, h, le⟩ => by
    cases r with
    | nil => exact h.elim
    | cons r1 r2 =>
      refine ⟨_, _, rfl, F, ρ, S, _, _, at_, r1, h, fun ρ1 S1 q1 F1 σ1 H1 e1 a1 w1 => ⟨F1, ρ1, S1, _, P, a1, r2.mono e1, q1, fun ρ2 S2 q2 F2 σ2 H2 e2 a2 w2 => le ρ2 S2 q2 F2 σ2 H2 (e1.trans e2) a2 fun vs hv => ?_⟩⟩
      rw [w2 vs fun k hk => hv k (List.mem_append_right _ hk), w1 vs fun k hk => hv k (List.mem_append_left _ hk)]⟩
theorem wg_tup {k : Nat} (hc : X.calm = true) (h : WGs X F0 ks es gs) (hn : (assignEach es X.env).length = n := by rfl) (hst : (assignEach es X.env).findIdx? (·.1) = none := by rfl) : WG X F0 ks (.Tuple es k pos) (wgTup n gs) :=
  ⟨pgImp (pg_tup hc h.pgs hn hst) fun v σ H Q ⟨F, ρ, S, x, P, at_, r, h, le⟩ => by
    cases r with
    | tup a b => exact ⟨_, _, rfl, at_.hold.sub.sqT a, by rw [b.len]; exact h.1, F, ρ, S, _, P, at_, b, h.2, le⟩
    | _ => exact h.elim⟩
/-! ### statements -/
variable {st : Stmt} {rest body orelse : List Stmt} {t u : PTS} {tc : PTT}
def wNext : PTS := fun P ρ S => P.nx ρ S
def wSeq (t u : PTS) : PTS := fun P ρ S => t { P with nx := u P } ρ S
def wAsg (te : PTE) (g : PTG) : PTS := fun P ρ S => te ρ S fun x S1 => g x ρ S1 P.nx
def wDrop (te : PTE) : PTS := fun P ρ S => te ρ S fun _ S1 => P.nx ρ S1
def wRet (te : PTE) : PTS := fun P ρ S => te ρ S P.rt
def wRetN : PTS := fun P _ S => P.rt .non S
def wBrk : PTS := fun P ρ S => P.bk ρ S
def wCont : PTS := fun P ρ S => P.ct ρ S
def wIfS (c : PTT) (t u : PTS) : PTS := fun P ρ S => c ρ S fun k S1 => match k with
  | true => t P ρ S1
  | false => u P ρ S1
def wNever : PTS := fun _ _ _ => False
theorem wss_nil : WSs X F0 [] wNext := ⟨pssImp pss_nil fun D σ H ⟨F, ρ, S, P, at_, h, le⟩ => le.nx ρ S h F σ H (Same.refl F) at_⟩
theorem wss_cons (h1 : WS X F0 st t) (h2 : WSs X F0 rest u) : WSs X F0 (st :: rest) (wSeq t u) :=
  ⟨pssImp (pss_cons h1.ps h2.pss) fun D σ H ⟨F, ρ, S, P, at_, h, le⟩ => ⟨F, ρ, S, _, at_, h, ⟨fun ρ1 S1 q F1 σ1 H1 e1 a1 => ⟨F1, ρ1, S1, P, a1, q, le.mono e1⟩, le.rt, le.bk, le.ct⟩⟩⟩
theorem wss_one (h1 : WS X F0 st t) : WSs X F0 [st] t := ⟨pss_one h1.ps⟩
theorem wss_never : WSs X F0 rest wNever := ⟨pssImp (pss_never) fun D σ H ⟨_, _, _, _, _, h, _⟩ => h.elim⟩
theorem ws_pass : WS X F0 (.Pass pos) wNext := ⟨psImp ps_pass fun D σ H ⟨F, ρ, S, P, at_, h, le⟩ => le.nx ρ S h F σ H (Same.refl F) at_⟩
theorem ws_break : WS X F0 (.Break pos) wBrk := ⟨psImp ps_break fun D σ H ⟨F, ρ, S, P, at_, h, le⟩ => le.bk ρ S h F σ H (Same.refl F) at_⟩
theorem ws_cont : WS X F0 (.Continue pos) wCont := ⟨psImp ps_continue fun D σ H ⟨F, ρ, S, P, at_, h, le⟩ => le.ct ρ S h F σ H (Same.refl F) at_⟩
theorem ws_doc {x : Str} {j : Nat} {p : Pos} : WS X F0 (.Expr (.Constant (.str x) j p) pos) wNext := ⟨psImp ps_doc fun D σ H ⟨F, ρ, S, P, at_, h, le⟩ => le.nx ρ S h F σ H (Same.refl F) at_⟩
theorem ws_expr (he : WE X F0 e te) (hs : swapsWith e none pos.line X.env = pure false := by rfl) : WS X F0 (.Expr e pos) (wDrop te) :=
  ⟨psImp (ps_expr he.pe hs) fun D σ H ⟨F, ρ, S, P, at_, h, le⟩ => ⟨F, ρ, S, _, at_, h, fun x S1 h1 F1 H1 v e1 hd1 r1 => le.nx ρ S1 h1 F1 σ H1 e1 (at_.next e1 hd1)⟩⟩
theorem ws_ret (he : WE X F0 e te) : WS X F0 (.Return (some e) pos) (wRet te) :=
  ⟨psImp (ps_ret he.pe) fun D σ H ⟨F, ρ, S, P, at_, h, le⟩ => ⟨F, ρ, S, _, at_, h, le.rt⟩⟩
theorem ws_retN : WS X F0 (.Return none pos) wRetN :=
  ⟨psImp ps_retN fun D σ H ⟨F, ρ, S, P, at_, h, le⟩ => le.rt .non S h F H .non (Same.refl F) at_.hold .non⟩
theorem ws_if {c : Expr} (hc : WT X F0 c tc) (ha : WSs X F0 body t) (hb : WSs X F0 orelse u) : WS X F0 (.If c body orelse pos) (wIfS tc t u) :=
  ⟨psImp (ps_if hc.pt ha.pss hb.pss) fun D σ H ⟨F, ρ, S, P, at_, h, le⟩ => ⟨F, ρ, S, _, at_, h, fun k S1 h1 F1 H1 e1 hd1 => by
    cases k <;> exact ⟨F1, ρ, S1, P, at_.next e1 hd1, h1, le.mono e1⟩⟩⟩
theorem leg_of {F F1 : Hp} {ρ : PEnv} {S1 : Store} {σ : L2.St} {H1 : Hp} {P : PEnds} {D : Ends} {x : PV} {v : V} (le : LeS X.K F0 F P D) (a : At X.K F0 F1 ρ S1 σ H1) (e1 : Same F F1) (r : Rep X.K F1 v x) (h : g x ρ S1 P.nx) : lftG X.K F0 ks g v σ H1 D.nx :=
  ⟨F1, ρ, S1, x, _, a, r, h, fun ρ' S' q F' σ' H' e' a' _ => le.nx ρ' S' q F' σ' H' (e1.trans e') a'⟩
theorem ws_asg (he : WE X F0 e te) (hg : WG X F0 ks tg g) (hs : swapsWithSole [tg] e pos.line X.env = pure false := by rfl) (hw : swappedStores [tg] e X.env = pure none := by rfl)
    (h1 : (assignEach [tg] X.env).map (·.2) = [assign tg X.env] := by rfl) : WS X F0 (.Assign [tg] e pos) (wAsg te g) :=
  ⟨psImp (ps_asg he.pe hg.pg hs hw h1) fun D σ H ⟨F, ρ, S, P, at_, h, le⟩ => ⟨F, ρ, S, _, at_, h, fun x S1 h1 F1 H1 v e1 hd1 r1 => leg_of le (at_.next e1 hd1) e1 r1 h1⟩⟩
theorem ws_set (i : Nat) {x : Str} {pos' : Pos} (hN : X.N.Nodup) (he : WE X F0 e te) (hi : X.N[i]? = some x := by rfl) (hx : Loc X.env.scope x := by first | exact .inl rfl | exact .inr rfl) (hs : swapsWith e (some (.Name x pos')) pos.line X.env = pure false := by rfl) (hf : X.fn x = true ∨ X.env.scope.names.lookup x = some .local := by first | exact .inl rfl | exact .inr rfl) :
    WS X F0 (.Assign [.Name x pos'] e pos) (wAsg te (wgN i)) :=
  ⟨psImp (ps_set hN hi hx he.pe hs hf) fun D σ H ⟨F, ρ, S, P, at_, h, le⟩ => ⟨F, ρ, S, _, at_, h, fun x S1 h1 F1 H1 v e1 hd1 r1 => le.nx _ S1 h1 F1 _ H1 e1 ⟨at_.base.trans e1, hd1, (at_.env.mono e1).set i r1⟩⟩⟩
def wPar (i j : Nat) (ta : PTA) : PTS := fun P ρ S => ta ρ S fun xs S1 => match xs with
  | [x, y] => P.nx (stV (stV ρ i (some x)) j (some y)) S1
  | _ => False
def wPar3 (i j l : Nat) (ta : PTA) : PTS := fun P ρ S => ta ρ S fun xs S1 => match xs with
  | [x, y, z] => P.nx (stV (stV (stV ρ i (some x)) j (some y)) l (some z)) S1
  | _ => False
theorem ws_par {i j : Nat} {x y : Str} {a b : Expr} {ta : PTA} {px py pt : Pos} {kt k2 pt2} (hc : X.calm = true) (hN : X.N.Nodup) (ha : WA X F0 n [a, b] ta) (hi : X.N[i]? = some x := by rfl) (hj : X.N[j]? = some y := by rfl) (hij : i ≠ j := by decide)
    (hx : X.env.scope.names.lookup x = some .local := by rfl) (hy : X.env.scope.names.lookup y = some .local := by rfl)
    (hw : swappedStores [.Tuple [.Name x px, .Name y py] kt pt] (.Tuple [a, b] k2 pt2) X.env = pure (some [x, y]) := by rfl)
    (hs : swapsWithSole [.Tuple [.Name x px, .Name y py] kt pt] (.Tuple [a, b] k2 pt2) pos.line X.env = pure false := by rfl) :
    WS X F0 (.Assign [.Tuple [.Name x px, .Name y py] kt pt] (.Tuple [a, b] k2 pt2) pos) (wPar i j ta) :=
  ⟨psImp (ps_par hc hN hi hj hij hx hy ha.pa hw hs) fun D σ H ⟨F, ρ, S, P, at_, h, le⟩ => ⟨F, ρ, S, _, at_, h, fun xs S1 h1 hn F1 H1 v e1 hd1 r1 => by
    split at h1
    · cases r1 with
      | cons r1 r2 =>
        cases r2 with
        | cons r2 r3 =>
          cases r3
          exact ⟨_, _, rfl, le.nx _ S1 h1 F1 _ H1 e1 ⟨at_.base.trans e1, hd1, ((at_.env.mono e1).set i r1).set j r2⟩⟩
    · exact h1.elim⟩⟩
theorem ws_par3 {i j l : Nat} {x y z : Str} {a b c : Expr} {ta : PTA} {px py pz pt : Pos} {kt k2 pt2} (hc : X.calm = true) (hN : X.N.Nodup) (ha : WA X F0 n [a, b, c] ta) (hi : X.N[i]? = some x := by rfl) (hj : X.N[j]? = some y := by rfl) (hl : X.N[l]? = some z := by rfl) (hij : i ≠ j := by decide) (hil : i ≠ l := by decide) (hjl : j ≠ l := by decide)
    (hx : X.env.scope.names.lookup x = some .local := by rfl) (hy : X.env.scope.names.lookup y = some .local := by rfl) (hz : X.env.scope.names.lookup z = some .local := by rfl)
    (hw : swappedStores [.Tuple [.Name x px, .Name y py, .Name z pz] kt pt] (.Tuple [a, b, c] k2 pt2) X.env = pure (some [x, y, z]) := by rfl)
    (hs : swapsWithSole [.Tuple [.Name x px, .Name y py, .Name z pz] kt pt] (.Tuple [a, b, c] k2 pt2) pos.line X.env = pure false := by rfl) :
    WS X F0 (.Assign [.Tuple [.Name x px, .Name y py, .Name z pz] kt pt] (.Tuple [a, b, c] k2 pt2) pos) (wPar3 i j l ta) :=
  ⟨psImp (ps_par3 hc hN hi hj hl hij hil hjl hx hy hz ha.pa hw hs) fun D σ H ⟨F, ρ, S, P, at_, h, le⟩ => ⟨F, ρ, S, _, at_, h, fun xs S1 h1 hn F1 H1 v e1 hd1 r1 => by
    split at h1
    · cases r1 with
      | cons r1 r2 =>
        cases r2 with
        | cons r2 r3 =>
          cases r3 with
          | cons r3 r4 =>
            cases r4
            exact ⟨_, _, _, rfl, le.nx _ S1 h1 F1 _ H1 e1 ⟨at_.base.trans e1, hd1, (((at_.env.mono e1).set i r1).set j r2).set l r3⟩⟩
    · exact h1.elim⟩⟩
def wAug (i : Nat) (te : PTE) (r : PR2) : PTS := fun P ρ S => match nth ρ i with
  | some x => te ρ S fun y S1 => r x y S1 fun z S2 => P.nx (stV ρ i (some z)) S2
  | none => False
theorem ws_aug (i : Nat) {x : Str} {op : Operator} {r : PR2} {pos' : Pos} (hN : X.N.Nodup) (ho : OpW X (inplaceOp op) r) (he : WE X F0 e te) (hi : X.N[i]? = some x := by rfl) (hx : Loc X.env.scope x := by first | exact .inl rfl | exact .inr rfl) (hf : X.fn x = true ∨ X.env.scope.names.lookup x = some .local := by first | exact .inl rfl | exact .inr rfl) :
    WS X F0 (.AugAssign (.Name x pos') op e pos) (wAug i te r) :=
  ⟨psImp (ps_aug hN hi hx he.pe (ti := lft2 X.K r) ho hf) fun D σ H ⟨F, ρ, S, P, at_, h, le⟩ => by
    unfold wAug at h
    split at h
    · rename_i y q
      obtain ⟨v, e1, rv⟩ := at_.env.get q
      exact ⟨v, e1, F, ρ, S, _, at_, h, fun x S1 h1 F1 H1 w e1 hd1 r1 => ⟨F1, S1, y, x, _, hd1, rv.mono e1, r1, h1, fun z S2 h2 F2 H2 z' e2 hd2 r2 => le.nx _ S2 h2 F2 _ H2 (e1.trans e2) ⟨at_.base.trans (e1.trans e2), hd2, (at_.env.mono (e1.trans e2)).set i r2⟩⟩⟩
    · exact h.elim⟩
/-! ### loops -/
def wWhile (c : PTT) (tb : PTS) : PTS := fun P ρ S => ∃ W : Nat → PEnv → Store → Prop, (∃ m, W m ρ S) ∧ ∀ m ρ S, W m ρ S → c ρ S fun b S1 => match b with
  | true => ∃ N : PEnv → Store → Prop, (∀ ρ' S', N ρ' S' → ∃ m', m' < m ∧ W m' ρ' S') ∧ tb { P with nx := N, ct := N, bk := P.nx } ρ S1
  | false => P.nx ρ S1
theorem ws_while {c : Expr} (hp : PassesOwn (model X.prog X.w) X.A X.env X.xe) (hc : WT X F0 c tc) (hb : WSs X F0 body t) : WS X F0 (.While c body [] pos) (wWhile tc t) :=
  ⟨psImp (ps_while hp hc.pt hb.pss) fun D σ H ⟨F, ρ, S, P, at_, ⟨W, ⟨m0, w0⟩, step⟩, le⟩ => by
    refine ⟨fun m σ H => ∃ F' ρ S, Same F F' ∧ At X.K F0 F' ρ S σ H ∧ W m ρ S, ⟨m0, F, ρ, S, Same.refl F, at_, w0⟩, fun m σ1 H1 ⟨F1, ρ1, S1, e1, a1, w1⟩ => ?_⟩
    refine ⟨F1, ρ1, S1, _, a1, step m ρ1 S1 w1, fun b S2 h2 F2 H2 e2 hd2 => ?_⟩
    cases b with
    | false => exact le.nx ρ1 S2 h2 F2 σ1 H2 (e1.trans e2) (a1.next e2 hd2)
    | true =>
      obtain ⟨N, hN, hb⟩ := h2
      refine ⟨fun σ' H' => ∃ F' ρ' S', Same F F' ∧ At X.K F0 F' ρ' S' σ' H' ∧ N ρ' S', fun σ' H' ⟨F', ρ', S', e', a', n'⟩ => ?_, F2, ρ1, S2, _, a1.next e2 hd2, hb, ?_⟩
      · obtain ⟨m', l, w'⟩ := hN ρ' S' n'
        exact ⟨m', l, F', ρ', S', e', a', w'⟩
      · have e12 := e1.trans e2
        exact ⟨fun ρ' S' q F' σ' H' e' a' => ⟨F', ρ', S', e12.trans e', a', q⟩, (le.mono e12).rt, fun ρ' S' q F' σ' H' e' a' => le.nx ρ' S' q F' σ' H' (e12.trans e') a', fun ρ' S' q F' σ' H' e' a' => ⟨F', ρ', S', e12.trans e', a', q⟩⟩⟩
theorem while_inv {c : PTT} {tb : PTS} {P : PEnds} {ρ : PEnv} {S : Store} (W : Nat → PEnv → Store → Prop) (m : Nat) (h0 : W m ρ S)
    (hs : ∀ m ρ S, W m ρ S → c ρ S fun b S1 => match b with
      | true => ∃ N : PEnv → Store → Prop, (∀ ρ' S', N ρ' S' → ∃ m', m' < m ∧ W m' ρ' S') ∧ tb { P with nx := N, ct := N, bk := P.nx } ρ S1
      | false => P.nx ρ S1) : wWhile c tb P ρ S := ⟨W, ⟨m, h0⟩, hs⟩
end
/-- what is walked: its items, a guard that is asked at each turn -/
abbrev PTI := PEnv → Store → (List PV → (Store → Prop) → Store → Prop) → Prop
structure Walks (K : PySem.W.Frag) (J : It) (F : Hp) (xs : List PV) (G : Store → Prop) : Prop where
  stop : ∀ F' S H, Same F F' → Hold K F' S H → G S → J.stop xs.length H
  go : ∀ F' S H i x, Same F F' → Hold K F' S H → G S → xs[i]? = some x → J.go i H
  yld : ∀ F' S H i x, Same F F' → Hold K F' S H → G S → xs[i]? = some x → ∀ v H', J.yld i H v H' → ∃ F'', Same F' F'' ∧ Hold K F'' S H' ∧ Rep K F'' v x
def LeI (K : PySem.W.Frag) (F : Hp) (P : List PV → (Store → Prop) → Store → Prop) (R : It → Hp → Prop) : Prop := ∀ xs G S, P xs G S → ∀ F' H, Same F F' → Hold K F' S H → ∀ J, Walks K J F' xs G → R J H
def lftI (K : PySem.W.Frag) (F0 : Hp) (wi : PTI) : TI := fun σ H R => ∃ F ρ S P, At K F0 F ρ S σ H ∧ wi ρ S P ∧ LeI K F P R
structure WI (X : Cx) (F0 : Hp) (tg iter : Expr) (wi : PTI) : Prop where
  pi : PI X tg iter (lftI X.K F0 wi)
theorem piImp {X : Cx} {tg e : Expr} {t t' : TI} (h : PI X tg e t) (i : ∀ σ H R, t' σ H R → t σ H R) : PI X tg e t' := ⟨fun pins s σ H R I q => h.run pins s σ H R I (i _ _ _ q)⟩
theorem Walks.mono {K : PySem.W.Frag} {J : It} {F F' : Hp} {xs : List PV} {G : Store → Prop} (w : Walks K J F xs G) (e : Same F F') : Walks K J F' xs G :=
  ⟨fun F1 S H e1 => w.stop F1 S H (e.trans e1), fun F1 S H i x e1 => w.go F1 S H i x (e.trans e1), fun F1 S H i x e1 => w.yld F1 S H i x (e.trans e1)⟩
/-- a for's turns over the items: I says what holds with which items left -/
def forI (G : Store → Prop) (g : PTG) (tb : PTS) (P : PEnds) (xs : List PV) (ρ : PEnv) (S : Store) : Prop :=
  ∃ I : List PV → PEnv → Store → Prop, I xs ρ S ∧ (∀ ρ S, I [] ρ S → G S ∧ P.nx ρ S) ∧
    ∀ x r ρ S, I (x :: r) ρ S → G S ∧ g x ρ S fun ρ' S' => tb { P with nx := I r, ct := I r, bk := P.nx } ρ' S'
def wFor (wi : PTI) (g : PTG) (tb : PTS) : PTS := fun P ρ S => wi ρ S fun xs G S1 => forI G g tb P xs ρ S1
/-- turn by turn -/
def forL (G : Store → Prop) (g : PTG) (tb : PTS) (P : PEnds) : List PV → PEnv → Store → Prop
  | [], ρ, S => G S ∧ P.nx ρ S
  | x :: xs, ρ, S => G S ∧ g x ρ S fun ρ' S' => tb { P with nx := forL G g tb P xs, ct := forL G g tb P xs, bk := P.nx } ρ' S'
theorem for_unroll {G : Store → Prop} {g : PTG} {tb : PTS} {P : PEnds} {xs : List PV} {ρ : PEnv} {S : Store} (h : forL G g tb P xs ρ S) : forI G g tb P xs ρ S :=
  ⟨forL G g tb P, h, fun _ _ q => q, fun _ _ _ _ q => q⟩
theorem wipe_set_none {σ : L2.St} {i : Nat} : ∀ {vs : List Nat}, i ∈ vs → (wipe σ vs).set i none = wipe σ vs
  | [], h => nomatch h
  | j :: vs, h => by
    show ((wipe σ vs).set j none).set i none = (wipe σ vs).set j none
    by_cases e : i = j
    · subst e
      rw [List.set_set]
    · have m : i ∈ vs := by
        rcases List.mem_cons.mp h with z | z
        · exact absurd z e
        · exact z
      rw [List.set_comm _ _ (by omega), wipe_set_none m]
theorem wipe_wipe' (σ : L2.St) (ws : List Nat) : ∀ vs : List Nat, (∀ v ∈ vs, v ∈ ws) → wipe (wipe σ ws) vs = wipe σ ws
  | [], _ => rfl
  | v :: vs, h => by
    show (wipe (wipe σ ws) vs).set v none = wipe σ ws
    rw [wipe_wipe' σ ws vs fun u hu => h u (List.mem_cons_of_mem _ hu), wipe_set_none (h v List.mem_cons_self)]
theorem wipe_wipe (σ : L2.St) (vs : List Nat) : wipe (wipe σ vs) vs = wipe σ vs := wipe_wipe' σ vs vs fun _ h => h
theorem drop_at {α : Type} {xs : List α} {i : Nat} {x : α} {r : List α} (e : xs.drop i = x :: r) : xs[i]? = some x ∧ xs.drop (i + 1) = r ∧ i < xs.length := by
  have h1 : i < xs.length := by
    rcases Nat.lt_or_ge i xs.length with h | h
    · exact h
    · rw [List.drop_eq_nil_of_le h] at e
      cases e
  have h2 := List.drop_eq_getElem_cons h1
  rw [e] at h2
  injection h2 with a b
  exact ⟨by rw [List.getElem?_eq_getElem h1, a], b.symm, h1⟩
section
variable {X : Cx} {F0 : Hp} {iter tg elt : Expr} {body : List Stmt} {wi : PTI} {g : PTG} {tb : PTS} {ks : List Nat} {pos : Pos}
theorem ws_for (hp : PassesOwn (model X.prog X.w) X.A X.env X.xe) (hc : X.calm = true) (hi : WI X F0 tg iter wi) (hg : WG X F0 ks tg g) (hb : WSs X F0 body tb) (hs : ∀ x, foldedSetIterable iter X.env x = pure x := by intro _; rfl) :
    WS X F0 (.For tg iter body [] pos) (wFor wi g tb) :=
  ⟨psImp (ps_for hp hc hi.pi hg.pg hb.pss hs) fun D σ H ⟨F, ρ, S, P, at_, h, le⟩ => ⟨F, ρ, S, _, at_, h, fun xs G S1 h1 F1 H1 e1 hd1 J w => by
    obtain ⟨I, i0, iN, iS⟩ := h1
    refine ⟨fun i m σ H => ∃ F' ρ S, Same F1 F' ∧ At X.K F0 F' ρ S σ H ∧ m + i = xs.length ∧ I (xs.drop i) ρ S, ⟨xs.length, F1, ρ, S1, Same.refl F1, at_.next e1 hd1, rfl, i0⟩, fun i m σ2 H2 ⟨F2, ρ2, S2, e2, a2, hm, q2⟩ => ?_⟩
    have e12 := e1.trans e2
    cases hx : xs.drop i with
    | nil =>
      rw [hx] at q2
      have q3 := iN _ _ q2
      have hl : i = xs.length := by
        have := List.drop_eq_nil_iff.mp hx
        omega
      subst hl
      exact .inl ⟨w.stop F2 S2 H2 e2 a2.hold q3.1, le.nx ρ2 S2 q3.2 F2 σ2 H2 e12 a2⟩
    | cons x r =>
      rw [hx] at q2
      have q3 := iS _ _ _ _ q2
      obtain ⟨hx1, hx2, hx3⟩ := drop_at hx
      refine .inr ⟨w.go F2 S2 H2 i x e2 a2.hold q3.1 hx1, fun σ' H' => ∃ F' ρ' S', Same F1 F' ∧ At X.K F0 F' ρ' S' σ' H' ∧ I r ρ' S', fun σ' H' ⟨F', ρ', S', e', a', q'⟩ => ?_, fun v H' hy => ?_⟩
      · exact ⟨m - 1, by omega, F', ρ', S', e', a', by omega, by rw [hx2]; exact q'⟩
      · obtain ⟨F3, e3, hd3, r3⟩ := w.yld F2 S2 H2 i x e2 a2.hold q3.1 hx1 v H' hy
        refine ⟨F3, ρ2, S2, x, _, a2.next e3 hd3, r3, q3.2, fun ρ4 S4 q4 F4 σ4 H4 e4 a4 _ => ⟨F4, ρ4, S4, _, a4, q4, ?_⟩⟩
        have e24 := (e2.trans e3).trans e4
        have e14 := e1.trans e24
        exact ⟨fun ρ' S' q F' σ' H' e' a' => ⟨F', ρ', S', e24.trans e', a', q⟩, (le.mono e14).rt, fun ρ' S' q F' σ' H' e' a' => le.nx ρ' S' q F' σ' H' (e14.trans e') a', fun ρ' S' q F' σ' H' e' a' => ⟨F', ρ', S', e24.trans e', a', q⟩⟩⟩⟩
/-- by an invariant over what is done -/
theorem for_inv {G : Store → Prop} {P : PEnds} (I : List PV → PEnv → Store → Prop) {xs : List PV} {ρ : PEnv} {S : Store} (h0 : I [] ρ S)
    (hd : ∀ ρ S, I xs ρ S → G S ∧ P.nx ρ S)
    (hs : ∀ done x rest ρ S, xs = done ++ x :: rest → I done ρ S → G S ∧ g x ρ S fun ρ' S' => tb { P with nx := fun ρ S => ∃ d, xs = d ++ rest ∧ I d ρ S, ct := fun ρ S => ∃ d, xs = d ++ rest ∧ I d ρ S, bk := P.nx } ρ' S') : forI G g tb P xs ρ S :=
  ⟨fun rest ρ S => ∃ d, xs = d ++ rest ∧ I d ρ S, ⟨[], rfl, h0⟩, fun ρ S ⟨d, e, h⟩ => by
    rw [List.append_nil] at e
    subst e
    exact hd ρ S h, fun x r ρ S ⟨d, e, h⟩ => hs d x r ρ S e h⟩
/-! ### comprehensions -/
def wipeP (ρ : PEnv) : List Nat → PEnv
  | [] => ρ
  | v :: vs => stV (wipeP ρ vs) v none
theorem wipeP_env {K : PySem.W.Frag} {F : Hp} {ρ : PEnv} {σ : L2.St} (h : EnvR K F ρ σ) : ∀ vs : List Nat, EnvR K F (wipeP ρ vs) (wipe σ vs)
  | [] => h
  | v :: vs => EnvR.unset v (wipeP_env h vs)
structure WTs (X : Cx) (F0 : Hp) (ifs : List Expr) (t : PTT) : Prop where
  pts : PTs X ifs (lftT X.K F0 t)
def wYes : PTT := fun _ S Q => Q true S
theorem wts_nil : WTs X F0 [] wYes := ⟨⟨fun pins s σ H Q I ⟨F, ρ, S, P, at_, h, le⟩ => pts_nil.run pins s σ H Q I (le true S h F H (Same.refl F) at_.hold)⟩⟩
theorem wts_one {c : Expr} {t : PTT} (h : WT X F0 c t) : WTs X F0 [c] t := ⟨pts_one h.pt⟩
/-- a comprehension's turns; D is its list in the making -/
def lcEnd (mk : Bool) (D : Addr) (Q : PQ) (acc : List PV) (S : Store) : Prop := match mk with
  | false => Q (.lst acc) (rmv S D)
  | true => Q (.ref D) S
def lcI (mk : Bool) (D : Addr) (G : Store → Prop) (g : PTG) (tt : PTT) (te : PTE) (Q : PQ) (xs : List PV) (ρ : PEnv) (S : Store) : Prop :=
  ∃ I : List PV → List PV → Store → Prop, I xs [] (put S D (.raw (.lst []))) ∧ (∀ acc S, I [] acc S → G S ∧ S D = some (.raw (.lst acc)) ∧ lcEnd mk D Q acc S) ∧
    ∀ x r acc S, I (x :: r) acc S → G S ∧ g x ρ S fun ρ2 S2 => tt ρ2 S2 fun b S3 => match b with
      | true => te ρ2 S3 fun y S4 => S4 D = some (.raw (.lst acc)) ∧ acc.length < sizeLine ∧ I r (acc ++ [y]) (put S4 D (.raw (.lst (acc ++ [y]))))
      | false => I r acc S3
def wLc (mk : Bool) (wi : PTI) (g : PTG) (tt : PTT) (te : PTE) (vs : List Nat) : PTE := fun ρ S Q => wi ρ S fun xs G S1 => ∀ D, S1 D = none → lcI mk D G g tt te Q xs (wipeP ρ vs) S1
theorem lc_core2 {mk : Bool} {tt : PTT} {te : PTE} {vs : List Nat} {σ : L2.St} {H : Hp} {Q : VK} (hk : ∀ k ∈ ks, k ∈ vs) (h : lft X.K F0 (wLc mk wi g tt te vs) σ H Q) :
    tLc (lftI X.K F0 wi) (lftG X.K F0 ks g) (lftT X.K F0 tt) (lft X.K F0 te) vs σ H Q := by
  obtain ⟨F, ρ, S, P, at_, h, le⟩ := h
  refine ⟨F, ρ, S, _, at_, h, fun xs G S1 h1 F1 H1 e1 hd1 J w D nD => ?_⟩
  obtain ⟨I, i0, iN, iS⟩ := h1 D (hd1.freeS nD)
  have hd1' := hd1.newS (o := .lst []) (r := .lst []) nD .nil
  refine ⟨fun i m H => ∃ F' S acc, Same F1 F' ∧ Hold X.K F' S H ∧ m + i = xs.length ∧ I (xs.drop i) acc S, ⟨xs.length, F1, _, [], Same.refl F1, hd1', rfl, i0⟩, fun i m H2 ⟨F2, S2, acc, e2, hd2, hm, q2⟩ => ?_⟩
  have e12 := e1.trans e2
  cases hx : xs.drop i with
  | nil =>
    rw [hx] at q2
    obtain ⟨q3, q4, q5⟩ := iN _ _ q2
    have hl : i = xs.length := by
      have := List.drop_eq_nil_iff.mp hx
      omega
    subst hl
    refine .inl ⟨w.stop F2 S2 H2 e2 hd2 q3, ?_⟩
    cases mk with
    | true => exact le _ _ q5 _ H2 _ e12 hd2 (.ref D)
    | false =>
      obtain ⟨o, ho, ro, fo, hz⟩ := hd2.freeze q4
      have es := same_upd (o := o) fo
      refine le _ _ q5 _ H2 _ (e12.trans es) hz ?_
      cases o <;> first | exact ro.elim | skip
      exact .lst (.inl upd_same) (Reps.mono es ro)
  | cons x r =>
    rw [hx] at q2
    have q3 := iS _ _ _ _ q2
    obtain ⟨hx1, hx2, hx3⟩ := drop_at hx
    refine .inr ⟨w.go F2 S2 H2 i x e2 hd2 q3.1 hx1, fun H' => ∃ F' S' acc', Same F1 F' ∧ Hold X.K F' S' H' ∧ I r acc' S', fun H' ⟨F', S', acc', e', hd', q'⟩ => ⟨m - 1, by omega, F', S', acc', e', hd', by omega, by rw [hx2]; exact q'⟩, fun v H' hy => ?_⟩
    obtain ⟨F3, e3, hd3, r3⟩ := w.yld F2 S2 H2 i x e2 hd2 q3.1 hx1 v H' hy
    have e13 := e12.trans e3
    refine ⟨F3, wipeP ρ vs, S2, x, _, ⟨at_.base.trans e13, hd3, wipeP_env (at_.env.mono e13) vs⟩, r3, q3.2, fun ρ4 S4 q4 F4 σ4 H4 e4 a4 hw => ⟨?_, F4, ρ4, S4, _, a4, q4, fun b S5 q5 F5 H5 e5 hd5 => ?_⟩⟩
    · rw [hw vs hk]
      exact wipe_wipe σ vs
    · have e15 := ((e2.trans e3).trans e4).trans e5
      cases b with
      | false => exact ⟨F5, S5, acc, e15, hd5, q5⟩
      | true =>
        refine ⟨F5, ρ4, S5, _, a4.next e5 hd5, q5, fun y S6 q6 F6 H6 v6 e6 hd6 r6 => ?_⟩
        obtain ⟨p1, p2, p3⟩ := q6
        obtain ⟨f6, o, ho, ro⟩ := hd6.raw p1
        cases o <;> first | exact ro.elim | skip
        rename_i vs6
        have ro' : Reps X.K F6 vs6 acc := ro
        exact ⟨vs6, ho, by rw [ro'.len]; exact p2, F6, _, _, e15.trans e6, hd6.write p1 (o := .lst (vs6 ++ [v6])) (r' := .lst (acc ++ [y])) (ro'.app (.cons r6 .nil)), p3⟩
/-- [elt for tg in iter if ..] -/
theorem we_lc {mk : Bool} {ifs : List Expr} {scope : Scope} {own : List (Str × Nat)} {tt : PTT} {te : PTE} (hc : X.calm = true) (hN : X.N.Nodup) (hi : WI X F0 tg iter wi) (ok : BlkOk X.N X.env.scope scope own)
    (hg : ∀ (s : Shared) (H : Hp) (C : Addr) (cl : List (Str × Addr)) (fp : List Addr), WG (X.blk s H scope (compEnvC scope cl C X.env) fp) F0 ks tg g) (hk : ∀ k ∈ ks, k ∈ own.map (·.2)) (ht : ∀ (s : Shared) (H : Hp) (C : Addr) (cl : List (Str × Addr)) (fp : List Addr), WTs (X.blk s H scope (compEnvC scope cl C X.env) fp) F0 ifs tt)
    (he : ∀ (s : Shared) (H : Hp) (C : Addr) (cl : List (Str × Addr)) (fp : List Addr), WE (X.blk s H scope (compEnvC scope cl C X.env) fp) F0 elt te) (hs : ∀ x, foldedSetIterable iter X.env x = pure x := by intro _; rfl) :
    WE X F0 (.ListComp elt [⟨tg, iter, ifs, 0⟩] scope pos) (wLc mk wi g tt te (own.map (·.2))) :=
  ⟨peImp (pe_lc hc hN hi.pi ok (fun s H C cl fp => (hg s H C cl fp).pg) (fun s H C cl fp => (ht s H C cl fp).pts) (fun s H C cl fp => (he s H C cl fp).pe) hs) fun σ H Q h => lc_core2 hk h⟩
theorem ws_setLc {mk : Bool} (i : Nat) {y : Str} {py spos : Pos} {ifs : List Expr} {scope : Scope} {own : List (Str × Nat)} {tt : PTT} {te : PTE} (hc : X.calm = true) (hN : X.N.Nodup) (hi : WI X F0 tg iter wi) (ok : BlkOk X.N X.env.scope scope own)
    (hg : ∀ (s : Shared) (H : Hp) (C : Addr) (cl : List (Str × Addr)) (fp : List Addr), WG (X.blk s H scope (compEnvC scope cl C X.env) fp) F0 ks tg g) (hk : ∀ k ∈ ks, k ∈ own.map (·.2)) (ht : ∀ (s : Shared) (H : Hp) (C : Addr) (cl : List (Str × Addr)) (fp : List Addr), WTs (X.blk s H scope (compEnvC scope cl C X.env) fp) F0 ifs tt)
    (he : ∀ (s : Shared) (H : Hp) (C : Addr) (cl : List (Str × Addr)) (fp : List Addr), WE (X.blk s H scope (compEnvC scope cl C X.env) fp) F0 elt te)
    (hy : X.N[i]? = some y := by rfl) (hyl : X.env.scope.names.lookup y = some .local := by rfl) (hsw : swapsWith (.ListComp elt [⟨tg, iter, ifs, 0⟩] scope pos) (some (.Name y py)) spos.line X.env = pure true := by exact sw_true rfl rfl rfl (by decide +kernel)) (hs : ∀ x, foldedSetIterable iter X.env x = pure x := by intro _; rfl) :
    WS X F0 (.Assign [.Name y py] (.ListComp elt [⟨tg, iter, ifs, 0⟩] scope pos) spos) (wAsg (wLc mk wi g tt te (own.map (·.2))) (wgN i)) :=
  ⟨psImp (ps_setLc hc hN hy hyl hsw hi.pi ok (fun s H C cl fp => (hg s H C cl fp).pg) (fun s H C cl fp => (ht s H C cl fp).pts) (fun s H C cl fp => (he s H C cl fp).pe) hs) fun D σ H ⟨F, ρ, S, P, at_, h, le⟩ => lc_core2 hk ⟨F, ρ, S, _, at_, h, fun x S1 h1 F1 H1 v e1 hd1 r1 => le.nx _ S1 h1 F1 _ H1 e1 ⟨at_.base.trans e1, hd1, (at_.env.mono e1).set i r1⟩⟩⟩
end
end L2.Pv

/-! P5: defs, their promises, their calls. -/
namespace L2.Pv
open PySem PySem.Spec PyProof.Rows L2
variable [TbC]
/-- an exception that leaves: its class, its attributes -/
structure PX where
  C : Value
  fs : List (Str × PV)
def RepX (K : PySem.W.Frag) (F H : Hp) (cls : Value) (d : Option Addr) (e : PX) : Prop :=
  cls = e.C ∧ match d with
    | none => e.fs = []
    | some dd => ∃ vs, H dd = some (.xd vs) ∧ RepF K F vs e.fs
abbrev PSp := List PV → Store → PQ → (PX → Store → Prop) → Prop
def LeX (K : PySem.W.Frag) (F : Hp) (P : PX → Store → Prop) (E : XK) : Prop := ∀ e S, P e S → ∀ F' H cls d, Same F F' → Hold K F' S H → RepX K F' H cls d e → E cls d H
def lftSp (K : PySem.W.Frag) (sp : PSp) : Sp := fun vs H Q E => ∃ F S xs P PE, Hold K F S H ∧ Reps K F vs xs ∧ sp xs S P PE ∧ Le K F P Q ∧ LeX K F PE E
def lftX (K : PySem.W.Frag) (F0 : Hp) (E : PX → PEnv → Store → Prop) : WX := fun cls d σ H => ∃ F ρ S e, At K F0 F ρ S σ H ∧ RepX K F H cls d e ∧ E e ρ S
def TakesP (X : Cx) (F0 : Hp) (E : PX → PEnv → Store → Prop) : Prop := Takes X (lftX X.K F0 E)
structure FnG (P : Program) (w : World) (K : PySem.W.Frag) (mg : Str → Option Value) (base : Heap) (k : Nat) (f : Addr) (fd : FuncData) (ps : List Str) (sp : PSp) : Prop where
  len : ∀ xs S Q E, sp xs S Q E → xs.length = ps.length
  run : ∀ (A : Around) (outer : List Env) (s : Shared) (H : Hp) (args : Args) (us : List Value) (vs : List V) (Q : VK) (E : XK), A.guards = some [] → Room k A → Env0 P w K mg base A outer s H → BindsTo s fd args (ps.zip us) →
    Vals vs us → lftSp K sp vs H Q E → codeAny (model P w) A (.call (.ref f) args) (CR (L2.CX P w) outer P w H s Q E) s
theorem Reps.len' {K : PySem.W.Frag} {F : Hp} {vs : List V} {xs : List PV} {n : Nat} (r : Reps K F vs xs) (h : xs.length = n) : vs.length = n := r.len.trans h
theorem FnG.mono {P : Program} {w : World} {K : PySem.W.Frag} {mg : Str → Option Value} {base : Heap} {j k : Nat} {f : Addr} {fd : FuncData} {ps : List Str} {sp : PSp} (F : FnG P w K mg base j f fd ps sp) (h : j ≤ k) : FnG P w K mg base k f fd ps sp :=
  ⟨F.len, fun A o s H a us vs Q E g r => F.run A o s H a us vs Q E g (r.mono h)⟩
theorem FnG.imp {P : Program} {w : World} {K : PySem.W.Frag} {mg : Str → Option Value} {base : Heap} {k : Nat} {f : Addr} {fd : FuncData} {ps : List Str} {sp sp' : PSp} (F : FnG P w K mg base k f fd ps sp)
    (h : ∀ xs S Q E, sp' xs S Q E → sp xs S Q E) : FnG P w K mg base k f fd ps sp' :=
  ⟨fun xs S Q E q => F.len xs S Q E (h xs S Q E q), fun A o s H a us vs Q E g r e0 b v ⟨F1, S, xs, P, PE, a1, a2, a3, a4, a5⟩ => F.run A o s H a us vs Q E g r e0 b v ⟨F1, S, xs, P, PE, a1, a2, h _ _ _ _ a3, a4, a5⟩⟩
section
variable {X : Cx} {F0 : Hp} {k : Nat} {f : Addr} {fd : FuncData} {ps : List Str} {sp : PSp} {dvs : List V} {ds : List Value} {dxs : List PV} {x : Str} {p pos : Pos} {e : Expr} {es : List Expr} {t : PTA} {n : Nat} {E : PX → PEnv → Store → Prop}
/-- default values, as pure values -/
structure DfltP (K : PySem.W.Frag) (ds : List Value) (dxs : List PV) : Prop where
  rel : ∃ vs, Vals vs ds ∧ ∀ F, Reps K F vs dxs
theorem dflt0 {K : PySem.W.Frag} : DfltP K [] [] := ⟨[], .nil, fun _ => .nil⟩
def RsE (X : Cx) (pins : List (Addr × Obj)) (σ : L2.St) (Q : VK) : Result → Shared → Prop
  | .ok (.ret v), s' => EP X pins σ Q v s'
  | .error e, s' => X.xe e s'
  | _, _ => False
theorem call_end {pins : List (Addr × Obj)} {σ : L2.St} {H : Hp} {s s' : Shared} {Q : VK} {r : Result} {EX : XK} (I : Inv X pins σ H s) (hx : ∀ u s', L2.CX X.prog X.w X.stack H s EX u s' → X.xe u s')
    (h : CR (L2.CX X.prog X.w) X.stack X.prog X.w H s Q EX r s') : RsE X pins σ Q r s' := by
  rcases r with u | fl
  · exact hx u s' h
  · cases fl <;> first | exact I.after h | exact h
theorem run_fnG {pins : List (Addr × Obj)} {σ : L2.St} {H : Hp} {s : Shared} {Q : VK} {EX : XK} {args : Args} {us : List Value} {vs : List V} (F : FnG X.prog X.w X.K X.mg X.base k f fd ps sp) (hG : X.A.guards = some []) (hr : Room k X.A) (I : Inv X pins σ H s)
    (hb : BindsTo s fd args (ps.zip us)) (r : Vals vs us) (hx : ∀ u s', L2.CX X.prog X.w X.stack H s EX u s' → X.xe u s') (h : lftSp X.K sp vs H Q EX) :
    codeAny (model X.prog X.w) X.A (.call (.ref f) args) (RsE X pins σ Q) s :=
  codeAny_mono (F.run X.A X.stack s H args us vs Q EX hG hr I.env0 hb r h) fun _ _ q => call_end I hx q
/-- f(e, ..) -/
def wCall (sp : PSp) (dxs : List PV) (E : PX → PEnv → Store → Prop) (t : PTA) : PTE := fun ρ S Q => t ρ S fun xs S1 => sp (xs ++ dxs) S1 Q fun e S2 => E e ρ S2
theorem spl_call {pins : List (Addr × Obj)} {σ : L2.St} {H H1 : Hp} {s : Shared} {Q : VK} {F F1 : Hp} {ρ : PEnv} {S S1 : Store} {xs : List PV} {vs : List V} {us : List Value} {P : PQ} (G : FnG X.prog X.w X.K X.mg X.base k f fd ps sp) (hG : X.A.guards = some []) (hr : Room k X.A) (hb : Binds X.K fd ps ds) (hd : DfltP X.K ds dxs)
    (tk : TakesP X F0 E) (at_ : At X.K F0 F ρ S σ H) (le : Le X.K F P Q) (e1 : Same F F1) (hd1 : Hold X.K F1 S1 H1) (I : Inv X pins σ H1 s) (rv : Vals vs us) (r1 : Reps X.K F1 vs xs) (h : sp (xs ++ dxs) S1 P fun e S2 => E e ρ S2) :
    wpAny (model X.prog X.w) X.A (call (.ref f) us) (EP X pins σ Q) X.xe s := by
  obtain ⟨dv, dr, dp⟩ := hd.rel
  have rr := rv.append dr
  have ll := G.len _ _ _ _ h
  have l2 : (us ++ ds).length = ps.length := by rw [← rr.length]; exact (r1.app (dp F1)).len' ll
  refine wpAny_call (codeAny_mono (run_fnG (Q := Q) (EX := fun cls d H' => lftX X.K F0 E cls d σ H') G hG hr I (hb s us I.kIn l2) rr (fun u s' c => tk u s' (XE.of_call I (fun _ _ _ z => z) c)) ⟨F1, S1, _, P, _, hd1, r1.app (dp F1), h, le.mono e1, fun ex S2 q F2 H2 cls d e2 hd2 rx => ⟨F2, ρ, S2, ex, at_.next (e1.trans e2) hd2, rx, q⟩⟩) fun r s' q => ?_)
  rcases r with u | fl
  · exact q
  · cases fl <;> exact q
theorem we_call (G : FnG X.prog X.w X.K X.mg X.base k f fd ps sp) (hG : X.A.guards = some []) (hr : Room k X.A) (hm : X.mg x = some (.ref f)) (hk : PySem.W.keepIn X.K (.ref f) = true) (hb : Binds X.K fd ps ds) (hd : DfltP X.K ds dxs) (tk : TakesP X F0 E)
    (ha : WA X F0 n (e :: es) t) (hg : Gl X x := by rfl) (hdb : (x == ("__debug__" : Str)) = false := by decide) (he : starEach (e :: es) X.env = (false, eval e X.env) :: starEach es X.env := by rfl) (hpl : (backTo pos (starEach es X.env)).any (·.1) = false := by rfl) :
    WE X F0 (.Call (.Name x p) (e :: es) [] pos) (wCall sp dxs E t) :=
  ⟨⟨fun pins s σ H Q I ⟨F, ρ, S, P, at_, h, le⟩ => wpAny_Call_Name_kw (ld_glob I hg hm (PySem.W.callWith_K (h₀ := X.base) I.ok.mod.kin hk (thn (ha.pa.run pos pins s σ H (fun vs H' => ∃ F1 S1 xs, Same F F1 ∧ Hold X.K F1 S1 H' ∧ Reps X.K F1 vs xs ∧ sp (xs ++ dxs) S1 P fun e S2 => E e ρ S2) I
      ⟨F, ρ, S, _, at_, h, fun xs S1 h1 _ F1 H1 vs e1 hd1 r1 => ⟨F1, S1, xs, e1, hd1, r1, h1⟩⟩) fun us s1 ⟨vs, H1, I1, rv, F1, S1, xs, e1, hd1, r1, q⟩ => ⟨I1.kIn, spl_call G hG hr hb hd tk at_ le e1 hd1 I1 rv r1 q⟩) he hpl) hdb)⟩⟩
theorem we_call0 (G : FnG X.prog X.w X.K X.mg X.base k f fd ps sp) (hG : X.A.guards = some []) (hr : Room k X.A) (hm : X.mg x = some (.ref f)) (hk : PySem.W.keepIn X.K (.ref f) = true) (hb : Binds X.K fd ps ds) (hd : DfltP X.K ds dxs) (tk : TakesP X F0 E)
    (hg : Gl X x := by rfl) (hdb : (x == ("__debug__" : Str)) = false := by decide) : WE X F0 (.Call (.Name x p) [] [] pos) (wCall sp dxs E wNil) :=
  ⟨⟨fun pins s σ H Q I ⟨F, ρ, S, P, at_, h, le⟩ => wpAny_Call_Name_kw (ld_glob I hg hm (PySem.W.callWith_K0 I.kIn hk (spl_call G hG hr hb hd tk at_ le (Same.refl F) at_.hold I .nil .nil h)) hdb)⟩⟩
/-! ### calls with names -/
structure WK (X : Cx) (F0 : Hp) (n : Nat) (kws : List Keyword) (t : PTA) : Prop where
  pk : PK X kws (lftA X.K F0 n t)
theorem pkImp {kws : List Keyword} {t t' : TA} (h : PK X kws t) (i : ∀ σ H Q, t' σ H Q → t σ H Q) : PK X kws t' := ⟨fun pos pins s σ H Q I q => h.run pos pins s σ H Q I (i _ _ _ q)⟩
theorem wk_nil : WK X F0 0 [] wNil := ⟨pkImp pk_nil fun σ H Q ⟨F, ρ, S, P, at_, h, le⟩ => le [] S h rfl F H [] (Same.refl F) at_.hold .nil⟩
theorem wk_cons {nm : Option Str} {kpos : Pos} {kws : List Keyword} {te : PTE} (ha : WE X F0 e te) (hr : WK X F0 n kws t) : WK X F0 (n + 1) (⟨nm, e, kpos⟩ :: kws) (wCons te t) :=
  ⟨pkImp (pk_cons ha.pe hr.pk) fun σ H Q ⟨F, ρ, S, P, at_, h, le⟩ => ⟨F, ρ, S, _, at_, h, fun x S1 h1 F1 H1 v e1 hd1 r1 => ⟨F1, ρ, S1, _, at_.next e1 hd1, h1, fun xs S2 h2 hn F2 H2 vs e2 hd2 r2 =>
    le (x :: xs) S2 h2 (by rw [List.length_cons, hn]) F2 H2 (v :: vs) (e1.trans e2) hd2 (.cons (r1.mono e2) r2)⟩⟩⟩
/-- how positional and named arguments come to the parameters: by g (values) and gP (pure values) -/
structure KB (K : PySem.W.Frag) (fd : FuncData) (ps ks : List Str) (a b : Nat) (g : List Value → List Value → List Value) (gP : List PV → List PV → List PV) : Prop where
  to : ∀ (s : Shared) (us ws : List Value), K.In s.heap → us.length = a → ws.length = b → BindsTo s fd ⟨us, ks.zip ws⟩ (ps.zip (g us ws))
  rel : ∀ {vs : List V} {us : List Value} {zs : List V} {ws : List Value} {F : Hp} {xs ys : List PV}, vs.length = a → zs.length = b → Vals vs us → Vals zs ws → Reps K F vs xs → Reps K F zs ys → ∃ v2, Vals v2 (g us ws) ∧ Reps K F v2 (gP xs ys)
def wCallK (sp : PSp) (gP : List PV → List PV → List PV) (E : PX → PEnv → Store → Prop) (t tk : PTA) : PTE := fun ρ S Q => t ρ S fun xs S1 => tk ρ S1 fun ys S2 => sp (gP xs ys) S2 Q fun e S3 => E e ρ S3
variable {ks : List Str} {g : List Value → List Value → List Value} {gP : List PV → List PV → List PV} {kws : List Keyword} {tk' : PTA} {m : Nat}
theorem spl_callK {pins : List (Addr × Obj)} {σ : L2.St} {H H1 : Hp} {s : Shared} {Q : VK} {F F1 : Hp} {ρ : PEnv} {S S1 : Store} {xs ys : List PV} {vs zs : List V} {us ws : List Value} {P : PQ} (G : FnG X.prog X.w X.K X.mg X.base k f fd ps sp) (hG : X.A.guards = some []) (hr : Room k X.A) (hb : KB X.K fd ps ks n m g gP)
    (tk : TakesP X F0 E) (at_ : At X.K F0 F ρ S σ H) (le : Le X.K F P Q) (e1 : Same F F1) (hd1 : Hold X.K F1 S1 H1) (I : Inv X pins σ H1 s) (l1 : xs.length = n) (l2 : ys.length = m) (rv : Vals vs us) (rz : Vals zs ws) (r1 : Reps X.K F1 vs xs) (r2 : Reps X.K F1 zs ys) (h : sp (gP xs ys) S1 P fun e S2 => E e ρ S2) :
    wpAny (model X.prog X.w) X.A (call (.ref f) us (ks.zip ws)) (EP X pins σ Q) X.xe s := by
  have a1 := r1.len' l1
  have a2 := r2.len' l2
  obtain ⟨v2, rr, rp⟩ := hb.rel a1 a2 rv rz r1 r2
  refine wpAny_call (codeAny_mono (run_fnG (Q := Q) (EX := fun cls d H' => lftX X.K F0 E cls d σ H') G hG hr I (hb.to s us ws I.kIn (by rw [← rv.length, a1]) (by rw [← rz.length, a2])) rr (fun u s' c => tk u s' (XE.of_call I (fun _ _ _ z => z) c)) ⟨F1, S1, _, P, _, hd1, rp, h, le.mono e1, fun ex S2 q F2 H2 cls d e2 hd2 rx => ⟨F2, ρ, S2, ex, at_.next (e1.trans e2) hd2, rx, q⟩⟩) fun r s' q => ?_)
  rcases r with u | fl
  · exact q
  · cases fl <;> exact q
theorem we_callK (G : FnG X.prog X.w X.K X.mg X.base k f fd ps sp) (hG : X.A.guards = some []) (hr : Room k X.A) (hm : X.mg x = some (.ref f)) (hk : PySem.W.keepIn X.K (.ref f) = true) (hb : KB X.K fd ps ks n m g gP) (tk : TakesP X F0 E)
    (ha : WA X F0 n (e :: es) t) (hkw : WK X F0 m kws tk') (hg : Gl X x := by rfl) (hall : (backToKw pos (keywordEach kws X.env)).all (·.1.isSome) = true := by rfl) (hks : (backToKw pos (keywordEach kws X.env)).filterMap (·.1) = ks := by rfl)
    (hdb : (x == ("__debug__" : Str)) = false := by decide) (he : starEach (e :: es) X.env = (false, eval e X.env) :: starEach es X.env := by rfl)
    (hpl : ((backTo pos (starEach (e :: es) X.env)).any (·.1) || (backToKw pos (keywordEach kws X.env)).any (·.1.isNone)) = false := by rfl) :
    WE X F0 (.Call (.Name x p) (e :: es) kws pos) (wCallK sp gP E t tk') :=
  ⟨⟨fun pins s σ H Q I ⟨F, ρ, S, P, at_, h, le⟩ => wpAny_Call_Name_kw (ld_glob I hg hm (PySem.W.callWith_KW (h₀ := X.base) I.ok.mod.kin hk hall (thn (ha.pa.run pos pins s σ H (fun vs H' => ∃ F1 S1 xs, Same F F1 ∧ Hold X.K F1 S1 H' ∧ Reps X.K F1 vs xs ∧ xs.length = n ∧ tk' ρ S1 fun ys S2 => sp (gP xs ys) S2 P fun e S3 => E e ρ S3) I
      ⟨F, ρ, S, _, at_, h, fun xs S1 h1 l1 F1 H1 vs e1 hd1 r1 => ⟨F1, S1, xs, e1, hd1, r1, l1, h1⟩⟩) fun us s1 ⟨vs, H1, I1, rv, F1, S1, xs, e1, hd1, r1, l1, q⟩ =>
      thn (hkw.pk.run pos pins s1 σ H1 (fun zs H' => ∃ F2 S2 ys, Same F1 F2 ∧ Hold X.K F2 S2 H' ∧ Reps X.K F2 zs ys ∧ ys.length = m ∧ sp (gP xs ys) S2 P fun e S3 => E e ρ S3) I1 ⟨F1, ρ, S1, _, at_.next e1 hd1, q, fun ys S2 h2 l2 F2 H2 zs e2 hd2 r2 => ⟨F2, S2, ys, e2, hd2, r2, l2, h2⟩⟩) fun ws s2 ⟨zs, H2, I2, rz, F2, S2, ys, e2, hd2, r2, l2, q2⟩ =>
        ⟨I2.kIn, by rw [hks]; exact spl_callK G hG hr hb tk at_ le (e1.trans e2) hd2 I2 l1 l2 rv rz (r1.mono e2) r2 q2⟩) hpl he) hdb)⟩⟩
end
theorem tk0 {X : Cx} {F0 : Hp} : TakesP X F0 (fun _ _ _ => False) := fun _ _ x => by
  obtain ⟨_, _, _, _, _, _, _, _, _, _, _, _, _, _, _, _, _, _, _, _, _, _, z⟩ := x
  exact z.elim
/-! ### a def, by its body -/
def startP (N : List Str) (xs : List PV) : PEnv := xs.map some ++ List.replicate (N.length - xs.length) none
theorem start_env {K : PySem.W.Frag} {F : Hp} (N : List Str) {vs : List V} {xs : List PV} (r : Reps K F vs xs) : EnvR K F (startP N xs) (start N vs) := by
  unfold startP start
  rw [r.len]
  have rep : ∀ n : Nat, EnvR K F (List.replicate n none) (List.replicate n none) := by
    intro n
    induction n with
    | zero => exact .nil
    | succ n ih => exact .cons (fun _ e => nomatch e) ih
  generalize N.length - xs.length = m
  induction vs generalizing xs with
  | nil => cases r; exact rep m
  | cons v vs ih =>
    cases r with
    | cons a b => exact .cons (fun y e => ⟨v, rfl, by cases e; exact a⟩) (ih b)
theorem okG {P : Program} {w : World} {K : PySem.W.Frag} {mg : Str → Option Value} {base : Heap} {x qual : Str} {st : Stmt} {f : Addr} {fd : FuncData} {N ps : List Str} {k : Nat} {sp : PSp} (F : Fun K x qual st f fd) (S : FnScope N ps (defScope st)) (len : ∀ xs S Q E, sp xs S Q E → xs.length = ps.length)
    (hbody : ∀ (cdv : Value) (A : Around) (outer : List Env) (s : Shared) (H : Hp) (EX : XK) (F0 : Hp) (xs : List PV) (S0 : Store) (Q : PQ) (E : PX → Store → Prop), (A.deeper (envOfC qual (defScope st) s.heap.objs.size f cdv)).guards = some [] → Room k (A.deeper (envOfC qual (defScope st) s.heap.objs.size f cdv)) →
      PassesOwn (model P w) (cxOf (L2.CX P w) P w K mg base N qual (defScope st) f cdv A outer s H EX).A (cxOf (L2.CX P w) P w K mg base N qual (defScope st) f cdv A outer s H EX).env (cxOf (L2.CX P w) P w K mg base N qual (defScope st) f cdv A outer s H EX).xe →
      TakesP (cxOf (L2.CX P w) P w K mg base N qual (defScope st) f cdv A outer s H EX) F0 (fun e _ S => E e S) → sp xs S0 Q E →
      ∃ t, WSs (cxOf (L2.CX P w) P w K mg base N qual (defScope st) f cdv A outer s H EX) F0 (defBody st) t ∧ t { nx := fun _ S' => Q .non S', rt := Q } (startP N xs) S0) : FnG P w K mg base (k + 1) f fd ps sp := by
  obtain ⟨oc, od, kV, doc, pm, an, cdv, ct, osl, rfl, lk, hcd⟩ := F.ex
  refine ⟨len, fun A outer s H args us vs Q E hG hr e0 hb r ⟨F1, S1, xs, PQ, PE, hd, rx, hsp, le, lx⟩ => ?_⟩
  have hl := rx.len' (len _ _ _ _ hsp)
  have kin : K.In s.heap := e0.mod.kin.keeps fun b o e => (e0.bs b o e).1
  have nol : s.heap.NoLimit := e0.mod.nolimit.keeps fun b o e => (e0.bs b o e).1
  refine Att.call_fn kin nol lk hcd hr.depth hb ?_ (fun s1 ic => ?_) S.co S.gen S.kind
  · rw [List.all_eq_true]
    intro y hy
    have m := S.par y.1 (List.of_mem_zip hy).1
    rcases m with m | m <;> rw [m] <;> rfl
  · have I := inv_start (CX := L2.CX P w) (E := E) S hr.hd e0 hl r ic
    have tk : TakesP (cxOf (L2.CX P w) P w K mg base N qual (defScope st) f cdv A outer s H E) F1 (fun e _ S => PE e S) := by
      refine Takes.imp (takes_of rfl rfl rfl rfl) fun cls d σ H2 z => ?_
      obtain ⟨F2, ρ, S2, e, a, rX, q⟩ := z
      exact lx e S2 q F2 H2 cls d a.base a.hold rX
    obtain ⟨t, ht, hq⟩ := hbody cdv A outer s H E F1 xs S1 PQ PE hG (hr.deeper _) (passes_of (K := fun e s'' => L2.CX P w outer H s E e s'') rfl) tk hsp
    refine wpAny_mono (ht.pss.run [] s1 _ H { nx := fun _ H' => Q .non H', rt := Q } I ⟨F1, _, S1, _, ⟨Same.refl F1, hd, start_env N rx⟩, hq, ⟨fun ρ S2 q F2 σ2 H2 e2 a2 => le .non S2 q F2 H2 .non e2 a2.hold .non, le, fun _ _ z => z.elim, fun _ _ z => z.elim⟩⟩) (fun fl s' q => ?_) fun _ _ q => q
    have done : ∀ {σ' : L2.St} {H' : Hp} {v : V} {u : Value}, Inv (cxOf (L2.CX P w) P w K mg base N qual (defScope st) f cdv A outer s H E) [] σ' H' s' → RelV v u → Q v H' → CE outer P w H s Q u s' := fun {_ H' v _} J a b => ⟨v, H', J.os, J.bare, J.base, J.hok, a, b⟩
    cases fl with
    | ret u => obtain ⟨v, σ', H', J, a, b⟩ := q; exact done J a b
    | next => obtain ⟨σ', H', J, b⟩ := q; exact done (v := .non) J rfl b
    | brk => obtain ⟨_, _, _, b⟩ := q; exact b.elim
    | cont => obtain ⟨_, _, _, b⟩ := q; exact b.elim
theorem hu80 {A : Around} {k : Nat} (hr : Room k A) : A.units + 80 < cLine := by have := hr.un; omega
end L2.Pv

/-! P6: what is walked; numbers, texts, lists, tuples: operators and places. -/
namespace L2.Pv
open PySem PySem.Spec PyProof.Rows L2
variable [TbC]
/-! ### sequences -/
def seqL (S : Store) : PV → Option (List PV)
  | .lst xs => some xs
  | .ref a => match rdS S a with
    | some (.lst xs) => some xs
    | _ => none
  | _ => none
theorem seqL_rd {K : PySem.W.Frag} {F H : Hp} {S : Store} {v : V} {x : PV} {xs : List PV} (hd : Hold K F S H) (r : Rep K F v x) (h : seqL S x = some xs) : ∃ a vs, v = .ref a ∧ Rd H a (.lst vs) ∧ Reps K F vs xs := by
  cases r with
  | lst a b => cases h; exact ⟨_, _, rfl, hd.sub.rd a, b⟩
  | ref a =>
    simp only [seqL] at h
    split at h
    · rename_i ys q
      cases h
      obtain ⟨_, o, ho, ro⟩ := hd.rd q
      cases o <;> first | exact ro.elim | exact ⟨_, _, rfl, ho, ro⟩
    · cases h
  | _ => cases h
/-- what is the guard of a walk over x -/
def guardOf (x : PV) (xs : List PV) : Store → Prop := match x with
  | .ref _ => fun S => seqL S x = some xs
  | _ => fun _ => True
def signs (z : Str) : List PV := z.cps.toList.map fun c => .str ⟨#[c]⟩
def rows : PV → Store → Option (List PV)
  | .tup xs, _ => some xs
  | .str z, _ => some (signs z)
  | x, S => seqL S x
section
variable {X : Cx} {F0 : Hp} {tg e : Expr} {te : PTE} {pos : Pos}
def wiSeq (te : PTE) : PTI := fun ρ S R => te ρ S fun x S1 => match x with
  | .tup xs => R xs (fun _ => True) S1
  | .str z => R (signs z) (fun _ => True) S1
  | .lst xs => R xs (fun _ => True) S1
  | .scr xs => R xs (fun _ => True) S1
  | .ref a => match rdS S1 a with
    | some (.lst xs) => R xs (fun S => seqL S (.ref a) = some xs) S1
    | _ => False
  | _ => False
theorem it_list {pins : List (Addr × Obj)} {σ : L2.St} {H : Hp} {s : Shared} {a : Addr} {vs : List V} {R : It → Hp → Prop} (I : Inv X pins σ H s) (hq : SqL X.K H a vs) (q : R (Itl X.K a) H) : wpAny (model X.prog X.w) X.A (pyIter (.ref a)) (PIE X pins σ tg R) X.xe s := by
  obtain ⟨its, _, p, _⟩ := I.list hq
  exact wpAny_pyIter_list p.isList (pi_one (tk := s.toks) I _ (turn_list a _) ⟨_, Heap.get?_push_size _ rfl, rfl, rfl⟩ q)
theorem it_tup {pins : List (Addr × Obj)} {σ : L2.St} {H : Hp} {s : Shared} {a : Addr} {vs : List V} {R : It → Hp → Prop} (I : Inv X pins σ H s) (hq : SqT X.K H a vs) (q : R (Itt X.K a) H) : wpAny (model X.prog X.w) X.A (pyIter (.ref a)) (PIE X pins σ tg R) X.xe s := by
  obtain ⟨its, _, p, _⟩ := I.tuple hq
  exact wpAny_pyIter_tuple (show s.heap.IsTuple a its.toArray from p) (pi_one (tk := s.toks) I _ (turn_tuple a _) ⟨_, Heap.get?_push_size _ rfl, rfl, rfl⟩ q)
theorem it_str {pins : List (Addr × Obj)} {σ : L2.St} {H : Hp} {s : Shared} {x : Str} {t : Tok} {R : It → Hp → Prop} (I : Inv X pins σ H s) (q : R (Its x) H) : wpAny (model X.prog X.w) X.A (pyIter (.str x t)) (PIE X pins σ tg R) X.xe s := by
  cases hx : x.cps.all (· < 128) with
  | false => exact wpAny_pyIter_wide hx (pi_one (tk := s.toks) I _ (turn_str _ x t "str_iterator" (.inr rfl)) ⟨_, Heap.get?_push_size _ rfl, rfl, rfl⟩ q)
  | true => exact wpAny_pyIter_ascii hx (pi_one (tk := s.toks) I _ (turn_str _ x t "str_ascii_iterator" (.inl rfl)) ⟨_, Heap.get?_push_size _ rfl, rfl, rfl⟩ q)
theorem walks_lst {K : PySem.W.Frag} {F : Hp} {a : Addr} {xs : List PV} {G : Store → Prop} (h : ∀ F' S H, Same F F' → Hold K F' S H → G S → ∃ ws, SqL K H a ws ∧ Reps K F' ws xs) : Walks K (Itl K a) F xs G where
  stop := fun F' S H e hd g => by
    obtain ⟨ws, h1, h2⟩ := h F' S H e hd g
    exact ⟨ws, h1, by rw [h2.len]; exact Nat.le_refl _⟩
  go := fun F' S H i x e hd g hx => by
    obtain ⟨ws, h1, h2⟩ := h F' S H e hd g
    obtain ⟨v, hv, _⟩ := h2.get hx
    exact ⟨ws, v, h1, hv⟩
  yld := fun F' S H i x e hd g hx v H' ⟨hH, hv⟩ => by
    obtain ⟨ws, h1, h2⟩ := h F' S H e hd g
    obtain ⟨v2, hv2, r2⟩ := h2.get hx
    have e3 := hv ws h1
    rw [hv2] at e3
    cases e3
    subst hH
    exact ⟨F', Same.refl F', hd, r2⟩
theorem walks_tup {K : PySem.W.Frag} {F : Hp} {a : Addr} {xs : List PV} {vs : List V} (h : TpAt K F a vs) (r : Reps K F vs xs) : Walks K (Itt K a) F xs (fun _ => True) where
  stop := fun F' S H e hd g => ⟨vs, hd.sub.sqT (sqT_same e h), by rw [r.len]; exact Nat.le_refl _⟩
  go := fun F' S H i x e hd g hx => by
    obtain ⟨v, hv, _⟩ := r.get hx
    exact ⟨vs, v, hd.sub.sqT (sqT_same e h), hv⟩
  yld := fun F' S H i x e hd g hx v H' ⟨hH, hv⟩ => by
    obtain ⟨v2, hv2, r2⟩ := r.get hx
    have e3 := hv vs (hd.sub.sqT (sqT_same e h))
    rw [hv2] at e3
    cases e3
    subst hH
    exact ⟨F', Same.refl F', hd, r2.mono e⟩
theorem signs_get {z : Str} {i : Nat} {x : PV} (h : (signs z)[i]? = some x) : ∃ c, z.cps[i]? = some c ∧ x = .str ⟨#[c]⟩ := by
  unfold signs at h
  rw [List.getElem?_map] at h
  cases q : z.cps.toList[i]? with
  | none => rw [q] at h; cases h
  | some c =>
    rw [q] at h
    cases h
    exact ⟨c, by simpa using q, rfl⟩
theorem walks_str {K : PySem.W.Frag} {F : Hp} (z : Str) : Walks K (Its z) F (signs z) (fun _ => True) where
  stop := fun F' S H e hd g => by
    show z.cps.size ≤ (signs z).length
    unfold signs
    rw [List.length_map]
    exact Nat.le_of_eq (Array.length_toList).symm
  go := fun F' S H i x e hd g hx => by
    obtain ⟨c, hc, _⟩ := signs_get hx
    exact (Array.getElem?_eq_some_iff.mp hc).1
  yld := fun F' S H i x e hd g hx v H' ⟨hH, c, hc, hv⟩ => by
    obtain ⟨c2, hc2, rfl⟩ := signs_get hx
    rw [hc] at hc2
    cases hc2
    subst hH hv
    exact ⟨F', Same.refl F', hd, .str _⟩
theorem wi_seq (he : WE X F0 e te) : WI X F0 tg e (wiSeq te) :=
  ⟨⟨fun pins s σ H R I ⟨F, ρ, S, P, at_, h, le⟩ => thn (he.pe.run pins s σ H (fun v H' => ∃ F1 S1 x, Same F F1 ∧ Hold X.K F1 S1 H' ∧ Rep X.K F1 v x ∧ (match x with
      | .tup xs => P xs (fun _ => True) S1
      | .str z => P (signs z) (fun _ => True) S1
      | .lst xs => P xs (fun _ => True) S1
      | .scr xs => P xs (fun _ => True) S1
      | .ref a => match rdS S1 a with
        | some (.lst xs) => P xs (fun S => seqL S (.ref a) = some xs) S1
        | _ => False
      | _ => False)) I ⟨F, ρ, S, _, at_, h, fun x S1 h1 F1 H1 v e1 hd1 r1 => ⟨F1, S1, x, e1, hd1, r1, h1⟩⟩) fun u s1 ⟨v, H1, I1, rv, F1, S1, x, e1, hd1, r1, q⟩ => by
    cases r1 with
    | lst a b =>
      cases rv
      exact it_list I1 (.inl (hd1.sub.rd a)) (le _ _ S1 q F1 H1 e1 hd1 _ (walks_lst fun F' S' H' e' hd' _ => ⟨_, .inl (hd'.sub.rd (rd_same e' a)), b.mono e'⟩))
    | scr a b =>
      cases rv
      exact it_list I1 (hd1.sub.sqL a) (le _ _ S1 q F1 H1 e1 hd1 _ (walks_lst fun F' S' H' e' hd' _ => ⟨_, hd'.sub.sqL (e'.seq a), b.mono e'⟩))
    | tup a b =>
      cases rv
      exact it_tup I1 (hd1.sub.sqT a) (le _ _ S1 q F1 H1 e1 hd1 _ (walks_tup a b))
    | str z =>
      obtain ⟨t, rfl⟩ := rv
      exact it_str I1 (le _ _ S1 q F1 H1 e1 hd1 _ (walks_str z))
    | ref a =>
      cases rv
      simp only at q
      split at q
      · rename_i xs hq
        obtain ⟨_, o, ho, ro⟩ := hd1.rd hq
        cases o <;> first | exact ro.elim | skip
        refine it_list I1 (.inl ho) (le _ _ S1 q F1 H1 e1 hd1 _ (walks_lst fun F' S' H' e' hd' g => ?_))
        obtain ⟨a', ws, z1, z2, z3⟩ := seqL_rd hd' (.ref a) g
        cases z1
        exact ⟨ws, .inl z2, z3⟩
      · exact q.elim
    | _ => exact q.elim⟩⟩
/-- range -/
def rngP (lo : Int) (n : Nat) : List PV := (List.range n).map fun i => .int (lo + (i : Nat))
def wiRng1 (ta : PTA) : PTI := fun ρ S R => ta ρ S fun xs S1 => match xs with
  | [.int j] => -(2 ^ 62) ≤ j ∧ j < 2 ^ 62 ∧ R (rngP 0 j.toNat) (fun _ => True) S1
  | _ => False
def wiRng2 (ta : PTA) : PTI := fun ρ S R => ta ρ S fun xs S1 => match xs with
  | [.int i, .int j] => (-(2 ^ 62) ≤ i ∧ i < 2 ^ 62 ∧ -(2 ^ 62) ≤ j ∧ j < 2 ^ 62) ∧ R (rngP i (j - i).toNat) (fun _ => True) S1
  | _ => False
theorem ints_get {lo : Int} {n i : Nat} {x : PV} (h : (rngP lo n)[i]? = some x) : i < n ∧ x = .int (lo + (i : Nat)) := by
  unfold rngP at h
  rw [List.getElem?_map] at h
  cases q : (List.range n)[i]? with
  | none => rw [q] at h; cases h
  | some c =>
    rw [q] at h
    cases h
    obtain ⟨h1, h2⟩ := List.getElem?_eq_some_iff.mp q
    rw [List.getElem_range] at h2
    subst h2
    exact ⟨by simpa using h1, rfl⟩
theorem walks_rng {K : PySem.W.Frag} {F : Hp} (lo : Int) (n : Nat) : Walks K (Itr lo n) F (rngP lo n) (fun _ => True) where
  stop := fun F' S H e hd g => by
    show n ≤ (rngP lo n).length
    unfold rngP
    rw [List.length_map, List.length_range]
    exact Nat.le_refl _
  go := fun F' S H i x e hd g hx => (ints_get hx).1
  yld := fun F' S H i x e hd g hx v H' ⟨hH, hv⟩ => by
    obtain ⟨_, rfl⟩ := ints_get hx
    subst hH hv
    exact ⟨F', Same.refl F', hd, .int _⟩
variable {a b : Expr} {ta : PTA} {n : Nat} {p : Pos}
theorem wi_rng1 (hm : X.mg "range" = none) (ha : WA X F0 n [a] ta) (hg : Gl X "range" := by rfl) (hs : starEach [a] X.env = [(false, eval a X.env)] := by rfl) : WI X F0 tg (.Call (.Name "range" p) [a] [] pos) (wiRng1 ta) :=
  ⟨piImp (pi_range1 hg hm ha.pa hs) fun σ H R ⟨F, ρ, S, P, at_, h, le⟩ => ⟨F, ρ, S, _, at_, h, fun xs S1 h1 _ F1 H1 vs e1 hd1 r1 => by
    split at h1
    · cases r1 with
      | cons r1 r2 =>
        cases r2
        cases r1
        exact ⟨_, rfl, h1.1, h1.2.1, le _ _ S1 h1.2.2 F1 H1 e1 hd1 _ (walks_rng 0 _)⟩
    · exact h1.elim⟩⟩
theorem wi_rng2 (hm : X.mg "range" = none) (ha : WA X F0 n [a, b] ta) (hg : Gl X "range" := by rfl) (hs : starEach [a, b] X.env = [(false, eval a X.env), (false, eval b X.env)] := by rfl) (hs2 : starEach [b] X.env = [(false, eval b X.env)] := by rfl) : WI X F0 tg (.Call (.Name "range" p) [a, b] [] pos) (wiRng2 ta) :=
  ⟨piImp (pi_range2 hg hm ha.pa hs hs2) fun σ H R ⟨F, ρ, S, P, at_, h, le⟩ => ⟨F, ρ, S, _, at_, h, fun xs S1 h1 _ F1 H1 vs e1 hd1 r1 => by
    split at h1
    · cases r1 with
      | cons r1 r2 =>
        cases r2 with
        | cons r2 r3 =>
          cases r3
          cases r1
          cases r2
          exact ⟨_, _, rfl, h1.1, le _ _ S1 h1.2 F1 H1 e1 hd1 _ (walks_rng _ _)⟩
    · exact h1.elim⟩⟩
/-! ### + - * // % ** -/
end
section
variable {X : Cx}
def addP : PR2 := fun x y S Q => match x, y with
  | .int i, .int j => Q (.int (i + j)) S
  | .str i, .str j => i.length + j.length ≤ sizeLine ∧ Q (.str (i ++ j)) S
  | .tup xs, .tup ys => xs.length + ys.length ≤ sizeLine ∧ Q (.tup (xs ++ ys)) S
  | .lst xs, .lst ys => xs.length + ys.length ≤ sizeLine ∧ Q (.lst (xs ++ ys)) S
  | x, y => match seqL S x, seqL S y with
    | some xs, some ys => xs.length + ys.length ≤ sizeLine ∧ Q (.lst (xs ++ ys)) S
    | _, _ => False
theorem lst_at {pins : List (Addr × Obj)} {σ : L2.St} {H : Hp} {s : Shared} {a : Addr} {vs : List V} (I : Inv X pins σ H s) (h : Rd H a (.lst vs)) : vs.length ≤ sizeLine ∧ ∃ (its : List Value) (n : Nat), Vals vs its ∧ vs.length = its.length ∧ s.heap.get? a = some { cls := .type "list", data := .seq its.toArray n } := by
  obtain ⟨z, its, n, r, e⟩ := h.ok I.hok
  exact ⟨z, its, n, r, r.length, e⟩
theorem add_lists {pins : List (Addr × Obj)} {σ : L2.St} {H : Hp} {s : Shared} {a b : Addr} {vs ws : List V} {Q : VK} (I : Inv X pins σ H s) (ha : Rd H a (.lst vs)) (hb : Rd H b (.lst ws)) (hz : vs.length + ws.length ≤ sizeLine)
    (q : ∀ p, H p = none → Q (.ref p) (upd H p (.lst (vs ++ ws)))) : wpAny (model X.prog X.w) X.A (binaryOp .Add (.ref a) (.ref b)) (EP X pins σ Q) X.xe s := by
  obtain ⟨_, its, n, r, hl, e⟩ := lst_at I ha
  obtain ⟨_, its2, n2, r2, hl2, e2⟩ := lst_at I hb
  refine PySem.P.add_list e e2 ⟨.ref _, upd H s.heap.objs.size (.lst (vs ++ ws)), ?_, rfl, q _ I.fresh⟩ (by rw [List.size_toArray, List.size_toArray, ← hl, ← hl2]; exact hz)
  have ec : its.toArray ++ its2.toArray = (its ++ its2).toArray := by simp
  rw [ec]
  exact I.lnew (t' := s.toks) (r.append r2) (by rw [List.length_append]; exact hz)
theorem ow_add : OpW X (binaryOp .Add) addP := by
  intro pins s σ H v u vv uu Q I rv ru ⟨F, S, x, y, P, hd, rx, ry, h, le⟩
  have lists : ∀ {xs ys : List PV}, seqL S x = some xs → seqL S y = some ys → (xs.length + ys.length ≤ sizeLine ∧ P (.lst (xs ++ ys)) S) → wpAny (model X.prog X.w) X.A (binaryOp .Add vv uu) (EP X pins σ Q) X.xe s := by
    intro xs ys h1 h2 ⟨hz, q⟩
    obtain ⟨a, vs, rfl, ha, ra⟩ := seqL_rd hd rx h1
    obtain ⟨b, ws, rfl, hb, rb⟩ := seqL_rd hd ry h2
    cases rv
    cases ru
    refine add_lists I ha hb (by rw [ra.len, rb.len]; exact hz) fun p np => ?_
    obtain ⟨e2, hd2, r2⟩ := new_lst (X := X) hd np (ra.app rb)
    exact le _ S q _ _ _ e2 hd2 r2
  unfold addP at h
  split at h
  · cases rx
    cases ry
    exact op_add pins s σ H _ _ _ _ Q I rv ru ⟨_, _, rfl, rfl, le _ S h F H _ (Same.refl F) hd (.int _)⟩
  · cases rx
    cases ry
    exact op_add_str pins s σ H _ _ _ _ Q I rv ru ⟨_, _, rfl, rfl, h.1, le _ S h.2 F H _ (Same.refl F) hd (.str _)⟩
  · cases rx with
    | tup a1 b1 =>
      cases ry with
      | tup a2 b2 =>
        refine op_catA pins s σ H _ _ _ _ Q I rv ru ⟨_, _, _, _, rfl, rfl, hd.sub.sqT a1, hd.sub.sqT a2, by rw [b1.len, b2.len]; exact h.1, fun z => ?_, fun z1 z2 => ?_, fun _ _ p np => ?_⟩
        · subst z
          cases b1
          exact le _ S h.2 F H _ (Same.refl F) hd (.tup a2 b2)
        · subst z2
          cases b2
          rw [List.append_nil] at h
          exact le _ S h.2 F H _ (Same.refl F) hd (.tup a1 b1)
        · obtain ⟨e2, hd2, r2⟩ := new_tup (X := X) hd np (b1.app b2)
          exact le _ S h.2 _ _ _ e2 hd2 r2
  · exact lists rfl rfl h
  · split at h
    · rename_i h1 h2
      exact lists h1 h2 h
    · exact h.elim
def intP (C : Int → Int → Prop) (g : Int → Int → Int) : PR2 := fun x y S Q => match x, y with
  | .int i, .int j => C i j ∧ Q (.int (g i j)) S
  | _, _ => False
def intP0 (g : Int → Int → Int) : PR2 := fun x y S Q => match x, y with
  | .int i, .int j => Q (.int (g i j)) S
  | _, _ => False
theorem ow_int {f : Value → Value → Sem Value} {C : Int → Int → Prop} {g : Int → Int → Int} (h : OpR X f (rI C fun i j => .int (g i j))) : OpW X f (intP C g) := by
  intro pins s σ H v u vv uu Q I rv ru ⟨F, S, x, y, P, hd, rx, ry, q, le⟩
  unfold intP at q
  split at q
  · cases rx
    cases ry
    exact h pins s σ H _ _ _ _ Q I rv ru ⟨_, _, rfl, rfl, q.1, le _ S q.2 F H _ (Same.refl F) hd (.int _)⟩
  · exact q.elim
theorem ow_int0 {f : Value → Value → Sem Value} {g : Int → Int → Int} (h : OpR X f (rI0 fun i j => .int (g i j))) : OpW X f (intP0 g) := by
  intro pins s σ H v u vv uu Q I rv ru ⟨F, S, x, y, P, hd, rx, ry, q, le⟩
  unfold intP0 at q
  split at q
  · cases rx
    cases ry
    exact h pins s σ H _ _ _ _ Q I rv ru ⟨_, _, rfl, rfl, le _ S q F H _ (Same.refl F) hd (.int _)⟩
  · exact q.elim
def subP : PR2 := intP0 fun i j => i - j
def fdivP : PR2 := intP CDiv fun i j => i / j
def modP : PR2 := intP (fun _ j => 0 < j) fun i j => i % j
def powP : PR2 := intP CPow fun i j => i ^ j.toNat
theorem ow_sub : OpW X (binaryOp .Sub) subP := ow_int0 op_sub
theorem ow_fdiv : OpW X (binaryOp .FloorDiv) fdivP := ow_int op_fdiv
theorem ow_mod : OpW X (binaryOp .Mod) modP := ow_int op_mod
theorem ow_pow : OpW X (binaryOp .Pow) powP := ow_int op_pow
theorem ow_iadd : OpW X (inplaceOp .Add) (intP0 fun i j => i + j) := ow_int0 iop_add
theorem ow_isub : OpW X (inplaceOp .Sub) (intP0 fun i j => i - j) := ow_int0 iop_sub
def mulP : PR2 := intP CMul fun i j => i * j
theorem ow_mul : OpW X (binaryOp .Mult) mulP := ow_int op_mul
/-- [..] * k -/
def wRepLit (t : PTA) (tb : PTE) : PTE := fun ρ S Q => t ρ S fun xs S1 => ∀ p, S1 p = none → tb ρ (put S1 p (.raw (.lst xs))) fun y S2 => match y with
  | .int k => S2 p = some (.raw (.lst xs)) ∧ (-(2 ^ 63) ≤ k ∧ k < 2 ^ 63 ∧ xs.length * k.toNat ≤ sizeLine) ∧ Q (.lst (List.replicate k.toNat xs).flatten) (rmv S2 p)
  | _ => False
theorem we_repLit {F0 : Hp} {es : List Expr} {b : Expr} {t : PTA} {tb : PTE} {n : Nat} {pos p' : Pos} (ha : WA X F0 n es t) (hb : WE X F0 b tb) (hn : n ≤ 1000 := by decide) : WE X F0 (.BinOp (.List es p') .Mult b pos) (wRepLit t tb) :=
  ⟨peImp (pe_op op_rep (pe_lst ha.pa) hb.pe) fun σ H Q ⟨F, ρ, S, P, at_, h, le⟩ => ⟨F, ρ, S, _, at_, h, fun xs S1 h1 hl F1 H1 vs e1 hd1 r1 => ⟨line1000 (by rw [r1.len, hl]; exact hn), fun p np =>
    ⟨F1, ρ, _, _, ⟨at_.base.trans e1, hd1.newS (r := .lst xs) np r1, at_.env.mono e1⟩, h1 p (hd1.freeS np), fun y S2 h2 F2 H2 u e2 hd2 r2 => by
      split at h2
      · cases r2
        obtain ⟨q1, q2, q3⟩ := h2
        obtain ⟨o, ho, ro, fo, hz⟩ := hd2.freeze q1
        have es := same_upd (o := o) fo
        cases o <;> first | exact ro.elim | skip
        have ro' : Reps X.K F2 _ xs := ro
        refine ⟨p, _, _, rfl, rfl, ho, q2.1, q2.2.1, by rw [ro'.len]; exact q2.2.2, fun p3 np3 => ?_⟩
        obtain ⟨e4, hd4, r4⟩ := new_lst (X := X) hz np3 ((ro'.mono es).rep _)
        exact le _ _ q3 _ _ _ (((e1.trans e2).trans es).trans e4) hd4 r4
      · exact h2.elim⟩⟩⟩⟩
end
section
variable {X : Cx}
theorem un_negW : UnW X (unaryOp .USub) (fun x S Q => match x with | .int i => Q (.int (-i)) S | _ => False) := by
  intro pins s σ H v vv Q I rv ⟨F, S, x, P, hd, rx, q, le⟩
  simp only at q
  split at q
  · cases rx
    exact un_neg pins s σ H _ _ Q I rv ⟨_, rfl, le _ S q F H _ (Same.refl F) hd (.int _)⟩
  · exact q.elim
end
end L2.Pv

/-! P7: comparisons, membership, kinds. -/
namespace L2.Pv
open PySem PySem.Spec PyProof.Rows L2
variable [TbC]
mutual
/-- as plain data (no dict, no reference) -/
def toD : PV → Option PyData
  | .non => some .none
  | .bl b => some (.bool b)
  | .int i => some (.int i)
  | .str x => some (.str x)
  | .lst xs => match toDs xs with
    | some ds => some (.list ds)
    | none => none
  | .tup xs => match toDs xs with
    | some ds => some (.tuple ds)
    | none => none
  | .dic _ => none
  | .ref _ => none
  | .ty _ => none
  | .scr _ => none
  | .exc _ _ => none
def toDs : List PV → Option (List PyData)
  | [] => some []
  | x :: xs => match toD x, toDs xs with
    | some d, some ds => some (d :: ds)
    | _, _ => none
end
section
variable {K : PySem.W.Frag} {F H : Hp}
mutual
theorem toD_dp (e : Sub F H) : ∀ {v : V} {x : PV} {d : PyData}, Rep K F v x → toD x = some d → Dp K H v d
  | _, _, _, .non, h => by cases h; exact .non
  | _, _, _, .bl b, h => by cases h; exact .bl b
  | _, _, _, .int i, h => by cases h; exact .int i
  | _, _, _, .str x, h => by cases h; exact .str x
  | _, _, _, .lst a b, h => by
    unfold toD at h
    split at h
    · rename_i ds e1
      cases h
      exact .lst (.inl (e.rd a)) (toDs_dp e b e1)
    · cases h
  | _, _, _, .tup a b, h => by
    unfold toD at h
    split at h
    · rename_i ds e1
      cases h
      exact .tup (e.sqT a) (toDs_dp e b e1)
    · cases h
  | _, _, _, .dic _ _, h => nomatch h
  | _, _, _, .ref _, h => nomatch h
  | _, _, _, .ty _, h => nomatch h
  | _, _, _, .scr _ _, h => nomatch h
theorem toDs_dp (e : Sub F H) : ∀ {v : List V} {x : List PV} {d : List PyData}, Reps K F v x → toDs x = some d → DpAll K H v d
  | _, _, _, .nil, h => by cases h; exact .nil
  | _, _, _, .cons a b, h => by
    unfold toDs at h
    split at h
    · rename_i d es e1 e2
      cases h
      exact .cons (toD_dp e a e1) (toDs_dp e b e2)
    · cases h
end
end
/-- a list of the store as its items now -/
def viewS (S : Store) (x : PV) : PV := match x with
  | .ref a => match rdS S a with
    | some (.lst xs) => .lst xs
    | _ => .ref a
  | x => x
theorem view_dp {K : PySem.W.Frag} {F H : Hp} {S : Store} {v : V} {x : PV} {d : PyData} (hd : Hold K F S H) (r : Rep K F v x) (h : toD (viewS S x) = some d) : Dp K H v d := by
  unfold viewS at h
  split at h
  · rename_i a
    split at h
    · rename_i xs q
      cases r
      obtain ⟨_, o, ho, ro⟩ := hd.rd q
      cases o <;> first | exact ro.elim | skip
      unfold toD at h
      split at h
      · rename_i ds e1
        cases h
        exact .lst (.inl ho) (toDs_dp hd.sub ro e1)
      · cases h
    · cases h
  · exact toD_dp hd.sub r h
def eqD (S : Store) (x y : PV) : Option Bool := match toD (viewS S x), toD (viewS S y) with
  | some d, some e => if d.canLay0 && (e.canLay0 && decide (min d.depth e.depth ≤ 64)) then some (PyData.eqv d e) else none
  | _, _ => none
/-- == of data -/
def eqP : PR2 := fun x y S Q => match x, y with
  | .int i, .int j => Q (.bl (i == j)) S
  | .str i, .str j => Q (.bl (i == j)) S
  | .bl i, .bl j => Q (.bl (i == j)) S
  | .non, .non => Q (.bl true) S
  | x, y => match eqD S x y with
    | some b => Q (.bl b) S
    | none => False
def neP : PR2 := fun x y S Q => eqP x y S fun z S1 => match z with
  | .bl b => Q (.bl !b) S1
  | _ => False
theorem eqP_cases {x y : PV} {S : Store} {Q : PQ} (h : eqP x y S Q) : ∃ b, Q (.bl b) S ∧ ((∃ i j, x = .int i ∧ y = .int j ∧ b = (i == j)) ∨ (∃ i j, x = .str i ∧ y = .str j ∧ b = (i == j)) ∨ (∃ i j, x = .bl i ∧ y = .bl j ∧ b = (i == j)) ∨
    ∃ d e, toD (viewS S x) = some d ∧ toD (viewS S y) = some e ∧ d.canLay0 = true ∧ e.canLay0 = true ∧ min d.depth e.depth ≤ 64 ∧ PyData.eqv d e = b) := by
  unfold eqP at h
  split at h
  · exact ⟨_, h, .inl ⟨_, _, rfl, rfl, rfl⟩⟩
  · exact ⟨_, h, .inr (.inl ⟨_, _, rfl, rfl, rfl⟩)⟩
  · exact ⟨_, h, .inr (.inr (.inl ⟨_, _, rfl, rfl, rfl⟩))⟩
  · exact ⟨_, h, .inr (.inr (.inr ⟨_, _, rfl, rfl, rfl, rfl, by unfold PyData.depth; exact Nat.zero_le _, rfl⟩))⟩
  · split at h
    · rename_i b e1
      unfold eqD at e1
      split at e1
      · rename_i d e q1 q2
        split at e1
        · rename_i c
          cases e1
          rw [Bool.and_eq_true, Bool.and_eq_true] at c
          exact ⟨_, h, .inr (.inr (.inr ⟨d, e, q1, q2, c.1, c.2.1, of_decide_eq_true c.2.2, rfl⟩))⟩
        · cases e1
      · cases e1
    · exact h.elim
section
variable {X : Cx}
theorem eq_run {op : CmpOp} {g : Bool → Bool} (hu : X.A.units + 64 < cLine) (hs : OpR X (compareOp op) (fun x y H Q => scal x y = true ∧ Q (.bl (g (decide (x = y)))) H))
    (hd : ∀ (s : Shared) (u v : Value) (d e : PyData) (as bs : List Addr) (Q : Value → Shared → Prop), Reads s.heap u d as → Reads s.heap v e bs → d.canLay0 = true → e.canLay0 = true → X.A.units + min d.depth e.depth < cLine → Q (.bool (g (PyData.eqv d e))) s → wpAny (model X.prog X.w) X.A (compareOp op u v) Q X.xe s) :
    OpW X (compareOp op) (fun x y S Q => eqP x y S fun z S1 => match z with | .bl b => Q (.bl (g b)) S1 | _ => False) := by
  intro pins s σ H v u vv uu Q I rv ru ⟨F, S, x, y, P, hd1, rx, ry, q, le⟩
  obtain ⟨b, qb, c⟩ := eqP_cases q
  have fin := le _ S qb F H _ (Same.refl F) hd1 (.bl _)
  rcases c with ⟨i, j, rfl, rfl, e⟩ | ⟨i, j, rfl, rfl, e⟩ | ⟨i, j, rfl, rfl, e⟩ | ⟨d, e, h1, h2, h3, h4, h5, h6⟩
  · cases rx
    cases ry
    exact hs pins s σ H _ _ _ _ Q I rv ru ⟨rfl, by rw [dec_int, ← e]; exact fin⟩
  · cases rx
    cases ry
    exact hs pins s σ H _ _ _ _ Q I rv ru ⟨rfl, by rw [dec_str, ← e]; exact fin⟩
  · cases rx
    cases ry
    exact hs pins s σ H _ _ _ _ Q I rv ru ⟨rfl, by rw [dec_bl, ← e]; exact fin⟩
  · obtain ⟨as, ra⟩ := Dp.reads I d v vv (view_dp hd1 rx h1) rv
    obtain ⟨bs, rb⟩ := Dp.reads I e u uu (view_dp hd1 ry h2) ru
    exact hd s vv uu d e as bs _ ra rb h3 h4 (by omega) ⟨.bl (g b), H, I, by rw [h6]; rfl, fin⟩
theorem ow_eq (hu : X.A.units + 64 < cLine) : OpW X (compareOp .Eq) eqP := by
  have := eq_run (X := X) (g := id) hu op_eq fun s u v d e as bs Q ra rb la lb h q => PySem.SeqAt.compareEq_reads ra rb la lb h q
  intro pins s σ H v u vv uu Q I rv ru ⟨F, S, x, y, P, hd1, rx, ry, q, le⟩
  obtain ⟨b, qb, c⟩ := eqP_cases q
  refine this pins s σ H v u vv uu Q I rv ru ⟨F, S, x, y, fun z S1 => z = .bl b ∧ S1 = S, hd1, rx, ry, ?_, fun z S1 ⟨e1, e2⟩ => by subst e1 e2; exact le _ _ qb⟩
  rcases c with ⟨i, j, rfl, rfl, e⟩ | ⟨i, j, rfl, rfl, e⟩ | ⟨i, j, rfl, rfl, e⟩ | ⟨d, e, h1, h2, h3, h4, h5, h6⟩
  · exact ⟨by rw [e]; rfl, rfl⟩
  · exact ⟨by rw [e]; rfl, rfl⟩
  · exact ⟨by rw [e]; rfl, rfl⟩
  · have hD : eqD S x y = some b := by
      unfold eqD
      rw [h1, h2]
      simp only [h3, h4, h5, h6, decide_true, Bool.and_self, if_true]
    unfold eqP
    split
    · cases h1; cases h2; exact ⟨by rw [← h6]; rfl, rfl⟩
    · cases h1; cases h2; exact ⟨by rw [← h6]; rfl, rfl⟩
    · cases h1; cases h2; exact ⟨by rw [← h6]; rfl, rfl⟩
    · cases h1; cases h2; exact ⟨by rw [← h6]; rfl, rfl⟩
    · rw [hD]
      exact ⟨rfl, rfl⟩
theorem ow_ne (hu : X.A.units + 64 < cLine) : OpW X (compareOp .NotEq) neP :=
  eq_run (X := X) (g := not) hu op_ne fun s u v d e as bs Q ra rb la lb h q => PySem.SeqAt.compareNe_reads ra rb la lb h q
/-! ### order of ints; None -/
def ordP (g : Int → Int → Bool) : PR2 := fun x y S Q => match x, y with
  | .int i, .int j => Q (.bl (g i j)) S
  | _, _ => False
theorem ow_ord {op : CmpOp} {g : Int → Int → Bool} (h : OpR X (compareOp op) (rI0 fun i j => .bl (g i j))) : OpW X (compareOp op) (ordP g) := by
  intro pins s σ H v u vv uu Q I rv ru ⟨F, S, x, y, P, hd, rx, ry, q, le⟩
  unfold ordP at q
  split at q
  · cases rx
    cases ry
    exact h pins s σ H _ _ _ _ Q I rv ru ⟨_, _, rfl, rfl, le _ S q F H _ (Same.refl F) hd (.bl _)⟩
  · exact q.elim
def ltP : PR2 := ordP fun i j => decide (i < j)
def leP : PR2 := ordP fun i j => decide (i ≤ j)
def gtP : PR2 := ordP fun i j => decide (j < i)
def geP : PR2 := ordP fun i j => decide (j ≤ i)
theorem ow_lt : OpW X (compareOp .Lt) ltP := ow_ord op_lt
theorem ow_le : OpW X (compareOp .LtE) leP := ow_ord op_le
theorem ow_gt : OpW X (compareOp .Gt) gtP := ow_ord op_gt
theorem ow_ge : OpW X (compareOp .GtE) geP := ow_ord op_ge
def isNon : PV → Bool
  | .non => true
  | _ => false
def isP : PR2 := fun x y S Q => match y with
  | .non => Q (.bl (isNon x)) S
  | _ => False
def isNotP : PR2 := fun x y S Q => match y with
  | .non => Q (.bl !(isNon x)) S
  | _ => False
theorem isNon_rep {K : PySem.W.Frag} {F : Hp} {v : V} {x : PV} (r : Rep K F v x) : decide (v = .non) = isNon x := by cases r <;> rfl
theorem ow_is : OpW X (compareOp .Is) isP := by
  intro pins s σ H v u vv uu Q I rv ru ⟨F, S, x, y, P, hd, rx, ry, q, le⟩
  unfold isP at q
  split at q
  · cases ry
    exact op_isN pins s σ H _ _ _ _ Q I rv ru ⟨rfl, by rw [isNon_rep rx]; exact le _ S q F H _ (Same.refl F) hd (.bl _)⟩
  · exact q.elim
theorem ow_isNot : OpW X (compareOp .IsNot) isNotP := by
  intro pins s σ H v u vv uu Q I rv ru ⟨F, S, x, y, P, hd, rx, ry, q, le⟩
  unfold isNotP at q
  split at q
  · cases ry
    exact op_notN pins s σ H _ _ _ _ Q I rv ru ⟨rfl, by rw [isNon_rep rx]; exact le _ S q F H _ (Same.refl F) hd (.bl _)⟩
  · exact q.elim
/-! ### dicts by keys -/
def keyOf : PV → Option Key
  | .int i => some (.inl i)
  | .str x => some (.inr x)
  | _ => none
theorem keyOf_keyP (k : Key) : keyOf (keyP k) = some k := by cases k <;> rfl
def dget (k : Key) : List (PV × PV) → Option PV
  | [] => none
  | (x, y) :: r => if keyOf x = some k then some y else dget k r
def dhas (k : Key) (kvs : List (PV × PV)) : Bool := kvs.any fun p => decide (keyOf p.1 = some k)
def dput (k : Key) (y : PV) (kvs : List (PV × PV)) : List (PV × PV) :=
  if dhas k kvs = true then kvs.map (fun p => if keyOf p.1 = some k then (p.1, y) else p) else kvs ++ [(keyP k, y)]
def ddel (k : Key) : List (PV × PV) → List (PV × PV)
  | [] => []
  | (x, z) :: r => if keyOf x = some k then ddel k r else (x, z) :: ddel k r
theorem RepK.len {K : PySem.W.Frag} {F : Hp} : ∀ {vs : List (Key × V)} {xs : List (PV × PV)}, RepK K F vs xs → vs.length = xs.length
  | _, _, .nil => rfl
  | _, _, .cons _ r => by rw [List.length_cons, List.length_cons, RepK.len r]
theorem RepK.get {K : PySem.W.Frag} {F : Hp} (k : Key) : ∀ {vs : List (Key × V)} {xs : List (PV × PV)}, RepK K F vs xs → match dget k xs with
    | some x => ∃ v, valV vs k = some v ∧ Rep K F v x
    | none => valV vs k = none
  | _, _, .nil => rfl
  | _, _, .cons (k := j) (vs := vs) h r => by
    unfold dget
    rw [keyOf_keyP]
    by_cases e : j = k
    · subst e
      rw [if_pos rfl]
      exact ⟨_, valV_pos rfl, h⟩
    · rw [if_neg (fun z => e (Option.some.inj z)), valV_neg e]
      exact RepK.get k r
/-- the pairs of a dict -/
def seqK (S : Store) : PV → Option (List (PV × PV))
  | .dic xs => some xs
  | .ref a => match rdS S a with
    | some (.dic xs) => some xs
    | _ => none
  | _ => none
theorem seqK_rd {K : PySem.W.Frag} {F H : Hp} {S : Store} {v : V} {x : PV} {xs : List (PV × PV)} (hd : Hold K F S H) (r : Rep K F v x) (h : seqK S x = some xs) : ∃ a vs, v = .ref a ∧ Rd H a (.dK vs) ∧ RepK K F vs xs := by
  cases r with
  | dic a b => cases h; exact ⟨_, _, rfl, hd.sub.rd a, b⟩
  | ref a =>
    simp only [seqK] at h
    split at h
    · rename_i ys q
      cases h
      obtain ⟨_, o, ho, ro⟩ := hd.rd q
      cases o <;> first | exact ro.elim | exact ⟨_, _, rfl, ho, ro⟩
    · cases h
  | _ => cases h
theorem keyOf_rep {K : PySem.W.Frag} {F : Hp} {v : V} {x : PV} {k : Key} (r : Rep K F v x) (h : keyOf x = some k) : v = kV k := by
  cases r <;> cases h <;> rfl
theorem kV_rep (K : PySem.W.Frag) (F : Hp) (k : Key) : Rep K F (kV k) (keyP k) := by cases k with
  | inl i => exact .int i
  | inr x => exact .str x
/-! ### in -/
def flatP : PV → Bool
  | .non => true
  | .bl _ => true
  | .int _ => true
  | .str _ => true
  | _ => false
def eqF : PV → PV → Bool
  | .non, .non => true
  | .bl a, .bl b => a == b
  | .bl a, .int b => (if a then 1 else 0) == b
  | .int a, .bl b => a == (if b then 1 else 0)
  | .int a, .int b => a == b
  | .str a, .str b => a == b
  | _, _ => false
def inF (x : PV) (xs : List PV) : Bool := xs.any fun y => eqF y x
def subS (i j : Str) : Bool := !(Builtin.Str.occurrences j i 0 j.length 1).isEmpty
def memP (x y : PV) (S : Store) : Option Bool := match y with
  | .str z => match x with
    | .str w => some (subS w z)
    | _ => none
  | .tup ys => if flatP x && ys.all flatP then some (inF x ys) else none
  | y => match seqL S y with
    | some ys => if flatP x && ys.all flatP then some (inF x ys) else none
    | none => match seqK S y, keyOf x with
      | some kvs, some k => some (dget k kvs).isSome
      | _, _ => none
def inP : PR2 := fun x y S Q => match memP x y S with
  | some b => Q (.bl b) S
  | none => False
def notInP : PR2 := fun x y S Q => match memP x y S with
  | some b => Q (.bl !b) S
  | none => False
theorem flat_rep {K : PySem.W.Frag} {F : Hp} {v : V} {x : PV} (r : Rep K F v x) (h : flatP x = true) : flatV v = true := by cases r <;> first | rfl | cases h
theorem flats_rep {K : PySem.W.Frag} {F : Hp} : ∀ {vs : List V} {xs : List PV}, Reps K F vs xs → xs.all flatP = true → vs.all flatV = true
  | _, _, .nil, _ => rfl
  | _, _, .cons h r, q => by
    rw [List.all_cons, Bool.and_eq_true] at q ⊢
    exact ⟨flat_rep h q.1, flats_rep r q.2⟩
theorem eqF_rep {K : PySem.W.Frag} {F : Hp} {v w : V} {x y : PV} (r : Rep K F v x) (t : Rep K F w y) (h : flatP x = true) (k : flatP y = true) : eqV v w = eqF x y := by
  cases r <;> first | (cases t <;> first | rfl | cases k) | cases h
theorem inF_rep {K : PySem.W.Frag} {F : Hp} {v : V} {x : PV} (r : Rep K F v x) (h : flatP x = true) : ∀ {vs : List V} {xs : List PV}, Reps K F vs xs → xs.all flatP = true → inV v vs = inF x xs
  | _, _, .nil, _ => rfl
  | _, _, .cons a b, q => by
    rw [List.all_cons, Bool.and_eq_true] at q
    show (_ || _) = (_ || _)
    have := inF_rep r h b q.2
    unfold inV inF at this
    have e2 := eqF_rep a r q.1 h
    simp only [e2, this]
theorem memP_run {neg : Bool} {op : CmpOp} (hu : X.A.units + 1 < cLine) (hs : OpR X (compareOp op) (rIn X.K neg)) (ht : OpR X (compareOp op) (fun x y H Q => ∃ i j, x = .str i ∧ y = .str j ∧ Q (.bl (if neg then !subS i j else subS i j)) H))
    (hk : ∀ (pins : List (Addr × Obj)) (s : Shared) (σ : L2.St) (H : Hp) (a : Addr) (y : V) (u : Value) (o : Option V) (Q : Value → Shared → Prop), Inv X pins σ H s → DGet H a y o → RelV y u → (∀ s', Inv X pins σ H s' → Q (.bool (if neg then !o.isSome else o.isSome)) s') → wpAny (model X.prog X.w) X.A (compareOp op u (.ref a)) Q X.xe s) :
    OpW X (compareOp op) (fun x y S Q => ∃ b, memP x y S = some b ∧ Q (.bl (if neg then !b else b)) S) := by
  intro pins s σ H v u vv uu Q I rv ru ⟨F, S, x, y, P, hd, rx, ry, ⟨b, hb, q⟩, le⟩
  · have fin := le _ S q F H _ (Same.refl F) hd (.bl _)
    unfold memP at hb
    split at hb
    · split at hb
      · cases hb
        cases rx
        cases ry
        exact ht pins s σ H _ _ _ _ Q I rv ru ⟨_, _, rfl, rfl, fin⟩
      · cases hb
    · split at hb
      · rename_i hf
        cases hb
        rw [Bool.and_eq_true] at hf
        cases ry with
        | tup a1 b1 => exact hs pins s σ H _ _ _ _ Q I rv ru ⟨_, _, rfl, .inr (hd.sub.sqT a1), flat_rep rx hf.1, flats_rep b1 hf.2, by rw [inF_rep rx hf.1 b1 hf.2]; cases neg <;> exact fin⟩
      · cases hb
    · split at hb
      · rename_i ys hy
        split at hb
        · rename_i hf
          cases hb
          rw [Bool.and_eq_true] at hf
          obtain ⟨a, ws, rfl, ha, ra⟩ := seqL_rd hd ry hy
          exact hs pins s σ H _ _ _ _ Q I rv ru ⟨_, _, rfl, .inl (.inl ha), flat_rep rx hf.1, flats_rep ra hf.2, by rw [inF_rep rx hf.1 ra hf.2]; cases neg <;> exact fin⟩
        · cases hb
      · split at hb
        · rename_i kvs k h1 h2
          cases hb
          obtain ⟨a, ws, rfl, ha, ra⟩ := seqK_rd hd ry h1
          have e2 := keyOf_rep rx h2
          subst e2
          cases ru
          refine hk pins s σ H a _ _ (valV ws k) _ I (.inl ⟨ws, k, ha, rfl, rfl⟩) rv fun s' I' => ⟨.bl _, H, I', rfl, ?_⟩
          have := ra.get k
          cases e3 : dget k kvs with
          | none =>
            rw [e3] at this fin
            rw [this]
            exact fin
          | some z =>
            rw [e3] at this fin
            obtain ⟨w, e4, _⟩ := this
            rw [e4]
            exact fin
        · cases hb
theorem mem_of {x y : PV} {S : Store} {Q : Bool → Prop} (h : match memP x y S with | some b => Q b | none => False) : ∃ b, memP x y S = some b ∧ Q b := by
  split at h
  · exact ⟨_, by assumption, h⟩
  · exact h.elim
theorem ow_in (hu : X.A.units + 1 < cLine) : OpW X (compareOp .In) inP := fun pins s σ H v u vv uu Q I rv ru ⟨F, S, x, y, P, hd, rx, ry, q, le⟩ =>
  memP_run (neg := false) hu op_in_seq op_in_str (fun pins s σ H a y u o Q I g r h => d_in hu I g r h) pins s σ H v u vv uu Q I rv ru ⟨F, S, x, y, P, hd, rx, ry, mem_of (Q := fun b => P (.bl b) S) q, le⟩
theorem ow_notIn (hu : X.A.units + 1 < cLine) : OpW X (compareOp .NotIn) notInP := fun pins s σ H v u vv uu Q I rv ru ⟨F, S, x, y, P, hd, rx, ry, q, le⟩ =>
  memP_run (neg := true) hu op_notIn_seq op_notin_str (fun pins s σ H a y u o Q I g r h => d_notIn hu I g r h) pins s σ H v u vv uu Q I rv ru ⟨F, S, x, y, P, hd, rx, ry, mem_of (Q := fun b => P (.bl !b) S) q, le⟩
end
end L2.Pv

/-! P8: built-ins, places, slices, methods. -/
namespace L2.Pv
open PySem PySem.Spec PyProof.Rows L2
variable [TbC]
section
variable {X : Cx} {F0 : Hp}
/-! ### len -/
def lenO (S : Store) : PV → Option Nat
  | .str z => if z.length ≤ sizeLine then some z.length else none
  | .tup xs => some xs.length
  | .lst xs => some xs.length
  | .scr xs => some xs.length
  | .dic xs => some xs.length
  | .ref a => match rdS S a with
    | some (.lst xs) => some xs.length
    | some (.dic xs) => some xs.length
    | _ => none
  | _ => none
def lenP : PRs := fun xs S Q => match xs with
  | [x] => match lenO S x with
    | some n => Q (.int n) S
    | none => False
  | _ => False
theorem cw_len : CallW X (.builtin "len") lenP := by
  intro pins s σ H vs us Q I rv ⟨F, S, xs, P, hd, rx, q, le⟩
  unfold lenP at q
  split at q
  · rename_i x
    split at q
    · rename_i n hn
      cases rx with
      | cons r1 r2 =>
        cases r2
        obtain ⟨u, rfl, ru⟩ := vals1 rv
        have fin := le _ S q F H _ (Same.refl F) hd (.int _)
        have seq : ∀ {a : Addr} {ws : List V}, (SqL X.K H a ws ∨ SqT X.K H a ws) → ws.length = n → RelV (.ref a) u → wpAny (model X.prog X.w) X.A (call (.builtin "len") [u]) (EP X pins σ Q) X.xe s := fun {a ws} h1 h2 h3 =>
          call_len_seq pins s σ H [.ref a] [u] Q I (.cons h3 .nil) ⟨a, ws, rfl, h1, by rw [h2]; exact fin⟩
        have dic : ∀ {a : Addr} {ws : List (Key × V)}, Rd H a (.dK ws) → ws.length = n → RelV (.ref a) u → wpAny (model X.prog X.w) X.A (call (.builtin "len") [u]) (EP X pins σ Q) X.xe s := fun {a ws} h1 h2 h3 => by
          cases h3
          exact d_len I h1 fun t s' I' => ⟨.int ws.length, H, I', ⟨t, rfl⟩, by rw [h2]; exact fin⟩
        cases r1 with
        | str z =>
          simp only [lenO] at hn
          split at hn
          · cases hn
            exact call_len_str pins s σ H _ _ Q I (.cons ru .nil) ⟨z, rfl, by assumption, fin⟩
          · cases hn
        | tup a b => cases hn; exact seq (.inr (hd.sub.sqT a)) b.len ru
        | lst a b => cases hn; exact seq (.inl (.inl (hd.sub.rd a))) b.len ru
        | scr a b => cases hn; exact seq (.inl (hd.sub.sqL a)) b.len ru
        | dic a b => cases hn; exact dic (hd.sub.rd a) b.len ru
        | ref a =>
          simp only [lenO] at hn
          split at hn
          · rename_i ys e
            cases hn
            obtain ⟨_, o, ho, ro⟩ := hd.rd e
            cases o <;> first | exact ro.elim | skip
            exact seq (.inl (.inl ho)) (Reps.len ro) ru
          · rename_i ys e
            cases hn
            obtain ⟨_, o, ho, ro⟩ := hd.rd e
            cases o <;> first | exact ro.elim | skip
            exact dic ho (RepK.len ro) ru
          · cases hn
        | _ => cases hn
    · exact q.elim
  · exact q.elim
/-! ### one argument -/
def absP : PRs := fun xs S Q => match xs with
  | [.int i] => Q (.int (if i < 0 then -i else i)) S
  | _ => False
theorem cw_abs : CallW X (.builtin "abs") absP := by
  intro pins s σ H vs us Q I rv ⟨F, S, xs, P, hd, rx, q, le⟩
  unfold absP at q
  split at q
  · cases rx with
    | cons r1 r2 =>
      cases r2
      cases r1
      exact call_abs pins s σ H _ us Q I rv ⟨_, rfl, le _ S q F H _ (Same.refl F) hd (.int _)⟩
  · exact q.elim
def min2P : PRs := fun xs S Q => match xs with
  | [.int i, .int j] => Q (.int (if j < i then j else i)) S
  | _ => False
def max2P : PRs := fun xs S Q => match xs with
  | [.int i, .int j] => Q (.int (if j > i then j else i)) S
  | _ => False
theorem cw_min2 (hc : X.calm = true) : CallW X (.builtin "min") min2P := by
  intro pins s σ H vs us Q I rv ⟨F, S, xs, P, hd, rx, q, le⟩
  unfold min2P at q
  split at q
  · cases rx with
    | cons r1 r2 =>
      cases r2 with
      | cons r2 r3 =>
        cases r3
        cases r1
        cases r2
        exact call_min2 hc pins s σ H _ us Q I rv ⟨_, _, rfl, le _ S q F H _ (Same.refl F) hd (.int _)⟩
  · exact q.elim
theorem cw_max2 (hc : X.calm = true) : CallW X (.builtin "max") max2P := by
  intro pins s σ H vs us Q I rv ⟨F, S, xs, P, hd, rx, q, le⟩
  unfold max2P at q
  split at q
  · cases rx with
    | cons r1 r2 =>
      cases r2 with
      | cons r2 r3 =>
        cases r3
        cases r1
        cases r2
        exact call_max2 hc pins s σ H _ us Q I rv ⟨_, _, rfl, le _ S q F H _ (Same.refl F) hd (.int _)⟩
  · exact q.elim
/-- the items of a list or a tuple -/
def seqO (S : Store) : PV → Option (List PV)
  | .tup xs => some xs
  | .scr xs => some xs
  | x => seqL S x
theorem seqO_sq {F H : Hp} {S : Store} {v : V} {x : PV} {xs : List PV} (hd : Hold X.K F S H) (r : Rep X.K F v x) (h : seqO S x = some xs) : ∃ a vs, v = .ref a ∧ (SqL X.K H a vs ∨ SqT X.K H a vs) ∧ Reps X.K F vs xs := by
  unfold seqO at h
  split at h
  · cases h
    cases r with
    | tup a b => exact ⟨_, _, rfl, .inr (hd.sub.sqT a), b⟩
  · cases h
    cases r with
    | scr a b => exact ⟨_, _, rfl, .inl (hd.sub.sqL a), b⟩
  · obtain ⟨a, vs, e, h1, h2⟩ := seqL_rd hd r h
    exact ⟨a, vs, e, .inl (.inl h1), h2⟩
def listP (mk : Bool) : PRs := fun xs S Q => match xs with
  | [x] => match seqO S x with
    | some ys => if mk then ∀ p, S p = none → Q (.ref p) (put S p (.raw (.lst ys))) else Q (.lst ys) S
    | none => False
  | _ => False
theorem cw_list {mk : Bool} : CallW X (.type "list") (listP mk) := by
  intro pins s σ H vs us Q I rv ⟨F, S, xs, P, hd, rx, q, le⟩
  unfold listP at q
  split at q
  · split at q
    · rename_i ys hy
      cases rx with
      | cons r1 r2 =>
        cases r2
        obtain ⟨a, ws, rfl, h1, h2⟩ := seqO_sq hd r1 hy
        refine call_list_of pins s σ H _ us Q I rv ⟨a, ws, rfl, h1, fun l nl => ?_⟩
        cases mk with
        | true => exact le _ _ (q l (hd.freeS nl)) F _ _ (Same.refl F) (hd.newS nl h2) (.ref l)
        | false =>
          obtain ⟨e2, hd2, r2⟩ := new_lst (X := X) hd nl h2
          exact le _ S q _ _ _ e2 hd2 r2
    · exact q.elim
  · exact q.elim
def tupleP : PRs := fun xs S Q => match xs with
  | [x] => match seqO S x with
    | some ys => Q (.tup ys) S
    | none => False
  | _ => False
theorem cw_tuple : CallW X (.type "tuple") tupleP := by
  intro pins s σ H vs us Q I rv ⟨F, S, xs, P, hd, rx, q, le⟩
  unfold tupleP at q
  split at q
  · rename_i x
    split at q
    · rename_i ys hy
      cases rx with
      | cons r1 r2 =>
        cases r2
        unfold seqO at hy
        split at hy
        · cases hy
          cases r1 with
          | tup a b => exact call_tuple_of pins s σ H _ us Q I rv ⟨_, _, rfl, .inr ⟨hd.sub.sqT a, le _ S q F H _ (Same.refl F) hd (.tup a b)⟩⟩
        · cases hy
          cases r1 with
          | scr a b =>
            refine call_tuple_of pins s σ H _ us Q I rv ⟨_, _, rfl, .inl ⟨hd.sub.sqL a, fun l nl => ?_⟩⟩
            obtain ⟨e2, hd2, r2⟩ := new_tup (X := X) hd nl b
            exact le _ S q _ _ _ e2 hd2 r2
        · obtain ⟨a, ws, rfl, h1, h2⟩ := seqL_rd hd r1 hy
          refine call_tuple_of pins s σ H _ us Q I rv ⟨a, ws, rfl, .inl ⟨.inl h1, fun l nl => ?_⟩⟩
          obtain ⟨e2, hd2, r2⟩ := new_tup (X := X) hd nl h2
          exact le _ S q _ _ _ e2 hd2 r2
    · exact q.elim
  · exact q.elim
/-! ### all, any, sum -/
def boolsOf : List PV → Option (List Bool)
  | [] => some []
  | .bl b :: r => match boolsOf r with
    | some bs => some (b :: bs)
    | none => none
  | _ :: _ => none
theorem boolsOf_eq : ∀ {xs : List PV} {bs : List Bool}, boolsOf xs = some bs → xs = bs.map PV.bl
  | [], _, h => by cases h; rfl
  | .bl b :: r, bs, h => by
    unfold boolsOf at h
    split at h
    · rename_i cs e
      cases h
      rw [boolsOf_eq e]
      rfl
    · cases h
  | .non :: _, _, h => nomatch h
  | .int _ :: _, _, h => nomatch h
  | .str _ :: _, _, h => nomatch h
  | .lst _ :: _, _, h => nomatch h
  | .tup _ :: _, _, h => nomatch h
  | .dic _ :: _, _, h => nomatch h
  | .ref _ :: _, _, h => nomatch h
  | .ty _ :: _, _, h => nomatch h
  | .scr _ :: _, _, h => nomatch h
theorem boolsOf_map : ∀ bs : List Bool, boolsOf (bs.map PV.bl) = some bs
  | [] => rfl
  | b :: r => by
    show (match boolsOf (r.map PV.bl) with | some bs => some (b :: bs) | none => none) = _
    rw [boolsOf_map r]
def intsOf : List PV → Option (List Int)
  | [] => some []
  | .int b :: r => match intsOf r with
    | some bs => some (b :: bs)
    | none => none
  | _ :: _ => none
theorem intsOf_eq : ∀ {xs : List PV} {bs : List Int}, intsOf xs = some bs → xs = bs.map PV.int
  | [], _, h => by cases h; rfl
  | .int b :: r, bs, h => by
    unfold intsOf at h
    split at h
    · rename_i cs e
      cases h
      rw [intsOf_eq e]
      rfl
    · cases h
  | .non :: _, _, h => nomatch h
  | .bl _ :: _, _, h => nomatch h
  | .str _ :: _, _, h => nomatch h
  | .lst _ :: _, _, h => nomatch h
  | .tup _ :: _, _, h => nomatch h
  | .dic _ :: _, _, h => nomatch h
  | .ref _ :: _, _, h => nomatch h
  | .ty _ :: _, _, h => nomatch h
  | .scr _ :: _, _, h => nomatch h
theorem intsOf_map : ∀ bs : List Int, intsOf (bs.map PV.int) = some bs
  | [] => rfl
  | b :: r => by
    show (match intsOf (r.map PV.int) with | some bs => some (b :: bs) | none => none) = _
    rw [intsOf_map r]
def strsOf : List PV → Option (List Str)
  | [] => some []
  | .str b :: r => match strsOf r with
    | some bs => some (b :: bs)
    | none => none
  | _ :: _ => none
theorem strsOf_eq : ∀ {xs : List PV} {bs : List Str}, strsOf xs = some bs → xs = bs.map PV.str
  | [], _, h => by cases h; rfl
  | .str b :: r, bs, h => by
    unfold strsOf at h
    split at h
    · rename_i cs e
      cases h
      rw [strsOf_eq e]
      rfl
    · cases h
  | .non :: _, _, h => nomatch h
  | .bl _ :: _, _, h => nomatch h
  | .int _ :: _, _, h => nomatch h
  | .lst _ :: _, _, h => nomatch h
  | .tup _ :: _, _, h => nomatch h
  | .dic _ :: _, _, h => nomatch h
  | .ref _ :: _, _, h => nomatch h
  | .ty _ :: _, _, h => nomatch h
  | .scr _ :: _, _, h => nomatch h
theorem strsOf_map : ∀ bs : List Str, strsOf (bs.map PV.str) = some bs
  | [] => rfl
  | b :: r => by
    show (match strsOf (r.map PV.str) with | some bs => some (b :: bs) | none => none) = _
    rw [strsOf_map r]
def allP (f : List Bool → Bool) : PRs := fun xs S Q => match xs with
  | [x] => match seqL S x with
    | some ys => match boolsOf ys with
      | some bs => Q (.bl (f bs)) S
      | none => False
    | none => False
  | _ => False
theorem cw_bools {id : String} {f : List Bool → Bool} (h : CallR X (.builtin id) (fun vs H Q => ∃ (a : Addr) (bs : List Bool), vs = [V.ref a] ∧ SqL X.K H a (bs.map V.bl) ∧ Q (.bl (f bs)) H)) : CallW X (.builtin id) (allP f) := by
  intro pins s σ H vs us Q I rv ⟨F, S, xs, P, hd, rx, q, le⟩
  unfold allP at q
  split at q
  · split at q
    · rename_i ys hy
      split at q
      · rename_i bs hb
        cases rx with
        | cons r1 r2 =>
          cases r2
          obtain ⟨a, ws, rfl, h1, h2⟩ := seqL_rd hd r1 hy
          have e := boolsOf_eq hb
          subst e
          have e2 := h2.bls
          subst e2
          exact h pins s σ H _ us Q I rv ⟨a, bs, rfl, .inl h1, le _ S q F H _ (Same.refl F) hd (.bl _)⟩
      · exact q.elim
    · exact q.elim
  · exact q.elim
theorem cw_all (hc : X.calm = true) : CallW X (.builtin "all") (allP fun bs => bs.all id) := cw_bools (cr_all hc)
theorem cw_any (hc : X.calm = true) : CallW X (.builtin "any") (allP fun bs => bs.any id) := cw_bools (cr_any hc)
def sumP : PRs := fun xs S Q => match xs with
  | [x] => match seqL S x with
    | some ys => match intsOf ys with
      | some bs => Q (.int bs.sum) S
      | none => False
    | none => False
  | _ => False
theorem cw_sum (hc : X.calm = true) : CallW X (.builtin "sum") sumP := by
  intro pins s σ H vs us Q I rv ⟨F, S, xs, P, hd, rx, q, le⟩
  unfold sumP at q
  split at q
  · split at q
    · rename_i ys hy
      split at q
      · rename_i bs hb
        cases rx with
        | cons r1 r2 =>
          cases r2
          obtain ⟨a, ws, rfl, h1, h2⟩ := seqL_rd hd r1 hy
          have e := intsOf_eq hb
          subst e
          have e2 := h2.ints
          subst e2
          exact cr_sum hc pins s σ H _ us Q I rv ⟨a, bs, rfl, .inl h1, le _ S q F H _ (Same.refl F) hd (.int _)⟩
      · exact q.elim
    · exact q.elim
  · exact q.elim
/-- int(x) of an int or a bool -/
def intCP : PRs := fun xs S Q => match xs with
  | [.int i] => Q (.int i) S
  | [.bl k] => Q (.int (if k then 1 else 0)) S
  | _ => False
theorem cw_int : CallW X (.type "int") intCP := by
  intro pins s σ H vs us Q I rv ⟨F, S, xs, P, hd, rx, q, le⟩
  unfold intCP at q
  split at q
  · cases rx with
    | cons r1 r2 =>
      cases r2
      cases r1
      exact call_int1 pins s σ H _ us Q I rv (.inl ⟨_, rfl, le _ S q F H _ (Same.refl F) hd (.int _)⟩)
  · cases rx with
    | cons r1 r2 =>
      cases r2
      cases r1
      exact call_int1 pins s σ H _ us Q I rv (.inr ⟨_, rfl, le _ S q F H _ (Same.refl F) hd (.int _)⟩)
  · exact q.elim
/-! ### isinstance with built-in types -/
def tyN (S : Store) : PV → Option String
  | .non => some "NoneType"
  | .bl _ => some "bool"
  | .int _ => some "int"
  | .str _ => some "str"
  | .lst _ => some "list"
  | .tup _ => some "tuple"
  | .dic _ => some "dict"
  | .ref a => match rdS S a with
    | some (.lst _) => some "list"
    | some (.dic _) => some "dict"
    | _ => none
  | .ty _ => none
  | .scr _ => none
  | .exc _ _ => none
def isB (a b : String) : Bool := a == b || (a == "bool" && b == "int")
def kinds : List String := ["NoneType", "bool", "int", "str", "list", "tuple", "dict"]
theorem kit_all : ∀ a ∈ kinds, ∀ b ∈ kinds, kitB a b = some (isB a b) := by decide +kernel
theorem tyN_mem {S : Store} {x : PV} {t : String} (h : tyN S x = some t) : t ∈ kinds := by
  cases x with
  | ref a =>
    simp only [tyN] at h
    split at h <;> cases h <;> decide
  | _ => cases h <;> decide
theorem tyN_rep {F H : Hp} {S : Store} {v : V} {x : PV} {t : String} (hd : Hold X.K F S H) (r : Rep X.K F v x) (h : tyN S x = some t) : TyX X.K H v (.type t) := by
  have ll : ∀ {a : Addr} {vs : List V}, Rd H a (.lst vs) → TyX X.K H (.ref a) (.type "list") := fun {a vs} h => by
    rcases h with h | ⟨o, h⟩
    · exact .base (.lst h)
    · exact .base (.frz h)
  have dd : ∀ {a : Addr} {vs : List (Key × V)}, Rd H a (.dK vs) → TyX X.K H (.ref a) (.type "dict") := fun {a vs} h => by
    rcases h with h | ⟨o, h⟩
    · exact .base (.dK h)
    · exact .fDict h
  cases r with
  | non => cases h; exact .base .non
  | bl b => cases h; exact .base (.bl b)
  | int b => cases h; exact .base (.int b)
  | str b => cases h; exact .base (.str b)
  | ty n => cases h
  | scr a b => cases h
  | exc0 a => cases h
  | exc a b c => cases h
  | lst a b => cases h; exact ll (hd.sub.rd a)
  | dic a b => cases h; exact dd (hd.sub.rd a)
  | tup a b =>
    cases h
    rcases hd.sub.tpAt a with z | ⟨o, its, n, z1, z2, _⟩
    · exact .base (.tup z)
    · exact .kTuple z1 z2
  | ref a =>
    simp only [tyN] at h
    split at h
    · cases h
      obtain ⟨_, o, ho, ro⟩ := hd.rd (by assumption)
      cases o <;> first | exact ro.elim | exact ll ho
    · cases h
      obtain ⟨_, o, ho, ro⟩ := hd.rd (by assumption)
      cases o <;> first | exact ro.elim | exact dd ho
    · cases h
def isiP (n : String) : PR1 := fun x S Q => match tyN S x with
  | some t => Q (.bl (isB t n)) S
  | none => False
def tysOf : List PV → Option (List String)
  | [] => some []
  | .ty b :: r => match tysOf r with
    | some bs => some (b :: bs)
    | none => none
  | _ :: _ => none
def isinP : PRs := fun xs S Q => match xs with
  | [x, .ty n] => if n ∈ kinds then match tyN S x with
    | some t => Q (.bl (isB t n)) S
    | none => False
    else False
  | [x, .tup [.ty n, .ty m]] => if n ∈ kinds ∧ m ∈ kinds then match tyN S x with
    | some t => Q (.bl (isB t n || isB t m)) S
    | none => False
    else False
  | _ => False
theorem cw_isi : CallW X (.builtin "isinstance") isinP := by
  intro pins s σ H vs us Q I rv ⟨F, S, xs, P, hd, rx, q, le⟩
  unfold isinP at q
  split at q
  · split at q
    · rename_i hn
      split at q
      · rename_i t ht
        cases rx with
        | cons r1 r2 =>
          cases r2 with
          | cons r2 r3 =>
            cases r3
            cases r2
            exact call_isi pins s σ H _ us Q I rv ⟨_, _, _, _, _, rfl, .ty _, tyN_rep hd r1 ht, kit_ty (kit_all _ (tyN_mem ht) _ hn), le _ S q F H _ (Same.refl F) hd (.bl _)⟩
      · exact q.elim
    · exact q.elim
  · rename_i n m
    split at q
    · rename_i hn
      split at q
      · rename_i t ht
        cases rx with
        | cons r1 r2 =>
          cases r2 with
          | cons r2 r3 =>
            cases r3
            cases r2 with
            | tup a b =>
              cases b with
              | cons b1 b2 =>
                cases b2 with
                | cons b2 b3 =>
                  cases b3
                  cases b1
                  cases b2
                  have kk : PySem.W.kitAny X.K (.type t) [.type n, .type m] = some (isB t n || isB t m) := by
                    refine kitAny_cons (kit_ty (kit_all _ (tyN_mem ht) _ hn.1)) (fun z1 => kitAny_cons (kit_ty (kit_all _ (tyN_mem ht) _ hn.2)) (fun z2 => ?_) fun z2 => ?_) fun z1 => ?_
                    · rw [z1, z2]; rfl
                    · rw [z2, Bool.or_true]
                    · rw [z1]; rfl
                  have fin := le _ S q F H _ (Same.refl F) hd (.bl _)
                  rcases hd.sub.tpAt a with z | ⟨o, its, nn, z1, z2, z3, z4, z5⟩
                  · exact call_isiT pins s σ H _ us Q I rv ⟨_, _, _, _, _, _, rfl, z, .cons (.ty _) (.cons (.ty _) .nil), tyN_rep hd r1 ht, kk, fin⟩
                  · obtain ⟨oc, od, dt, sl⟩ := o
                    simp only at z2 z3
                    subst z2 z3
                    obtain ⟨w1, w2, e, ra, rb⟩ := vals2 z5
                    cases ra
                    cases rb
                    have e2 : its = [Value.type n, Value.type m].toArray := by rw [← e]
                    subst e2
                    exact call_isiK pins s σ H _ us Q I rv ⟨_, _, _, _, _, _, _, _, rfl, z1, tyN_rep hd r1 ht, kk, fin⟩
      · exact q.elim
    · exact q.elim
  · exact q.elim
/-! ### a class's constant -/
theorem we_ccon {x f : Str} {C : Addr} {mc u : Value} {v : V} {y : PV} {p pos : Pos} (hm : X.mg x = some (.ref C)) (r : ClX.CRead X.K C mc) (c : ClX.CVal X.K C mc f v u) (ry : ∀ F, Rep X.K F v y) (hg : Gl X x := by rfl) (hd : (x == ("__debug__" : Str)) = false := by decide)
    (hb : attributeBase (.Name x p) f X.env (eval (.Name x p) X.env) = eval (.Name x p) X.env := by rfl) : WE X F0 (.Attribute (.Name x p) f pos) (wC y) :=
  ⟨peImp (ClX.pe_cval (pe_glob hg hm (v := .ref C) rfl hd) hb) fun σ H Q ⟨F, ρ, S, P, at_, h, le⟩ => ⟨C, mc, v, u, rfl, r, c, le y S h F H v (Same.refl F) at_.hold (ry F)⟩⟩
end
end L2.Pv

/-! P9: places, slices, methods, dicts. -/
namespace L2.Pv
open PySem PySem.Spec PyProof.Rows L2
variable [TbC]
section
variable {X : Cx} {F0 : Hp} {a b e o : Expr} {es : List Expr} {ta tb te to : PTE} {t : PTA} {n : Nat} {pos cpos apos : Pos}
/-! ### x[i] -/
theorem reps_at {K : PySem.W.Frag} {F : Hp} {vs : List V} {xs : List PV} {i : Int} {x : PV} (r : Reps K F vs xs) (h : atI xs i = some x) : ∃ v, atI vs i = some v ∧ Rep K F v x := by
  unfold atI at h ⊢
  rw [r.len]
  cases q : ixN xs.length i with
  | none => rw [q] at h; cases h
  | some j =>
    rw [q] at h
    exact r.get h
def ixP : PR2 := fun x y S Q => match x, y with
  | .str z, .int i => z.length ≤ sizeLine ∧ match atI z.cps.toList i with
    | some c => Q (.str ⟨#[c]⟩) S
    | none => False
  | x, .int i => match seqO S x with
    | some xs => match atI xs i with
      | some y => Q y S
      | none => False
    | none => False
  | _, _ => False
theorem we_ix (ha : WE X F0 a ta) (hb : WE X F0 b tb) (hs : PlainIx b := by intro _ _; rfl) : WE X F0 (.Subscript a b pos) (wOp ixP ta tb) :=
  ⟨peImp (pe_ix (r := lft2 X.K ixP) (fun value slice pins s σ H v u vv uu Q I rv ru ⟨F, S, x, y, P, hd, rx, ry, q, le⟩ hsub => by
    unfold ixP at q
    split at q
    · cases rx
      cases ry
      obtain ⟨q1, q2⟩ := q
      split at q2
      · rename_i c hc
        exact ix_str value slice pins s σ H _ _ _ _ Q I rv ru ⟨_, _, c, rfl, rfl, q1, hc, le _ S q2 F H _ (Same.refl F) hd (.str _)⟩ hsub
      · exact q2.elim
    · cases ry
      split at q
      · rename_i xs hx
        split at q
        · rename_i z hz
          obtain ⟨a, ws, rfl, h1, h2⟩ := seqO_sq hd rx hx
          obtain ⟨w, h3, h4⟩ := reps_at h2 hz
          have fin := le _ S q F H _ (Same.refl F) hd h4
          rcases h1 with h1 | h1
          · exact ix_list value slice pins s σ H _ _ _ _ Q I rv ru ⟨a, ws, _, w, rfl, rfl, h1, h3, fin⟩ hsub
          · exact ix_tup value slice pins s σ H _ _ _ _ Q I rv ru ⟨a, ws, _, w, rfl, rfl, h1, h3, fin⟩ hsub
        · exact q.elim
      · exact q.elim
    · exact q.elim) ha.pe hb.pe hs) fun _ _ _ h => two h⟩
/-- d[k] -/
def dgetP : PR2 := fun x y S Q => match seqK S x, keyOf y with
  | some kvs, some k => match dget k kvs with
    | some z => Q z S
    | none => False
  | _, _ => False
theorem dget_of {F H : Hp} {S : Store} {v w : V} {x y : PV} {kvs : List (PV × PV)} {k : Key} (hd : Hold X.K F S H) (rx : Rep X.K F v x) (ry : Rep X.K F w y) (h1 : seqK S x = some kvs) (h2 : keyOf y = some k) :
    ∃ a vs, v = .ref a ∧ w = kV k ∧ Rd H a (.dK vs) ∧ RepK X.K F vs kvs ∧ DGet H a w (valV vs k) := by
  obtain ⟨a, vs, e, h3, h4⟩ := seqK_rd hd rx h1
  have e2 := keyOf_rep ry h2
  exact ⟨a, vs, e, e2, h3, h4, .inl ⟨vs, k, h3, e2, rfl⟩⟩
theorem we_dget (hu : X.A.units + 1 < cLine) (ha : WE X F0 a ta) (hb : WE X F0 b tb) (hs : NoSl b := by intro _ _; rfl) : WE X F0 (.Subscript a b pos) (wOp dgetP ta tb) :=
  ⟨peImp (pe_dget hu ha.pe hb.pe hs) fun σ H Q ⟨F, ρ, S, P, at_, h, le⟩ => ⟨F, ρ, S, _, at_, h, fun x S1 h1 F1 H1 v e1 hd1 r1 => ⟨F1, ρ, S1, _, at_.next e1 hd1, h1, fun y S2 h2 F2 H2 w e2 hd2 r2 => by
    unfold dgetP at h2
    split at h2
    · rename_i kvs k q1 q2
      split at h2
      · rename_i z hz
        obtain ⟨a, vs, e3, e4, h3, h4, g⟩ := dget_of hd2 (r1.mono e2) r2 q1 q2
        have := h4.get k
        rw [hz] at this
        obtain ⟨u, h5, h6⟩ := this
        rw [h5] at g
        exact ⟨a, u, e3, g, le _ S2 h2 F2 H2 u (e1.trans e2) hd2 h6⟩
      · exact h2.elim
    · exact h2.elim⟩⟩⟩
/-! ### slices -/
abbrev PTO := PEnv → Store → (Option Int → Store → Prop) → Prop
def LeO (K : PySem.W.Frag) (F : Hp) (P : Option Int → Store → Prop) (Q : Option Int → Hp → Prop) : Prop := ∀ x S, P x S → ∀ F' H, Same F F' → Hold K F' S H → Q x H
def lftO (K : PySem.W.Frag) (F0 : Hp) (t : PTO) : TO := fun σ H Q => ∃ F ρ S P, At K F0 F ρ S σ H ∧ t ρ S P ∧ LeO K F P Q
structure WO (X : Cx) (F0 : Hp) (e : Option Expr) (t : PTO) : Prop where
  po : PO X e (lftO X.K F0 t)
theorem poImp {X : Cx} {e : Option Expr} {t t' : TO} (h : PO X e t) (i : ∀ σ H Q, t' σ H Q → t σ H Q) : PO X e t' := ⟨fun pins s σ H Q I q => h.run pins s σ H Q I (i _ _ _ q)⟩
def wNoPart : PTO := fun _ S Q => Q none S
def wPart (t : PTE) : PTO := fun ρ S Q => t ρ S fun x S1 => match x with
  | .int i => Q (some i) S1
  | _ => False
theorem wo_none : WO X F0 none wNoPart := ⟨poImp po_none fun σ H Q ⟨F, ρ, S, P, at_, h, le⟩ => le none S h F H (Same.refl F) at_.hold⟩
theorem wo_some (h : WE X F0 e te) : WO X F0 (some e) (wPart te) :=
  ⟨poImp (po_some h.pe) fun σ H Q ⟨F, ρ, S, P, at_, h, le⟩ => ⟨F, ρ, S, _, at_, h, fun x S1 h1 F1 H1 v e1 hd1 r1 => by
    split at h1
    · cases r1
      exact ⟨_, rfl, le _ S1 h1 F1 H1 e1 hd1⟩
    · exact h1.elim⟩⟩
def cutP (xs : List PV) (lo hi : Option Int) : List PV := (xs.drop (HT.sIx xs.length 0 lo)).take (HT.sIx xs.length xs.length hi - HT.sIx xs.length 0 lo)
theorem cut_reps {K : PySem.W.Frag} {F : Hp} {vs : List V} {xs : List PV} {lo hi : Option Int} (r : Reps K F vs xs) : Reps K F (cutV vs lo hi) (cutP xs lo hi) := by
  unfold cutV cutP
  rw [r.len]
  exact (r.drop _).take _
def slcP (x : PV) (lo hi : Option Int) (S : Store) (Q : PQ) : Prop := match x with
  | .str z => z.length ≤ sizeLine ∧ Q (.str (Txt.slice z lo hi)) S
  | .tup xs => Q (.tup (cutP xs lo hi)) S
  | x => match seqL S x with
    | some xs => Q (.lst (cutP xs lo hi)) S
    | none => False
def slcMP (x : PV) (lo hi : Option Int) (S : Store) (Q : PQ) : Prop := match seqL S x with
    | some xs => ∀ p, S p = none → Q (.ref p) (put S p (.raw (.lst (cutP xs lo hi))))
    | none => False
abbrev PRS := PV → Option Int → Option Int → Store → PQ → Prop
def lftSl (K : PySem.W.Frag) (r : PRS) : V → Option Int → Option Int → Hp → VK → Prop := fun v lo hi H Q => ∃ F S x P, Hold K F S H ∧ Rep K F v x ∧ r x lo hi S P ∧ Le K F P Q
def wSl (r : PRS) (te : PTE) (tl th : PTO) : PTE := fun ρ S Q => te ρ S fun x S1 => tl ρ S1 fun l S2 => th ρ S2 fun u S3 => r x l u S3 Q
theorem cut_whole {xs : List PV} {lo hi : Option Int} (h : HT.sIx xs.length 0 lo = 0 ∧ HT.sIx xs.length xs.length hi = xs.length) : cutP xs lo hi = xs := by
  unfold cutP
  rw [h.1, h.2]
  simp
theorem sw_slc : SlR X (lftSl X.K slcP) := by
  intro pins s σ H v vv vl vu lo hi sl Q I rv hs pl pu ⟨F, S, x, P, hd, rx, q, le⟩
  have lists : ∀ {xs : List PV}, seqL S x = some xs → P (.lst (cutP xs lo hi)) S → ∃ T id, typeLookup (.type T) "__getitem__" = pure (some (.builtin id)) ∧ s.TypeIs vv T ∧ wpAny (model X.prog X.w) X.A (getItem vv (.ref sl)) (EP X pins σ Q) X.xe s := fun {xs} h1 q1 => by
    obtain ⟨a, ws, e, h3, h4⟩ := seqL_rd hd rx h1
    refine sl_list pins s σ H v vv vl vu lo hi sl Q I rv hs pl pu ⟨a, ws, e, .inl h3, fun p np => ?_⟩
    obtain ⟨e2, hd2, r2⟩ := new_lst (X := X) hd np (cut_reps (lo := lo) (hi := hi) h4)
    exact le _ S q1 _ _ _ e2 hd2 r2
  unfold slcP at q
  split at q
  · cases rx
    exact C8.sl_txt pins s σ H _ vv vl vu lo hi sl Q I rv hs pl pu ⟨_, rfl, q.1, le _ S q.2 F H _ (Same.refl F) hd (.str _)⟩
  · cases rx with
    | tup a b =>
      refine sl_tupA pins s σ H _ vv vl vu lo hi sl Q I rv hs pl pu ⟨_, _, rfl, hd.sub.sqT a, fun z => ?_, fun z p np => ?_⟩
      · rw [b.len] at z
        rw [cut_whole z] at q
        exact le _ S q F H _ (Same.refl F) hd (.tup a b)
      · obtain ⟨e2, hd2, r2⟩ := new_tup (X := X) hd np (cut_reps (lo := lo) (hi := hi) b)
        exact le _ S q _ _ _ e2 hd2 r2
  · split at q
    · exact lists (by assumption) q
    · exact q.elim
theorem sw_slcM : SlR X (lftSl X.K slcMP) := by
  intro pins s σ H v vv vl vu lo hi sl Q I rv hs pl pu ⟨F, S, x, P, hd, rx, q, le⟩
  unfold slcMP at q
  split at q
  · rename_i xs h1
    obtain ⟨a, ws, e, h3, h4⟩ := seqL_rd hd rx h1
    exact sl_list pins s σ H v vv vl vu lo hi sl Q I rv hs pl pu ⟨a, ws, e, .inl h3, fun p np => le _ _ (q p (hd.freeS np)) F _ _ (Same.refl F) (hd.newS np (cut_reps h4)) (.ref p)⟩
  · exact q.elim
theorem we_sl {r : PRS} {lo hi : Option Expr} {tl th : PTO} {p2 : Pos} (hr : SlR X (lftSl X.K r)) (he : WE X F0 e te) (hl : WO X F0 lo tl) (hh : WO X F0 hi th) : WE X F0 (.Subscript e (.Slice lo hi none p2) pos) (wSl r te tl th) :=
  ⟨peImp (pe_slice hr he.pe hl.po hh.po) fun σ H Q ⟨F, ρ, S, P, at_, h, le⟩ => ⟨F, ρ, S, _, at_, h, fun x S1 h1 F1 H1 v e1 hd1 r1 => ⟨F1, ρ, S1, _, at_.next e1 hd1, h1, fun l S2 h2 F2 H2 e2 hd2 => ⟨F2, ρ, S2, _, at_.next (e1.trans e2) hd2, h2, fun u S3 h3 F3 H3 e3 hd3 =>
    ⟨F3, S3, x, P, hd3, r1.mono (e2.trans e3), h3, le.mono ((e1.trans e2).trans e3)⟩⟩⟩⟩⟩
/-- xs[::-1] -/
def wRevL (te : PTE) : PTE := fun ρ S Q => te ρ S fun x S1 => match seqL S1 x with
  | some xs => Q (.lst xs.reverse) S1
  | none => False
theorem we_revL {k : Nat} {p1 p2 p3 : Pos} (he : WE X F0 e te) : WE X F0 (.Subscript e (.Slice none none (some (.UnaryOp .USub (.Constant (.int 1) k p1) p2)) p3) pos) (wRevL te) :=
  ⟨peImp (pe_revL he.pe) fun σ H Q ⟨F, ρ, S, P, at_, h, le⟩ => ⟨F, ρ, S, _, at_, h, fun x S1 h1 F1 H1 v e1 hd1 r1 => by
    split at h1
    · rename_i xs hx
      obtain ⟨a, ws, e3, h3, h4⟩ := seqL_rd hd1 r1 hx
      refine ⟨a, ws, e3, .inl h3, fun p np => ?_⟩
      obtain ⟨e2, hd2, r2⟩ := new_lst (X := X) hd1 np h4.rev
      exact le _ S1 h1 _ _ _ (e1.trans e2) hd2 r2
    · exact h1.elim⟩⟩
/-! ### methods of built-in types -/
def tyM (S : Store) (T : String) : PV → Bool
  | .str _ => T == "str"
  | .int _ => T == "int"
  | .lst _ => T == "list"
  | .dic _ => T == "dict"
  | .ref a => match rdS S a with
    | some (.lst _) => T == "list"
    | some (.dic _) => T == "dict"
    | _ => false
  | _ => false
theorem tyM_ok {F H : Hp} {S : Store} {T : String} {v : V} {x : PV} (hd : Hold X.K F S H) (r : Rep X.K F v x) (h : tyM S T x = true) (nf : T = "dict" → ∀ a vs, v = .ref a → Rd H a (.dK vs) → H a = some (.dK vs)) : tyV X.K T v H := by
  cases r with
  | str z => exact of_decide_eq_true (p := T = "str") h
  | int z => exact of_decide_eq_true (p := T = "int") h
  | lst a b => exact .inl ⟨of_decide_eq_true h, _, .inl (hd.sub.rd a)⟩
  | dic a b =>
    have e : T = "dict" := of_decide_eq_true h
    exact .inr (.inr (.inl ⟨e, .inl ⟨_, nf e _ _ rfl (hd.sub.rd a)⟩⟩))
  | ref a =>
    simp only [tyM] at h
    split at h
    · obtain ⟨_, o, ho, ro⟩ := hd.rd (by assumption)
      cases o <;> first | exact ro.elim | skip
      exact .inl ⟨of_decide_eq_true h, _, .inl ho⟩
    · obtain ⟨_, o, ho, ro⟩ := hd.rd (by assumption)
      cases o <;> first | exact ro.elim | skip
      have e : T = "dict" := of_decide_eq_true h
      exact .inr (.inr (.inl ⟨e, .inl ⟨_, nf e _ _ rfl ho⟩⟩))
    · cases h
  | _ => cases h
def MtW (X : Cx) (id : String) (r : PRm) : Prop := MtR X id (lftM X.K r)
/-- x.m(..) of a list or a text -/
def wBm (T : String) (r : PRm) (to : PTE) (t : PTA) : PTE := fun ρ S Q => to ρ S fun x S1 => tyM S1 T x = true ∧ t ρ S1 fun xs S2 => r x xs S2 Q
variable {T id : String} {name : Str} {r : PRm}
theorem we_bm (pa : PlainAttrs T) (slot : Slot T name id) (hty : typeOf (.builtin id) = pure (.type "method_descriptor")) (hT : T ≠ "dict") (hm : MtW X id r) (ho : WE X F0 o to) (ha : WA X F0 n (e :: es) t)
    (hbase : attributeBase o name X.env (eval o X.env) = eval o X.env := by rfl)
    (hfew : ((backTo cpos (starEach (e :: es) X.env)).all (fun x => !x.1) && (backToKw cpos (keywordEach [] X.env)).all (fun x => x.1.isSome)
      && decide ((e :: es).length + ([] : List Keyword).length + (if ([] : List Keyword).isEmpty then 0 else 1) < 30)) = true := by rfl)
    (hline : (apos.endLine == cpos.line) = true := by rfl) (hs : starEach (e :: es) X.env = (false, eval e X.env) :: starEach es X.env := by rfl) (hplain : (backTo cpos (starEach es X.env)).any (·.1) = false := by rfl) :
    WE X F0 (.Call (.Attribute o name apos) (e :: es) [] cpos) (wBm T r to t) :=
  ⟨peImp (pe_bm pa slot hty hm ho.pe ha.pa hbase hfew hline hs hplain) fun σ H Q ⟨F, ρ, S, P, at_, h, le⟩ => ⟨F, ρ, S, _, at_, h, fun x S1 ⟨h1, h2⟩ F1 H1 v e1 hd1 r1 => ⟨tyM_ok hd1 r1 h1 (fun z => absurd z hT), F1, ρ, S1, _, at_.next e1 hd1, h2, fun xs S2 h3 _ F2 H2 vs e2 hd2 r2 => ⟨F2, S2, x, xs, P, hd2, r1.mono e2, r2, h3, le.mono (e1.trans e2)⟩⟩⟩⟩
theorem we_bm0 (pa : PlainAttrs T) (slot : Slot T name id) (hty : typeOf (.builtin id) = pure (.type "method_descriptor")) (hT : T ≠ "dict") (hm : MtW X id r) (ho : WE X F0 o to)
    (hbase : attributeBase o name X.env (eval o X.env) = eval o X.env := by rfl) (hline : (apos.endLine == cpos.line) = true := by rfl) : WE X F0 (.Call (.Attribute o name apos) [] [] cpos) (wBm T r to wNil) :=
  ⟨peImp (pe_bm0 pa slot hty hm ho.pe hbase hline) fun σ H Q ⟨F, ρ, S, P, at_, h, le⟩ => ⟨F, ρ, S, _, at_, h, fun x S1 ⟨h1, h2⟩ F1 H1 v e1 hd1 r1 => ⟨tyM_ok hd1 r1 h1 (fun z => absurd z hT), F1, S1, x, [], P, hd1, r1, .nil, h2, le.mono e1⟩⟩⟩
def appendP : PRm := fun x xs S Q => match x, xs with
  | .ref a, [y] => match S a with
    | some (.raw (.lst ys)) => ys.length < sizeLine ∧ Q .non (put S a (.raw (.lst (ys ++ [y]))))
    | _ => False
  | _, _ => False
theorem raw_lst {F H : Hp} {S : Store} {a : Addr} {ys : List PV} (hd : Hold X.K F S H) (h : S a = some (.raw (.lst ys))) : ∃ vs, H a = some (.lst vs) ∧ Reps X.K F vs ys := by
  obtain ⟨_, o, ho, ro⟩ := hd.raw h
  cases o <;> first | exact ro.elim | exact ⟨_, ho, ro⟩
theorem mw_append : MtW X "list.append" appendP := by
  intro pins s σ H v vs vv us Q I rv rs ⟨F, S, x, xs, P, hd, rx, rxs, q, le⟩
  unfold appendP at q
  split at q
  · cases rx
    split at q
    · rename_i ys hS
      obtain ⟨ws, hH, rw⟩ := raw_lst hd hS
      cases rxs with
      | cons r1 r2 =>
        cases r2
        exact mt_append pins s σ H _ _ vv us Q I rv rs ⟨_, ws, _, rfl, rfl, hH, by rw [rw.len]; exact q.1, le _ _ q.2 F _ _ (Same.refl F) (hd.write hS (r' := .lst (ys ++ [_])) (rw.app (.cons r1 .nil))) .non⟩
    · exact q.elim
  · exact q.elim
/-- xs.pop(i), i not negative -/
def popAtP : PRm := fun x xs S Q => match x, xs with
  | .ref a, [.int i] => match S a with
    | some (.raw (.lst ys)) => (0 ≤ i ∧ i < ys.length ∧ i < 2 ^ 63) ∧ match ys[i.toNat]? with
      | some y => Q y (put S a (.raw (.lst (ys.eraseIdx i.toNat))))
      | none => False
    | _ => False
  | _, _ => False
theorem Reps.erase {K : PySem.W.Frag} {F : Hp} : ∀ (i : Nat) {vs : List V} {xs : List PV}, Reps K F vs xs → Reps K F (vs.eraseIdx i) (xs.eraseIdx i)
  | _, _, _, .nil => .nil
  | 0, _, _, .cons _ r => r
  | i + 1, _, _, .cons h r => .cons h (Reps.erase i r)
theorem seqIx {i : Int} {n : Nat} (h1 : 0 ≤ i) (h2 : i < n) : seqIndex? i n = some i.toNat := by
  have e : ixN n i = some i.toNat := by
    unfold ixN
    rw [if_pos h1, if_pos h2]
  exact (ixN_seq e).1
theorem mw_popAt : MtW X "list.pop" popAtP := by
  intro pins s σ H v vs vv us Q I rv rs ⟨F, S, x, xs, P, hd, rx, rxs, q, le⟩
  unfold popAtP at q
  split at q
  · cases rx
    split at q
    · rename_i ys hS
      obtain ⟨ws, hH, rw⟩ := raw_lst hd hS
      obtain ⟨⟨q1, q2, q3⟩, q⟩ := q
      split at q
      · rename_i y hy
        cases rxs with
        | cons r1 r2 =>
          cases r2
          cases r1
          obtain ⟨w, h1, h2⟩ := rw.get hy
          exact mt_popAt pins s σ H _ _ vv us Q I rv rs ⟨_, ws, _, _, w, rfl, rfl, hH, by omega, q3, seqIx q1 (by rw [rw.len]; exact q2), h1, le _ _ q F _ _ (Same.refl F) (hd.write hS (r' := .lst _) (rw.erase _)) h2⟩
      · exact q.elim
    · exact q.elim
  · exact q.elim
/-- sep.join(list) -/
def joinP : PRm := fun x xs S Q => match x, xs with
  | .str z, [y] => match seqO S y with
    | some ys => match strsOf ys with
      | some bs => (bs.map (·.length)).sum + bs.length * z.length ≤ 16777216 ∧ Q (.str (Txt.join z bs)) S
      | none => False
    | none => False
  | _, _ => False
theorem mw_join : MtW X "str.join" joinP := by
  intro pins s σ H v vs vv us Q I rv rs ⟨F, S, x, xs, P, hd, rx, rxs, q, le⟩
  unfold joinP at q
  split at q
  · cases rx
    split at q
    · rename_i ys hy
      split at q
      · rename_i bs hb
        cases rxs with
        | cons r1 r2 =>
          cases r2
          obtain ⟨a, ws, rfl, h1, h2⟩ := seqO_sq hd r1 hy
          have e := strsOf_eq hb
          subst e
          have e2 := h2.strs
          subst e2
          exact mt_join pins s σ H _ _ vv us Q I rv rs ⟨_, a, bs, rfl, rfl, h1, q.1, le _ S q.2 F H _ (Same.refl F) hd (.str _)⟩
      · exact q.elim
    · exact q.elim
  · exact q.elim
/-! ### dicts -/
theorem we_dnew : WE X F0 (.Dict [] [] pos) (wC (.dic [])) :=
  ⟨peImp pe_dnewK fun σ H Q ⟨F, ρ, S, P, at_, h, le⟩ => fun p np => le (.dic []) S h _ _ _ (same_upd (at_.hold.freeF np)) (at_.hold.newF np) (.dic (.inl upd_same) .nil)⟩
def wDnewM : PTE := fun _ S Q => ∀ p, S p = none → Q (.ref p) (put S p (.raw (.dic [])))
theorem we_dnewM : WE X F0 (.Dict [] [] pos) wDnewM :=
  ⟨peImp pe_dnewK fun σ H Q ⟨F, ρ, S, P, at_, h, le⟩ => fun p np => le _ _ (h p (at_.hold.freeS np)) F _ _ (Same.refl F) (at_.hold.newS (r := .dic []) np .nil) (.ref p)⟩
/-- the pairs of a display -/
def wPairs : List (PTE × PTE) → PEnv → Store → (List (PV × PV) → Store → Prop) → Prop
  | [], _, S, Q => Q [] S
  | (tk, tv) :: r, ρ, S, Q => tk ρ S fun x S1 => tv ρ S1 fun y S2 => wPairs r ρ S2 fun ps S3 => Q ((x, y) :: ps) S3
inductive WPs (X : Cx) (F0 : Hp) (pos : Pos) : List (Option Expr) → List Expr → List (PTE × PTE) → Prop
  | nil : WPs X F0 pos [] [] []
  | cons {k v : Expr} {ks : List (Option Expr)} {vs : List Expr} {tk tv : PTE} {r : List (PTE × PTE)} (hk : WE X F0 k tk) (hv : WE X F0 v tv) (hr : WPs X F0 pos ks vs r) : WPs X F0 pos (some k :: ks) (v :: vs) ((tk, tv) :: r)
def RepPs (K : PySem.W.Frag) (F : Hp) : List (V × V) → List (PV × PV) → Prop := Paired fun p q => Rep K F p.1 q.1 ∧ Rep K F p.2 q.2
def lftPs (K : PySem.W.Frag) (F0 : Hp) (trs : List (PTE × PTE)) : List (TE × TE) := trs.map fun p => (lft K F0 p.1, lft K F0 p.2)
theorem WPs.pps {keys : List (Option Expr)} {values : List Expr} {trs : List (PTE × PTE)} (h : WPs X F0 pos keys values trs) : PPs X pos keys values (lftPs X.K F0 trs) := by
  induction h with
  | nil => exact pps_nil
  | cons hk hv _ ih => exact pps_cons hk.pe hv.pe ih
theorem pairs_lift : ∀ {trs : List (PTE × PTE)} {F : Hp} {ρ : PEnv} {S : Store} {σ : L2.St} {H : Hp} {P : List (PV × PV) → Store → Prop} {Q : List (V × V) → Hp → Prop}, At X.K F0 F ρ S σ H → wPairs trs ρ S P →
    (∀ ps S', P ps S' → ps.length = trs.length → ∀ F' H' vs, Same F F' → Hold X.K F' S' H' → RepPs X.K F' vs ps → Q vs H') → tPairs (lftPs X.K F0 trs) σ H Q
  | [], F, ρ, S, σ, H, P, Q, at_, h, le => le [] S h rfl F H [] (Same.refl F) at_.hold .nil
  | (tk, tv) :: r, F, ρ, S, σ, H, P, Q, at_, h, le => ⟨F, ρ, S, _, at_, h, fun x S1 h1 F1 H1 v e1 hd1 r1 => ⟨F1, ρ, S1, _, at_.next e1 hd1, h1, fun y S2 h2 F2 H2 w e2 hd2 r2 =>
    pairs_lift (at_.next (e1.trans e2) hd2) h2 fun ps S3 h3 hl F3 H3 vs e3 hd3 r3 => le _ S3 h3 (by rw [List.length_cons, List.length_cons, hl]) F3 H3 _ ((e1.trans e2).trans e3) hd3 (.cons ⟨r1.mono (e2.trans e3), r2.mono e3⟩ r3)⟩⟩
def keysOf : List (PV × PV) → Option (List Key)
  | [] => some []
  | (x, _) :: r => match keyOf x, keysOf r with
    | some k, some ks => some (k :: ks)
    | _, _ => none
/-- {k: v, ..} that may be changed; its keys differ -/
def wDispM (trs : List (PTE × PTE)) : PTE := fun ρ S Q => ∀ p, S p = none → wPairs trs ρ (put S p (.raw (.dic []))) fun ps S2 => S2 p = some (.raw (.dic [])) ∧ (match keysOf ps with | some ks => ks.Nodup | none => False) ∧ Q (.ref p) (put S2 p (.raw (.dic ps)))
theorem merge_new : ∀ {kvs acc : List (Key × V)}, (acc.map (·.1) ++ kvs.map (·.1)).Nodup → mergeK acc kvs = acc ++ kvs
  | [], acc, _ => by unfold mergeK; rw [List.append_nil]; rfl
  | (k, v) :: r, acc, h => by
    have hn : valV acc k = none := by
      cases q : valV acc k with
      | none => rfl
      | some z =>
        exfalso
        have e := valV_any k acc
        rw [q] at e
        obtain ⟨p, hp, hk⟩ := List.any_eq_true.mp e
        have hk := of_decide_eq_true hk
        rw [List.nodup_append] at h
        exact h.2.2 _ (List.mem_map.mpr ⟨p, hp, rfl⟩) k (by rw [List.map_cons]; exact List.mem_cons_self) hk
    show mergeK (putK acc k v) r = _
    rw [putK_new v hn, merge_new (kvs := r) (by rw [List.map_append]; simpa using h)]
    simp
theorem keys_rep {K : PySem.W.Frag} {F : Hp} : ∀ {vs : List (V × V)} {ps : List (PV × PV)} {ks : List Key}, RepPs K F vs ps → keysOf ps = some ks → ∃ kvs : List (Key × V), vs = kvs.map (fun kv => (kV kv.1, kv.2)) ∧ kvs.map (·.1) = ks ∧ RepK K F kvs ps
  | _, _, _, .nil, h => by cases h; exact ⟨[], rfl, rfl, .nil⟩
  | _, _, _, .cons (a := p) (b := q) h r, e => by
    obtain ⟨x, y⟩ := q
    obtain ⟨v, w⟩ := p
    unfold keysOf at e
    split at e
    · rename_i k ks e1 e2
      cases e
      obtain ⟨kvs, h1, h2, h3⟩ := keys_rep r e2
      have e3 := keyOf_rep h.1 e1
      simp only at e3
      subst e3
      have e4 : x = keyP k := by
        have hh := h.1
        cases k with
        | inl i => cases hh; cases e1; rfl
        | inr z => cases hh; cases e1; rfl
      subst e4
      exact ⟨(k, w) :: kvs, by rw [h1]; rfl, by rw [← h2]; rfl, .cons h.2 h3⟩
    · cases e
theorem we_dispM {keys : List (Option Expr)} {values : List Expr} {trs : List (PTE × PTE)} (h : WPs X F0 pos keys values trs) (hall : keys.all (·.isSome) = true := by rfl) (hl : keys.length = values.length := by rfl) (h0 : keys ≠ [] := by exact List.cons_ne_nil _ _)
    (h15 : keys.length ≤ 15 := by decide) (hn : trs.length ≤ 15 := by decide) : WE X F0 (.Dict keys values pos) (wDispM trs) :=
  ⟨peImp (pe_disp h.pps hall hl h0 h15) fun σ H Q ⟨F, ρ, S, P, at_, h, le⟩ => fun p np => by
    have hd1 := at_.hold.newS (o := .dK []) (r := .dic []) np .nil
    refine pairs_lift ⟨at_.base, hd1, at_.env⟩ (h p (at_.hold.freeS np)) fun ps S2 ⟨q1, q2, q3⟩ hl F2 H2 vs e2 hd2 r2 => ?_
    split at q2
    · rename_i ks hk
      obtain ⟨kvs, h1, h2, h3⟩ := keys_rep r2 hk
      obtain ⟨_, o, ho, ro⟩ := hd2.raw q1
      cases o <;> first | exact ro.elim | skip
      cases ro
      refine ⟨ho, kvs, h1, ?_, ?_⟩
      · rw [h3.len, hl]
        exact hn
      · rw [merge_new (by rw [h2]; simpa using q2)]
        exact le _ _ q3 F2 _ _ e2 (hd2.write q1 (r' := .dic ps) h3) (.ref p)
    · exact q2.elim⟩
/-- d[k] = e -/
def dputP (x y z : PV) (S : Store) (Q : Store → Prop) : Prop := match x, keyOf y with
  | .ref a, some k => match S a with
    | some (.raw (.dic kvs)) => kvs.length < sizeLine ∧ Q (put S a (.raw (.dic (dput k z kvs))))
    | _ => False
  | _, _ => False
theorem dhas_rep {K : PySem.W.Frag} {F : Hp} (k : Key) : ∀ {vs : List (Key × V)} {xs : List (PV × PV)}, RepK K F vs xs → (vs.any fun kv => decide (kv.1 = k)) = dhas k xs
  | _, _, .nil => rfl
  | _, _, .cons (k := j) h r => by
    have := dhas_rep k r
    unfold dhas at this ⊢
    rw [List.any_cons, List.any_cons, this, keyOf_keyP]
    congr 1
    by_cases e : j = k
    · subst e; simp
    · rw [decide_eq_false e, decide_eq_false (fun z => e (Option.some.inj z))]
theorem RepK.app {K : PySem.W.Frag} {F : Hp} : ∀ {vs ws : List (Key × V)} {xs ys : List (PV × PV)}, RepK K F vs xs → RepK K F ws ys → RepK K F (vs ++ ws) (xs ++ ys)
  | _, _, _, _, .nil, s => s
  | _, _, _, _, .cons h r, s => .cons h (RepK.app r s)
theorem dput_map {K : PySem.W.Frag} {F : Hp} (k : Key) {v : V} {z : PV} (rz : Rep K F v z) : ∀ {vs : List (Key × V)} {xs : List (PV × PV)}, RepK K F vs xs → RepK K F (vs.map fun kv => if kv.1 = k then (kv.1, v) else kv) (xs.map fun p => if keyOf p.1 = some k then (p.1, z) else p)
  | _, _, .nil => .nil
  | _, _, .cons (k := j) h r => by
    rw [List.map_cons, List.map_cons]
    simp only [keyOf_keyP]
    by_cases e : j = k
    · rw [if_pos e, if_pos (by rw [e])]
      exact .cons rz (dput_map k rz r)
    · rw [if_neg e, if_neg (fun z2 => e (Option.some.inj z2))]
      exact .cons h (dput_map k rz r)
theorem dput_rep {K : PySem.W.Frag} {F : Hp} (k : Key) {v : V} {z : PV} (rz : Rep K F v z) {vs : List (Key × V)} {xs : List (PV × PV)} (h : RepK K F vs xs) : RepK K F (putK vs k v) (dput k z xs) := by
  unfold putK dput
  rw [dhas_rep k h]
  split
  · exact dput_map k rz h
  · exact h.app (.cons rz .nil)
def wDput (td ty tv : PTE) : PTS := fun P ρ S => tv ρ S fun z S1 => td ρ S1 fun x S2 => ty ρ S2 fun y S3 => dputP x y z S3 fun S4 => P.nx ρ S4
theorem ws_dput {i v : Expr} {ty tv : PTE} {pos' : Pos} (hu : X.A.units + 1 < cLine) (ho : WE X F0 o to) (hi : WE X F0 i ty) (hv : WE X F0 v tv) (hs : swapsWith v (some (.Subscript o i pos')) pos.line X.env = pure false := by rfl) :
    WS X F0 (.Assign [.Subscript o i pos'] v pos) (wDput to ty tv) :=
  ⟨⟨fun pins s σ H D I ⟨F, ρ, S, P, at_, h, le⟩ => (ps_dput hu ho.pe hi.pe hv.pe hs).run pins s σ H D I ⟨F, ρ, S, _, at_, h, fun z S1 h1 F1 H1 w1 e1 hd1 r1 => ⟨F1, ρ, S1, _, at_.next e1 hd1, h1, fun x S2 h2 F2 H2 w2 e2 hd2 r2 => ⟨F2, ρ, S2, _, at_.next (e1.trans e2) hd2, h2, fun y S3 h3 F3 H3 w3 e3 hd3 r3 => by
    unfold dputP at h3
    split at h3
    · rename_i a k hk
      split at h3
      · rename_i kvs hS
        obtain ⟨_, o, ho, ro⟩ := hd3.raw hS
        cases o <;> first | exact ro.elim | skip
        rename_i vs
        have ro' : RepK X.K F3 vs kvs := ro
        have e4 := keyOf_rep r3 hk
        have r2' := r2.mono e3
        cases r2'
        have e14 := (e1.trans e2).trans e3
        exact ⟨a, _, rfl, .inl ⟨vs, k, ho, e4, by rw [ro'.len]; exact h3.1, rfl⟩, le.nx _ _ h3.2 F3 σ _ e14 (at_.next e14 (hd3.write hS (r' := .dic _) (dput_rep k (r1.mono (e2.trans e3)) ro')))⟩
      · exact h3.elim
    · exact h3.elim⟩⟩⟩⟩⟩
end
end L2.Pv

/-! P10: repr of data. -/
namespace L2.Pv
open PySem PySem.Spec PyProof.Rows L2
variable [TbC]
mutual
def toR : PV → Option PyData
  | .non => some .none
  | .bl b => some (.bool b)
  | .int i => some (.int i)
  | .str x => some (.str x)
  | .lst xs => match toRs xs with
    | some ds => some (.list ds)
    | none => none
  | .tup xs => match toRs xs with
    | some ds => some (.tuple ds)
    | none => none
  | .dic xs => match toRk xs with
    | some ds => some (.dict ds)
    | none => none
  | .ref _ => none
  | .ty _ => none
  | .scr _ => none
  | .exc _ _ => none
def toRs : List PV → Option (List PyData)
  | [] => some []
  | x :: xs => match toR x, toRs xs with
    | some d, some ds => some (d :: ds)
    | _, _ => none
def toRk : List (PV × PV) → Option (List (PyData × PyData))
  | [] => some []
  | (k, x) :: xs => match toR k, toR x, toRk xs with
    | some e, some d, some ds => some ((e, d) :: ds)
    | _, _, _ => none
end
structure FineD (d : PyData) : Prop where
  sh : d.leavesShort 60 = true
  sw : d.showable = true
  dp : d.depth ≤ 64
  wt : d.weight ≤ 200000
def FineR (x : PV) : Prop := ∃ d, toR x = some d ∧ FineD d
def shw (x : PV) : Str := match toR x with
  | some d => d.shown
  | none => Str.empty
theorem shw_of {x : PV} {d : PyData} (h : toR x = some d) : shw x = d.shown := by unfold shw; rw [h]
section
variable {X : Cx} {pins : List (Addr × Obj)} {σ : L2.St} {H F : Hp} {s : Shared}
theorem key_reads {k : Key} {u : Value} {e : PyData} {h : Heap} (hk : keyIs k u = true) (he : toR (keyP k) = some e) : Reads h u e [] := by
  rcases keyIs_shape hk with ⟨i, t, rfl, rfl⟩ | ⟨x, t, rfl, rfl⟩
  · cases he; exact .int i t
  · cases he; exact .str x t
mutual
theorem toR_reads (I : Inv X pins σ H s) (hs : Sub F H) (h1 : H sysModules = none) : ∀ {v : V} {x : PV} {d : PyData} {u : Value}, Rep X.K F v x → toR x = some d → RelV v u → ∃ as, Reads s.heap u d as ∧ sysModules ∉ as
  | _, _, _, _, .non, h, r => by cases h; cases r; exact ⟨[], .none, List.not_mem_nil⟩
  | _, _, _, _, .bl b, h, r => by cases h; cases r; exact ⟨[], .bool b, List.not_mem_nil⟩
  | _, _, _, _, .int i, h, r => by cases h; obtain ⟨t, rfl⟩ := r; exact ⟨[], .int i t, List.not_mem_nil⟩
  | _, _, _, _, .str x, h, r => by cases h; obtain ⟨t, rfl⟩ := r; exact ⟨[], .str x t, List.not_mem_nil⟩
  | _, _, _, _, .lst (a := a) q b, h, r => by
    unfold toR at h
    split at h
    · rename_i ds e1
      cases h
      cases r
      obtain ⟨_, its, n, rv, _, e⟩ := lst_at I (hs.rd q)
      obtain ⟨as, ra, na⟩ := toRs_reads I hs h1 b e1 rv
      refine ⟨a :: as, .list e rfl rfl (by simpa using ra), fun z => ?_⟩
      rcases List.mem_cons.mp z with z | z
      · rcases hs.rd q with z2 | ⟨_, z2⟩ <;> rw [← z, h1] at z2 <;> cases z2
      · exact na z
    · cases h
  | _, _, _, _, .tup (a := a) q b, h, r => by
    unfold toR at h
    split at h
    · rename_i ds e1
      cases h
      cases r
      obtain ⟨its, rv, ⟨o, e, hc, n, hd⟩, _⟩ := I.tuple (hs.sqT q)
      obtain ⟨as, ra, na⟩ := toRs_reads I hs h1 b e1 rv
      exact ⟨as, .tuple e hc hd (by simpa using ra), na⟩
    · cases h
  | _, _, _, _, .dic (a := a) q b, h, r => by
    unfold toR at h
    split at h
    · rename_i ds e1
      cases h
      cases r
      obtain ⟨_, hy, ws, rv, o, es, ep, e, hc, hd, _, hp, _⟩ := dk_rd I.hok (hs.rd q)
      obtain ⟨as, bs, ra, rb, na, nb⟩ := toRk_reads I hs h1 b e1 rv hp
      refine ⟨a :: as ++ bs, .dict e hc.1 hd ra rb, fun z => ?_⟩
      rcases List.mem_append.mp z with z | z
      · rcases List.mem_cons.mp z with z | z
        · rw [z, beq_self_eq_true] at hy; cases hy
        · exact na z
      · exact nb z
    · cases h
  | _, _, _, _, .ref _, h, _ => nomatch h
  | _, _, _, _, .ty _, h, _ => nomatch h
  | _, _, _, _, .scr _ _, h, _ => nomatch h
theorem toRs_reads (I : Inv X pins σ H s) (hs : Sub F H) (h1 : H sysModules = none) : ∀ {v : List V} {x : List PV} {d : List PyData} {u : List Value}, Reps X.K F v x → toRs x = some d → Vals v u → ∃ as, ReadsAll s.heap u d as ∧ sysModules ∉ as
  | _, _, _, _, .nil, h, r => by cases h; cases r; exact ⟨[], .nil, List.not_mem_nil⟩
  | _, _, _, _, .cons a b, h, r => by
    unfold toRs at h
    split at h
    · rename_i d ds e1 e2
      cases h
      cases r with
      | cons r1 r2 =>
        obtain ⟨as, ra, na⟩ := toR_reads I hs h1 a e1 r1
        obtain ⟨bs, rb, nb⟩ := toRs_reads I hs h1 b e2 r2
        exact ⟨as ++ bs, .cons ra rb, fun z => (List.mem_append.mp z).elim na nb⟩
    · cases h
theorem toRk_reads (I : Inv X pins σ H s) (hs : Sub F H) (h1 : H sysModules = none) : ∀ {v : List (Key × V)} {x : List (PV × PV)} {d : List (PyData × PyData)} {u : List (Key × Value)} {es : List DictEntry}, RepK X.K F v x → toRk x = some d → KV v u → Pairs (mixKind X.prog X.w) es u →
    ∃ as bs, ReadsAll s.heap (es.map (·.key)) (d.map (·.1)) as ∧ ReadsAll s.heap (es.map (·.val)) (d.map (·.2)) bs ∧ sysModules ∉ as ∧ sysModules ∉ bs
  | _, _, _, _, _, .nil, h, r, p => by
    cases h
    cases r
    cases p
    exact ⟨[], [], .nil, .nil, List.not_mem_nil, List.not_mem_nil⟩
  | _, _, _, _, _, .cons a b, h, r, p => by
    unfold toRk at h
    split at h
    · rename_i e d ds e1 e2 e3
      cases h
      cases r with
      | cons r1 r2 =>
        cases p with
        | cons p1 p2 p3 =>
          obtain ⟨as, ra, na⟩ := toR_reads I hs h1 a e2 r1.2
          obtain ⟨bs, cs, rb, rc, nb, nc⟩ := toRk_reads I hs h1 b e3 r2 p3
          have kr := key_reads (h := s.heap) p1 (by rw [← r1.1]; exact e1)
          rw [← p2] at ra
          refine ⟨[] ++ bs, as ++ cs, .cons kr rb, .cons ra rc, nb, fun z => (List.mem_append.mp z).elim na nc⟩
    · cases h
end
end
theorem shown_ok {d : PyData} (h : FineD d) : d.shown.length ≤ sizeLine := by
  have h1 := PyData.shown_le 60 (by decide) d h.sh
  have h2 := h.wt
  have h3 : (60 + 2) * d.weight ≤ 62 * 200000 := Nat.mul_le_mul_left _ h2
  have h4 : sizeLine = 16777216 := by decide
  omega
/-- nothing stands tracked at the modules' dict -/
def NoSys (h : Heap) : Prop := ∃ o, h.get? sysModules = some o
section
variable {X : Cx}
theorem no_sys {pins : List (Addr × Obj)} {σ : L2.St} {H : Hp} {s : Shared} (I : Inv X pins σ H s) (h : NoSys X.base) : H sysModules = none := by
  obtain ⟨o, e⟩ := h
  exact (I.bs _ _ e).2
def reprP : PRs := fun xs S Q => match xs with
  | [x] => FineR x ∧ Q (.str (shw x)) S
  | _ => False
theorem cw_repr (hG : X.A.guards = some []) (hu : X.A.units + 80 < cLine) (hn : NoSys X.base) : CallW X (.builtin "repr") reprP := by
  intro pins s σ H vs us Q I rv ⟨F, S, xs, P, hd, rx, q, le⟩
  unfold reprP at q
  split at q
  · rename_i x
    obtain ⟨⟨d, hr, hf⟩, q⟩ := q
    rw [shw_of hr] at q
    cases rx with
    | cons r1 r2 =>
      cases r2
      obtain ⟨u, rfl, ru⟩ := vals1 rv
      obtain ⟨as, ra, na⟩ := toR_reads I hd.sub (no_sys I hn) r1 hr ru
      have fin := le _ S q F H _ (Same.refl F) hd (.str _)
      have hz := shown_ok hf
      have dp := hf.dp
      cases ra with
      | none => exact PySem.P.repr_of_none ⟨.str _, H, I.tok _, ⟨_, rfl⟩, fin⟩
      | bool b => exact PySem.P.repr_of_bool ⟨.str _, H, I.tok _, ⟨_, rfl⟩, fin⟩
      | int i t => exact PySem.P.repr_of_int (of_decide_eq_true hf.sw) ⟨.str _, H, I.tok _, ⟨_, rfl⟩, fin⟩
      | str z t => exact PySem.P.repr_of_str ⟨.str _, H, I.tok _, ⟨_, rfl⟩, fin⟩ hz
      | list h1 h2 h3 h4 => exact repr_of_reads' (.list h1 h2 h3 h4) hf.sw (fun _ => na) hG (by omega) (fun _ _ e => e) (fun h' u tk hk => ⟨.str _, H, I.kept hk, ⟨_, rfl⟩, fin⟩) hz
      | tuple h1 h2 h3 h4 => exact repr_of_reads' (.tuple h1 h2 h3 h4) hf.sw (fun _ => na) hG (by omega) (fun _ _ e => e) (fun h' u tk hk => ⟨.str _, H, I.kept hk, ⟨_, rfl⟩, fin⟩) hz
      | dict h1 h2 h3 h4 h5 => exact repr_of_reads' (.dict h1 h2 h3 h4 h5) hf.sw (fun _ => na) hG (by omega) (fun _ _ e => e) (fun h' u tk hk => ⟨.str _, H, I.kept hk, ⟨_, rfl⟩, fin⟩) hz
  · exact q.elim
end
end L2.Pv

/-! P11: the law's end. -/
namespace L2.Pv
open PySem PySem.Spec PyProof.Rows L2
/-- the code objects with their tables and the name of their lambdas -/
abbrev Tbs := List (Addr × Addr × Str)
def tbsOf (cs : Tbs) : TbC := ⟨cs.map fun p => (p.2.1, p.2.2)⟩
/-- the script and the tables are tracked -/
def scrF (K : PySem.W.Frag) (a : Addr) (o : Obj) (ns : List Int) : Hp := fun b => if b = a ∧ K.lookup a = none then some (.frz o (.lst (ns.map V.int))) else none
def scrH (K : PySem.W.Frag) (a : Addr) (o : Obj) (ns : List Int) (cs : Tbs) : Hp := fun b => if b = a ∧ K.lookup a = none then some (.frz o (.lst (ns.map V.int))) else if b ∈ cs.map (fun p => p.2.1) then some (.tbl #[]) else none
theorem scrH_some {K : PySem.W.Frag} {a b : Addr} {o : Obj} {ns : List Int} {cs : Tbs} {u : HO} (h : scrH K a o ns cs b = some u) : (b = a ∧ K.lookup a = none ∧ u = .frz o (.lst (ns.map V.int))) ∨ (b ∈ cs.map (fun p => p.2.1) ∧ u = .tbl #[]) := by
  unfold scrH at h
  split at h
  · rename_i c
    cases h
    exact .inl ⟨c.1, c.2, rfl⟩
  · split at h
    · rename_i c
      cases h
      exact .inr ⟨c, rfl⟩
    · cases h
theorem scrF_some {K : PySem.W.Frag} {a b : Addr} {o : Obj} {ns : List Int} {cs : Tbs} {u : HO} (h : scrF K a o ns b = some u) : scrH K a o ns cs b = some u := by
  unfold scrF at h
  split at h
  · rename_i c
    unfold scrH
    rw [if_pos c]
    exact h
  · cases h
theorem reps_scr {K : PySem.W.Frag} {F : Hp} (ns : List Int) : Reps K F (ns.map V.int) (ns.map PV.int) := Reps.of_ints ns
theorem law_G {P : Program} {w : World} {K : PySem.W.Frag} {mg mb : Str → Option Value} {k : Nat} {fa a : Addr} {fd : FuncData} {x : Str} {sp : PSp} {t : Shared} {vs : List Value} {ns : List Int} {cs : Tbs}
    (sm : ∃ mm, t.heap.Ns sysModules mm) (kin : K.In t.heap) (gl : t.heap.Ns mainGlobals mg) (nb : t.heap.Ns builtinsNs mb) (nbb : ∀ x : Str, x ≠ "__name__" → mb x = bootBuiltins x) (lim : t.heap.NoLimit) (hg : t.gens = #[])
    (hT : ∀ p ∈ cs, t.heap.get? p.2.1 = some { cls := .none, data := .fields #[] }) (nT : ∀ p ∈ cs, K.lookup p.2.1 = none) (C : ∀ p ∈ cs, PySem.W.CodeHd t.heap p.1 p.2.1)
    (hbm : ∃ (bm : Addr) (ob : Obj), mg "__builtins__" = some (.ref bm) ∧ bm ≠ builtinsNs ∧ t.heap.get? bm = some ob ∧ ob.cls = .type "module" ∧ ob.dict = some builtinsNs ∧ ob.data = .plain)
    (ha : t.heap.get? a = some { cls := .type "list", data := .seq vs.toArray }) (hi : IntsAre vs ns) (hl : ns.length ≤ sizeLine) (hr : Room k callerA)
    (G : ∀ base : Heap, K.In base → base.Ns mainGlobals mg → NoSys base → (∀ p ∈ cs, LamX.TabB base mg p.1 p.2.1) → letI := tbsOf cs; FnG P w K mg base k fa fd [x] sp) (hb : ∀ (s : Shared) (u : Value), BindsTo s fd ⟨[u], []⟩ [(x, u)])
    (hsp : sp [.scr (ns.map PV.int)] (fun _ => none) (fun v _ => v = .bl true) fun _ _ => False) :
    codeAny (model P w) callerA (.call (.ref fa) ⟨[.ref a], []⟩) (fun r t' => r = .ok (.ret (.bool true)) ∧ OldK t.heap t'.heap ∧ t'.os = t.os ∧ AllBare t'.gens) t := by
  letI := tbsOf cs
  generalize ho : ({ cls := .type "list", data := .seq vs.toArray } : Obj) = o at ha
  have rel : Vals (ns.map V.int) vs := vals_ints hi
  have isT : ∀ b : Addr, b ∈ cs.map (fun p => p.2.1) → t.heap.get? b = some { cls := .none, data := .fields #[] } := fun b hb => by
    obtain ⟨p, hp, e⟩ := List.mem_map.mp hb
    subst e
    exact hT p hp
  have aT : a ∉ cs.map (fun p => p.2.1) := fun z => by
    have q := isT a z
    rw [ha, ← ho] at q
    have z' : Data.seq vs.toArray _ = Data.fields #[] := congrArg Obj.data (Option.some.inj q)
    cases z'
  have tbl : ∀ {b : Addr}, b ∈ cs.map (fun p => p.2.1) → scrH K a o ns cs b = some (.tbl #[]) := fun {b} hb => by
    unfold scrH
    rw [if_neg (fun z => aT (by rw [← z.1]; exact hb)), if_pos hb]
  have okH : HOk P w (scrH K a o ns cs) t.heap := fun b u e => by
    rcases scrH_some e with ⟨rfl, _, rfl⟩ | ⟨hb, rfl⟩
    · exact ⟨ha, by rw [List.length_map]; exact hl, vs, _, rel, by rw [ha, ← ho]⟩
    · exact isT b hb
  have sq : SqL K (scrF K a o ns) a (ns.map V.int) := by
    cases q : K.lookup a with
    | none => exact .inl (.inr ⟨o, if_pos ⟨rfl, q⟩⟩)
    | some o2 =>
      have e := kin a o2 q
      rw [ha] at e
      cases e
      subst ho
      exact .inr ⟨_, vs.toArray, _, q, rfl, rfl, rfl, by rw [List.size_toArray, hi.length]; exact hl, by simpa using rel⟩
  have noD : ∀ {b : Addr} {u : Obj}, t.heap.get? b = some u → (∀ vs n, u.data ≠ .seq vs n) → u.data ≠ .fields #[] → scrH K a o ns cs b = none := fun {b u} e h1 h2 => by
    cases q : scrH K a o ns cs b with
    | none => rfl
    | some y =>
      rcases scrH_some q with ⟨rfl, _, _⟩ | ⟨hb, _⟩
      · rw [ha] at e
        cases e
        subst ho
        exact absurd rfl (h1 _ _)
      · rw [isT b hb] at e
        cases e
        exact absurd rfl h2
  have dict : ∀ {b : Addr} {u : Obj} {es : Array DictEntry} {ep : Nat}, t.heap.get? b = some u → u.data = .dict es ep → scrH K a o ns cs b = none := fun {b u es ep} e d => noD e (fun vs n z => by rw [d] at z; cases z) (fun z => by rw [d] at z; cases z)
  have nsB : ∀ {b : Addr} {m : Str → Option Value}, t.heap.Ns b m → (hidT t.heap (scrH K a o ns cs)).Ns b m := fun ⟨u, es, ep, e, d, r⟩ => ⟨u, es, ep, hidT_get e (dict e d), d, r⟩
  have kinB : K.In (hidT t.heap (scrH K a o ns cs)) := fun b u e => hidT_get (kin b u e) (by
    cases q : scrH K a o ns cs b with
    | none => rfl
    | some y =>
      rcases scrH_some q with ⟨rfl, q2, _⟩ | ⟨hb, _⟩
      · rw [q2] at e
        cases e
      · obtain ⟨p, hp, ep⟩ := List.mem_map.mp hb
        subst ep
        have := nT p hp
        rw [this] at e
        cases e)
  have e0 : Env0 P w K mg (hidT t.heap (scrH K a o ns cs)) callerA [] t (scrH K a o ns cs) :=
    ⟨rfl, ⟨kinB, nsB gl, ⟨mb, nsB nb, nbb⟩, let ⟨mc, c1, c2⟩ := lim; ⟨mc, nsB c1, c2⟩⟩, fun b u e => of_hidT e, Nat.le_of_eq (hidT_size _ _), trivial, fun b z => (nomatch z), okH, .of_eq hg⟩
  have tabs : LamX.Tabs TbC.T (scrH K a o ns cs) := fun p hp => by
    obtain ⟨q, hq, rfl⟩ := List.mem_map.mp hp
    exact LamX.TabS.nil (tbl (List.mem_map.mpr ⟨q, hq, rfl⟩))
  have hold : Hold K (scrF K a o ns) (fun _ => none) (scrH K a o ns cs) := ⟨fun _ => none, fun _ => none, ⟨tabs, (fun b ps z => by unfold scrF at z; split at z <;> cases z), fun b u e => .inl (scrF_some e), fun b r z => (nomatch z), fun b r z => (nomatch z)⟩, ⟨fun b z => absurd rfl z, fun b c z => (nomatch z), fun b r z => (nomatch z), fun b r z => (nomatch z), fun b r m z => (nomatch z)⟩⟩
  have nsys : NoSys (hidT t.heap (scrH K a o ns cs)) := by
    obtain ⟨mm, z⟩ := sm
    obtain ⟨u, _, _, e, _⟩ := nsB z
    exact ⟨u, e⟩
  have TB : ∀ p ∈ cs, LamX.TabB (hidT t.heap (scrH K a o ns cs)) mg p.1 p.2.1 := fun p hp => by
    have hTp := hT p hp
    refine ⟨?_, ?_, fun z => ?_⟩
    · obtain ⟨o, us, file, tf, flags, tg, inF, text, tt, e1, r1, r2, r3, r4, r5, r6, r7, r8, hne⟩ := C p hp
      refine ⟨o, us, file, tf, flags, tg, inF, text, tt, hidT_get e1 (noD e1 (fun vs n z => ?_) fun z => ?_), r1, r2, r3, r4, r5, r6, r7, r8, hne⟩
      · rw [r2] at z
        cases z
      · rw [r2] at z
        cases z
        simp at r3
    · obtain ⟨bm, ob, b1, b2, b3, b4, b5, b6⟩ := hbm
      have nG : bm ≠ mainGlobals := fun q => by
        obtain ⟨o, es, ep, e, hd, _⟩ := gl
        rw [q, e] at b3
        cases b3
        rw [hd] at b6
        cases b6
      have nP : bm ≠ p.2.1 := fun q => by
        rw [q, hTp] at b3
        cases b3
        cases b6
      refine ⟨bm, ob, b1, b2, nG, nP, hidT_get b3 (noD b3 (fun vs n z => ?_) fun z => ?_), b4, b5, b6⟩
      · rw [b6] at z
        cases z
      · rw [b6] at z
        cases z
    · obtain ⟨o, es, ep, e, hd, _⟩ := gl
      rw [z, hTp] at e
      cases e
      cases hd
  refine codeAny_mono ((G _ kinB (nsB gl) nsys TB).run callerA [] t (scrH K a o ns cs) ⟨[.ref a], []⟩ [.ref a] [.ref a] (fun v _ => v = .bl true) (fun _ _ _ => False) rfl hr e0 (hb t (.ref a)) (.cons rfl .nil)
    ⟨scrF K a o ns, fun _ => none, _, _, _, hold, .cons (.scr sq (reps_scr ns)) .nil, hsp, fun z S e F' H' v _ _ r => by subst e; cases r; rfl, fun _ _ z => z.elim⟩) fun r t' q => ?_
  rcases r with e | fl
  · obtain ⟨_, _, _, _, _, _, _, _, _, _, _, _, z⟩ := q
    exact z.elim
  · cases fl with
    | ret u =>
      obtain ⟨v, H', q1, q2, un, ok', rv, q3⟩ := q
      have q3' : v = .bl true := q3
      subst q3'
      obtain rfl : u = Value.bool true := rv
      have key : ∀ b y, b ∉ cs.map (fun p => p.2.1) → t.heap.get? b = some y → t'.heap.get? b = some y := fun b y nb e => by
        cases z : scrH K a o ns cs b with
        | none => exact un.keep b y e z (fun w => (nomatch w)) (fun w => (nomatch w))
        | some yy =>
          rcases scrH_some z with ⟨rfl, _, rfl⟩ | ⟨hb, _⟩
          · have e2 := (ok' b _ (un.frzs b _ _ z)).1
            rw [ha] at e
            cases e
            exact e2
          · exact absurd hb nb
      have grown : ∀ p ∈ cs, ∃ more : Array Value, t'.heap.get? p.2.1 = some { cls := .none, data := .fields more } := fun p hp => by
        obtain ⟨more, z⟩ := un.tbls p.2.1 #[] (tbl (List.mem_map.mpr ⟨p, hp, rfl⟩))
        exact ⟨_, ok' p.2.1 _ z⟩
      refine ⟨rfl, ⟨fun b o e => ?_, fun b o e => ?_⟩, q1, q2⟩
      · by_cases hb : b ∈ cs.map (fun p => p.2.1)
        · obtain ⟨p, hp, ep⟩ := List.mem_map.mp hb
          obtain ⟨more, hm⟩ := grown p hp
          rw [← ep] at e ⊢
          rw [hT p hp] at e
          cases e
          exact .inr (.inl ⟨((C p hp).tab (hT p hp)).isCodeTable, rfl, #[], more, rfl, by rw [Array.empty_append]; exact hm⟩)
        · exact .inl (key b o hb e)
      · by_cases hb : b ∈ cs.map (fun p => p.2.1)
        · obtain ⟨p, hp, ep⟩ := List.mem_map.mp hb
          obtain ⟨more, hm⟩ := grown p hp
          rw [← ep]
          exact ⟨_, hm⟩
        · exact ⟨o, key b o hb e⟩
    | next => exact False.elim q
    | brk => exact False.elim q
    | cont => exact False.elim q
/-- the table of the def that stands at fa is empty -/
def OwnTab' (K : PySem.W.Frag) (fa : Addr) (h : Heap) : Prop := ∀ (c P : Addr) (o : Obj) (fd : FuncData) (e : Value) (dd : Option Addr) (vs : Array Value) (sl : Array (Option Value)), K.lookup fa = some o → o.data = .func fd → fd.code = .ref c → K.lookup c = some ⟨e, dd, .fields vs, sl⟩ → vs[11]? = some (.ref P) →
  h.get? P = some { cls := .none, data := .fields #[] }
/-- the tables of the defs that stand at the names are empty -/
def OwnTabs (q : Program) (K : PySem.W.Frag) (mg : Str → Option Value) (h : Heap) : Prop := ∀ (nm : Str) (f : Addr), ((recsOf q).any fun e => e.name == nm) = true → mg nm = some (.ref f) → OwnTab' K f h
theorem walk_ofG {l : PySem.W.OpenLaw} {n k : Nat} {q : Program} {loose : List Str} {XP : (Str → Option Value) → Heap → Prop} {YP : World → Heap → Prop} {d : DefRec} {K : Params → PySem.W.Frag} {sp : PSp} {x : Str}
    (hmp : importsNone q = true) (hn : l.most = some n) (hn2 : n ≤ sizeLine) (hdf : d.params.defaults = []) (hr : Room k callerA) (hY : ∀ (w : World) (h : Heap), YP w h → (K w.params).In h)
    (F : ∀ (w : World) (mg : Str → Option Value) (fa : Addr) (h : Heap), (K w.params).In h → h.Ns mainGlobals mg → mg d.name = some (.ref fa) → OwnTabs q (K w.params) mg h →
      ∃ (fd : FuncData) (cs : Tbs), (∀ p ∈ cs, h.get? p.2.1 = some { cls := .none, data := .fields #[] }) ∧ (∀ p ∈ cs, (K w.params).lookup p.2.1 = none) ∧ (∀ p ∈ cs, PySem.W.CodeHd h p.1 p.2.1) ∧ (∀ (s : Shared) (u : Value), BindsTo s fd ⟨[u], []⟩ [(x, u)]) ∧
        ∀ base : Heap, (K w.params).In base → base.Ns mainGlobals mg → NoSys base → (∀ p ∈ cs, LamX.TabB base mg p.1 p.2.1) → letI := tbsOf cs; FnG l.prog w (K w.params) mg base k fa fd [x] sp)
    (hsp : ∀ ns : List Int, ns.length ≤ n → (∀ z ∈ ns, Builtin.Int.intBits z ≤ 1048576) → sp [.scr (ns.map PV.int)] (fun _ => none) (fun v _ => v = .bl true) fun _ _ => False) :
    PySem.W.WalkO q loose XP YP l.row.toRowW d [] (fun f vs => PySem.call f vs) := by
  refine Att.attach_callB hn hdf fun w s0 t mg mb fa o pm cd doc a vs ns G Y hfa hdat hcd hm ha hi hl hbits hgen => ?_
  have kin := hY w _ Y
  have own : OwnTabs q (K w.params) mg t.heap := fun nm f hrec hmf c P o1 fd1 e dd vs1 sl k1 k2 k3 k4 k5 => by
    obtain ⟨dL, hm', hn1⟩ := List.any_eq_true.mp hrec
    have hn2 : dL.name = nm := beq_iff_eq.mp hn1
    obtain ⟨a', o', fd', c', P', h1, h2, h3, h4, h5, h6⟩ := G.T.tab dL hm'
    rw [hn2, hmf] at h1
    cases h1
    have g1 := kin _ _ k1
    rw [g1] at h2
    cases h2
    rw [k2] at h3
    cases h3
    rw [k3] at h4
    cases h4
    obtain ⟨⟨oc, vc, e1, _, e3, e4⟩, hP⟩ := h6
    have g2 := kin _ _ k4
    rw [g2] at e1
    cases e1
    cases e3
    rw [k5] at e4
    cases e4
    exact hP
  obtain ⟨fd, cs, hT, nT, C, bd, ok⟩ := F w mg fa _ kin G.T.g hm own
  exact law_G (let ⟨mm, z, _⟩ := (G.T.seer hmp).mods; ⟨mm, z⟩) kin G.T.g G.T.b G.T.builtins G.T.nolimit hgen hT nT C G.T.bmain ha hi (Nat.le_trans hl hn2) hr ok bd (hsp ns hl hbits)
end L2.Pv

/-! P12: two objects kept as one; freezing; calls by name alone. -/
namespace L2.Pv
open PySem PySem.Spec PyProof.Rows L2
variable [TbC]
def pairA (p : Addr) (ψ : Nat → Addr → RO → RO → Prop) : Nat → RStore → Prop := fun n R => ∃ b r1 r2, b ≠ p ∧ R p = some (r1, false) ∧ R b = some (r2, false) ∧ ψ n b r1 r2
section
variable {K : PySem.W.Frag} {F H : Hp} {S : Store} {p b : Addr} {r1 r2 : RO} {n : Nat} {ψ : Nat → Addr → RO → RO → Prop}
theorem Hold.open2 (h : Hold K F S H) (e : S p = some (.abs (pairA p ψ) n)) : ∃ b r1 r2, b ≠ p ∧ S b = none ∧ ψ n b r1 r2 ∧ Hold K F (put (put S p (.raw r1)) b (.raw r2)) H := by
  obtain ⟨R, own, hr, ow⟩ := h
  obtain ⟨b, r1, r2, nb, e1, e2, q⟩ := ow.abs p _ n e
  replace e1 : (if own p = some p then R p else none) = some (r1, false) := e1
  replace e2 : (if own b = some p then R b else none) = some (r2, false) := e2
  have op : own p = some p := (ow.self p (by rw [e]; exact fun z => nomatch z)).1
  have ob : own b = some p := by
    by_cases z : own b = some p
    · exact z
    · rw [if_neg z] at e2; cases e2
  rw [if_pos op] at e1
  rw [if_pos ob] at e2
  have sb : S b = none := by
    cases z : S b with
    | none => rfl
    | some m =>
      have y := (ow.self b (by rw [z]; exact fun z => nomatch z)).1
      rw [ob] at y
      exact absurd (Option.some.inj y).symm nb
  refine ⟨b, r1, r2, nb, sb, q, R, fun c => if c = b then some b else if own c = some p then (if c = p then some p else none) else own c, hr, ?_⟩
  have sS : ∀ a, a ≠ b → a ≠ p → put (put S p (.raw r1)) b (.raw r2) a = S a := fun a x y => by rw [put_ne x, put_ne y]
  have sp : put (put S p (.raw r1)) b (.raw r2) p = some (.raw r1) := by rw [put_ne nb.symm, put_same]
  have so : ∀ a, a ≠ b → a ≠ p → S a ≠ none → own a = some a ∧ own a ≠ some p := fun a x y z => by
    have w := (ow.self a z).1
    exact ⟨w, by rw [w]; exact fun q => y (Option.some.inj q)⟩
  refine ⟨fun a m => ?_, fun c a m => ?_, fun a r m => ?_, fun a r m => ?_, fun a φ k m => ?_⟩
  · by_cases x : a = b
    · subst x
      exact ⟨if_pos rfl, by rw [e2]; exact fun z => nomatch z⟩
    · by_cases y : a = p
      · subst y
        exact ⟨by rw [if_neg x, if_pos op, if_pos rfl], by rw [e1]; exact fun z => nomatch z⟩
      · rw [sS a x y] at m
        obtain ⟨w1, w2⟩ := so a x y m
        exact ⟨by rw [if_neg x, if_neg w2]; exact w1, (ow.self a m).2⟩
  · by_cases x : a = b
    · subst x
      rw [put_same]
      exact fun z => nomatch z
    · by_cases y : a = p
      · subst y
        rw [sp]
        exact fun z => nomatch z
      · rw [sS a x y]
        by_cases z : c = b
        · rw [if_pos z] at m
          exact absurd (Option.some.inj m).symm x
        · rw [if_neg z] at m
          by_cases w : own c = some p
          · rw [if_pos w] at m
            split at m
            · exact absurd (Option.some.inj m).symm y
            · cases m
          · rw [if_neg w] at m
            exact ow.there c a m
  · by_cases x : a = b
    · subst x
      rw [put_same] at m
      cases m
      exact e2
    · by_cases y : a = p
      · subst y
        rw [sp] at m
        cases m
        exact e1
      · rw [sS a x y] at m
        exact ow.raw a r m
  · by_cases x : a = b
    · subst x
      rw [put_same] at m
      cases m
    · by_cases y : a = p
      · subst y
        rw [sp] at m
        cases m
      · rw [sS a x y] at m
        exact ow.lck a r m
  · by_cases x : a = b
    · subst x
      rw [put_same] at m
      cases m
    · by_cases y : a = p
      · subst y
        rw [sp] at m
        cases m
      · rw [sS a x y] at m
        have z := ow.abs a φ k m
        have ef : (fun c => if (if c = b then some b else if own c = some p then (if c = p then some p else none) else own c) = some a then R c else none) = fun c => if own c = some a then R c else none := by
          funext c
          by_cases w : c = b
          · rw [if_pos w, if_neg (fun q => x (Option.some.inj q).symm), w, ob, if_neg (fun q => y (Option.some.inj q).symm)]
          · rw [if_neg w]
            by_cases v : own c = some p
            · rw [if_pos v, v, if_neg (c := some p = some a) (fun q => y (Option.some.inj q).symm)]
              split
              · rw [if_neg (fun q => y (Option.some.inj q).symm)]
              · rw [if_neg (fun q => nomatch q)]
            · rw [if_neg v]
        rw [ef]
        exact z
theorem Hold.close2 (h : Hold K F S H) (e1 : S p = some (.raw r1)) (e2 : S b = some (.raw r2)) (nb : b ≠ p) (q : ψ n b r1 r2) : Hold K F (rmv (put S p (.abs (pairA p ψ) n)) b) H := by
  obtain ⟨R, own, hr, ow⟩ := h
  have op : own p = some p := (ow.self p (by rw [e1]; exact fun z => nomatch z)).1
  have ob : own b = some b := (ow.self b (by rw [e2]; exact fun z => nomatch z)).1
  have opb : own p ≠ some b := by rw [op]; exact fun z => nb (Option.some.inj z).symm
  refine ⟨R, fun c => if own c = some b then (if c = b then some p else none) else own c, hr, ?_⟩
  have sS : ∀ a, a ≠ b → a ≠ p → rmv (put S p (.abs (pairA p ψ) n)) b a = S a := fun a x y => by rw [rmv_ne x, put_ne y]
  have sp : rmv (put S p (.abs (pairA p ψ) n)) b p = some (.abs (pairA p ψ) n) := by rw [rmv_ne nb.symm, put_same]
  refine ⟨fun a m => ?_, fun c a m => ?_, fun a r m => ?_, fun a r m => ?_, fun a φ k m => ?_⟩
  · by_cases x : a = b
    · subst x
      exact absurd rmv_same m
    · by_cases y : a = p
      · subst y
        exact ⟨by rw [if_neg opb]; exact op, by rw [ow.raw _ _ e1]; exact fun z => nomatch z⟩
      · rw [sS a x y] at m
        have w := ow.self a m
        refine ⟨?_, w.2⟩
        rw [w.1, if_neg fun q => x (Option.some.inj q)]
  · by_cases y : a = p
    · subst y
      rw [sp]
      exact fun z => nomatch z
    · by_cases z : own c = some b
      · rw [if_pos z] at m
        split at m
        · exact absurd (Option.some.inj m).symm y
        · cases m
      · rw [if_neg z] at m
        have x : a ≠ b := fun x => z (by rw [m, x])
        rw [sS a x y]
        exact ow.there c a m
  · by_cases x : a = b
    · subst x
      rw [rmv_same] at m
      cases m
    · by_cases y : a = p
      · subst y
        rw [sp] at m
        cases m
      · rw [sS a x y] at m
        exact ow.raw a r m
  · by_cases x : a = b
    · subst x
      rw [rmv_same] at m
      cases m
    · by_cases y : a = p
      · subst y
        rw [sp] at m
        cases m
      · rw [sS a x y] at m
        exact ow.lck a r m
  · by_cases x : a = b
    · subst x
      rw [rmv_same] at m
      cases m
    · by_cases y : a = p
      · subst y
        rw [sp] at m
        cases m
        refine ⟨b, r1, r2, nb, ?_, ?_, q⟩
        · exact (if_pos (by rw [if_neg opb]; exact op)).trans (ow.raw _ _ e1)
        · exact (if_pos (by rw [if_pos ob, if_pos rfl])).trans (ow.raw _ _ e2)
      · rw [sS a x y] at m
        have z := ow.abs a φ k m
        have ef : (fun c => if (if own c = some b then (if c = b then some p else none) else own c) = some a then R c else none) = fun c => if own c = some a then R c else none := by
          funext c
          by_cases w : own c = some b
          · rw [if_pos w, w, if_neg (c := some b = some a) (fun q => x (Option.some.inj q).symm)]
            split
            · rw [if_neg (fun q => y (Option.some.inj q).symm)]
            · rw [if_neg (fun q => nomatch q)]
          · rw [if_neg w]
        rw [ef]
        exact z
end
/-- what holds of one store holds of the other -/
def Turns (K : PySem.W.Frag) (S S' : Store) : Prop := ∀ F H, Hold K F S H → Hold K F S' H
theorem Turns.refl {K : PySem.W.Frag} (S : Store) : Turns K S S := fun _ _ h => h
theorem FnG.via {P : Program} {w : World} {K : PySem.W.Frag} {mg : Str → Option Value} {base : Heap} {k : Nat} {f : Addr} {fd : FuncData} {ps : List Str} {sp sp' : PSp} (G : FnG P w K mg base k f fd ps sp') (hl : ∀ xs S Q E, sp xs S Q E → xs.length = ps.length)
    (h : ∀ F H S xs Q E, Hold K F S H → sp xs S Q E → ∃ S' Q' E', Hold K F S' H ∧ sp' xs S' Q' E' ∧ (∀ v S2, Q' v S2 → ∃ S3, Turns K S2 S3 ∧ Q v S3) ∧ (∀ e S2, E' e S2 → ∃ S3, Turns K S2 S3 ∧ E e S3)) : FnG P w K mg base k f fd ps sp := by
  refine ⟨hl, fun A o s H a us vs Q E g r e0 b v ⟨F1, S, xs, P, PE, a1, a2, a3, a4, a5⟩ => ?_⟩
  obtain ⟨S', Q', E', b1, b2, b3, b4⟩ := h F1 H S xs P PE a1 a3
  refine G.run A o s H a us vs Q E g r e0 b v ⟨F1, S', xs, Q', E', b1, a2, b2, fun x S2 q F2 H2 v2 e2 hd rx => ?_, fun e S2 q F2 H2 c d e2 hd rx => ?_⟩
  · obtain ⟨S3, c1, c2⟩ := b3 x S2 q
    exact a4 x S3 c2 F2 H2 v2 e2 (c1 F2 H2 hd) rx
  · obtain ⟨S3, c1, c2⟩ := b4 e S2 q
    exact a5 e S3 c2 F2 H2 c d e2 (c1 F2 H2 hd) rx
section
variable {X : Cx} {F0 : Hp} {e : Expr} {te : PTE} {k : Nat} {f : Addr} {fd : FuncData} {ps ks : List Str} {sp : PSp} {x : Str} {p pos : Pos} {g : List Value → List Value → List Value} {gP : List PV → List PV → List PV} {kws : List Keyword} {tk' : PTA} {m : Nat} {E : PX → PEnv → Store → Prop}
/-- from here on the list is read alone -/
def wFrz (te : PTE) : PTE := fun ρ S Q => te ρ S fun x S1 => ∃ p xs, x = .ref p ∧ S1 p = some (.raw (.lst xs)) ∧ Q (.lst xs) (rmv S1 p)
theorem we_frz (he : WE X F0 e te) : WE X F0 e (wFrz te) :=
  ⟨peImp he.pe fun σ H Q ⟨F, ρ, S, P, at_, h, le⟩ => ⟨F, ρ, S, _, at_, h, fun x S1 ⟨p, xs, e1, e2, q⟩ F1 H1 v es hd r => by
    subst e1
    obtain ⟨o, ho, ro, fo, hz⟩ := hd.freeze e2
    have e3 := same_upd (o := o) fo
    cases o <;> first | exact ro.elim | skip
    cases r
    exact le _ _ q _ H1 _ (es.trans e3) hz (.lst (.inl upd_same) (Reps.mono e3 ro))⟩⟩
theorem we_callK0 (G : FnG X.prog X.w X.K X.mg X.base k f fd ps sp) (hG : X.A.guards = some []) (hr : Room k X.A) (hm : X.mg x = some (.ref f)) (hk : PySem.W.keepIn X.K (.ref f) = true) (hb : KB X.K fd ps ks 0 m g gP) (tk : TakesP X F0 E)
    (hkw : WK X F0 m kws tk') (hg : Gl X x := by rfl) (hall : (backToKw pos (keywordEach kws X.env)).all (·.1.isSome) = true := by rfl) (hks : (backToKw pos (keywordEach kws X.env)).filterMap (·.1) = ks := by rfl)
    (hdb : (x == ("__debug__" : Str)) = false := by decide)
    (hpl : ((backTo pos (starEach [] X.env)).any (·.1) || (backToKw pos (keywordEach kws X.env)).any (·.1.isNone)) = false := by rfl) :
    WE X F0 (.Call (.Name x p) [] kws pos) (wCallK sp gP E wNil tk') :=
  ⟨⟨fun pins s σ H Q I ⟨F, ρ, S, P, at_, h, le⟩ => wpAny_Call_Name_kw (ld_glob I hg hm (PySem.W.callWith_KW0 (h₀ := X.base) I.ok.mod.kin hk hall
      (thn (hkw.pk.run pos pins s σ H (fun zs H' => ∃ F2 S2 ys, Same F F2 ∧ Hold X.K F2 S2 H' ∧ Reps X.K F2 zs ys ∧ ys.length = m ∧ sp (gP [] ys) S2 P fun e S3 => E e ρ S3) I ⟨F, ρ, S, _, at_, h, fun ys S2 h2 l2 F2 H2 zs e2 hd2 r2 => ⟨F2, S2, ys, e2, hd2, r2, l2, h2⟩⟩) fun ws s2 ⟨zs, H2, I2, rz, F2, S2, ys, e2, hd2, r2, l2, q2⟩ =>
        ⟨I2.kIn, by rw [hks]; exact spl_callK (us := []) (vs := []) (xs := []) G hG hr hb tk at_ le e2 hd2 I2 rfl l2 .nil rz .nil r2 q2⟩) hpl) hdb)⟩⟩
end
/-! ### == [] and != [] of whatever list -/
def eqNilP (g : Bool → Bool) : PR2 := fun x y S Q => match y with
  | .lst [] => match seqL S x with
    | some xs => Q (.bl (g xs.isEmpty)) S
    | none => False
  | _ => False
theorem ow_nil {X : Cx} {op : CmpOp} {g : Bool → Bool} (hu : X.A.units + 64 < cLine)
    (h0 : ∀ (s : Shared) (u v : Value) (as bs : List Addr) (Q : Value → Shared → Prop), Reads s.heap u (.list []) as → Reads s.heap v (.list []) bs → Q (.bool (g true)) s → wpAny (model X.prog X.w) X.A (compareOp op u v) Q X.xe s)
    (h1 : ∀ (s : Shared) (l b : Addr) (i1 i2 : Array Value) (Q : Value → Shared → Prop), s.heap.IsList l i1 → s.heap.IsList b i2 → (i1.size != i2.size) = true → Q (.bool (g false)) s → wpAny (model X.prog X.w) X.A (compareOp op (.ref l) (.ref b)) Q X.xe s) : OpW X (compareOp op) (eqNilP g) := by
  intro pins s σ H v u vv uu Q I rv ru ⟨F, S, x, y, P, hd, rx, ry, q, le⟩
  unfold eqNilP at q
  split at q
  · split at q
    · rename_i xs hx
      have fin := le _ S q F H _ (Same.refl F) hd (.bl _)
      obtain ⟨a, ws, rfl, h3, h4⟩ := seqL_rd hd rx hx
      cases ry with
      | lst q2 b2 =>
        cases b2
        cases rv
        cases ru
        obtain ⟨o1, its, n, rv1, z1, e1⟩ := lst_at I h3
        obtain ⟨o2, its2, n2, rv2, z2, e2⟩ := lst_at I (hd.sub.rd q2)
        obtain rfl : its2 = [] := List.eq_nil_of_length_eq_zero z2.symm
        cases xs with
        | nil =>
          cases h4
          obtain rfl : its = [] := List.eq_nil_of_length_eq_zero z1.symm
          exact h0 s _ _ _ _ _ (.list e1 rfl rfl .nil) (.list e2 rfl rfl .nil) ⟨.bl (g true), H, I, rfl, fin⟩
        | cons x1 xs1 =>
          refine h1 s _ _ _ _ _ ⟨_, e1, rfl, _, rfl⟩ ⟨_, e2, rfl, _, rfl⟩ ?_ ⟨.bl (g false), H, I, rfl, fin⟩
          have l2 := h4.len
          rw [List.length_cons] at l2
          have l3 : its.length = xs1.length + 1 := by omega
          simp [l3]
    · exact q.elim
  · exact q.elim
theorem ow_eqNil {X : Cx} (hu : X.A.units + 64 < cLine) : OpW X (compareOp .Eq) (eqNilP fun b => b) :=
  ow_nil hu (fun s u v as bs Q a b q => PySem.SeqAt.compareEq_reads a b rfl rfl (by unfold PyData.depth PyData.depthAll; omega) q) fun s l b i1 i2 Q a c h q => PySem.SeqAt.eq_list_lengthsAt a c h (by omega) q
theorem ow_neNil {X : Cx} (hu : X.A.units + 64 < cLine) : OpW X (compareOp .NotEq) (eqNilP fun b => !b) :=
  ow_nil hu (fun s u v as bs Q a b q => PySem.SeqAt.compareNe_reads a b rfl rfl (by unfold PyData.depth PyData.depthAll; omega) q) fun s l b i1 i2 Q a c h q => PySem.SeqAt.RcNeAt.lists_lengths a c h (by omega) _ _ _ _ q
/-! ### comprehensions whose turns change nothing -/
theorem lc_pure {mk : Bool} {D : Addr} {G : Store → Prop} {g : PTG} {tt : PTT} {te : PTE} {Q : PQ} {xs : List PV} {ρ : PEnv} {S : Store} (f : PV → Option PV) (hl : xs.length ≤ sizeLine)
    (hs : ∀ x ∈ xs, ∀ (S' : Store) (R1 : PQ) (R0 : Store → Prop), (∀ b, b ≠ D → S' b = S b) → (∀ y, f x = some y → R1 y S') → (f x = none → R0 S') → G S' ∧ g x ρ S' fun ρ2 S2 => tt ρ2 S2 fun b S3 => match b with
      | true => te ρ2 S3 R1
      | false => R0 S3)
    (h0 : G (put S D (.raw (.lst (xs.filterMap f))))) (hq : lcEnd mk D Q (xs.filterMap f) (put S D (.raw (.lst (xs.filterMap f))))) : lcI mk D G g tt te Q xs ρ S := by
  refine ⟨fun r acc S' => ∃ done, xs = done ++ r ∧ acc = done.filterMap f ∧ S' = put S D (.raw (.lst acc)), ⟨[], rfl, rfl, rfl⟩, fun acc S' ⟨done, e1, e2, e3⟩ => ?_, fun x r acc S' ⟨done, e1, e2, e3⟩ => ?_⟩
  · rw [List.append_nil] at e1
    subst e1 e2 e3
    exact ⟨h0, put_same, hq⟩
  · have hx : x ∈ xs := by rw [e1]; exact List.mem_append_right _ List.mem_cons_self
    have hle : (done.filterMap f).length ≤ done.length := List.length_filterMap_le f done
    have hdl : done.length < xs.length := by rw [e1, List.length_append, List.length_cons]; omega
    obtain ⟨a1, a2⟩ := hs x hx S' (fun y S4 => S4 D = some (.raw (.lst acc)) ∧ acc.length < sizeLine ∧ ∃ done, xs = done ++ r ∧ acc ++ [y] = done.filterMap f ∧ put S4 D (.raw (.lst (acc ++ [y]))) = put S D (.raw (.lst (acc ++ [y]))))
      (fun S3 => ∃ done, xs = done ++ r ∧ acc = done.filterMap f ∧ S3 = put S D (.raw (.lst acc))) (fun b hb => by rw [e3, put_ne hb])
      (fun y h5 => ⟨by rw [e3, put_same], by rw [e2]; omega, done ++ [x], by rw [e1, List.append_assoc]; rfl, by rw [List.filterMap_append, List.filterMap_cons_some h5, List.filterMap_nil, e2], by rw [e3, put_put]⟩)
      (fun h5 => ⟨done ++ [x], by rw [e1, List.append_assoc]; rfl, by rw [List.filterMap_append, List.filterMap_cons_none h5, List.filterMap_nil, List.append_nil, e2], e3⟩)
    exact ⟨a1, a2⟩
/-- the same, the list to be read alone -/
theorem lc_pureF {D : Addr} {G : Store → Prop} {g : PTG} {tt : PTT} {te : PTE} {Q : PQ} {xs : List PV} {ρ : PEnv} {S : Store} (f : PV → Option PV) (hl : xs.length ≤ sizeLine) (hD : S D = none)
    (hs : ∀ x ∈ xs, ∀ (S' : Store) (R1 : PQ) (R0 : Store → Prop), (∀ b, b ≠ D → S' b = S b) → (∀ y, f x = some y → R1 y S') → (f x = none → R0 S') → G S' ∧ g x ρ S' fun ρ2 S2 => tt ρ2 S2 fun b S3 => match b with
      | true => te ρ2 S3 R1
      | false => R0 S3)
    (h0 : ∀ S', (∀ b, b ≠ D → S' b = S b) → G S') (hq : Q (.lst (xs.filterMap f)) S) : lcI false D G g tt te Q xs ρ S :=
  lc_pure f hl hs (h0 _ fun b hb => put_ne hb) (by show Q _ _; rwa [rmv_put hD])
/-! ### what can be walked by number -/
theorem signs_len (z : Str) : (signs z).length = z.length := by
  unfold signs
  rw [List.length_map]
  rfl
theorem rows_len {x : PV} {xs : List PV} {S : Store} (h : rows x S = some xs) (hl : xs.length ≤ 16777216) : lenO S x = some xs.length := by
  cases x with
  | str z =>
    cases h
    rw [signs_len] at hl ⊢
    unfold lenO
    exact if_pos hl
  | tup xs => cases h; rfl
  | lst xs => cases h; rfl
  | ref a =>
    simp only [rows, seqL] at h
    simp only [lenO]
    split at h
    · cases h
      rename_i q
      rw [q]
    · cases h
  | _ => cases h
theorem rows_ix {x : PV} {xs : List PV} {S : Store} {Q : PQ} {i : Int} (h : rows x S = some xs) (hl : xs.length ≤ 16777216) (h1 : 0 ≤ i) (h2 : i < (xs.length : Nat)) (q : ∀ y ∈ xs, Q y S) : ixP x (.int i) S Q := by
  obtain ⟨k, rfl⟩ := Int.eq_ofNat_of_zero_le h1
  have h3 : k < xs.length := by omega
  have at1 : ∀ {α : Type} (ys : List α) (hk : k < ys.length), atI ys (k : Int) = some ys[k] := fun ys hk => by simp [atI, ixN, hk]
  have gen : seqO S x = some xs → (match seqO S x with | some xs => (match atI xs (k : Int) with | some y => Q y S | none => False) | none => False) := fun e => by
    rw [e]
    simp only [at1 xs h3]
    exact q _ (List.getElem_mem h3)
  cases x with
  | str z =>
    cases h
    have h4 : k < z.cps.toList.length := by
      have : (signs z).length = z.cps.toList.length := by unfold signs; rw [List.length_map]
      omega
    rw [signs_len] at hl
    refine ⟨hl, ?_⟩
    rw [at1 _ h4]
    exact q _ (List.mem_map.mpr ⟨_, List.getElem_mem h4, rfl⟩)
  | tup xs => cases h; exact gen rfl
  | lst xs => cases h; exact gen rfl
  | ref a => exact gen h
  | _ => cases h
theorem rows_put {x : PV} {xs : List PV} {S : Store} {p : Addr} {φ : Nat → RStore → Prop} {n : Nat} {m : MO} (e : S p = some (.abs φ n)) (h : rows x S = some xs) : rows x (put S p m) = some xs := by
  cases x with
  | ref a =>
    simp only [rows, seqL, rdS] at h ⊢
    by_cases z : a = p
    · subst z
      rw [e] at h
      cases h
    · rw [put_ne z]
      exact h
  | _ => exact h
end L2.Pv

/-! P13: values small enough to be shown. -/
namespace L2.Pv
open PySem PySem.Spec PyProof.Rows L2
variable [TbC]
def okS (n : Nat) (z : Str) : Prop := z.length ≤ n ∧ ∀ c ∈ z.cps.toList, c < 16 ^ 8
theorem okS.mono {n m : Nat} {z : Str} (h : okS n z) (e : n ≤ m) : okS m z := ⟨Nat.le_trans h.1 e, h.2⟩
theorem okS.lit {n : Nat} {z : Str} (h : (decide (z.length ≤ n) && z.cps.toList.all fun c => decide (c < 16 ^ 8)) = true) : okS n z := by
  rw [Bool.and_eq_true] at h
  exact ⟨of_decide_eq_true h.1, fun c hc => of_decide_eq_true (List.all_eq_true.mp h.2 c hc)⟩
theorem okS.app {n m : Nat} {x y : Str} (h : okS n x) (k : okS m y) : okS (n + m) (x ++ y) := by
  have e : (x ++ y).cps = x.cps ++ y.cps := rfl
  refine ⟨?_, fun c hc => ?_⟩
  · show (x ++ y).cps.size ≤ _
    rw [e, Array.size_append]
    exact Nat.add_le_add h.1 k.1
  · rw [e, Array.toList_append] at hc
    exact (List.mem_append.mp hc).elim (h.2 c) (k.2 c)
theorem okS.slice {n : Nat} {z : Str} (h : okS n z) (l u : Option Int) : okS n (Txt.slice z l u) := by
  unfold Txt.slice
  split
  · exact h
  · refine ⟨?_, fun c hc => ?_⟩
    · show Array.size _ ≤ _
      rw [List.size_toArray]
      exact Nat.le_trans (List.length_filterMap_le _ _) (Nat.le_trans (sliceIndices_le l u z.length) h.1)
    · rw [List.toList_toArray] at hc
      obtain ⟨i, _, e⟩ := List.mem_filterMap.mp hc
      obtain ⟨q, r⟩ := Array.getElem?_eq_some_iff.mp e
      exact h.2 c (by rw [← r]; exact Array.getElem_mem_toList q)
theorem okS.join : ∀ {bs : List Str}, (∀ x ∈ bs, okS 1 x) → okS bs.length (Txt.join "" bs) := by
  intro bs h
  rw [TL.join_eq]
  induction bs with
  | nil => exact ⟨Nat.le_refl 0, fun c hc => by cases hc⟩
  | cons x r ih =>
    cases r with
    | nil => exact h x List.mem_cons_self
    | cons y r =>
      have i := ih fun z hz => h z (List.mem_cons_of_mem _ hz)
      have e : okS 0 ("" : Str) := .lit (by decide +kernel)
      have k := ((h x List.mem_cons_self).app e).app i
      exact k.mono (by have := List.length_cons (a := x) (as := y :: r); omega)
def Fit (dp wt : Nat) (x : PV) : Prop := ∃ d, toR x = some d ∧ d.leavesShort 60 = true ∧ d.showable = true ∧ d.depth ≤ dp ∧ d.weight ≤ wt
theorem Fit.mono {a b c e : Nat} {x : PV} (h : Fit a b x) (h1 : a ≤ c) (h2 : b ≤ e) : Fit c e x := by
  obtain ⟨d, k1, k2, k3, k4, k5⟩ := h
  exact ⟨d, k1, k2, k3, Nat.le_trans k4 h1, Nat.le_trans k5 h2⟩
theorem Fit.fine {a b : Nat} {x : PV} (h : Fit a b x) (h1 : a ≤ 64) (h2 : b ≤ 200000) : FineR x := by
  obtain ⟨d, k1, k2, k3, k4, k5⟩ := h
  exact ⟨d, k1, k2, k3, Nat.le_trans k4 h1, Nat.le_trans k5 h2⟩
theorem fit_non {a b : Nat} : Fit a b .non := ⟨.none, rfl, rfl, rfl, Nat.zero_le _, Nat.zero_le _⟩
theorem fit_bl {a b : Nat} {k : Bool} : Fit a b (.bl k) := ⟨.bool k, rfl, rfl, rfl, Nat.zero_le _, Nat.zero_le _⟩
theorem fit_str {a n : Nat} {z : Str} (h : okS n z) : Fit a n (.str z) :=
  ⟨.str z, rfl, List.all_eq_true.mpr fun c hc => decide_eq_true (h.2 c hc), rfl, Nat.zero_le _, h.1⟩
theorem fit_int {a : Nat} {i : Int} (h : i.natAbs < 10 ^ 50) : Fit a 200 (.int i) := by
  have hlog : i.natAbs.log2 < 199 := by
    by_cases z : i.natAbs = 0
    · rw [z]; decide
    · exact (Nat.log2_lt z).mpr (Nat.lt_of_lt_of_le h (by decide))
  have len : ∀ k : Int, 0 ≤ k → k.natAbs < 10 ^ 50 → (Str.ofString (toString k)).length ≤ 50 := fun k h0 h1 => toString_length_le h0 (by decide) (by omega)
  refine ⟨.int i, rfl, decide_eq_true ?_, decide_eq_true (Nat.lt_trans hlog (by decide)), Nat.zero_le _, ?_⟩
  · show (Str.ofString (toString i)).length ≤ 60
    by_cases z : i < 0
    · rw [len_text_neg z]
      have := len (0 - i) (by omega) (by omega)
      omega
    · have := len i (by omega) h
      omega
  · show (if (i == 0) = true then 0 else i.natAbs.log2 + 1) ≤ 200
    split
    · exact Nat.zero_le _
    · omega
theorem fits_all {a b : Nat} : ∀ {xs : List PV}, (∀ x ∈ xs, Fit a b x) → ∃ ds, toRs xs = some ds ∧ PyData.leavesShortAll 60 ds = true ∧ PyData.showableAll ds = true ∧ PyData.depthAll ds ≤ a ∧ PyData.weightAll ds ≤ (b + 1) * xs.length
  | [], _ => ⟨[], rfl, rfl, rfl, Nat.zero_le _, Nat.zero_le _⟩
  | x :: xs, h => by
    obtain ⟨d, k1, k2, k3, k4, k5⟩ := h x List.mem_cons_self
    obtain ⟨ds, m1, m2, m3, m4, m5⟩ := fits_all fun y hy => h y (List.mem_cons_of_mem _ hy)
    refine ⟨d :: ds, by unfold toRs; rw [k1, m1], ?_, ?_, ?_, ?_⟩
    · simp only [PyData.leavesShortAll, k2, m2, Bool.and_self]
    · simp only [PyData.showableAll, k3, m3, Bool.and_self]
    · simp only [PyData.depthAll]; omega
    · simp only [PyData.weightAll, List.length_cons, Nat.mul_add]; omega
theorem fit_tup {a b : Nat} {xs : List PV} (h : ∀ x ∈ xs, Fit a b x) : Fit (a + 1) ((b + 1) * xs.length) (.tup xs) := by
  obtain ⟨ds, m1, m2, m3, m4, m5⟩ := fits_all h
  exact ⟨.tuple ds, by unfold toR; rw [m1], by simpa only [PyData.leavesShort] using m2, by simpa only [PyData.showable] using m3, by simp only [PyData.depth]; omega, by simpa only [PyData.weight] using m5⟩
theorem fit_lst {a b : Nat} {xs : List PV} (h : ∀ x ∈ xs, Fit a b x) : Fit (a + 1) ((b + 1) * xs.length) (.lst xs) := by
  obtain ⟨ds, m1, m2, m3, m4, m5⟩ := fits_all h
  exact ⟨.list ds, by unfold toR; rw [m1], by simpa only [PyData.leavesShort] using m2, by simpa only [PyData.showable] using m3, by simp only [PyData.depth]; omega, by simpa only [PyData.weight] using m5⟩
theorem fit_dic0 {a b : Nat} : Fit (a + 1) b (.dic []) := ⟨.dict [], rfl, rfl, rfl, by simp only [PyData.depth, PyData.depthKv]; omega, Nat.zero_le _⟩
/-- plain values: what a fit value can be -/
def plain : PV → Bool
  | .ref _ => false
  | .ty _ => false
  | .scr _ => false
  | .exc _ _ => false
  | _ => true
theorem Fit.plain {a b : Nat} {x : PV} (h : Fit a b x) : plain x = true := by
  obtain ⟨d, k1, _⟩ := h
  cases x <;> first | rfl | cases k1
theorem Fit.str {a b : Nat} {z : Str} (h : Fit a b (.str z)) : z.length ≤ b := by
  obtain ⟨d, k1, _, _, _, k5⟩ := h
  cases k1
  exact k5
theorem Fit.str_ok {a b : Nat} {z : Str} (h : Fit a b (.str z)) : okS b z := by
  obtain ⟨d, k1, k2, _, _, k5⟩ := h
  cases k1
  exact ⟨k5, fun c hc => of_decide_eq_true (List.all_eq_true.mp k2 c hc)⟩
/-- a def that answers by a function, whatever the store -/
def pure1 (D : PV → Prop) (g : PV → PV) : PSp := fun xs S Q _ => match xs with
  | [x] => D x ∧ Q (g x) S
  | _ => False
theorem pure1_len {D : PV → Prop} {g : PV → PV} {ps : List Str} (hp : ps.length = 1 := by rfl) : ∀ xs S Q E, pure1 D g xs S Q E → xs.length = ps.length := by
  intro xs S Q E h
  unfold pure1 at h
  split at h
  · rw [hp]; rfl
  · exact h.elim
theorem kind_int : "int" ∈ kinds := by decide
theorem kind_bool : "bool" ∈ kinds := by decide
theorem kind_str : "str" ∈ kinds := by decide
theorem kind_list : "list" ∈ kinds := by decide
theorem kind_tuple : "tuple" ∈ kinds := by decide
theorem kind_dict : "dict" ∈ kinds := by decide
def isNum : PV → Bool
  | .int _ => true
  | _ => false
def isAmt : PV → Bool
  | .int i => decide (0 ≤ i) && decide (i ≤ 1000000000)
  | _ => false
def isPos : PV → Bool
  | .int i => decide (1 ≤ i)
  | _ => false
def lets : Str := "abcdefghijklmnopqrstuvwxyz"
def inLet : PV → Bool
  | .str c => subS c lets
  | _ => false
def isNam : PV → Bool
  | .str z => decide (1 ≤ z.length) && decide (z.length ≤ 8) && (signs z).all inLet
  | _ => false
def neS : PV → PV → Bool
  | .str x, .str y => !(x == y)
  | _, _ => false
def isSal : PV → Bool
  | .tup [a, b, c, d, e, f, g, h] => isPos a && isAmt d && isAmt e && isAmt f && isNam b && isNam c && isNam g && isNam h && neS b c
  | _ => false
theorem boolsOf_in (xs : List PV) : boolsOf (xs.map fun x => PV.bl (inLet x)) = some (xs.map inLet) := by
  induction xs with
  | nil => rfl
  | cons x xs ih => rw [List.map_cons, boolsOf, ih]; rfl
theorem filterMap_some {α β : Type} (f : α → β) (xs : List α) : xs.filterMap (fun x => some (f x)) = xs.map f := by
  rw [← List.filterMap_eq_map]; rfl
theorem all_id {α : Type} (f : α → Bool) (xs : List α) : (xs.map f).all id = xs.all f := by rw [List.all_map]; rfl
theorem none_bad {α : Type} (f : α → Bool) (xs : List α) : (xs.filterMap fun x => if f x = true then none else some x).isEmpty = xs.all f := by
  induction xs with
  | nil => rfl
  | cons x xs ih =>
    by_cases z : f x = true
    · rw [List.filterMap_cons_none (by rw [if_pos z]), ih, List.all_cons, z, Bool.true_and]
    · rw [List.filterMap_cons_some (by rw [if_neg z]), List.all_cons, Bool.eq_false_iff.mpr z]; rfl
inductive RowC (D : PV → Prop) : PV → Prop
  | tup {xs : List PV} (h : ∀ x ∈ xs, D x) : RowC D (.tup xs)
  | lst {xs : List PV} (h : ∀ x ∈ xs, D x) : RowC D (.lst xs)
theorem eight {xs : List PV} (h : xs.length = 8) : ∃ a b c d e f g i, xs = [a, b, c, d, e, f, g, i] := by
  match xs, h with
  | [a, b, c, d, e, f, g, i], _ => exact ⟨a, b, c, d, e, f, g, i, rfl⟩
theorem not_eight {xs : List PV} (h : xs.length ≠ 8) : isSal (.tup xs) = false := by
  unfold isSal
  split
  · rename_i e
    cases e
    exact absurd rfl h
  · rfl
theorem pow_ok9 : ((0 : Int) ≤ 9 ∧ (9 : Int) ≤ 1000000 ∧ Int.natAbs 10 < 2 ^ 64) = True := by simp
theorem pow_ok18 : ((0 : Int) ≤ 18 ∧ (18 : Int) ≤ 1000000 ∧ Int.natAbs 10 < 2 ^ 64) = True := by simp
theorem pow_ok30 : ((0 : Int) ≤ 30 ∧ (30 : Int) ≤ 1000000 ∧ Int.natAbs 10 < 2 ^ 64) = True := by simp
theorem line_eq : sizeLine = 16777216 := by decide
end L2.Pv

/-! P14: the draws' promises; cuts. -/
namespace L2.Pv
open PySem PySem.Spec PyProof.Rows L2
variable [TbC]
/-! ### draws -/
def drD (b : Addr) (c : List Int) (r t : Int) : List (PV × PV) := [(.str "wide", .ref b), (.str "cells", .lst (c.map .int)), (.str "rest", .int r), (.str "turn", .int t)]
def drR : Nat → Addr → RO → RO → Prop := fun n b r1 r2 => ∃ (w c : List Int) (r t : Int), r1 = .dic (drD b c r t) ∧ r2 = .lst (w.map .int) ∧ 0 ≤ r ∧ (∀ x ∈ w, 0 ≤ x) ∧ c ≠ [] ∧ c.length ≤ 63 ∧ w.length ≤ 63 ∧ 0 ≤ t ∧ t ≤ n
abbrev drw (p : Addr) (n : Nat) : MO := .abs (pairA p drR) n
inductive SpTake : PSp
  | mk {p : Addr} {m : Int} {n : Nat} {S : Store} {Q : PQ} {E : PX → Store → Prop} (e : S p = some (drw p n)) (h1 : 0 < m) (h2 : m < 1073741824) (hn : n < 1048576) (q : ∀ r, 0 ≤ r → r < m → Q (.int r) (put S p (drw p (n + 1)))) : SpTake [.ref p, .int m] S Q E
inductive SpTakeI : PSp
  | mk {p b : Addr} {m : Int} {n : Nat} {w c : List Int} {r t : Int} {S : Store} {Q : PQ} {E : PX → Store → Prop} (nb : b ≠ p) (hr : 0 ≤ r) (hw : ∀ x ∈ w, 0 ≤ x) (hc : c ≠ []) (hc2 : c.length ≤ 63) (hw2 : w.length ≤ 63) (ht : 0 ≤ t) (htn : t ≤ n) (h1 : 0 < m) (h2 : m < 1073741824) (hn : n < 1048576)
    (q : ∀ (v : Int) (w' : List Int) (r' t' : Int), 0 ≤ v → v < m → 0 ≤ r' → (∀ x ∈ w', 0 ≤ x) → w'.length ≤ 63 → 0 ≤ t' → t' ≤ (n + 1 : Nat) → Q (.int v) (put (put S p (.raw (.dic (drD b c r' t')))) b (.raw (.lst (w'.map .int))))) : SpTakeI [.ref p, .int m] (put (put S p (.raw (.dic (drD b c r t)))) b (.raw (.lst (w.map .int)))) Q E
theorem drD_wide {b : Addr} {c : List Int} {r t : Int} : dget (.inr "wide") (drD b c r t) = some (.ref b) := rfl
theorem drD_cells {b : Addr} {c : List Int} {r t : Int} : dget (.inr "cells") (drD b c r t) = some (.lst (c.map .int)) := rfl
theorem drD_rest {b : Addr} {c : List Int} {r t : Int} : dget (.inr "rest") (drD b c r t) = some (.int r) := rfl
theorem drD_turn {b : Addr} {c : List Int} {r t : Int} : dget (.inr "turn") (drD b c r t) = some (.int t) := rfl
theorem drD_setR {b : Addr} {c : List Int} {r t z : Int} : dput (.inr "rest") (.int z) (drD b c r t) = drD b c z t := rfl
theorem drD_setT {b : Addr} {c : List Int} {r t z : Int} : dput (.inr "turn") (.int z) (drD b c r t) = drD b c r z := rfl
theorem drD_len {b : Addr} {c : List Int} {r t : Int} : (drD b c r t).length = 4 := rfl
theorem put_ab {S : Store} {p b : Addr} {x y z : MO} (h : b ≠ p) : put (put (put S p x) b y) p z = put (put S p z) b y := by
  rw [put_comm h, put_put]
theorem cell_at {c : List Int} {t : Int} (hc : c ≠ []) (ht : 0 ≤ t) : ∃ x, atI (c.map PV.int) (t % ((c.map PV.int).length : Nat)) = some (.int x) := by
  have h := List.length_pos_iff.mpr hc
  rw [List.length_map]
  have h1 := Int.emod_nonneg t (b := (c.length : Int)) (by omega)
  have h2 := Int.emod_lt_of_pos t (b := (c.length : Int)) (by omega)
  obtain ⟨k, hk⟩ := Int.eq_ofNat_of_zero_le h1
  rw [hk] at h2 ⊢
  have h3 : k < c.length := by omega
  exact ⟨c[k], by simp [atI, ixN, h3]⟩
theorem mix_lt {a b t : Int} (h0 : 0 ≤ t) (h1 : t ≤ 1048576) : (a % 2147483587 + b % 998244353 * t + 7919 * t * t).natAbs < 2 ^ 64 := by
  have e1 := Int.emod_nonneg a (b := 2147483587) (by omega)
  have e2 := Int.emod_lt_of_pos a (b := 2147483587) (by omega)
  have e3 := Int.emod_nonneg b (b := 998244353) (by omega)
  have e4 := Int.emod_lt_of_pos b (b := 998244353) (by omega)
  generalize a % 2147483587 = u at *
  generalize b % 998244353 = v at *
  have m1 : v * t ≤ 998244353 * 1048576 := Int.mul_le_mul (by omega) h1 h0 (by omega)
  have m2 : 7919 * t * t ≤ 7919 * 1048576 * 1048576 := Int.mul_le_mul (by omega) h1 h0 (by omega)
  have m3 : 0 ≤ v * t := Int.mul_nonneg e3 h0
  have m4 : 0 ≤ 7919 * t * t := Int.mul_nonneg (by omega) h0
  omega
def wideB (i : Int) : Bool := decide (1000000000000000000 ≤ if i < 0 then -i else i)
def wideV (i : Int) : Int := (if i < 0 then -i else i) - 1000000000000000000
def wideF : PV → Option PV
  | .int i => if wideB i = true then some (.int (wideV i)) else none
  | _ => none
inductive SpBegunI : PSp
  | mk {ns : List Int} {S : Store} {Q : PQ} {E : PX → Store → Prop} (h : ns.length ≤ 63) (q : ∀ (p b : Addr) (w c : List Int), b ≠ p → S p = none → S b = none → (∀ x ∈ w, 0 ≤ x) → c ≠ [] → c.length ≤ 63 → w.length ≤ 63 → Q (.ref p) (put (put S b (.raw (.lst (w.map .int)))) p (.raw (.dic (drD b c 0 0))))) :
      SpBegunI [.scr (ns.map .int)] S Q E
inductive SpBegun : PSp
  | mk {ns : List Int} {S : Store} {Q : PQ} {E : PX → Store → Prop} (h : ns.length ≤ 63) (q : ∀ p, S p = none → Q (.ref p) (put S p (drw p 0))) : SpBegun [.scr (ns.map .int)] S Q E
inductive SpPick : PSp
  | mk {p : Addr} {x : PV} {xs : List PV} {n : Nat} {S : Store} {Q : PQ} {E : PX → Store → Prop} (e : S p = some (drw p n)) (hx : rows x S = some xs) (h0 : xs ≠ []) (hl : xs.length ≤ 16777216) (hn : n < 1048576) (q : ∀ y ∈ xs, Q y (put S p (drw p (n + 1)))) : SpPick [.ref p, x] S Q E
inductive SpAmount : PSp
  | mk {p : Addr} {n : Nat} {S : Store} {Q : PQ} {E : PX → Store → Prop} (e : S p = some (drw p n)) (hn : n < 1000000) (q : ∀ r : Int, 0 ≤ r → r ≤ 1000000000 → Q (.int r) (put S p (drw p (n + 6)))) : SpAmount [.ref p] S Q E
def NameOk (z : Str) : Prop := 1 ≤ z.length ∧ z.length ≤ 8 ∧ ∀ c ∈ z.cps.toList, 97 ≤ c ∧ c ≤ 122
inductive SpNames : PSp
  | mk {p : Addr} {k : Int} {n : Nat} {S : Store} {Q : PQ} {E : PX → Store → Prop} (e : S p = some (drw p n)) (h0 : 0 ≤ k) (hk : k ≤ 20) (hn : n < 500000)
      (q : ∀ (ws : List Str) (m : Nat), ws.length = k.toNat → ws.Nodup → (∀ w ∈ ws, NameOk w) → m ≤ n + 12 * k.toNat → Q (.lst (ws.map .str)) (put S p (drw p m))) : SpNames [.ref p, .int k] S Q E
def wordsL : List PV := [.str "add", .str "sell", .str "revoke", .str "refunder", .str "none", .str "no", .str "yes", .str "ok", .str "vase", .str "a", .str "aa", .str "zzzzzzzz"]

/-! ### a cut between statements -/
def wCut (t u : PTS) : PTS := fun P ρ S => ∃ M : PEnv → Store → Prop, t { P with nx := M } ρ S ∧ ∀ ρ' S', M ρ' S' → u P ρ' S'
theorem wss_cut {X : Cx} {F0 : Hp} {st : Stmt} {rest : List Stmt} {t u : PTS} (h1 : WS X F0 st t) (h2 : WSs X F0 rest u) : WSs X F0 (st :: rest) (wCut t u) :=
  ⟨pssImp (C8.pss_cut h1.ps h2.pss) fun D σ H ⟨F, ρ, S, P, at_, ⟨M, hm, hu⟩, le⟩ =>
    ⟨fun σ' H' => ∃ F1 ρ1 S1, Same F F1 ∧ At X.K F0 F1 ρ1 S1 σ' H' ∧ M ρ1 S1, ⟨F, ρ, S, _, at_, hm, ⟨fun ρ1 S1 q F1 σ1 H1 e1 a1 => ⟨F1, ρ1, S1, e1, a1, q⟩, le.rt, le.bk, le.ct⟩⟩, fun σ' H' ⟨F1, ρ1, S1, e1, a1, q⟩ => ⟨F1, ρ1, S1, P, a1, hu _ _ q, le.mono e1⟩⟩⟩
/-- [pick(state, text) for .. in ..] -/
theorem lc_letters {D p : Addr} {m i : Nat} {S : Store} {ρ : PEnv} {Q : PQ} {xs : List PV} {z : Str} {te : PTE} (hD : S D = none) (e : S p = some (drw p m)) (hm : m + xs.length < 1048576) (hl : xs.length ≤ 16777216)
    (hte : ∀ x S' (Q' : PQ) m', S' p = some (drw p m') → m' < 1048576 → (∀ c ∈ signs z, Q' c (put S' p (drw p (m' + 1)))) → te (stV ρ i (some x)) S' Q')
    (hq : ∀ bs : List Str, bs.length = xs.length → (∀ b ∈ bs, PV.str b ∈ signs z) → Q (.lst (bs.map .str)) (put S p (drw p (m + xs.length)))) : lcI false D (fun _ => True) (wgN i) wYes te Q xs ρ S := by
  have nb : D ≠ p := fun z => by rw [z, e] at hD; cases hD
  have e0 : put S p (drw p m) = S := by
    funext b
    by_cases z : b = p
    · rw [z, put_same, e]
    · rw [put_ne z]
  refine ⟨fun r acc S' => ∃ bs : List Str, bs.length + r.length = xs.length ∧ acc = bs.map .str ∧ (∀ b ∈ bs, PV.str b ∈ signs z) ∧ S' = put (put S p (drw p (m + bs.length))) D (.raw (.lst acc)), ⟨[], by simp, rfl, (fun _ h => nomatch h), by simp [e0]⟩, ?_, ?_⟩
  · rintro acc S' ⟨bs, h1, rfl, h3, rfl⟩
    refine ⟨trivial, put_same, ?_⟩
    show Q _ _
    rw [rmv_put (by rw [put_ne nb]; exact hD)]
    have := hq bs (by simpa using h1) h3
    rwa [show xs.length = bs.length by simpa using h1.symm] at this
  · rintro x r acc S' ⟨bs, h1, rfl, h3, rfl⟩
    rw [List.length_cons] at h1
    refine ⟨trivial, ?_⟩
    show te (stV ρ i (some x)) _ _
    refine hte x _ _ (m + bs.length) (by rw [put_ne nb.symm, put_same]) (by omega) fun c hc => ?_
    obtain ⟨n, hn, rfl⟩ := List.mem_map.mp hc
    refine ⟨by rw [put_ab nb, put_same], by rw [List.length_map, line_eq]; omega, bs ++ [⟨#[n]⟩], by rw [List.length_append]; simp; omega, by simp, ?_, ?_⟩
    · intro b hb
      rcases List.mem_append.mp hb with hb | hb
      · exact h3 b hb
      · rw [List.mem_singleton] at hb
        subst hb
        exact List.mem_map.mpr ⟨n, hn, rfl⟩
    · rw [put_ab nb, put_put]
      simp only [List.length_append, List.length_cons, List.length_nil, List.map_append, List.map_cons, List.map_nil, put_put]
      rfl
end L2.Pv

/-! P15: names drawn. -/
namespace L2.Pv
open PySem PySem.Spec PyProof.Rows L2
variable [TbC]
theorem cps_app (x y : Str) : (x ++ y).cps.toList = x.cps.toList ++ y.cps.toList := by
  show (x.cps ++ y.cps).toList = _
  rw [Array.toList_append]
theorem len_app (x y : Str) : (x ++ y).length = x.length + y.length := by
  show (x.cps ++ y.cps).size = _
  rw [Array.size_append]; rfl
theorem len_cps (x : Str) : x.length = x.cps.toList.length := by
  show x.cps.size = _
  simp
theorem str_ext {x y : Str} (h : x.cps.toList = y.cps.toList) : x = y := by
  cases x; cases y
  exact congrArg Str.mk (Array.toList_inj.mp h)
def lowS (z : Str) : Prop := ∀ c ∈ z.cps.toList, 97 ≤ c ∧ c ≤ 122
theorem lowS.app {x y : Str} (h : lowS x) (k : lowS y) : lowS (x ++ y) := fun c hc => by
  rw [cps_app] at hc
  exact (List.mem_append.mp hc).elim (h c) (k c)
theorem lets_low : lowS lets := by unfold lowS; decide +kernel
theorem letter_ok {b : Str} (h : PV.str b ∈ signs lets) : b.length = 1 ∧ lowS b := by
  obtain ⟨c, hc, e⟩ := List.mem_map.mp h
  cases e
  exact ⟨rfl, fun d hd => by rw [List.mem_singleton.mp hd]; exact lets_low c hc⟩
theorem cut7 (w : Str) : (Txt.slice w none (some 7)).cps.toList = w.cps.toList.take 7 := by
  have h : w = SX.S w.cps.toList := str_ext rfl
  have := SX.slice_to (a := w.cps.toList) (i := 7) (by decide)
  rw [← h] at this
  rw [this]
  rfl
theorem join_cons (x : Str) (r : List Str) : (Txt.join "" (x :: r)).cps.toList = x.cps.toList ++ (Txt.join "" r).cps.toList := by
  rw [TL.join_eq, TL.join_eq]
  cases r with
  | nil =>
    show x.cps.toList = x.cps.toList ++ []
    rw [List.append_nil]
  | cons y r =>
    show (x ++ ("" : Str) ++ Str.join "" (y :: r)).cps.toList = _
    rw [cps_app, cps_app]
    have : ("" : Str).cps.toList = [] := by decide +kernel
    rw [this, List.append_nil]
theorem join_letters {bs : List Str} (h : ∀ b ∈ bs, PV.str b ∈ signs lets) : (Txt.join "" bs).length = bs.length ∧ lowS (Txt.join "" bs) := by
  induction bs with
  | nil => exact ⟨by decide +kernel, by unfold lowS; decide +kernel⟩
  | cons x r ih =>
    obtain ⟨h1, h2⟩ := ih fun b hb => h b (List.mem_cons_of_mem _ hb)
    obtain ⟨h3, h4⟩ := letter_ok (h x List.mem_cons_self)
    rw [len_cps] at h1 h3
    refine ⟨?_, fun c hc => ?_⟩
    · rw [len_cps, join_cons, List.length_append, h1, h3, List.length_cons]
      omega
    · rw [join_cons] at hc
      exact (List.mem_append.mp hc).elim (h4 c) (h2 c)
theorem join_sum {z : Str} {bs : List Str} (h : ∀ b ∈ bs, b.length = 1) : (bs.map fun x => x.length).sum + bs.length * ("" : Str).length = bs.length := by
  have e : ("" : Str).length = 0 := by decide +kernel
  rw [e, Nat.mul_zero, Nat.add_zero]
  induction bs with
  | nil => rfl
  | cons x r ih =>
    rw [List.map_cons, List.sum_cons, h x List.mem_cons_self, ih fun b hb => h b (List.mem_cons_of_mem _ hb), List.length_cons]
    omega
theorem name_join {bs : List Str} (h : ∀ b ∈ bs, PV.str b ∈ signs lets) (h1 : 1 ≤ bs.length) (h2 : bs.length ≤ 8) : NameOk (Txt.join "" bs) := by
  obtain ⟨a, b⟩ := join_letters h
  exact ⟨by omega, by omega, b⟩
theorem name_cut {w l : Str} (h : NameOk w) (hl : PV.str l ∈ signs lets) : NameOk (Txt.slice w none (some 7) ++ l) := by
  obtain ⟨a, b⟩ := letter_ok hl
  have e : (Txt.slice w none (some 7)).length ≤ 7 := by
    rw [len_cps, cut7, List.length_take]
    omega
  refine ⟨by rw [len_app]; omega, by rw [len_app]; omega, lowS.app (fun c hc => ?_) b⟩
  rw [cut7] at hc
  exact h.2.2 c (List.mem_of_mem_take hc)
theorem app_inj {x y z : Str} (h : x ++ y = x ++ z) : y = z := by
  have := congrArg (fun s : Str => s.cps.toList) h
  simp only [cps_app] at this
  exact str_ext (List.append_cancel_left this)
theorem pigeon {α : Type} [DecidableEq α] : ∀ {l m : List α}, l.Nodup → (∀ x ∈ l, x ∈ m) → l.length ≤ m.length
  | [], _, _, _ => Nat.zero_le _
  | x :: l, m, h, hs => by
    rw [List.nodup_cons] at h
    have hx := hs x List.mem_cons_self
    have ih := pigeon (l := l) (m := m.erase x) h.2 fun y hy => (List.mem_erase_of_ne (fun z => h.1 (by rw [← z]; exact hy))).mpr (hs y (List.mem_cons_of_mem _ hy))
    rw [List.length_erase_of_mem hx] at ih
    have := List.length_pos_of_mem hx
    rw [List.length_cons]
    omega
def lettersS : List Str := lets.cps.toList.map fun c => ⟨#[c]⟩
theorem signs_lets : signs lets = lettersS.map .str := by unfold lettersS signs; rw [List.map_map]; rfl
theorem free_letter {w : Str} {ws : List Str} (h : ws.length < 26) : ∃ l ∈ lettersS, Txt.slice w none (some 7) ++ l ∉ ws := by
  by_cases z : ∃ l ∈ lettersS, Txt.slice w none (some 7) ++ l ∉ ws
  · exact z
  · exfalso
    have nd : lettersS.Nodup := by decide +kernel
    have len : lettersS.length = 26 := by decide +kernel
    have nd2 : (lettersS.map fun l => Txt.slice w none (some 7) ++ l).Nodup := List.Pairwise.map _ (fun a b hab e => hab (app_inj e)) nd
    have := pigeon nd2 (m := ws) fun x hx => by
      obtain ⟨l, hl, rfl⟩ := List.mem_map.mp hx
      by_cases y : Txt.slice w none (some 7) ++ l ∈ ws
      · exact y
      · exact absurd ⟨l, hl, y⟩ z
    rw [List.length_map, len] at this
    omega
def freshF (w : Str) (ws : List Str) : PV → Option PV
  | .str l => if Txt.slice w none (some 7) ++ l ∈ ws then none else some (.str (Txt.slice w none (some 7) ++ l))
  | _ => none
theorem fresh_first {w : Str} {ws : List Str} (h : ws.length < 26) : ∃ l r, (signs lets).filterMap (freshF w ws) = .str (Txt.slice w none (some 7) ++ l) :: r ∧ PV.str l ∈ signs lets ∧ Txt.slice w none (some 7) ++ l ∉ ws := by
  obtain ⟨l0, h0, n0⟩ := free_letter (w := w) h
  cases q : (signs lets).filterMap (freshF w ws) with
  | nil =>
    exfalso
    have : PV.str (Txt.slice w none (some 7) ++ l0) ∈ (signs lets).filterMap (freshF w ws) := List.mem_filterMap.mpr ⟨.str l0, by rw [signs_lets]; exact List.mem_map.mpr ⟨l0, h0, rfl⟩, if_neg n0⟩
    rw [q] at this
    cases this
  | cons x r =>
    have hx : x ∈ (signs lets).filterMap (freshF w ws) := by rw [q]; exact List.mem_cons_self
    obtain ⟨y, hy, e⟩ := List.mem_filterMap.mp hx
    rw [signs_lets] at hy
    obtain ⟨l, hl, rfl⟩ := List.mem_map.mp hy
    by_cases z : Txt.slice w none (some 7) ++ l ∈ ws
    · rw [show freshF w ws (.str l) = none from if_pos z] at e; cases e
    · rw [show freshF w ws (.str l) = some _ from if_neg z] at e
      cases e
      exact ⟨l, r, rfl, by rw [signs_lets]; exact List.mem_map.mpr ⟨l, hl, rfl⟩, z⟩
theorem inF_strs (w : Str) (ws : List Str) : inF (.str w) (ws.map .str) = decide (w ∈ ws) := by
  unfold inF
  induction ws with
  | nil => rfl
  | cons x r ih =>
    rw [List.map_cons, List.any_cons, ih]
    show (x == w || _) = _
    by_cases z : x = w
    · subst z; simp
    · rw [beq_false_of_ne z, Bool.false_or]
      exact decide_eq_decide.mpr ⟨fun h => List.mem_cons_of_mem _ h, fun h => (List.mem_cons.mp h).elim (fun e => absurd e.symm z) id⟩
theorem memP_strs {S : Store} {a : Addr} {w : Str} {ws : List Str} (h : rdS S a = some (.lst (ws.map .str))) : memP (.str w) (.ref a) S = some (decide (w ∈ ws)) := by
  have e : seqL S (.ref a) = some (ws.map .str) := by simp only [seqL, h]
  have f : (ws.map PV.str).all flatP = true := List.all_eq_true.mpr fun x hx => by
    obtain ⟨y, _, rfl⟩ := List.mem_map.mp hx
    rfl
  show (match seqL S (.ref a) with | some ys => _ | none => _) = _
  rw [e]
  simp only [flatP, f, Bool.and_self, if_true, inF_strs]
theorem words_ok : ∀ y ∈ wordsL, ∃ w, y = .str w ∧ NameOk w := by
  intro y hy
  simp only [wordsL, List.mem_cons, List.not_mem_nil, or_false] at hy
  rcases hy with rfl | rfl | rfl | rfl | rfl | rfl | rfl | rfl | rfl | rfl | rfl | rfl <;> exact ⟨_, rfl, by unfold NameOk; decide +kernel⟩
theorem rng_len (i : Int) (n : Nat) : (rngP i n).length = n := by unfold rngP; rw [List.length_map, List.length_range]
theorem lets_ne : signs lets ≠ [] := fun h => by
  have h2 := congrArg List.length h
  rw [signs_len] at h2
  exact absurd h2 (by decide +kernel)
theorem lets_len : (signs lets).length ≤ 16777216 := by rw [signs_len]; decide +kernel
theorem atI_zero {α : Type} (x : α) (r : List α) : atI (x :: r) 0 = some x := by
  have h : (0 : Int) < ((x :: r).length : Nat) := by rw [List.length_cons]; omega
  simp [atI, ixN, h]
structure SaleR where
  num : Int
  seller : Str
  buyer : Str
  price : Int
  pen : Int
  time : PV
  refunder : Str
  guarantor : Str
def SaleR.pv (r : SaleR) : PV := .tup [.int r.num, .str r.seller, .str r.buyer, .int r.price, .int r.pen, r.time, .str r.refunder, .str r.guarantor]
structure RowOk (ws : List Str) (ts : List PV) (r : SaleR) : Prop where
  pos : 1 ≤ r.num
  seller : r.seller ∈ ws
  buyer : r.buyer ∈ ws
  ne : r.seller ≠ r.buyer
  price : 0 ≤ r.price ∧ r.price ≤ 1000000000
  pen : 0 ≤ r.pen ∧ r.pen ≤ 1000000000
  time : r.time ∈ ts
  refunder : r.refunder ∈ ws
  guarantor : r.guarantor ∈ ws
/-- rows in their order; num and sl are the last number and the next seller -/
structure RowsOk (ws : List Str) (ts : List PV) (num : Int) (sl : Str) (rs : List SaleR) : Prop where
  all : ∀ r ∈ rs, RowOk ws ts r ∧ r.num ≤ num
  up : rs.Pairwise fun a b => a.num < b.num
  next : ∀ i a b, rs[i]? = some a → rs[i + 1]? = some b → a.buyer = b.seller
  last : ∀ a, rs.getLast? = some a → a.buyer = sl
theorem rows0 {ws : List Str} {ts : List PV} {num : Int} {sl : Str} : RowsOk ws ts num sl [] := ⟨(fun _ h => nomatch h), .nil, (fun _ _ _ h => by simp at h), (fun _ h => by simp at h)⟩
theorem RowsOk.snoc {ws : List Str} {ts : List PV} {num : Int} {sl : Str} {rs : List SaleR} {r : SaleR} (h : RowsOk ws ts num sl rs) (hr : RowOk ws ts r) (h1 : num < r.num) (h2 : r.seller = sl) : RowsOk ws ts r.num r.buyer (rs ++ [r]) := by
  refine ⟨fun x hx => ?_, ?_, fun i a b ha hb => ?_, fun a ha => ?_⟩
  · rcases List.mem_append.mp hx with hx | hx
    · exact ⟨(h.all x hx).1, by have := (h.all x hx).2; omega⟩
    · rw [List.mem_singleton] at hx
      subst hx
      exact ⟨hr, Int.le_refl _⟩
  · rw [List.pairwise_append]
    refine ⟨h.up, by simp, fun x hx y hy => ?_⟩
    rw [List.mem_singleton] at hy
    subst hy
    have := (h.all x hx).2
    omega
  · by_cases z : i + 1 < rs.length
    · rw [List.getElem?_append_left (by omega)] at ha hb
      exact h.next i a b ha hb
    · by_cases y : i + 1 = rs.length
      · rw [List.getElem?_append_left (by omega)] at ha
        rw [List.getElem?_append_right (by omega), y, Nat.sub_self] at hb
        cases hb
        rw [h2]
        refine h.last a ?_
        rw [List.getLast?_eq_getElem?, ← ha]
        congr 1
        omega
      · rw [List.getElem?_append_right (by omega)] at hb
        have : i + 1 - rs.length ≠ 0 := by omega
        obtain ⟨j, hj⟩ := Nat.exists_eq_succ_of_ne_zero this
        rw [hj] at hb
        cases hb
  · rw [List.getLast?_append, List.getLast?_singleton] at ha
    cases ha
    rfl
inductive SpSales : PSp
  | mk {p : Addr} {ws : List Str} {k : Int} {ts : List PV} {n : Nat} {S : Store} {Q : PQ} {E : PX → Store → Prop} (e : S p = some (drw p n)) (hw : ws.Nodup) (h2 : 2 ≤ ws.length) (hw20 : ws.length ≤ 20) (h0 : 0 ≤ k) (hk : k ≤ 20) (ht : ts ≠ []) (htl : ts.length ≤ 16777216) (hn : n < 500000)
      (q : ∀ (rs : List SaleR) (m : Nat) (num : Int) (sl : Str), rs.length = k.toNat → RowsOk ws ts num sl rs → num ≤ 52 * k → m ≤ n + 1 + 20 * k.toNat → Q (.lst (rs.map SaleR.pv)) (put S p (drw p m))) : SpSales [.ref p, .lst (ws.map .str), .int k, .lst ts] S Q E
def otherF (s : Str) : PV → Option PV
  | .str z => if z = s then none else some (.str z)
  | _ => none
theorem others {s : Str} {ws : List Str} : (ws.map PV.str).filterMap (otherF s) = (ws.filter fun z => decide (z ≠ s)).map .str := by
  induction ws with
  | nil => rfl
  | cons x r ih =>
    by_cases z : x = s
    · rw [List.map_cons, List.filterMap_cons_none (show otherF s (.str x) = none from if_pos z), ih, List.filter_cons_of_neg (by simpa using z)]
    · rw [List.map_cons, List.filterMap_cons_some (show otherF s (.str x) = some (.str x) from if_neg z), ih, List.filter_cons_of_pos (by simpa using z), List.map_cons]
theorem others_ne {s : Str} {ws : List Str} (h : ws.Nodup) (h2 : 2 ≤ ws.length) : (ws.filter fun z => decide (z ≠ s)) ≠ [] := by
  intro e
  have all : ∀ z ∈ ws, z = s := fun z hz => by
    by_cases y : z = s
    · exact y
    · have : z ∈ ws.filter fun z => decide (z ≠ s) := List.mem_filter.mpr ⟨hz, by simpa using y⟩
      rw [e] at this
      cases this
  match ws, h, h2 with
  | a :: b :: r, h, _ =>
    rw [List.nodup_cons] at h
    exact h.1 (by rw [all a List.mem_cons_self, ← all b (List.mem_cons_of_mem _ List.mem_cons_self)]; exact List.mem_cons_self)
end L2.Pv

/-! P16: the rules' readings at values that are known. -/
namespace L2.Pv
open PySem PySem.Spec PyProof.Rows L2
variable [TbC]
section
variable {S : Store} {Q : PQ} {i j : Int} {x y : Str} {xs ys : List PV} {a b : Addr} {k l : Bool} {C : Int → Int → Prop} {g : Int → Int → Int} {h : Int → Int → Bool} {lo hi : Option Int}
theorem addP_int : addP (.int i) (.int j) S Q = Q (.int (i + j)) S := id rfl
theorem addP_str : addP (.str x) (.str y) S Q = (x.length + y.length ≤ sizeLine ∧ Q (.str (x ++ y)) S) := id rfl
theorem addP_tup : addP (.tup xs) (.tup ys) S Q = (xs.length + ys.length ≤ sizeLine ∧ Q (.tup (xs ++ ys)) S) := id rfl
theorem addP_lst : addP (.lst xs) (.lst ys) S Q = (xs.length + ys.length ≤ sizeLine ∧ Q (.lst (xs ++ ys)) S) := id rfl
theorem addP_ref (e : rdS S a = some (.lst xs)) : addP (.ref a) (.lst ys) S Q = (xs.length + ys.length ≤ sizeLine ∧ Q (.lst (xs ++ ys)) S) := by simp only [addP, seqL, e]
theorem addP_lref (e : rdS S a = some (.lst ys)) : addP (.lst xs) (.ref a) S Q = (xs.length + ys.length ≤ sizeLine ∧ Q (.lst (xs ++ ys)) S) := by simp only [addP, seqL, e]
theorem addP_rr {b : Addr} (e : rdS S a = some (.lst xs)) (e2 : rdS S b = some (.lst ys)) : addP (.ref a) (.ref b) S Q = (xs.length + ys.length ≤ sizeLine ∧ Q (.lst (xs ++ ys)) S) := by simp only [addP, seqL, e, e2]
theorem intP_int : intP C g (.int i) (.int j) S Q = (C i j ∧ Q (.int (g i j)) S) := id rfl
theorem intP0_int : intP0 g (.int i) (.int j) S Q = Q (.int (g i j)) S := id rfl
theorem ordP_int : ordP h (.int i) (.int j) S Q = Q (.bl (h i j)) S := id rfl
theorem eqP_int : eqP (.int i) (.int j) S Q = Q (.bl (i == j)) S := id rfl
theorem eqP_str : eqP (.str x) (.str y) S Q = Q (.bl (x == y)) S := id rfl
theorem eqP_bl : eqP (.bl k) (.bl l) S Q = Q (.bl (k == l)) S := id rfl
theorem eqP_non : eqP .non .non S Q = Q (.bl true) S := id rfl
theorem ixP_str : ixP (.str x) (.int i) S Q = (x.length ≤ sizeLine ∧ match atI x.cps.toList i with | some c => Q (.str ⟨#[c]⟩) S | none => False) := id rfl
theorem ixP_lst : ixP (.lst xs) (.int i) S Q = (match atI xs i with | some c => Q c S | none => False) := id rfl
theorem ixP_tup : ixP (.tup xs) (.int i) S Q = (match atI xs i with | some c => Q c S | none => False) := id rfl
theorem ixP_scr : ixP (.scr xs) (.int i) S Q = (match atI xs i with | some c => Q c S | none => False) := id rfl
theorem ixP_ref (e : rdS S a = some (.lst xs)) : ixP (.ref a) (.int i) S Q = (match atI xs i with | some c => Q c S | none => False) := by simp only [ixP, seqO, seqL, e] <;> (cases atI xs i <;> rfl)
theorem slcP_str : slcP (.str x) lo hi S Q = (x.length ≤ sizeLine ∧ Q (.str (Txt.slice x lo hi)) S) := id rfl
theorem slcP_tup : slcP (.tup xs) lo hi S Q = Q (.tup (cutP xs lo hi)) S := id rfl
theorem slcP_lst : slcP (.lst xs) lo hi S Q = Q (.lst (cutP xs lo hi)) S := id rfl
theorem slcP_ref (e : rdS S a = some (.lst xs)) : slcP (.ref a) lo hi S Q = Q (.lst (cutP xs lo hi)) S := by simp only [slcP, seqL, e]
/-- walking what is known -/
def walkP (x : PV) (S : Store) (R : List PV → (Store → Prop) → Store → Prop) : Prop := match x with
  | .tup xs => R xs (fun _ => True) S
  | .str z => R (signs z) (fun _ => True) S
  | .lst xs => R xs (fun _ => True) S
  | .scr xs => R xs (fun _ => True) S
  | .ref a => match rdS S a with
    | some (.lst xs) => R xs (fun S => seqL S (.ref a) = some xs) S
    | _ => False
  | _ => False
variable {te : PTE} {ρ : PEnv} {R : List PV → (Store → Prop) → Store → Prop}
theorem wiSeq_eq : wiSeq te ρ S R = te ρ S fun x S1 => walkP x S1 R := by
  unfold wiSeq walkP
  rfl
theorem walkP_tup : walkP (.tup xs) S R = R xs (fun _ => True) S := id rfl
theorem walkP_str : walkP (.str x) S R = R (signs x) (fun _ => True) S := id rfl
theorem walkP_lst : walkP (.lst xs) S R = R xs (fun _ => True) S := id rfl
theorem walkP_scr : walkP (.scr xs) S R = R xs (fun _ => True) S := id rfl
theorem walkP_ref (e : rdS S a = some (.lst xs)) : walkP (.ref a) S R = R xs (fun S => seqL S (.ref a) = some xs) S := by simp only [walkP, e]
end
theorem cut_intro {t u : PTS} {P : PEnds} {ρ : PEnv} {S : Store} (M : PEnv → Store → Prop) (h1 : t { P with nx := M } ρ S) (h2 : ∀ ρ' S', M ρ' S' → u P ρ' S') : wCut t u P ρ S := ⟨M, h1, h2⟩
theorem put_none {S : Store} {a d : Addr} {x : MO} (h : put S a x d = none) : d ≠ a ∧ S d = none := by
  by_cases z : d = a
  · rw [z, put_same] at h; cases h
  · rw [put_ne z] at h; exact ⟨z, h⟩
theorem put_ab3 {S : Store} {p a d : Addr} {x y w z : MO} (h : a ≠ p) (k : d ≠ p) : put (put (put (put S p x) a y) d w) p z = put (put (put S p z) a y) d w := by
  rw [put_comm k, put_ab h]
inductive SpWord : PSp
  | mk {p : Addr} {n : Nat} {S : Store} {Q : PQ} {E : PX → Store → Prop} (e : S p = some (drw p n)) (hn : n < 500000) (q : ∀ (w : Str) (m : Nat), okS 60 w → m ≤ n + 13 → Q (.str w) (put S p (drw p m))) : SpWord [.ref p] S Q E
theorem low_ok {n : Nat} {w : Str} (h : lowS w) (hl : w.length ≤ n) : okS n w := ⟨hl, fun c hc => Nat.lt_of_le_of_lt (h c hc).2 (by decide)⟩
def oddSigns : Str := "AZ09 _-.az\n\x40[`{|}~"
theorem odd_ok {b : Str} (h : PV.str b ∈ signs oddSigns) : okS 1 b := by
  obtain ⟨c, hc, e⟩ := List.mem_map.mp h
  cases e
  refine ⟨Nat.le_refl 1, fun d hd => ?_⟩
  rw [List.mem_singleton.mp hd]
  have all : oddSigns.cps.toList.all (fun c => decide (c < 16 ^ 8)) = true := by decide +kernel
  exact of_decide_eq_true (List.all_eq_true.mp all c hc)
theorem odd_ne : signs oddSigns ≠ [] := fun h => by
  have h2 := congrArg List.length h
  rw [signs_len] at h2
  exact absurd h2 (by decide +kernel)
theorem odd_len : (signs oddSigns).length ≤ 16777216 := by rw [signs_len]; decide +kernel
inductive RowN (D : PV → Prop) (L : Nat) : PV → Prop
  | tup {xs : List PV} (h : ∀ x ∈ xs, D x) (hl : xs.length ≤ L) : RowN D L (.tup xs)
  | lst {xs : List PV} (h : ∀ x ∈ xs, D x) (hl : xs.length ≤ L) : RowN D L (.lst xs)
theorem RowN.mono {D : PV → Prop} {L M : Nat} {x : PV} (h : RowN D L x) (e : L ≤ M) : RowN D M x := by
  cases h with
  | tup h hl => exact .tup h (Nat.le_trans hl e)
  | lst h hl => exact .lst h (Nat.le_trans hl e)
theorem RowN.row {D : PV → Prop} {L : Nat} {x : PV} (h : RowN D L x) : RowC D x := by
  cases h with
  | tup h hl => exact .tup h
  | lst h hl => exact .lst h
theorem RowN.fine {a b L : Nat} {x : PV} (h : RowN (Fit a b) L x) (h1 : a ≤ 63) (h2 : (b + 1) * L ≤ 200000) : FineR x := by
  cases h with
  | tup h hl => exact (fit_tup h).fine (by omega) (Nat.le_trans (Nat.mul_le_mul_left _ hl) h2)
  | lst h hl => exact (fit_lst h).fine (by omega) (Nat.le_trans (Nat.mul_le_mul_left _ hl) h2)
theorem mem_cut {xs : List PV} {lo hi : Option Int} {x : PV} (h : x ∈ cutP xs lo hi) : x ∈ xs := List.mem_of_mem_drop (List.mem_of_mem_take h)
theorem cut_len {xs : List PV} {lo hi : Option Int} : (cutP xs lo hi).length ≤ xs.length := by
  unfold cutP
  rw [List.length_take, List.length_drop]
  omega
inductive SpBent (D : PV → Prop) : PSp
  | mk {p : Addr} {x : PV} {n L : Nat} {S : Store} {Q : PQ} {E : PX → Store → Prop} (e : S p = some (drw p n)) (hx : RowN D L x) (hL : L ≤ 1000) (hn : n < 500000) (q : ∀ y, RowN D (3 * L + 1) y → Q y (put S p (drw p (n + 3)))) : SpBent D [.ref p, x] S Q E
abbrev PlainC : PV → Prop := Fit 1 300
def oddsL : List PV := [.non, .bl true, .bl false, .int 0, .int (-1), .str "", .str "A", .str "a1", .str "abcdefghi", .str "ann", .int 1000000000, .int 1000000001, .int 1000000000000000000000000000000, .lst [], .dic [], .tup [.str "a"]]
theorem fit_lit {a b : Nat} {z : Str} (h : (decide (z.length ≤ b) && z.cps.toList.all fun c => decide (c < 16 ^ 8)) = true) : Fit a b (.str z) := fit_str (.lit h)
theorem odds_fit : ∀ y ∈ oddsL ++ [PV.str "1", .int 1, .int 5], Fit 1 300 y := by
  intro y hy
  simp only [oddsL, List.cons_append, List.nil_append, List.mem_cons, List.not_mem_nil, or_false] at hy
  have i : ∀ {k : Int}, k.natAbs < 10 ^ 50 → Fit 1 300 (.int k) := fun h => (fit_int (a := 1) h).mono (Nat.le_refl 1) (by decide)
  rcases hy with rfl | rfl | rfl | rfl | rfl | rfl | rfl | rfl | rfl | rfl | rfl | rfl | rfl | rfl | rfl | rfl | rfl | rfl | rfl
  · exact fit_non
  · exact fit_bl
  · exact fit_bl
  · exact i (by decide)
  · exact i (by decide)
  · exact fit_lit (by decide +kernel)
  · exact fit_lit (by decide +kernel)
  · exact fit_lit (by decide +kernel)
  · exact fit_lit (by decide +kernel)
  · exact fit_lit (by decide +kernel)
  · exact i (by decide)
  · exact i (by decide)
  · exact i (by decide)
  · exact (fit_lst (a := 0) (b := 0) (xs := []) fun _ h => nomatch h).mono (Nat.le_refl 1) (by decide)
  · exact fit_dic0
  · refine (fit_tup (a := 0) (b := 5) fun x hx => ?_).mono (Nat.le_refl 1) (by decide)
    rw [List.mem_singleton] at hx
    subst hx
    exact fit_lit (by decide +kernel)
  · exact fit_lit (by decide +kernel)
  · exact i (by decide)
  · exact i (by decide)
end L2.Pv

/-! P17: zip, reversing, str of a number, () compared. -/
namespace L2.Pv
open PySem PySem.Spec PyProof.Rows L2
variable [TbC]
/-! ### zip of two -/
def zipP (xs ys : List PV) : List PV := (xs.zip ys).map fun p => .tup [p.1, p.2]
theorem zipP_get {xs ys : List PV} {i : Nat} {x : PV} (h : (zipP xs ys)[i]? = some x) : ∃ a b, xs[i]? = some a ∧ ys[i]? = some b ∧ x = .tup [a, b] := by
  unfold zipP at h
  rw [List.getElem?_map] at h
  cases q : (xs.zip ys)[i]? with
  | none => rw [q] at h; cases h
  | some p =>
    rw [q] at h
    cases h
    obtain ⟨a, b⟩ := p
    obtain ⟨h1, h2⟩ := List.getElem?_zip_eq_some.mp q
    exact ⟨a, b, h1, h2, rfl⟩
theorem zipP_len (xs ys : List PV) : (zipP xs ys).length = min xs.length ys.length := by unfold zipP; rw [List.length_map, List.length_zip]
section
variable {X : Cx} {F0 : Hp}
theorem zip_item {F' : Hp} {S : Store} {H H' : Hp} {T : Addr} {x1 y1 : V} {a b : PV} (hd : Hold X.K F' S H) (nT : H T = none) (e : H' = upd H T (.tup [x1, y1])) (r1 : Rep X.K F' x1 a) (r2 : Rep X.K F' y1 b) : ∃ F'', Same F' F'' ∧ Hold X.K F'' S H' ∧ Rep X.K F'' (.ref T) (.tup [a, b]) := by
  subst e
  obtain ⟨z1, z2, z3⟩ := new_tup (X := X) hd nT (Reps.cons r1 (.cons r2 .nil))
  exact ⟨_, z1, z2, z3⟩
theorem walks_zipT {F : Hp} {a b : Addr} {xs ys : List PV} {vs ws : List V} (ha : TpAt X.K F a vs) (hb : TpAt X.K F b ws) (r1 : Reps X.K F vs xs) (r2 : Reps X.K F ws ys) : Walks X.K (RZ.ItzT X.K a b) F (zipP xs ys) (fun _ => True) where
  stop := fun F' S H e hd g => ⟨vs, ws, hd.sub.sqT (sqT_same e ha), hd.sub.sqT (sqT_same e hb), by rw [zipP_len, r1.len, r2.len]; omega⟩
  go := fun F' S H i x e hd g hx => by
    obtain ⟨p, q, h1, h2, _⟩ := zipP_get hx
    obtain ⟨v, hv, _⟩ := r1.get h1
    obtain ⟨w, hw, _⟩ := r2.get h2
    exact ⟨vs, ws, v, w, hd.sub.sqT (sqT_same e ha), hd.sub.sqT (sqT_same e hb), hv, hw⟩
  yld := fun F' S H i x e hd g hx v H' ⟨T, x1, y1, hv, nT, hH, f1, f2⟩ => by
    obtain ⟨p, q, h1, h2, rfl⟩ := zipP_get hx
    obtain ⟨v1, hv1, rv1⟩ := r1.get h1
    obtain ⟨w1, hw1, rw1⟩ := r2.get h2
    have e1 := f1 vs (hd.sub.sqT (sqT_same e ha))
    have e2 := f2 ws (hd.sub.sqT (sqT_same e hb))
    rw [hv1] at e1
    rw [hw1] at e2
    cases e1
    cases e2
    subst hv
    exact zip_item hd nT hH (rv1.mono e) (rw1.mono e)
theorem walks_zipL {F : Hp} {a b : Addr} {xs ys : List PV} {vs ws : List V} (ha : Rd F a (.lst vs)) (hb : Rd F b (.lst ws)) (r1 : Reps X.K F vs xs) (r2 : Reps X.K F ws ys) : Walks X.K (Itz X.K a b) F (zipP xs ys) (fun _ => True) where
  stop := fun F' S H e hd g => ⟨vs, ws, .inl (hd.sub.rd (rd_same e ha)), .inl (hd.sub.rd (rd_same e hb)), by rw [zipP_len, r1.len, r2.len]; omega⟩
  go := fun F' S H i x e hd g hx => by
    obtain ⟨p, q, h1, h2, _⟩ := zipP_get hx
    obtain ⟨v, hv, _⟩ := r1.get h1
    obtain ⟨w, hw, _⟩ := r2.get h2
    exact ⟨vs, ws, v, w, .inl (hd.sub.rd (rd_same e ha)), .inl (hd.sub.rd (rd_same e hb)), hv, hw⟩
  yld := fun F' S H i x e hd g hx v H' ⟨T, x1, y1, hv, nT, hH, f1, f2⟩ => by
    obtain ⟨p, q, h1, h2, rfl⟩ := zipP_get hx
    obtain ⟨v1, hv1, rv1⟩ := r1.get h1
    obtain ⟨w1, hw1, rw1⟩ := r2.get h2
    have e1 := f1 vs (.inl (hd.sub.rd (rd_same e ha)))
    have e2 := f2 ws (.inl (hd.sub.rd (rd_same e hb)))
    rw [hv1] at e1
    rw [hw1] at e2
    cases e1
    cases e2
    subst hv
    exact zip_item hd nT hH (rv1.mono e) (rw1.mono e)
def zipsP (xs : List PV) (S : Store) (R : List PV → (Store → Prop) → Store → Prop) : Prop := match xs with
  | [.tup a, .tup b] => R (zipP a b) (fun _ => True) S
  | [.lst a, .lst b] => R (zipP a b) (fun _ => True) S
  | _ => False
def wiZip (ta : PTA) : PTI := fun ρ S R => ta ρ S fun xs S1 => zipsP xs S1 R
theorem wi_zip {e e2 : Expr} {ta : PTA} {p pos tpos : Pos} {elts : List Expr} {kk : Nat} {n : Nat} (hm : X.mg "zip" = none) (ha : WA X F0 n [e, e2] ta) (hg : Gl X "zip" := by rfl)
    (hs : starEach [e, e2] X.env = (false, eval e X.env) :: starEach [e2] X.env := by rfl) (hpl : (backTo pos (starEach [e2] X.env)).any (·.1) = false := by rfl) : WI X F0 (.Tuple elts kk tpos) (.Call (.Name "zip" p) [e, e2] [] pos) (wiZip ta) :=
  ⟨piImp (RZ.pi_zipA hg hm ha.pa hs hpl) fun σ H R ⟨F, ρ, S, P, at_, h, le⟩ => ⟨F, ρ, S, _, at_, h, fun xs S1 h1 hn F1 H1 vs e1 hd1 r1 => by
    unfold zipsP at h1
    split at h1
    · cases r1 with
      | cons ra r1 =>
        cases r1 with
        | cons rb r1 =>
          cases r1
          cases ra with
          | tup a1 a2 =>
            cases rb with
            | tup b1 b2 => exact ⟨_, _, _, _, rfl, .inr ⟨hd1.sub.sqT a1, hd1.sub.sqT b1, le _ _ _ h1 F1 H1 e1 hd1 _ (walks_zipT a1 b1 a2 b2)⟩⟩
    · cases r1 with
      | cons ra r1 =>
        cases r1 with
        | cons rb r1 =>
          cases r1
          cases ra with
          | lst a1 a2 =>
            cases rb with
            | lst b1 b2 => exact ⟨_, _, _, _, rfl, .inl ⟨.inl (hd1.sub.rd a1), .inl (hd1.sub.rd b1), le _ _ _ h1 F1 H1 e1 hd1 _ (walks_zipL a1 b1 a2 b2)⟩⟩
    · exact h1.elim⟩⟩
/-! ### str of an int, of a text -/
def strCP : PRs := fun xs S Q => match xs with
  | [.int i] => i.natAbs.log2 < 1920 ∧ Q (.str (toString i)) S
  | [.str z] => Q (.str z) S
  | _ => False
theorem cw_str : CallW X (.type "str") strCP := by
  intro pins s σ H vs us Q I rv ⟨F, S, xs, P, hd, rx, q, le⟩
  unfold strCP at q
  split at q
  · cases rx with
    | cons r1 r2 =>
      cases r2
      cases r1
      exact call_str_int pins s σ H _ us Q I rv ⟨_, rfl, q.1, le _ S q.2 F H _ (Same.refl F) hd (.str _)⟩
  · cases rx with
    | cons r1 r2 =>
      cases r2
      cases r1
      exact SkE.call_str_str pins s σ H _ us Q I rv ⟨_, rfl, le _ S q F H _ (Same.refl F) hd (.str _)⟩
  · exact q.elim
end
end L2.Pv

/-! P18: [::-1] of tuples and texts; == () -/
namespace L2.Pv
open PySem PySem.Spec PyProof.Rows L2
variable [TbC]
theorem filterMap_all {α β : Type} {f : α → Option β} {g : α → β} : ∀ {l : List α}, (∀ m ∈ l, f m = some (g m)) → l.filterMap f = l.map g
  | [], _ => rfl
  | m :: l, h => by rw [List.filterMap_cons_some (h m List.mem_cons_self), filterMap_all fun k hk => h k (List.mem_cons_of_mem _ hk), List.map_cons]
theorem rev_pick (xs : Array Value) : ((List.range xs.size).filterMap fun (m : Nat) => xs[(((xs.size : Nat) : Int) - 1 + (m : Int) * (-1)).toNat]?) = xs.toList.reverse := by
  have step : ∀ m ∈ List.range xs.size, xs[(((xs.size : Nat) : Int) - 1 + (m : Int) * (-1)).toNat]? = some (xs.toList.reverse[m]?.getD .none) := fun m hm => by
    have h := List.mem_range.mp hm
    have e : (((xs.size : Nat) : Int) - 1 + (m : Int) * (-1)).toNat = xs.size - 1 - m := by omega
    rw [e, List.getElem?_reverse (by simpa using h)]
    have h2 : xs.size - 1 - m < xs.size := by omega
    simp [h2]
  rw [filterMap_all (g := fun m => xs.toList.reverse[m]?.getD .none) step]
  refine List.ext_getElem (by simp) fun i h1 h2 => ?_
  rw [List.getElem_map, List.getElem_range, List.getElem?_eq_getElem h2]
  rfl
section
variable {prog : Program} {w : World} {A : Around} {E : Value → Shared → Prop} {s : Shared}
theorem applied_rev {sl : Addr} {n : Nat} {tk : Tok} {Q : Int × Int × Nat → Shared → Prop} (hs : s.heap.IsSliceOf sl .none .none (.int (-1) tk)) (h : Q (((n : Nat) : Int) - 1, -1, n) s) : wpAny (model prog w) A (Builtin.Slice.sliceApplied (.ref sl) (pure (n : Int))) Q E s := by
  obtain ⟨o, ho, _, hd⟩ := hs
  have places : Builtin.Slice.slicePlaces (((n : Nat) : Int) - 1) (-1) (-1) = n := by
    show (if (-1 : Int) > 0 then _ else (if ((n : Nat) : Int) - 1 > -1 then (((n : Nat) : Int) - 1 - -1 - 1) / (- -1) + 1 else 0) : Int).toNat = n
    rw [if_neg (by decide)]
    split
    · rw [show (- -1 : Int) = 1 by decide, Int.ediv_one]; omega
    · omega
  unfold Builtin.Slice.sliceApplied Builtin.Slice.sliceFields
  exact wpAny_bind (wpAny_bind (wpAny_field ho hd (x := .none) rfl (wpAny_bind (wpAny_field ho hd (x := .none) rfl (wpAny_bind (wpAny_field ho hd (x := .int (-1) tk) rfl (wpAny_pure (wpAny_bind (slicePart_int (by
    show wpAny _ _ (if ((-1 : Int) == 0) = true then _ else _) _ _ s
    rw [if_neg (show ¬ ((-1 : Int) == 0) = true by decide)]
    refine wpAny_bind (slicePart_none (wpAny_bind (slicePart_none (wpAny_bind (wpAny_pure ?_)))))
    show wpAny _ _ (pure (((n : Nat) : Int) - 1, (-1 : Int), Builtin.Slice.slicePlaces (((n : Nat) : Int) - 1) (-1) (-1))) _ _ s
    exact wpAny_pure (by rw [places]; exact h)))))))))))
theorem getItem_tupRev {t sl : Addr} {items : Array Value} {tk : Tok} {Q : Value → Shared → Prop} (ht : IsTup s.heap t items) (hs : s.heap.IsSliceOf sl .none .none (.int (-1) tk)) (hz : items.size ≤ sizeLine)
    (h : Q (.ref s.heap.objs.size) { s with heap := s.heap.push { cls := .type "tuple", data := .seq items.toList.reverse.toArray } }) : wpAny (model prog w) A (getItem (.ref t) (.ref sl)) Q E s := by
  have fits : sizeOk (.seq items.toList.reverse.toArray) := by
    show items.toList.reverse.toArray.size ≤ sizeLine
    simpa using hz
  obtain ⟨o, ho, hc, _⟩ := id hs
  have slT : s.TypeIs (.ref sl) "slice" := ⟨o, ho, hc⟩
  unfold getItem
  try with_reducible refine wpAny_holding ?_
  first | refine wpAny_bind (wpAny_pure ?_) | skip
  refine wpAny_bind (wpAny_sequenceKey ht.typeIs (by decide) (wpAny_bind (wpAny_callSpecial?_slot (name := Str.ofString "__getitem__") ht.typeIs slot_tuple_getitem (wpAny_call_entry slot_tuple_getitem ht.typeIs entry_tuple_getitem ?_ (args_tuple_getitem _ _)))))
  show wpAny _ _ (Builtin.Tuple.tupleItemsOf (.ref t) >>= _) _ _ s
  refine wpAny_bind (tupleItemsOf_ ht (wpAny_bind (wpAny_typeOf slT ?_)))
  rw [if_pos (by decide)]
  refine wpAny_bind (applied_rev hs ?_)
  show wpAny _ _ (if (((items.size : Nat) : Int) - 1 == 0 && (-1 : Int) == 1 && items.size == items.size) = true then _ else _) _ _ s
  rw [if_neg (by rw [show ((-1 : Int) == 1) = false by decide, Bool.and_false, Bool.false_and]; decide), rev_pick]
  first
    | exact wpAny_bind (m := Builtin.Tuple.tupleExact _) (wpAny_newObj_type (wpAny_pure ⟨_, rfl, wpAny_pure h⟩) fits)
    | exact wpAny_bind (m := Builtin.Tuple.tupleExact _) (wpAny_newObj_type (wpAny_bind (wpAny_pure (wpAny_pure ⟨_, rfl, wpAny_pure h⟩))) fits)
    | exact wpAny_bind (wpAny_bind (m := Builtin.Tuple.tupleExact _) (wpAny_newObj_type (wpAny_pure (wpAny_pure ⟨_, rfl, wpAny_pure h⟩)) fits))
    | exact wpAny_bind (wpAny_bind (m := Builtin.Tuple.tupleExact _) (wpAny_newObj_type (wpAny_pure ⟨_, rfl, wpAny_pure h⟩) fits))
end
def revS (z : Str) : Str := Txt.sliceBy z none none (-1, 0)
def tRevA (K : PySem.W.Frag) (te : TE) : TE := fun σ H Q => te σ H fun x H1 => (∃ a xs, x = .ref a ∧ SqL K H1 a xs ∧ ∀ p, H1 p = none → Q (.ref p) (upd H1 p (.lst xs.reverse))) ∨
  (∃ a xs, x = .ref a ∧ SqT K H1 a xs ∧ ∀ p, H1 p = none → Q (.ref p) (upd H1 p (.tup xs.reverse))) ∨ (∃ z, x = .str z ∧ z.length ≤ sizeLine ∧ Q (.str (revS z)) H1)
theorem isPart_none {v : Value} (p : IsPart v none) : v = .none := by cases p; rfl
theorem isPart_some {v : Value} {i : Int} (p : IsPart v (some i)) : ∃ t, v = .int i t := by cases p; exact ⟨_, rfl⟩
section
variable {X : Cx} {F0 : Hp} {pos : Pos}
theorem pe_revA {e : Expr} {te : TE} {k : Nat} {p1 p2 p3 : Pos} (he : PE X e te) : PE X (.Subscript e (.Slice none none (some (.UnaryOp .USub (.Constant (.int 1) k p1) p2)) p3) pos) (tRevA X.K te) :=
  ⟨fun pins s σ H Q I h => Subscript_ (thn (he.run pins s σ H _ I h) fun v s1 ⟨x, H1, I1, r1, q1⟩ => by
    have minus : PO X (some (.UnaryOp .USub (.Constant (.int 1) k p1) p2)) (tPart (tUn (rU fun i => .int (-i)) (tC (.int 1)))) := po_some (pe_un un_neg pe_int)
    refine wpAny_Slice (thn (po_none.run pins s1 σ H1 (fun o H2 => o = none ∧ H2 = H1) I1 ⟨rfl, rfl⟩) fun vl s2 ⟨l, H2, I2, pl, el, e2⟩ => thn (po_none.run pins s2 σ H2 (fun o H3 => o = none ∧ H3 = H2) I2 ⟨rfl, rfl⟩) fun vu s3 ⟨u, H3, I3, pu, eu, e3⟩ =>
      thn (minus.run pins s3 σ H3 (fun o H4 => o = some (-1) ∧ H4 = H3) I3 ⟨1, rfl, -1, rfl, rfl, rfl⟩) fun vs s4 ⟨o, H4, I4, ps, eo, e4⟩ => ?_)
    subst el e2 eu e3 eo e4
    obtain rfl := isPart_none pl
    obtain rfl := isPart_none pu
    obtain ⟨tk, rfl⟩ := isPart_some ps
    have I5 : Inv X pins σ H4 { s4 with heap := s4.heap.push { cls := .type "slice", data := .fields #[.none, .none, .int (-1) tk] } } := I4.kept (t' := s4.toks) fun b ob q => Heap.get?_push_of_some _ q
    show wpAny (model X.prog X.w) X.A (subscriptTail e (.Slice none none (some (.UnaryOp .USub (.Constant (.int 1) k p1) p2)) p3) v (.ref s4.heap.objs.size)) (EP X pins σ Q) X.xe _
    rcases q1 with ⟨a, xs, rfl, hx, q⟩ | ⟨a, xs, rfl, hx, q⟩ | ⟨z, rfl, hz, q⟩
    · cases r1
      obtain ⟨its, r, ht, hz⟩ := I5.list hx
      have hlen := r.length
      refine tail_any (ops := [.ref a, .ref s4.heap.objs.size]) ht.isList.typeIs (PySem.slot_list_getitem.lookup) ?_ (by with_unfolding_all rfl)
      refine wpAny_getItem_list_slice ht.isList (Heap.IsSliceOf.new _ _ _ _) pl pu ps (by decide) ?_ (by rw [List.size_toArray]; omega)
      rw [PySem.W.krv_pick]
      exact ⟨.ref _, _, I5.laid (t' := s4.toks) (o := .lst xs.reverse) (fun b ob q => Heap.get?_push_of_some _ q) (Nat.le_refl _) ⟨by rw [List.length_reverse]; exact hz, _, 0, r.reverse, Heap.get?_push_size _ rfl⟩, rfl, q _ (I5.hok.fresh (Nat.le_refl _))⟩
    · cases r1
      obtain ⟨its, r, ht, hz⟩ := I5.tuple hx
      have hlen := r.length
      refine tail_any (ops := [.ref a, .ref s4.heap.objs.size]) ht.typeIs slot_tuple_getitem.lookup ?_ (by with_unfolding_all rfl)
      refine getItem_tupRev ht (Heap.IsSliceOf.new _ _ _ _) (by rw [List.size_toArray]; omega) ?_
      rw [show its.toArray.toList.reverse.toArray = its.reverse.toArray by simp]
      exact ⟨.ref _, _, I5.laid (t' := s4.toks) (o := .tup xs.reverse) (fun b ob q => Heap.get?_push_of_some _ q) (Nat.le_refl _) ⟨by rw [List.length_reverse]; exact hz, _, r.reverse, IsTup.new _ _⟩, rfl, q _ (I5.hok.fresh (Nat.le_refl _))⟩
    · obtain ⟨t, rfl⟩ := r1
      refine tail_any (ops := [.str z t, .ref s4.heap.objs.size]) (typeIs_str _ _ _) PySem.F.slot_str_getitem.lookup ?_ (by with_unfolding_all rfl)
      exact wpAny_getItem_str_slice (l := none) (u := none) (st := some (-1, tk)) ⟨_, Heap.get?_push_size _ rfl, rfl, rfl⟩ rfl (post_val_or_str ⟨Nat.le_trans (Txt.sliceBy_le z none none (-1, tk) (show (-1 : Int) ≠ 0 by decide)) hz, fun t' c => ⟨.str (revS z), _, I5.kept (t' := c) fun _ _ q => q, ⟨t', rfl⟩, q⟩⟩))⟩
def revP (x : PV) (S : Store) (Q : PQ) : Prop := match x with
  | .str z => z.length ≤ sizeLine ∧ Q (.str (revS z)) S
  | .tup xs => Q (.tup xs.reverse) S
  | x => match seqL S x with
    | some xs => Q (.lst xs.reverse) S
    | none => False
def wRevA (te : PTE) : PTE := fun ρ S Q => te ρ S fun x S1 => revP x S1 Q
theorem we_revA {e : Expr} {te : PTE} {k : Nat} {p1 p2 p3 : Pos} (he : WE X F0 e te) : WE X F0 (.Subscript e (.Slice none none (some (.UnaryOp .USub (.Constant (.int 1) k p1) p2)) p3) pos) (wRevA te) :=
  ⟨peImp (pe_revA he.pe) fun σ H Q ⟨F, ρ, S, P, at_, h, le⟩ => ⟨F, ρ, S, _, at_, h, fun x S1 h1 F1 H1 v e1 hd1 r1 => by
    unfold revP at h1
    split at h1
    · cases r1
      exact .inr (.inr ⟨_, rfl, h1.1, le _ S1 h1.2 F1 H1 _ e1 hd1 (.str _)⟩)
    · cases r1 with
      | tup a b =>
        refine .inr (.inl ⟨_, _, rfl, hd1.sub.sqT a, fun p np => ?_⟩)
        obtain ⟨e2, hd2, r2⟩ := new_tup (X := X) hd1 np b.rev
        exact le _ S1 h1 _ _ _ (e1.trans e2) hd2 r2
    · split at h1
      · rename_i xs hx
        obtain ⟨a, ws, e3, h3, h4⟩ := seqL_rd hd1 r1 hx
        refine .inl ⟨a, ws, e3, .inl h3, fun p np => ?_⟩
        obtain ⟨e2, hd2, r2⟩ := new_lst (X := X) hd1 np h4.rev
        exact le _ S1 h1 _ _ _ (e1.trans e2) hd2 r2
      · exact h1.elim⟩⟩
theorem revP_str {z : Str} {S : Store} {Q : PQ} : revP (.str z) S Q = (z.length ≤ sizeLine ∧ Q (.str (revS z)) S) := id rfl
theorem revP_tup {xs : List PV} {S : Store} {Q : PQ} : revP (.tup xs) S Q = Q (.tup xs.reverse) S := id rfl
theorem revP_lst {xs : List PV} {S : Store} {Q : PQ} : revP (.lst xs) S Q = Q (.lst xs.reverse) S := id rfl
theorem okS.rev {n : Nat} {z : Str} (h : okS n z) : okS n (revS z) := by
  refine ⟨Nat.le_trans (Txt.sliceBy_le z none none (-1, 0) (by decide)) h.1, fun c hc => ?_⟩
  unfold revS Txt.sliceBy at hc
  split at hc
  · exact h.2 c hc
  · rw [List.toList_toArray] at hc
    obtain ⟨i, _, e⟩ := List.mem_filterMap.mp hc
    obtain ⟨q, r⟩ := Array.getElem?_eq_some_iff.mp e
    exact h.2 c (by rw [← r]; exact Array.getElem_mem_toList q)
end
end L2.Pv

/-! P19: == () -/
namespace L2.Pv
open PySem PySem.Spec PyProof.Rows L2
variable [TbC]
def eqNilT (g : Bool → Bool) : PR2 := fun x y S Q => match x, y with
  | .tup xs, .tup [] => Q (.bl (g xs.isEmpty)) S
  | _, _ => False
theorem tup_at {X : Cx} {pins : List (Addr × Obj)} {σ : L2.St} {H F : Hp} {s : Shared} {a : Addr} {vs : List V} (I : Inv X pins σ H s) (hs : Sub F H) (h : TpAt X.K F a vs) : ∃ its : List Value, vs.length = its.length ∧ s.heap.IsTuple a its.toArray := by
  obtain ⟨its, r, ht, _⟩ := I.tuple (hs.sqT h)
  exact ⟨its, r.length, ht⟩
theorem ow_eqNilT {X : Cx} (hu : X.A.units + 64 < cLine) : OpW X (compareOp .Eq) (eqNilT fun b => b) := by
  intro pins s σ H v u vv uu Q I rv ru ⟨F, S, x, y, P, hd, rx, ry, q, le⟩
  unfold eqNilT at q
  split at q
  · rename_i xs
    cases rx with
    | tup a1 a2 =>
      cases ry with
      | tup b1 b2 =>
        cases b2
        cases rv
        cases ru
        obtain ⟨its, l1, t1⟩ := tup_at I hd.sub a1
        obtain ⟨its2, l2, t2⟩ := tup_at I hd.sub b1
        obtain rfl : its2 = [] := List.eq_nil_of_length_eq_zero l2.symm
        refine PySem.SeqAt.eq_tupleAt (e := fun _ => true) t1 t2 (by omega) (fun j _ h2 => absurd h2 (by simp)) ⟨.bl xs.isEmpty, H, I, ?_, le _ S q F H _ (Same.refl F) hd (.bl _)⟩
        have : xs.isEmpty = (its.length == 0) := by rw [← l1, a2.len]; cases xs <;> rfl
        simp [RelV, this]
  · exact q.elim
theorem ow_neNilT {X : Cx} (hu : X.A.units + 64 < cLine) : OpW X (compareOp .NotEq) (eqNilT fun b => !b) := by
  intro pins s σ H v u vv uu Q I rv ru ⟨F, S, x, y, P, hd, rx, ry, q, le⟩
  unfold eqNilT at q
  split at q
  · rename_i xs
    cases rx with
    | tup a1 a2 =>
      cases ry with
      | tup b1 b2 =>
        cases b2
        cases rv
        cases ru
        obtain ⟨its, l1, t1⟩ := tup_at I hd.sub a1
        obtain ⟨its2, l2, t2⟩ := tup_at I hd.sub b1
        obtain rfl : its2 = [] := List.eq_nil_of_length_eq_zero l2.symm
        refine PySem.SeqAt.RcNeAt.tuples (e := fun _ => true) t1 t2 (by omega) (fun j _ h2 => absurd h2 (by simp)) _ _ _ _ ⟨.bl !xs.isEmpty, H, I, ?_, le _ S q F H _ (Same.refl F) hd (.bl _)⟩
        have : xs.isEmpty = (its.length == 0) := by rw [← l1, a2.len]; cases xs <;> rfl
        simp [RelV, this]
  · exact q.elim
theorem eqNilT_tup {g : Bool → Bool} {xs : List PV} {S : Store} {Q : PQ} : eqNilT g (.tup xs) (.tup []) S Q = Q (.bl (g xs.isEmpty)) S := id rfl
end L2.Pv

/-! P20: bool among ints; values of any depth. -/
namespace L2.Pv
open PySem PySem.Spec PyProof.Rows L2
variable [TbC]
def addBP : PR2 := fun x y S Q => match x, y with
  | .bl a, .int j => Q (.int ((if a = true then 1 else 0) + j)) S
  | x, y => addP x y S Q
def subBP : PR2 := fun x y S Q => match x, y with
  | .bl a, .int j => Q (.int ((if a = true then 1 else 0) - j)) S
  | x, y => subP x y S Q
section
variable {X : Cx}
theorem ow_addB : OpW X (binaryOp .Add) addBP := by
  intro pins s σ H v u vv uu Q I rv ru ⟨F, S, x, y, P, hd, rx, ry, q, le⟩
  unfold addBP at q
  split at q
  · rename_i a j
    cases rx
    cases ry
    obtain rfl : vv = .bool a := rv
    obtain ⟨t, rfl⟩ := ru
    exact IntBool.add_bool_int ⟨.int _, H, I.tok _, ⟨_, rfl⟩, le _ S q F H _ (Same.refl F) hd (.int _)⟩
  · exact ow_add pins s σ H v u vv uu Q I rv ru ⟨F, S, _, _, P, hd, rx, ry, q, le⟩
theorem ow_subB : OpW X (binaryOp .Sub) subBP := by
  intro pins s σ H v u vv uu Q I rv ru ⟨F, S, x, y, P, hd, rx, ry, q, le⟩
  unfold subBP at q
  split at q
  · rename_i a j
    cases rx
    cases ry
    obtain rfl : vv = .bool a := rv
    obtain ⟨t, rfl⟩ := ru
    exact IntBool.sub_bool_int ⟨.int _, H, I.tok _, ⟨_, rfl⟩, le _ S q F H _ (Same.refl F) hd (.int _)⟩
  · exact ow_sub pins s σ H v u vv uu Q I rv ru ⟨F, S, _, _, P, hd, rx, ry, q, le⟩
end
section
variable {S : Store} {Q : PQ} {i j : Int} {x y : Str} {xs ys : List PV} {k : Bool}
theorem addBP_bl : addBP (.bl k) (.int j) S Q = Q (.int ((if k = true then 1 else 0) + j)) S := id rfl
theorem addBP_int : addBP (.int i) (.int j) S Q = Q (.int (i + j)) S := id rfl
theorem addBP_str : addBP (.str x) (.str y) S Q = (x.length + y.length ≤ sizeLine ∧ Q (.str (x ++ y)) S) := id rfl
theorem addBP_tup : addBP (.tup xs) (.tup ys) S Q = (xs.length + ys.length ≤ sizeLine ∧ Q (.tup (xs ++ ys)) S) := id rfl
theorem addBP_lst : addBP (.lst xs) (.lst ys) S Q = (xs.length + ys.length ≤ sizeLine ∧ Q (.lst (xs ++ ys)) S) := id rfl
theorem subBP_bl : subBP (.bl k) (.int j) S Q = Q (.int ((if k = true then 1 else 0) - j)) S := id rfl
theorem subBP_int : subBP (.int i) (.int j) S Q = Q (.int (i - j)) S := id rfl
theorem strCP_int : strCP [.int i] S Q = (i.natAbs.log2 < 1920 ∧ Q (.str (toString i)) S) := id rfl
theorem strCP_str : strCP [.str x] S Q = Q (.str x) S := id rfl
end
/-! ### good values: their ints are within B -/
inductive Good (B : Nat) : PV → Prop
  | non : Good B .non
  | bl {k : Bool} : Good B (.bl k)
  | int {i : Int} (h : i.natAbs ≤ B) : Good B (.int i)
  | str {z : Str} (h : ∀ c ∈ z.cps.toList, c < 16 ^ 8) : Good B (.str z)
  | lst {xs : List PV} (h : ∀ x ∈ xs, Good B x) : Good B (.lst xs)
  | tup {xs : List PV} (h : ∀ x ∈ xs, Good B x) : Good B (.tup xs)
  | dic0 : Good B (.dic [])
mutual
def wt : PV → Nat
  | .int _ => 200
  | .str z => z.length
  | .lst xs => wts xs
  | .tup xs => wts xs
  | _ => 0
def wts : List PV → Nat
  | [] => 0
  | x :: xs => wt x + 1 + wts xs
end
mutual
def dp : PV → Nat
  | .lst xs => dps xs + 1
  | .tup xs => dps xs + 1
  | .dic _ => 1
  | _ => 0
def dps : List PV → Nat
  | [] => 0
  | x :: xs => max (dp x) (dps xs)
end
theorem Good.mono {B C : Nat} {x : PV} (h : Good B x) (e : B ≤ C) : Good C x := by
  induction h with
  | non => exact .non
  | bl => exact .bl
  | int h => exact .int (Nat.le_trans h e)
  | str h => exact .str h
  | lst _ ih => exact .lst ih
  | tup _ ih => exact .tup ih
  | dic0 => exact .dic0
theorem wts_app : ∀ xs ys : List PV, wts (xs ++ ys) = wts xs + wts ys
  | [], ys => by rw [List.nil_append]; unfold wts; omega
  | x :: xs, ys => by rw [List.cons_append, wts, wts, wts_app xs ys]; omega
theorem dps_app : ∀ xs ys : List PV, dps (xs ++ ys) = max (dps xs) (dps ys)
  | [], ys => by rw [List.nil_append, dps]; omega
  | x :: xs, ys => by rw [List.cons_append, dps, dps, dps_app xs ys]; omega
theorem wts_len : ∀ xs : List PV, xs.length ≤ wts xs
  | [] => Nat.zero_le _
  | x :: xs => by have := wts_len xs; rw [List.length_cons, wts]; omega
theorem wt_mem : ∀ {xs : List PV} {x : PV}, x ∈ xs → wt x + 1 ≤ wts xs ∧ dp x ≤ dps xs
  | y :: xs, x, h => by
    rw [wts, dps]
    rcases List.mem_cons.mp h with e | h
    · subst e; omega
    · have := wt_mem h; omega
theorem good_sub {xs ys : List PV} {a : Nat} (hx : wts xs ≤ a) (s : ys.Sublist xs) : wts ys ≤ a ∧ dps ys ≤ dps xs := by
  induction s generalizing a with
  | slnil => exact ⟨hx, Nat.le_refl _⟩
  | cons x s ih =>
    rw [wts] at hx
    rw [dps]
    have := ih (a := a) (by omega)
    omega
  | cons_cons x s ih =>
    rw [wts] at hx ⊢
    rw [dps, dps]
    have := ih (a := a - (wt x + 1)) (by omega)
    omega
theorem cut_sub (xs : List PV) (lo hi : Option Int) : (cutP xs lo hi).Sublist xs := (List.take_sublist _ _).trans (List.drop_sublist _ _)
theorem wts_rev (xs : List PV) : wts xs.reverse = wts xs ∧ dps xs.reverse = dps xs := by
  induction xs with
  | nil => exact ⟨rfl, rfl⟩
  | cons x xs ih =>
    rw [List.reverse_cons, wts_app, dps_app, ih.1, ih.2, wts, wts, wts, dps, dps, dps]
    omega
theorem Good.fit {B : Nat} (hB : B < 10 ^ 50) {x : PV} (h : Good B x) : Fit (dp x) (wt x) x := by
  have all : ∀ xs : List PV, (∀ x ∈ xs, Fit (dp x) (wt x) x) → ∃ ds, toRs xs = some ds ∧ PyData.leavesShortAll 60 ds = true ∧ PyData.showableAll ds = true ∧ PyData.depthAll ds ≤ dps xs ∧ PyData.weightAll ds ≤ wts xs := by
    intro xs
    induction xs with
    | nil => intro _; exact ⟨[], rfl, rfl, rfl, Nat.zero_le _, Nat.zero_le _⟩
    | cons x xs ih =>
      intro h
      obtain ⟨d, k1, k2, k3, k4, k5⟩ := h x List.mem_cons_self
      obtain ⟨ds, m1, m2, m3, m4, m5⟩ := ih fun y hy => h y (List.mem_cons_of_mem _ hy)
      refine ⟨d :: ds, by unfold toRs; rw [k1, m1], by simp only [PyData.leavesShortAll, k2, m2, Bool.and_self], by simp only [PyData.showableAll, k3, m3, Bool.and_self], ?_, ?_⟩
      · simp only [PyData.depthAll, dps]; omega
      · simp only [PyData.weightAll, wts]; omega
  induction h with
  | non => exact fit_non
  | bl => exact fit_bl
  | int h => exact fit_int (Nat.lt_of_le_of_lt h hB)
  | str h => exact fit_str ⟨Nat.le_refl _, h⟩
  | lst _ ih =>
    obtain ⟨ds, m1, m2, m3, m4, m5⟩ := all _ ih
    exact ⟨.list ds, by unfold toR; rw [m1], by simpa only [PyData.leavesShort] using m2, by simpa only [PyData.showable] using m3, by simp only [PyData.depth, dp]; omega, by simpa only [PyData.weight, wt] using m5⟩
  | tup _ ih =>
    obtain ⟨ds, m1, m2, m3, m4, m5⟩ := all _ ih
    exact ⟨.tuple ds, by unfold toR; rw [m1], by simpa only [PyData.leavesShort] using m2, by simpa only [PyData.showable] using m3, by simp only [PyData.depth, dp]; omega, by simpa only [PyData.weight, wt] using m5⟩
  | dic0 => exact fit_dic0
theorem Good.fine {B : Nat} (hB : B < 10 ^ 50) {x : PV} (h : Good B x) (h1 : dp x ≤ 64) (h2 : wt x ≤ 200000) : FineR x := (h.fit hB).fine h1 h2
theorem Good.plain {B : Nat} {x : PV} (h : Good B x) : plain x = true := by cases h <;> rfl
/-- what the predicates ask of a value -/
def PlainX (x : PV) : Prop := plain x = true ∧ (∀ z, x = .str z → z.length ≤ 200000) ∧ ∀ i, x = .int i → i.natAbs ≤ 10 ^ 20
theorem PlainX.plain {x : PV} (h : PlainX x) : plain x = true := h.1
theorem PlainX.str {z : Str} (h : PlainX (.str z)) : z.length ≤ 200000 := h.2.1 z rfl
theorem PlainX.int {i : Int} (h : PlainX (.int i)) : i.natAbs ≤ 10 ^ 20 := h.2.2 i rfl
theorem Good.plainX {B : Nat} {x : PV} (h : Good B x) (hB : B ≤ 10 ^ 20) (hw : wt x ≤ 200000) : PlainX x := by
  refine ⟨h.plain, fun z e => ?_, fun i e => ?_⟩
  · subst e; exact hw
  · subst e; cases h with | int h => exact Nat.le_trans h hB
inductive RowX : PV → Prop
  | tup {xs : List PV} (h : ∀ x ∈ xs, PlainX x) : RowX (.tup xs)
  | oth {x : PV} (h : plain x = true) (hn : ∀ xs, x ≠ .tup xs) : RowX x
def isCnt (lo hi : Int) : PV → Bool
  | .int i => decide (lo ≤ i) && decide (i ≤ hi)
  | _ => false
inductive SpCount : PSp
  | mk {x : PV} {lo hi : Int} {S : Store} {Q : PQ} {E : PX → Store → Prop} (h : PlainX x) (q : Q (.bl (isCnt lo hi x)) S) : SpCount [x, .int lo, .int hi] S Q E
theorem cnt_amt (x : PV) : isCnt 0 1000000000 x = isAmt x := by cases x <;> rfl
end L2.Pv

/-! P21: segments. -/
namespace L2.Pv
open PySem PySem.Spec PyProof.Rows L2
variable [TbC]
def lnk : PV → PV → Bool
  | .tup (.int n :: _ :: .str y :: _), .tup (.int m :: .str s :: _) => decide (n < m) && (y == s)
  | _, _ => false
def linked : List PV → Bool
  | a :: b :: r => lnk a b && linked (b :: r)
  | _ => true
def isSeg : PV → Bool
  | .tup [.tup rows, .bl _] => !rows.isEmpty && rows.all isSal && linked rows
  | _ => false
theorem sal_shape {x : PV} (h : isSal x = true) : ∃ (n : Int) (s y : Str) (d e f g k : PV), x = .tup [.int n, .str s, .str y, d, e, f, g, k] := by
  unfold isSal at h
  split at h
  · rename_i a b c d e f g k
    simp only [Bool.and_eq_true] at h
    obtain ⟨⟨⟨⟨⟨⟨⟨⟨h1, _⟩, _⟩, _⟩, h5⟩, h6⟩, _⟩, _⟩, _⟩ := h
    cases a with
    | int n =>
      cases b with
      | str s =>
        cases c with
        | str y => exact ⟨n, s, y, d, e, f, g, k, rfl⟩
        | _ => cases h6
      | _ => cases h5
    | _ => cases h1
  · cases h
theorem boolsOf_f (f : PV → Bool) (xs : List PV) : boolsOf (xs.map fun x => PV.bl (f x)) = some (xs.map f) := by
  induction xs with
  | nil => rfl
  | cons x xs ih => rw [List.map_cons, boolsOf, ih]; rfl
def lnkF : PV → Bool
  | .tup [a, b] => lnk a b
  | _ => false
theorem zip_linked : ∀ rows : List PV, (zipP rows (rows.drop 1)).all lnkF = linked rows
  | [] => rfl
  | [a] => rfl
  | a :: b :: r => by
    have ih := zip_linked (b :: r)
    unfold zipP at ih ⊢
    rw [List.drop_succ_cons, List.drop_zero] at ih ⊢
    rw [List.zip_cons_cons, List.map_cons, List.all_cons, ih]
    rfl
theorem cut_one (xs : List PV) : cutP xs (some 1) none = xs.drop 1 := by
  unfold cutP
  have h1 : HT.sIx xs.length 0 (some 1) = min 1 xs.length := by
    unfold HT.sIx
    simp
  have h2 : HT.sIx xs.length xs.length none = xs.length := rfl
  rw [h1, h2]
  cases xs with
  | nil => rfl
  | cons x xs =>
    have : min 1 (x :: xs).length = 1 := by rw [List.length_cons]; omega
    rw [this]
    refine List.take_of_length_le ?_
    rw [List.length_drop, List.length_cons]
    omega
inductive SegX : PV → Prop
  | tup {xs : List PV} (h : ∀ x ∈ xs, plain x = true) (h2 : ∀ rows, PV.tup rows ∈ xs → (∀ r ∈ rows, RowX r) ∧ rows.length ≤ 200000) : SegX (.tup xs)
  | oth {x : PV} (h : plain x = true) (hn : ∀ xs, x ≠ .tup xs) : SegX x
theorem Good.rowX {B : Nat} {x : PV} (h : Good B x) (hB : B ≤ 10 ^ 20) (hw : wt x ≤ 200000) : RowX x := by
  cases h with
  | @tup xs h =>
    rw [wt] at hw
    refine .tup fun y hy => (h y hy).plainX hB ?_
    have := (wt_mem hy).1
    omega
  | _ => exact .oth rfl fun _ e => nomatch e
theorem Good.segX {B : Nat} {x : PV} (h : Good B x) (hB : B ≤ 10 ^ 20) (hw : wt x ≤ 200000) : SegX x := by
  cases h with
  | @tup xs h =>
    rw [wt] at hw
    refine .tup (fun y hy => (h y hy).plain) fun rows hr => ?_
    have hr2 := (wt_mem hr).1
    rw [wt] at hr2
    have hg := h _ hr
    cases hg with
    | tup hg =>
      refine ⟨fun r hm => (hg r hm).rowX hB ?_, ?_⟩
      · have := (wt_mem hm).1; omega
      · have := wts_len rows; omega
  | _ => exact .oth rfl fun _ e => nomatch e
theorem two_or {xs : List PV} : xs.length ≠ 2 ∨ ∃ a b, xs = [a, b] := by
  match xs with
  | [] => exact .inl (by decide)
  | [a] => exact .inl (by simp)
  | [a, b] => exact .inr ⟨a, b, rfl⟩
  | a :: b :: c :: r => exact .inl (by simp)
theorem not_two {xs : List PV} (h : xs.length ≠ 2) : isSeg (.tup xs) = false := by
  unfold isSeg
  split
  · rename_i e
    cases e
    exact absurd rfl h
  · rfl
theorem zipP_mem {xs ys : List PV} {x : PV} (h : x ∈ zipP xs ys) : ∃ a b, a ∈ xs ∧ b ∈ ys ∧ x = .tup [a, b] := by
  unfold zipP at h
  obtain ⟨⟨a, b⟩, hp, rfl⟩ := List.mem_map.mp h
  obtain ⟨h1, h2⟩ := List.of_mem_zip hp
  exact ⟨a, b, h1, h2, rfl⟩
theorem atI_one {α : Type} (x y : α) (r : List α) : atI (x :: y :: r) 1 = some y := by
  have h : (1 : Int) < ((x :: y :: r).length : Nat) := by rw [List.length_cons, List.length_cons]; omega
  unfold atI ixN
  rw [if_pos (by decide), if_pos h]
  rfl
theorem atI_two {α : Type} (x y z : α) (r : List α) : atI (x :: y :: z :: r) 2 = some z := by
  have h : (2 : Int) < ((x :: y :: z :: r).length : Nat) := by rw [List.length_cons, List.length_cons, List.length_cons]; omega
  unfold atI ixN
  rw [if_pos (by decide), if_pos h]
  rfl
theorem lnk_sal {n m : Int} {s y s2 y2 : Str} {d e f g k d2 e2 f2 g2 k2 : PV} : lnk (.tup [.int n, .str s, .str y, d, e, f, g, k]) (.tup [.int m, .str s2, .str y2, d2, e2, f2, g2, k2]) = (decide (n < m) && (y == s2)) := rfl
end L2.Pv

/-! P22: walking by number; chains of rows. -/
namespace L2.Pv
open PySem PySem.Spec PyProof.Rows L2
variable [TbC]
theorem seg_nb {a b : PV} (h : ∀ k, b ≠ .bl k) : isSeg (.tup [a, b]) = false := by
  unfold isSeg
  split
  · rename_i e
    cases e
    exact absurd rfl (h _)
  · rfl
theorem atI_nat {α : Type} {xs : List α} {i : Nat} {x : α} (h : xs[i]? = some x) : atI xs (i : Int) = some x := by
  have hi : i < xs.length := (List.getElem?_eq_some_iff.mp h).1
  unfold atI ixN
  rw [if_pos (by omega), if_pos (by omega)]
  exact h
theorem rng_at {n : Nat} {done rest : List PV} {x : PV} (h : rngP 0 n = done ++ x :: rest) : x = .int (done.length : Nat) ∧ done.length < n := by
  have hl := congrArg List.length h
  rw [rng_len, List.length_append, List.length_cons] at hl
  have hx : (rngP 0 n)[done.length]? = some x := by rw [h, List.getElem?_append_right (Nat.le_refl _), Nat.sub_self]; rfl
  unfold rngP at hx
  rw [List.getElem?_map, List.getElem?_range (by omega)] at hx
  cases hx
  exact ⟨congrArg PV.int (Int.zero_add _), by omega⟩
theorem linked_of : ∀ {rr : List PV}, (∀ (i : Nat) (a b : PV), rr[i]? = some a → rr[i + 1]? = some b → lnk a b = true) → linked rr = true
  | [], _ => rfl
  | [_], _ => rfl
  | a :: b :: r, h => by
    rw [linked, h 0 a b rfl rfl, Bool.true_and]
    exact linked_of fun i x y hx hy => h (i + 1) x y hx hy
theorem linked_no : ∀ {rr : List PV} {i : Nat} {a b : PV}, rr[i]? = some a → rr[i + 1]? = some b → lnk a b = false → linked rr = false
  | [], _, _, _, h, _, _ => by cases h
  | [_], _, _, _, _, h, _ => by simp at h
  | x :: y :: r, 0, a, b, ha, hb, h => by
    cases ha
    cases hb
    rw [linked, h, Bool.false_and]
  | x :: y :: r, i + 1, a, b, ha, hb, h => by
    rw [linked, linked_no (rr := y :: r) (i := i) ha hb h, Bool.and_false]
end L2.Pv

/-! P23: values bent at any depth. -/
namespace L2.Pv
open PySem PySem.Spec PyProof.Rows L2
variable [TbC]
structure Bent (B D W : Nat) (y : PV) : Prop where
  good : Good (B + 1000000001) y
  dp : dp y ≤ D + 1
  wt : wt y ≤ 2 * W + 300
inductive SpBentR (k : Nat) : PSp
  | mk {p : Addr} {x : PV} {n B : Nat} {S : Store} {Q : PQ} {E : PX → Store → Prop} (e : S p = some (drw p n)) (hx : Good B x) (hB : B ≤ 10 ^ 15) (hd : dp x < k) (hk : k ≤ 40) (hw : wt x ≤ 60000) (hn : n + 2 * dp x < 900000)
      (q : ∀ (y : PV) (m : Nat), Bent B (dp x) (wt x) y → m ≤ n + 2 * dp x + 4 → Q y (put S p (drw p m))) : SpBentR k [.ref p, x] S Q E
theorem ty_plain {x : PV} (h : plain x = true) (S : Store) : ∃ t, tyN S x = some t := by
  cases x <;> first | exact ⟨_, rfl⟩ | cases h
def isTup : PV → Bool
  | .tup _ => true
  | _ => false
theorem digits_ok (n : Nat) : ∀ c ∈ (Str.ofString (toString ((n : Nat) : Int))).cps.toList, c < 16 ^ 8 := fun c hc => by
  have e := TL.tl_num n
  rw [show (Str.ofString (toString ((n : Nat) : Int))).cps.toList = TL.numL n from e] at hc
  obtain ⟨d, _, rfl⟩ := List.mem_map.mp hc
  have h : d.toNat < 0x110000 := by
    have := d.valid
    show d.val.toNat < _
    rcases this with h | h
    · exact Nat.lt_trans h (by decide)
    · exact h.2
  exact Nat.lt_trans h (by decide)
theorem cut_good {B : Nat} {xs : List PV} {lo hi : Option Int} (h : ∀ x ∈ xs, Good B x) : (∀ x ∈ cutP xs lo hi, Good B x) ∧ wts (cutP xs lo hi) ≤ wts xs ∧ dps (cutP xs lo hi) ≤ dps xs := by
  have s := good_sub (Nat.le_refl (wts xs)) (cut_sub xs lo hi)
  exact ⟨fun x hx => h x (mem_cut hx), s.1, s.2⟩
theorem app_good {B : Nat} {xs ys : List PV} (h : ∀ x ∈ xs, Good B x) (k : ∀ x ∈ ys, Good B x) : ∀ x ∈ xs ++ ys, Good B x := fun x hx => (List.mem_append.mp hx).elim (h x) (k x)
theorem bent_tup {B D W : Nat} {xs : List PV} (h : ∀ x ∈ xs, Good B x) (h1 : dps xs ≤ D) (h2 : wts xs ≤ 2 * W + 300) : Bent B D W (.tup xs) :=
  ⟨.tup fun x hx => (h x hx).mono (by omega), by rw [dp]; omega, by rw [wt]; exact h2⟩
theorem bent_lst {B D W : Nat} {xs : List PV} (h : ∀ x ∈ xs, Good B x) (h1 : dps xs ≤ D) (h2 : wts xs ≤ 2 * W + 300) : Bent B D W (.lst xs) :=
  ⟨.lst fun x hx => (h x hx).mono (by omega), by rw [dp]; omega, by rw [wt]; exact h2⟩
theorem bent_atom {B D W : Nat} {y : PV} (h : Good (B + 1000000001) y) (h1 : dp y ≤ 1) (h2 : wt y ≤ 300) : Bent B D W y := ⟨h, by omega, by omega⟩
theorem bent_int {B D W : Nat} {i : Int} (h : i.natAbs ≤ B + 1000000001) : Bent B D W (.int i) := bent_atom (.int h) (by simp [dp]) (by simp [wt])
theorem bent_str {B D W n : Nat} {z : Str} (h : okS n z) (hn : n ≤ 2 * W + 300) : Bent B D W (.str z) := ⟨.str h.2, by simp [dp], by simp only [wt]; exact Nat.le_trans h.1 hn⟩
def oddsR : List PV := [.non, .bl true, .bl false, .int 0, .int 1, .int (-1), .str "a", .str "", .str "ab", .str "zzzzzzzzz", .str "A", .tup [], .lst [], .dic [], .int 1000000000, .int 1000000001]
theorem oddsR_ok {B D W : Nat} : ∀ y ∈ oddsR, Bent B D W y := by
  intro y hy
  simp only [oddsR, List.mem_cons, List.not_mem_nil, or_false] at hy
  rcases hy with rfl | rfl | rfl | rfl | rfl | rfl | rfl | rfl | rfl | rfl | rfl | rfl | rfl | rfl | rfl | rfl
  · exact bent_atom .non (by simp [dp]) (by simp [wt])
  · exact bent_atom .bl (by simp [dp]) (by simp [wt])
  · exact bent_atom .bl (by simp [dp]) (by simp [wt])
  · exact bent_int (by omega)
  · exact bent_int (by omega)
  · exact bent_int (by omega)
  · exact bent_str (n := 9) (.lit (by decide +kernel)) (by omega)
  · exact bent_str (n := 9) (.lit (by decide +kernel)) (by omega)
  · exact bent_str (n := 9) (.lit (by decide +kernel)) (by omega)
  · exact bent_str (n := 9) (.lit (by decide +kernel)) (by omega)
  · exact bent_str (n := 9) (.lit (by decide +kernel)) (by omega)
  · exact bent_tup (fun _ h => nomatch h) (by simp [dps]) (by simp [wts])
  · exact bent_lst (fun _ h => nomatch h) (by simp [dps]) (by simp [wts])
  · exact bent_atom .dic0 (by simp [dp]) (by simp [wt])
  · exact bent_int (by omega)
  · exact bent_int (by omega)
end L2.Pv

/-! P24: parts of tuples. -/
namespace L2.Pv
open PySem PySem.Spec PyProof.Rows L2
variable [TbC]
theorem sIx_nat {n j : Nat} {d : Nat} (h : j ≤ n) : HT.sIx n d (some (j : Int)) = j := by
  show (if (j : Int) < 0 then ((j : Int) + (n : Int)).toNat else min (j : Int).toNat n) = j
  rw [if_neg (by omega)]
  omega
theorem cut_take {xs : List PV} {j : Nat} (h : j ≤ xs.length) : cutP xs none (some (j : Int)) = xs.take j := by
  unfold cutP
  rw [sIx_nat h]
  show (xs.drop 0).take (j - 0) = _
  rw [List.drop_zero, Nat.sub_zero]
theorem cut_drop {xs : List PV} {j : Nat} (h : j ≤ xs.length) : cutP xs (some (j : Int)) none = xs.drop j := by
  unfold cutP
  rw [sIx_nat h]
  show (xs.drop j).take (xs.length - j) = _
  exact List.take_of_length_le (by rw [List.length_drop]; exact Nat.le_refl _)
theorem wts_split {xs : List PV} {j : Nat} {x : PV} (h : xs[j]? = some x) : wts xs = wts (xs.take j) + (wt x + 1) + wts (xs.drop (j + 1)) := by
  have hj := (List.getElem?_eq_some_iff.mp h).1
  have e : xs = xs.take j ++ (x :: xs.drop (j + 1)) := by
    have := List.take_append_drop j xs
    rw [List.drop_eq_getElem_cons hj] at this
    rw [(List.getElem?_eq_some_iff.mp h).2] at this
    exact this.symm
  have k := congrArg wts e
  rw [wts_app, wts] at k
  omega
theorem bent_in {B : Nat} {xs : List PV} {j : Nat} {x y : PV} (h : ∀ x ∈ xs, Good B x) (hj : xs[j]? = some x) (hb : Bent B (dp x) (wt x) y) : Bent B (dp (.tup xs)) (wt (.tup xs)) (.tup (cutP xs none (some (j : Int)) ++ [y] ++ cutP xs (some ((j : Int) + 1)) none)) := by
  have hl := (List.getElem?_eq_some_iff.mp hj).1
  have hx := List.mem_of_getElem? hj
  have m := wt_mem hx
  have e2 : cutP xs (some ((j : Int) + 1)) none = xs.drop (j + 1) := cut_drop (j := j + 1) hl
  rw [cut_take (Nat.le_of_lt hl), e2]
  have w := wts_split hj
  have s1 := good_sub (Nat.le_refl (wts xs)) (List.take_sublist j xs)
  have s2 := good_sub (Nat.le_refl (wts xs)) (List.drop_sublist (j + 1) xs)
  have h1 := hb.dp
  have h2 := hb.wt
  have w1 : wts [y] = wt y + 1 := by simp [wts]
  have d1 : dps [y] = dp y := by simp [dps]
  refine ⟨.tup fun z hz => ?_, ?_, ?_⟩
  · rcases List.mem_append.mp hz with hz | hz
    · rcases List.mem_append.mp hz with hz | hz
      · exact (h z (List.mem_of_mem_take hz)).mono (by omega)
      · rw [List.mem_singleton] at hz; rw [hz]; exact hb.good
    · exact (h z (List.mem_of_mem_drop hz)).mono (by omega)
  · simp only [dp, dps_app, d1]
    omega
  · simp only [wt, wts_app, w1]
    omega
end L2.Pv

/-! P25: a caught exception is kept as a value. -/
namespace L2.Pv
open PySem PySem.Spec PyProof.Rows L2
variable [TbC]
section
variable {X : Cx} {pins : List (Addr × Obj)} {σ : L2.St} {H : Hp} {s : Shared}
theorem exc_ok {P : Program} {w : World} {h : Heap} {a : Addr} {C : Value} {d : Option Addr} {oe : Obj} {vs : Array Value} (he : h.get? a = some oe) (hz : Zc C d oe) (hd : oe.data = .fields vs) : ObjOk P w H h a (ExcAt C d a) :=
  ⟨⟨oe, vs, he, hz, hd⟩, ⟨oe, he⟩, fun _ _ ⟨o, v, e1, e2, e3⟩ k => ⟨o, v, k _ e1, e2, e3⟩⟩
theorem trackExc {a : Addr} {C : Value} {d : Option Addr} {oe : Obj} {vs : Array Value} (I : Inv X pins σ H s) (he : s.heap.get? a = some oe) (hz : Zc C d oe) (hd : oe.data = .fields vs) (na : H a = none) (n0 : X.s_0.heap.get? a = none)
    (nL : a ≠ X.env.locals) (np : ∀ p ∈ X.pn ++ pins, p.1 ≠ a) : Inv X pins σ (upd H a (ExcAt C d a)) s := by
  have ne : ∀ {b : Addr} {o : HO}, H b = some o → b ≠ a := fun {b o} e => ne_of_none e na
  refine ⟨I.ok, I.os, I.bare, ⟨fun b o e n hb hx => I.base.keep b o e n hb hx, fun b o e n hb hx => I.base.slot b o e n hb hx, fun b o e n hx => ?_, fun b o e hx => I.base.there b o e hx, fun b xs e => ?_, fun b o u e => ?_, fun b ps e => ?_⟩, I.loc, I.cell, ?_, fun x c e => ?_, fun p hp => ?_, fun b u e => ?_, I.len⟩
  · have hb : b ≠ a := fun z => by rw [z, n0] at e; cases e
    rw [upd_ne hb]
    exact I.base.free b o e n hx
  · have q := I.base.tups b xs e
    rw [upd_ne (ne q)]
    exact q
  · have q := I.base.frzs b o u e
    rw [upd_ne (ne q)]
    exact q
  · obtain ⟨m, q⟩ := I.base.tbls b ps e
    exact ⟨m, by rw [upd_ne (ne q)]; exact q⟩
  · rw [upd_ne nL.symm]
    exact I.free
  · have hc : c ≠ a := fun z => by
      obtain ⟨v, o, ho, hv⟩ := I.cell x c e
      rw [z, he] at ho
      cases ho
      rw [hd] at hv
      cases hv
    rw [upd_ne hc]
    exact I.freeC x c e
  · obtain ⟨e, n, ne', nf, d'⟩ := I.pin p hp
    exact ⟨e, by rw [upd_ne (np p hp)]; exact n, ne', nf, d'⟩
  · by_cases hb : b = a
    · subst hb
      rw [upd_same] at e
      cases e
      exact exc_ok he hz hd
    · rw [upd_ne hb] at e
      exact (I.hok b u e).stay (fun c v _ q => q) (fun c q => by rw [upd_ne (ne q)]; exact q) fun c xs q => by rw [upd_ne (ne q)]; exact q
end
/-- as wAs; behind the suite the exception is kept -/
def wAsK (K : PySem.W.Frag) (c : Value) (i : Nat) (ts : Addr → Value → Option Addr → TS) (Wout : WX) (D : Ends) : WX := fun cls d σ H =>
  ∃ b, PySem.W.exmOne K cls c = some b ∧ (b = true → i < σ.length → ∀ a, H a = none → ts a cls d { nx := fun σ' H' => H' a = none → D.nx (σ'.set i none) (upd H' a (ExcAt cls d a)), rt := D.rt, bk := fun σ' H' => D.bk (σ'.set i none) H', ct := fun σ' H' => D.ct (σ'.set i none) H' } (σ.set i (some (.ref a))) H) ∧
    (b = false → Wout cls d σ H)
section
variable {X : Cx} {x n : Str} {c : Value} {i : Nat} {body suite : List Stmt} {b₀ : Stmt} {np pos pos' : Pos} {tb : WX → TS} {ts : Addr → Value → Option Addr → TS} {Wout : WX}
theorem ps_try_keep (hex : X.ex = []) (hs : X.stack = X.env :: X.outer) (hf : X.env.frame = some X.env.locals) (hN : X.N.Nodup) (hi : X.N[i]? = some n) (hln : X.env.kindOf n = some .local) (hc : Names X x c) (tk : Takes X Wout)
    (hb : ∀ (W : WX) (pn : List (Addr × Obj)) (xe : Value → Shared → Prop), Takes (X.tr pn xe) W → PassesOwn (model X.prog X.w) X.A X.env xe → PSs (X.tr pn xe) body (tb W))
    (hsu : ∀ (a : Addr) (oe : Obj) (cls : Value) (d : Option Addr) (pn : List (Addr × Obj)), Zc cls d oe → (∃ vs, oe.data = .fields vs) → PSs (X.suite a ((a, oe) :: pn)) (b₀ :: suite) (ts a cls d)) :
    PS X (.Try body [.ExceptHandler (some (.Name x np)) (some n) (b₀ :: suite) pos'] [] [] pos) (fun D σ H => tb (wAsK X.K c i ts Wout D) D σ H) := by
  refine ⟨fun pins s σ H D I h => ?_⟩
  have ok := I.ok
  have hfr : X.A.frames = some (X.env :: X.outer) := by rw [ok.frames, hs]
  have hloc : Loc X.env.scope n := .inl hln
  refine wpAny_Try_except ?_
  refine wpAny_mono ((hb (wAsK X.K c i ts Wout D) (X.pn ++ pins) (fun e s₁ => wpAny (model X.prog X.w) X.A (noteFrame e X.env) (fun _ s₂ => wpAny (model X.prog X.w) X.A (setFlight e none) (fun _ s₃ =>
    wpAny (model X.prog X.w) X.A (handleBy e X.env [.ExceptHandler (some (.Name x np)) (some n) (b₀ :: suite) pos']) (SP X pins D) X.xe s₃) X.xe s₂) X.xe s₁) (fun u s' xx => ?_) PassesOwn.looking).run [] s σ H D (I.toTry _) h) (fun f s1 hsp => ?_) (fun e s1 he => he)
  · -- the catch
    obtain ⟨a, B, sI, pins', σ', H', cls, d, rfl, J', nb, up, sky, na, os, ag, b, hb1, hyes, hno⟩ := xx
    have J : Inv X pins σ' H' sI := J'.ofTry ok
    have sky' : Sky B (X.env :: X.outer) a (Zc cls d) X.env.locals s'.heap := by rw [← hs]; exact sky
    show wpAny (model X.prog X.w) X.A (noteFrame (.ref a) X.env) _ _ _
    refine Sky.land Zc.steady hfr hf sky' fun h3 fl3 up3 => ?_
    have J3 : Inv X pins σ' H' { s' with heap := h3 } := J.landed nb fl3.1 (up.trans up3) os ag
    obtain ⟨oe3, vs3, he3, hz3, hd3⟩ := fl3.there
    have notFr : ∀ {h : Heap} {o : Obj} {vs : Array Value}, h.FunFrames B (X.env :: X.outer) → h.get? a = some o → o.data = .fields vs → a ∉ frs (X.env :: X.outer) := fun {h o vs} ff e dd hm => by
      obtain ⟨_, o', e', hnf⟩ := ff.mem hm
      rw [e] at e'; cases e'
      exact hnf _ dd
    have nfr := notFr fl3.2.2.1 he3 hd3
    have nI : sI.heap.get? a = none := by
      cases z : sI.heap.get? a with
      | none => rfl
      | some o =>
        have q := nb a o z (by rw [hs]; exact nfr)
        rw [fl3.2.1] at q
        cases q
    have n0 : X.s_0.heap.get? a = none := by
      cases z : X.s_0.heap.get? a with
      | none => rfl
      | some o =>
        obtain ⟨o', q⟩ := J.base.there a o z (by rw [hex]; exact fun y => nomatch y)
        rw [nI] at q
        cases q
    have npn : ∀ p ∈ X.pn ++ pins, p.1 ≠ a := fun p hp z => by
      have q := (J.pin p hp).1
      rw [z, nI] at q
      cases q
    have nL : a ≠ X.env.locals := fun z => nfr (List.mem_filterMap.mpr ⟨X.env, List.mem_cons_self, by rw [hf, z]⟩)
    have nF : a ∉ X.fs := fun hm => by
      obtain ⟨e, he, q⟩ := List.mem_filterMap.mp hm
      exact nfr (List.mem_filterMap.mpr ⟨e, List.mem_cons_of_mem _ he, q⟩)
    have S3 := J3.suite he3 hd3 na nL nF
    refine wpAny_handleBy_cons (codeAny_handlers_test ?_) (by intro q; cases q)
    have LT : PySem.W.Looks (model X.prog X.w) h3 (typeOf (.ref a)) cls := fun A Q E s k q => wpAny_typeOf_ref (k _ _ he3) (by rw [hz3.1]; exact q)
    have LM := PySem.W.exm_one (M := model X.prog X.w) (J3.kIn) LT hb1
    have test : ∀ {Q : Value → Shared → Prop} {E : Value → Shared → Prop}, Q c { s' with heap := h3 } → wpAny (model X.prog X.w) (X.A.mark (some (.ref a))) (eval (.Name x np) X.env) Q E { s' with heap := h3 } := fun {Q E} q => by
      obtain ⟨hg, hdbg, hm | ⟨hm, hv, hnn⟩⟩ := hc
      · exact ld_glob (X := X.suite a ((a, oe3) :: (X.pn ++ pins))) S3 hg hm q hdbg
      · exact ld_blt (X := X.suite a ((a, oe3) :: (X.pn ++ pins))) S3 hg hm hv q hnn hdbg
    refine test (LM.here ?_)
    cases b with
    | true =>
      refine codeAny_handlers_suite_as ?_
      refine HandSPX.lands_againZ fl3 fun h4 fl4 up4 => ?_
      have J4 : Inv X pins σ' H' { s' with heap := h4 } := J.landed nb fl4.1 ((up.trans up3).trans up4) os ag
      obtain ⟨oe4, vs4, he4, hz4, hd4⟩ := fl4.there
      have S4 := J4.suite he4 hd4 na nL nF
      refine store_ok (X := X.suite a ((a, oe4) :: (X.pn ++ pins))) (v := .ref a) S4 hN hi hloc rfl (fun s5 S5 => ?_) (.inr hln)
      refine wpAny_mono ((hsu a oe4 cls d (X.pn ++ pins) hz4 ⟨_, hd4⟩).run [] s5 _ H' _ S5 (hyes rfl (by rw [J.len]; exact (List.getElem?_eq_some_iff.mp hi).1) a na)) (fun f s6 hsp => ?_) (fun _ _ z => False.elim z)
      have end_ : ∀ {σ6 : St} {H6 : Hp} {Q : Shared → Prop}, Inv (X.suite a ((a, oe4) :: (X.pn ++ pins))) [] σ6 H6 s6 → (∀ s7, Inv X pins (σ6.set i none) H6 s7 → Q s7) →
          wpAny (model X.prog X.w) X.A (do bindName X.env n .none; unbindBehindTheSuite X.env n pos') (fun _ s7 => Q s7) X.xe s6 := fun {σ6 H6 Q} S6 hq => gone_ok (S6.unsuite ok) hN hi hln hq
      cases f with
      | next =>
        obtain ⟨σ6, H6, S6, q6⟩ := hsp
        obtain ⟨p1, p2, _⟩ := S6.pin (a, oe4) (by rw [List.append_nil]; exact List.mem_cons_self)
        have J6 : Inv X pins σ6 (upd H6 a (ExcAt cls d a)) s6 := trackExc (S6.unsuite ok) p1 hz4 hd4 p2 n0 nL npn
        exact gone_ok J6 hN hi hln fun s7 J7 => ⟨_, _, J7, q6 p2⟩
      | brk =>
        obtain ⟨σ6, H6, S6, q6⟩ := hsp
        exact end_ S6 fun s7 J7 => ⟨_, _, J7, q6⟩
      | cont =>
        obtain ⟨σ6, H6, S6, q6⟩ := hsp
        exact end_ S6 fun s7 J7 => ⟨_, _, J7, q6⟩
      | ret u =>
        obtain ⟨v6, σ6, H6, S6, r6, q6⟩ := hsp
        exact end_ S6 fun s7 J7 => ⟨_, _, _, J7, r6, q6⟩
    | false =>
      show wpAny _ X.A (handleBy (.ref a) X.env []) _ _ _
      refine wpAny_handleBy_nil ?_
      obtain ⟨k1, k2, k3, oe, vs, T, oT, ts', he, hz, hd, h1, hr⟩ := id fl3
      unfold PySem.passOn
      refine wpAny_bind (wpAny_field he hd h1 ?_)
      rw [if_neg (show ¬ ((Value.ref T == Value.none) = true) from by simp)]
      have fin : wpAny (model X.prog X.w) X.A (setFlight (.ref a) X.env.frame) (fun _ s4 => wpAny (model X.prog X.w) X.A (throw (.ref a) : Sem Flow) (SP X pins D) X.xe s4) X.xe { s' with heap := h3 } := by
        rw [hf]
        refine HandSPX.setFlight_upZ fl3 fun h4 hh4 up4 => wpAny_throw (tk _ _ ?_)
        exact ⟨a, B, sI, pins, σ', H', cls, d, rfl, J, nb, (up.trans up3).trans up4, .inr (.inr (by rw [hs]; exact hh4)), na, os, ag, hno rfl⟩
      first
        | exact wpAny_bind (wpAny_pure (wpAny_bind fin))
        | exact wpAny_bind fin
  · cases f with
    | next =>
      obtain ⟨σ', H', J', q⟩ := hsp
      exact wpAny_execs_nil ⟨σ', H', J'.ofTry ok, q⟩
    | brk =>
      obtain ⟨σ', H', J', q⟩ := hsp
      exact ⟨σ', H', J'.ofTry ok, q⟩
    | cont =>
      obtain ⟨σ', H', J', q⟩ := hsp
      exact ⟨σ', H', J'.ofTry ok, q⟩
    | ret u =>
      obtain ⟨v, σ', H', J', r, q⟩ := hsp
      exact ⟨v, σ', H', J'.ofTry ok, r, q⟩
end
/-! ### the keeping, over pure values -/
theorem hold_adopt {K : PySem.W.Frag} {F H : Hp} {S : Store} {d : Addr} {o : HO} (h : Hold K F S H) (e : H d = some o) (n1 : ∀ F r, ¬ RepO K F o r) (n2 : ∀ ps, o ≠ .tbl ps) (n3 : ∀ ob u, o ≠ .frz ob u) : ∃ F', Same F F' ∧ F' d = some o ∧ Hold K F' S H := by
  cases q : F d with
  | some u =>
    refine ⟨F, Same.refl F, ?_, h⟩
    rcases h.sub d u q with z | ⟨_, ob, z⟩
    · rw [e] at z; cases z; exact q
    · rw [e] at z; cases z; exact absurd rfl (n3 _ _)
  | none =>
    refine ⟨upd F d o, same_upd q, upd_same, ?_⟩
    obtain ⟨R, own, hr, ow⟩ := h
    have es := same_upd (o := o) q
    refine ⟨R, own, ⟨hr.tabs, noT_upd hr.noT n2, fun b u z => ?_, fun b u z => ?_, fun b u z => ?_⟩, ow⟩
    · by_cases w : b = d
      · subst w
        rw [upd_same] at z
        cases z
        exact .inl e
      · rw [upd_ne w] at z
        exact hr.sub b u z
    · obtain ⟨f, y, ho, ro⟩ := hr.raw b u z
      have w : b ≠ d := fun w => by
        rw [w, e] at ho
        cases ho
        exact n1 _ _ ro
      exact ⟨by rw [upd_ne w]; exact f, y, ho, ro.mono es⟩
    · obtain ⟨f, ob, y, ho, ro⟩ := hr.lck b u z
      have w : b ≠ d := fun w => by
        rw [w, e] at ho
        cases ho
        exact n3 _ _ rfl
      exact ⟨by rw [upd_ne w]; exact f, ob, y, ho, ro.mono es⟩
theorem hold_xd {K : PySem.W.Frag} {F H : Hp} {S : Store} {d : Addr} {vs : List (Str × V)} (h : Hold K F S H) (e : H d = some (.xd vs)) : ∃ F', Same F F' ∧ F' d = some (.xd vs) ∧ Hold K F' S H :=
  hold_adopt h e (fun F r z => by cases r <;> exact z) (fun _ z => by cases z) (fun _ _ z => by cases z)
theorem repN_of {K : PySem.W.Frag} {F : Hp} : ∀ {vs : List (Str × V)} {xs : List (Str × PV)}, RepF K F vs xs → RepN K F vs xs
  | _, _, .nil => .nil
  | (k, v) :: vs, (k', x) :: xs, .cons h r => by
    obtain ⟨e, q⟩ := h
    have e' : k = k' := e
    subst e'
    exact .cons q (repN_of r)
/-- try: body / except x as n: m = n -/
def wTryK (K : PySem.W.Frag) (c : Value) (i j : Nat) (E : PX → PEnv → Store → Prop) (tb : (PX → PEnv → Store → Prop) → PTS) : PTS := fun P ρ S =>
  tb (fun ex ρ1 S1 => ∃ b, PySem.W.exmOne K ex.C c = some b ∧ (b = true → P.nx (stV (stV ρ1 j (some (.exc ex.C ex.fs))) i none) S1) ∧ (b = false → E ex ρ1 S1)) P ρ S
theorem stV_stV (ρ : PEnv) (i j : Nat) (x : Option PV) {y : PV} (h : i ≠ j) : stV (stV ρ j (some y)) i x = stV (stV ρ i x) j (some y) := by
  induction ρ generalizing i j with
  | nil => rfl
  | cons a r ih =>
    cases i <;> cases j <;> first | exact absurd rfl h | rfl | (simp only [stV]; rw [ih _ _ (fun z => h (by rw [z]))])
theorem ws_tryK {X : Cx} {F0 : Hp} {x n m : Str} {c : Value} {i j : Nat} {body : List Stmt} {np pos pos' p1 p2 p3 : Pos} {tb : (PX → PEnv → Store → Prop) → PTS} {E : PX → PEnv → Store → Prop}
    (hN : X.N.Nodup) (hc : Names X x c) (tk : TakesP X F0 E)
    (hb : ∀ (F1 : Hp) (W : PX → PEnv → Store → Prop) (pn : List (Addr × Obj)) (xe : Value → Shared → Prop), Same F0 F1 → TakesP (X.tr pn xe) F1 W → PassesOwn (model X.prog X.w) X.A X.env xe → WSs (X.tr pn xe) F1 body (tb W))
    (hi : X.N[i]? = some n := by rfl) (hj : X.N[j]? = some m := by rfl) (hij : i ≠ j := by decide) (hln : X.env.kindOf n = some .local := by rfl) (hlm : X.env.scope.names.lookup m = some .local := by rfl) (hex : X.ex = [] := by rfl) (hs : X.stack = X.env :: X.outer := by rfl) (hf : X.env.frame = some X.env.locals := by rfl)
    (hd : (n == ("__debug__" : Str)) = false := by decide) (hcd : (n == ("__classdict__" : Str)) = false := by decide)
    (hsw : ∀ (a : Addr) (pn : List (Addr × Obj)), swapsWith (.Name n p2) (some (.Name m p1)) p3.line (X.suite a pn).env = pure false := by intro _ _; rfl) :
    WS X F0 (.Try body [.ExceptHandler (some (.Name x np)) (some n) [.Assign [.Name m p1] (.Name n p2) p3] pos'] [] [] pos) (wTryK X.K c i j E tb) := by
  refine ⟨psImp (ps_try_keep (tb := fun W D σ H => ∃ (F1 : Hp) (W' : PX → PEnv → Store → Prop), Same F0 F1 ∧ (∀ cls d σ H, lftX X.K F1 W' cls d σ H → W cls d σ H) ∧ lftS X.K F1 (tb W') D σ H) (Wout := lftX X.K F0 E) hex hs hf hN hi hln hc tk
    (fun W pn xe tkW hp => ⟨fun pins s σ H D I ⟨F1, W', e01, imp, h⟩ => (hb F1 W' pn xe e01 (Takes.imp tkW imp) hp).pss.run pins s σ H D I h⟩)
    (fun a oe cls d pn _ _ => pss_one (ps_set (X := X.suite a ((a, oe) :: pn)) hN hj (.inl hlm) (pe_var (X := X.suite a ((a, oe) :: pn)) hi (.inl hln) hd hcd) (hsw _ _) (.inr hlm)))) fun D σ H ⟨F, ρ, S, P, at_, h, le⟩ => ?_⟩
  refine ⟨F, (fun ex ρ1 S1 => ∃ b, PySem.W.exmOne X.K ex.C c = some b ∧ (b = true → P.nx (stV (stV ρ1 j (some (.exc ex.C ex.fs))) i none) S1) ∧ (b = false → E ex ρ1 S1)), at_.base, fun cls d σ' H' ⟨F1, ρ1, S1, ex, a1, rx, b, hb1, hyes, hno⟩ => ?_, F, ρ, S, P, ⟨Same.refl F, at_.hold, at_.env⟩, h, ⟨fun ρ' S' q F' σ' H' e' a' => le.nx ρ' S' q F' σ' H' e' ⟨at_.base.trans e', a'.hold, a'.env⟩, le.rt, fun ρ' S' q F' σ' H' e' a' => le.bk ρ' S' q F' σ' H' e' ⟨at_.base.trans e', a'.hold, a'.env⟩, fun ρ' S' q F' σ' H' e' a' => le.ct ρ' S' q F' σ' H' e' ⟨at_.base.trans e', a'.hold, a'.env⟩⟩⟩
  obtain ⟨rc, rd⟩ := rx
  subst rc
  have eF : Same F F1 := a1.base
  refine ⟨b, hb1, fun hb2 hlen a na => ?_, fun hb2 => ⟨F1, ρ1, S1, ex, ⟨at_.base.trans eF, a1.hold, a1.env⟩, ⟨rfl, rd⟩, hno hb2⟩⟩
  have q := hyes hb2
  refine ⟨.ref a, ?_, fun na' => ?_⟩
  · rw [List.getElem?_set_self hlen]
  · have hd1 := a1.hold.newF (o := ExcAt ex.C d a) na'
    have e1 := same_upd (o := ExcAt ex.C d a) (a1.hold.freeF na')
    have fin : ∀ F2, Same (upd F1 a (ExcAt ex.C d a)) F2 → Hold X.K F2 S1 (upd H' a (ExcAt ex.C d a)) → Rep X.K F2 (.ref a) (.exc ex.C ex.fs) → D.nx ((((σ'.set i (some (.ref a))).set j (some (.ref a)))).set i none) (upd H' a (ExcAt ex.C d a)) := fun F2 e2 hd2 r2 => by
      have e12 := e1.trans e2
      refine le.nx _ S1 q F2 _ _ (eF.trans e12) ⟨at_.base.trans (eF.trans e12), hd2, ?_⟩
      rw [stV_stV _ _ _ _ hij]
      have es : ((σ'.set i (some (V.ref a))).set j (some (V.ref a))).set i none = (σ'.set i none).set j (some (V.ref a)) := by
        rw [List.set_comm _ _ hij, List.set_set, List.set_comm _ _ hij]
      rw [es]
      exact ((a1.env.mono e12).unset i).set j r2
    cases d with
    | none =>
      have e3 : ex.fs = [] := rd
      rw [e3] at fin
      exact fin _ (Same.refl _) hd1 (.exc0 upd_same)
    | some dd =>
      obtain ⟨vs, hx, rf⟩ := rd
      have nd : dd ≠ a := ne_of_none hx na'
      obtain ⟨F2, e2, hF2, hd2⟩ := hold_xd hd1 (d := dd) (vs := vs) (by rw [upd_ne nd]; exact hx)
      exact fin F2 e2 hd2 (.exc (e2 _ _ upd_same) hF2 (repN_of (rf.mono (e1.trans e2))))
end L2.Pv

/-! P26: own exceptions: raised, asked for their class, read. -/
namespace L2.Pv
open PySem PySem.Spec PyProof.Rows L2
/-! ### __init__ of an own exception -/
section
variable {X : Cx} {e : Expr} {es : List Expr} {ta : TA} {p1 p2 pos : Pos} {x : Str} {CM : Addr}
/-- Base.__init__(self, ..), Base an own class that has ValueError's -/
theorem pe_minit {pl : Sem Bool} {mc : Value} (r : ClX.CRead X.K CM mc) (vV : PySem.W.findCls X.K (.ref CM) mc "__init__" = some (.val (.builtin "ValueError.__init__"))) (hm : X.mg x = some (.ref CM)) (hg : Gl X x) (ha : PA X (e :: es) ta)
    (hdb : (x == ("__debug__" : Str)) = false := by decide)
    (hc : eval (.Call (.Attribute (.Name x p1) "__init__" p2) (e :: es) [] pos) X.env = (do
      let ov ← eval (.Name x p1) X.env
      standAt p2.atName
      let (f, first) ← holding [ov] (getMethod ov "__init__" pl)
      callWith pos f first (backTo pos (starEach (e :: es) X.env)) (backToKw pos (keywordEach [] X.env))) := by rfl)
    (he : starEach (e :: es) X.env = (false, eval e X.env) :: starEach es X.env := by rfl) (hpl : (backTo pos (starEach es X.env)).any (·.1) = false := by rfl) :
    PE X (.Call (.Attribute (.Name x p1) "__init__" p2) (e :: es) [] pos) (tVeI X.K ta) := by
  refine ⟨fun pins s σ H Q I h => ?_⟩
  refine PySem.W.methodCall_KW (ld_glob I hg hm ?_ hdb) hc
  refine PySem.W.method_cls I.kIn r.ga (PySem.W.cls_value I.kIn r.rd vV (by decide +kernel) ?_)
  show wpAny _ _ (callWith pos (Value.builtin "ValueError.__init__") [] (backTo pos (starEach (e :: es) X.env)) []) _ _ _
  refine PyProof.Rows.callWith_method1 (thn (ha.run pos pins _ σ H _ (I.tok _) h) fun us s1 ⟨vs, H1, I1, r1, a, C, ws, ev, hl, T, ea, q⟩ => ?_) he hpl
  subst ev
  cases r1 with
  | @cons _ u0 _ ur ra rw' =>
    obtain rfl : u0 = Value.ref a := ra
    have hlen : ur.length ≤ sizeLine := by
      rw [← Paired.length rw', sizeLine_eq]
      omega
    exact oinit_ok T I1 ea hlen fun s' J => ⟨.non, H1, J, rfl, q⟩
end
/-- what the written part says of an own error class whose __init__ keeps its argument as f -/
structure ErrC (K : PySem.W.Frag) (C fI : Addr) (f : Str) : Prop where
  T : OexC K C
  iC : PySem.W.findIn K (.ref C) "__init__" = some (some (.ref fI))
  tI : PySem.W.typeIn K (.ref fI) = some (.type "function")
  no : PySem.W.findIn K (.ref C) f = some none
/-- self.f = value, the first field -/
def spIn (C : Addr) (f : Str) : Sp := fun vs H Q _ => ∃ (a : Addr) (v : V), vs = [.ref a, v] ∧ H a = some (exo a C none) ∧ ∀ dx, H dx = none → dx ≠ a → Q .non (upd (upd H dx (exd dx [(f, v)])) a (exo a C (some dx)))
theorem spIn_len {C : Addr} {f : Str} {ps : List Str} (hp : ps.length = 2 := by rfl) : ∀ vs H Q E, spIn C f vs H Q E → vs.length = ps.length := fun vs H Q E ⟨a, v, e, _⟩ => by rw [e, hp]; rfl
theorem init_reads {X : Cx} {C CM fI : Addr} {f : Str} {z : Str} {mc : Value} {j : Nat} {x : Str} {xs xv : Str} {p1 p2 p3 p4 p5 p6 p7 p8 p9 p10 : Pos} {pl : Sem Bool} (E : ErrC X.K C fI f) (r : ClX.CRead X.K CM mc) (vV : PySem.W.findCls X.K (.ref CM) mc "__init__" = some (.val (.builtin "ValueError.__init__"))) (hm : X.mg x = some (.ref CM)) (hg : Gl X x)
    (hN0 : X.N[0]? = some xs) (hN1 : X.N[1]? = some xv) (v0 : Vis X.env.scope xs) (v1 : Vis X.env.scope xv) (hx : (x == ("__debug__" : Str)) = false) (hxs : (xs == ("__debug__" : Str)) = false) (hxs2 : (xs == ("__classdict__" : Str)) = false) (hxv : (xv == ("__debug__" : Str)) = false) (hxv2 : (xv == ("__classdict__" : Str)) = false)
    (hc : eval (.Call (.Attribute (.Name x p1) "__init__" p2) [.Name xs p3, .Constant (.str z) j p4] [] p5) X.env = (do
      let ov ← eval (.Name x p1) X.env
      standAt p2.atName
      let (f, first) ← holding [ov] (getMethod ov "__init__" pl)
      callWith p5 f first (backTo p5 (starEach [.Name xs p3, .Constant (.str z) j p4] X.env)) (backToKw p5 (keywordEach [] X.env))))
    (hs1 : swapsWith (.Call (.Attribute (.Name x p1) "__init__" p2) [.Name xs p3, .Constant (.str z) j p4] [] p5) none p6.line X.env = pure false)
    (he1 : starEach [.Name xs p3, .Constant (.str z) j p4] X.env = (false, eval (.Name xs p3) X.env) :: starEach [.Constant (.str z) j p4] X.env) (he2 : starEach [.Constant (.str z) j p4] X.env = (false, eval (.Constant (.str z) j p4) X.env) :: starEach [] X.env)
    (hpl : (backTo p5 (starEach [.Constant (.str z) j p4] X.env)).any (·.1) = false)
    (hsw : swapsWith (.Name xv p9) (some (.Attribute (.Name xs p7) f p8)) p10.line X.env = pure false) {H : Hp} {vs : List V} {Q : VK} {EE : XK} (h : spIn C f vs H Q EE) :
    ∃ t, PSs X [.Expr (.Call (.Attribute (.Name x p1) "__init__" p2) [.Name xs p3, .Constant (.str z) j p4] [] p5) p6, .Assign [.Attribute (.Name xs p7) f p8] (.Name xv p9) p10] t ∧ t { nx := fun _ H' => Q .non H', rt := Q } (L2.start X.N vs) H := by
  obtain ⟨a, v, rfl, ea, q⟩ := h
  have s0 : (L2.start X.N [V.ref a, v])[0]? = some (some (.ref a)) := rfl
  have s1 : (L2.start X.N [V.ref a, v])[1]? = some (some v) := rfl
  refine ⟨_, pss_cons (ps_expr (pe_minit (pl := pl) r vV hm hg (pa_cons (pe_var hN0 v0 hxs hxs2) (pa_cons pe_str pa_nil he2) he1) hx hc he1 hpl) hs1) (pss_one (ps_ost (pe_var hN0 v0 hxs hxs2) (pe_var hN1 v1 hxv hxv2) hsw)), ?_⟩
  refine ⟨.ref a, s0, a, C, [.str z], rfl, by simp, E.T, ea, ?_⟩
  exact ⟨v, s1, .ref a, s0, a, C, rfl, E.T, E.no, .inl ⟨ea, q⟩⟩
/-! ### raise -/
variable [TbC]
section
variable {X : Cx} {F0 : Hp} {E : PX → PEnv → Store → Prop} {e : Expr} {te : PTE} {x : Str} {p pos pos' : Pos} {C fI : Addr} {f : Str} {k : Nat} {fd : FuncData} {ps : List Str}
def wRaise1 (C : Addr) (f : Str) (E : PX → PEnv → Store → Prop) (te : PTE) : PTS := fun P ρ S => te ρ S fun v S1 => E ⟨.ref C, [(f, v)]⟩ ρ S1
theorem ws_raise1 (c : ErrC X.K C fI f) (F1 : FnOk X.prog X.w X.K X.mg X.base C8.CX0 k fI fd ps (spIn C f)) (hb : Binds X.K fd ps []) (hcm : X.calm = true) (hr : Room (k + 1) X.A) (tk : TakesP X F0 E) (hm : X.mg x = some (.ref C)) (he : WE X F0 e te) (hg : Gl X x := by rfl)
    (hdb : (x == ("__debug__" : Str)) = false := by decide) (hse : starEach [e] X.env = (false, eval e X.env) :: starEach [] X.env := by rfl) (hpl : (backTo pos (starEach [] X.env)).any (·.1) = false := by rfl) :
    WS X F0 (.Raise (some (.Call (.Name x p) [e] [] pos)) none pos') (wRaise1 C f E te) := by
  refine ⟨psImp (ps_raise hcm tk (pmk_oex c.T c.iC c.tI F1 hr hb .nil (fun _ _ _ _ _ _ _ z => False.elim z) hg hm (pa_cons he.pe pa_nil hse) hdb hse hpl)) fun D σ H ⟨F, ρ, S, P, at_, h, le⟩ => ?_⟩
  refine ⟨F, ρ, S, _, at_, h, fun v S1 h1 F1' H1 vv e1 hd1 r1 => ⟨by simp, fun a na => ?_⟩⟩
  refine ⟨a, vv, rfl, upd_same, fun dx nd nda => ⟨rfl, dx, [(f, vv)], upd_same, by rw [upd_ne nda, upd_same], ?_, ?_⟩⟩
  · rw [upd_ne nda] at nd
    exact nd
  · rw [upd_ne nda] at nd
    have eH : upd (del (upd (upd (upd H1 a (exo a C none)) dx (exd dx [(f, vv)])) a (exo a C (some dx))) a) dx (.xd [(f, vv)]) = upd H1 dx (.xd [(f, vv)]) := by
      funext b
      by_cases hbd : b = dx
      · rw [hbd, upd_same, upd_same]
      · rw [upd_ne hbd, upd_ne hbd]
        by_cases hba : b = a
        · rw [hba, del_same, na]
        · rw [del_ne hba, upd_ne hba, upd_ne hbd, upd_ne hba]
    rw [eH]
    exact ⟨F1', ρ, S1, ⟨.ref C, [(f, v)]⟩, at_.next e1 (hd1.junk nd), ⟨rfl, [(f, vv)], upd_same, .cons ⟨rfl, r1⟩ .nil⟩, h1⟩
/-- X(), X an own exception class without own __init__ -/
theorem pmk_own0 {bmB : List Value} {B newId initId : String} (F : ExcBaseFacts B newId initId bmB) (q : PySem.W.excIn X.K C bmB newId = true) (gC : X.mg x = some (.ref C)) (kC : PySem.W.keepIn X.K (.ref C) = true) (r : Raises X (.ref C)) (hg : Gl X x)
    (hdb : (x == ("__debug__" : Str)) = false := by decide) : PMk X (.Call (.Name x p) [] [] pos) (fun σ H Q => Q (.ref C) none H) := by
  intro pins s σ H Q I h
  refine wpAny_Call_Name_kw (ld_glob I hg gC ?_ hdb)
  refine PySem.W.callWith_K0 I.kIn kC ?_
  show wpAny _ _ (call (.ref C) []) _ _ _
  obtain ⟨bm, N, nm, qn, bs, hdct, sn, sub, ab, col, dd, k0, k1, k2, k3, k5, mN, hC, hN, hni, T⟩ := exc_obj I.kIn q
  refine wpAny_call_exc_subT F T hC hN hni (fun h' e hm => ?_) (by decide)
  exact mk_of I hm r h (I.hok.gone hm.new)
def wRaise0 (C : Addr) (E : PX → PEnv → Store → Prop) : PTS := fun P ρ S => E ⟨.ref C, []⟩ ρ S
theorem ws_raise0 {bmB : List Value} {B newId initId : String} (Fb : ExcBaseFacts B newId initId bmB) (q : PySem.W.excIn X.K C bmB newId = true) (kC : PySem.W.keepIn X.K (.ref C) = true) (r : Raises X (.ref C)) (hcm : X.calm = true) (tk : TakesP X F0 E) (gC : X.mg x = some (.ref C)) (hg : Gl X x := by rfl) (hdb : (x == ("__debug__" : Str)) = false := by decide) :
    WS X F0 (.Raise (some (.Call (.Name x p) [] [] pos)) none pos') (wRaise0 C E) :=
  ⟨psImp (ps_raise hcm tk (pmk_own0 Fb q gC kC r hg hdb)) fun D σ H ⟨F, ρ, S, P, at_, h, le⟩ => ⟨F, ρ, S, ⟨.ref C, []⟩, at_, ⟨rfl, rfl⟩, h⟩⟩
end
/-! ### isinstance of a kept exception -/
end L2.Pv
namespace PySem.W
open PySem PySem.Spec PySem.Calls PyProof.Rows
section
variable {prog : Program} {w : World} {A : Around} {E : Value → Shared → Prop} {s : Shared} {K : Frag} {x D : Addr} {ox : Obj} {od : Option Obj}
theorem pv_findObj {C : Addr} {name : Str} {a g : Value} (hc : (clsIn K C).isSome = true) (ha : findIn K (.ref C) name = some (some a)) (hg : specialIn K a "__get__" = some (some g)) (ht : takesIn K a = some true) : findObj K C od name = some (.bind g a) := by
  obtain ⟨cd, hc⟩ := Option.isSome_iff_exists.mp hc
  unfold findObj
  rw [hc, Option.bind_some, ha, Option.bind_some]
  simp [hg, ht]
theorem pv_classE {Q : Option Value → Shared → Prop} (hga : findIn K (.ref D) "__getattribute__" = some (some (.builtin "BaseException.__getattribute__"))) (hgt : findIn K (.ref D) "__getattr__" = some none) (hsub : subIn K (.ref D) (.type "BaseException") = some true)
    (hdct : hasDictIn K D = true) (ha : findIn K (.ref D) "__class__" = some (some (.builtin "object.__class__")))
    (hn : specialIn K (.builtin "object.__class__") "__get__" = some (some (.builtin "getset_descriptor.__get__"))) (htk : takesIn K (.builtin "object.__class__") = some true) (hm : mroIn K D (.type "object") = some true)
    (X : K.In s.heap) (I : InstAt s.heap x ox D od) (h : Q (some (.ref D)) { s with toks := s.toks + 1 }) : wpAny (model prog w) A (getAttr? (.ref x) "__class__") Q E s := by
  have hf : findObj K D od "__class__" = some (.bind (.builtin "getset_descriptor.__get__") (.builtin "object.__class__")) := pv_findObj (by obtain ⟨cd, hc, _⟩ := any_some hdct; rw [hc]; rfl) ha hn htk
  obtain ⟨hp, g, d, t, os⟩ := s
  have L0 := I.type (M := model prog w)
  have L1 := looks_findIn (M := model prog w) X hga
  have L2 := looks_findIn (M := model prog w) X hgt
  have L3 := looks_find (M := model prog w) X I hf
  have sub : Looks (model prog w) hp (isInstance (.ref x) (.type "BaseException")) true := L0.andThen (looks_subIn X hsub)
  have hx0 : (false && onTheHeap (Value.builtin "BaseException.__getattribute__")) = false := rfl
  have hx2 : (Value.builtin "BaseException.__getattribute__" == Value.builtin "object.__getattribute__") = false := by decide +kernel
  have hx1 : (onTheHeap (Value.ref D) && Value.builtin "BaseException.__getattribute__" == Value.builtin "object.__getattribute__") = false := by rw [hx2]; rfl
  unfold getAttr? getAttrBy? getAttrBy
  refine wpAny_bind (wpAny_mkText (wpAny_bind (wpAny_attempt (wpAny_holding (wpAny_bind (L0.at (wpAny_bind (L1.at ?_))))))))
  show wpAny _ _ (if (onTheHeap (Value.ref D) && Value.builtin "BaseException.__getattribute__" == Value.builtin "object.__getattribute__") = true then _ else _) _ _ _
  rw [hx1, if_neg Bool.false_ne_true]
  unfold getAttrByItsOwn hookBefore
  refine wpAny_bind ?_
  rw [if_pos (show onTheHeap (Value.ref D) = true from rfl)]
  refine L2.at ?_
  refine wpAny_bind (wpAny_attempt (wpAny_holding ?_))
  unfold callGetattribute
  rw [hx0, if_neg Bool.false_ne_true]
  unfold boundAndCalled
  rw [PySem.F.excAttr_ValueError.ga.bind (.ref x)]
  refine wpAny_bind (wpAny_pure ?_)
  show wpAny _ _ (call (.builtin "BaseException.__getattribute__") [.ref x, .str "__class__" t]) _ _ _
  refine wpAny_call (codeAny_call_builtin PySem.F.excAttr_ValueError.ga.plain PySem.F.entry_bexc_ga ?_)
  refine @check_slot (model prog w) _ _ ⟨hp, g, d, t + 1, os⟩ "BaseException.__getattribute__" "BaseException" "__getattribute__" (.ref x) [.str "__class__" t] [] _ (by decide +kernel) (by decide +kernel) sub (PySem.F.args_bexc_ga (.ref x) (.str "__class__" t)) ?_
  unfold Builtin.«object.__getattribute__»
  refine wpAny_bind (wpAny_of_eq (a := ((Value.ref x : Value), [Value.str "__class__" t])) (by first | rfl | (simp only [slotArgs]; rfl)) ?_)
  refine wpAny_bind (wpAny_pure (wpAny_bind (L0.at (wpAny_bind (L3.at ?_)))))
  show wpAny _ _ (holding [Value.builtin "object.__class__"] (call (.builtin "getset_descriptor.__get__") [.builtin "object.__class__", .ref x, .ref D]) >>= ret) _ _ _
  refine wpAny_bind (wpAny_holding (wpAny_call (class_get (s := ⟨hp, g, d, t + 1, os⟩) (ox := ox) (od := od) X I hm ?_)))
  refine wpAny_pure ?_
  show wpAny _ _ (handedOut (.ref D)) _ _ _
  rw [handedOut_of (v := .ref D) rfl]
  first
    | exact wpAny_pure (wpAny_pure h)
    | exact wpAny_pure h
    | exact wpAny_pure (wpAny_bind (wpAny_pure (wpAny_pure h)))
theorem pv_kitx (C : L2.ExcC K D) : KitX K (.ref x) (.ref D) (fun h => InstAt h x ox D od) where
  ty := fun _ _ _ I => I.type
  it := fun _ _ X _ => by
    obtain ⟨cdD, hcD, _⟩ := any_some C.hd
    unfold clsIn at hcD
    split at hcD
    · rename_i c' d' cd' sl' ho
      intro A' Q' E' s' k q
      unfold isType loadHead
      exact wpAny_bind (wpAny_loadPart (k _ _ (X _ _ ho)) (wpAny_pure q))
    · cases hcD
  ne := fun h tp dd its n sl X htp => by
    obtain ⟨cdD, hcD, _⟩ := any_some C.hd
    refine Bool.eq_false_iff.mpr fun q => ?_
    have e : D = tp := Value.ref.inj (beq_iff_eq.mp q)
    subst e
    unfold clsIn at hcD
    split at hcD
    · rename_i c' d' cd' sl' ho
      have z := (X _ _ ho).symm.trans htp
      cases z
    · cases hcD
  ca := fun X I k => pv_classE C.hg C.hk C.hs C.hd C.ha C.hn C.ht C.hm X I k
end
end PySem.W
namespace L2.Pv
open PySem PySem.Spec PyProof.Rows L2
variable [TbC]
def clsOf : PV → Option Value
  | .ty n => some (.type n)
  | .ref a => some (.ref a)
  | _ => none
def clsAll : List PV → Option (List Value)
  | [] => some []
  | x :: r => match clsOf x, clsAll r with
    | some u, some us => some (u :: us)
    | _, _ => none
theorem clsOf_rep {K : PySem.W.Frag} {F : Hp} {v : V} {x : PV} {u : Value} (r : Rep K F v x) (h : clsOf x = some u) : ClsV v u := by
  cases r <;> cases h
  · exact .ty _
  · exact .own _
theorem clsAll_rep {K : PySem.W.Frag} {F : Hp} : ∀ {vs : List V} {xs : List PV} {us : List Value}, Reps K F vs xs → clsAll xs = some us → Paired ClsV vs us
  | _, _, _, .nil, h => by cases h; exact .nil
  | _, _, _, .cons a r, h => by
    unfold clsAll at h
    split at h
    · rename_i e1 e2
      cases h
      exact .cons (clsOf_rep a e1) (clsAll_rep r e2)
    · cases h
def tyE (S : Store) : PV → Option Value
  | .exc C _ => some C
  | x => (tyN S x).map Value.type
/-- what isinstance asks of the class of a kept exception -/
def okE (K : PySem.W.Frag) : PV → Prop
  | .exc C _ => ∃ D, C = .ref D ∧ ExcC K D
  | _ => True
def isinE (K : PySem.W.Frag) : PRs := fun xs S Q => match xs with
  | [x, .tup ys] => okE K x ∧ ∃ t us b, tyE S x = some t ∧ clsAll ys = some us ∧ PySem.W.kitAny K t us = some b ∧ Q (.bl b) S
  | [x, y] => okE K x ∧ ∃ t u b, tyE S x = some t ∧ clsOf y = some u ∧ PySem.W.kitOne K t u = some b ∧ Q (.bl b) S
  | _ => False
theorem exc_inst {X : Cx} {pins : List (Addr × Obj)} {σ : L2.St} {H : Hp} {s : Shared} {F : Hp} {S : Store} {v : V} {D : Addr} {fs : List (Str × PV)} (I : Inv X pins σ H s) (hd : Hold X.K F S H) (r : Rep X.K F v (.exc (.ref D) fs)) :
    ∃ (a : Addr) (oe : Obj) (od : Option Obj), v = .ref a ∧ PySem.W.InstAt s.heap a oe D od ∧ ∀ f y, fs.lookup f = some y → ∃ (o : Obj) (w : V) (u : Value), od = some o ∧ PySem.W.lookIn f o = some (some u) ∧ RelV w u ∧ Rep X.K F w y := by
  have ob : ∀ {a : Addr} {d : Option Addr}, F a = some (ExcAt (.ref D) d a) → ∃ (oe : Obj) (vs : Array Value), s.heap.get? a = some oe ∧ Zc (.ref D) d oe ∧ oe.data = .fields vs := fun {a d} e => by
    rcases hd.sub a _ e with z | ⟨_, o, z⟩
    · exact (show ObjOk X.prog X.w H s.heap a (.ext _) from I.hok a _ z).1
    · exact (show s.heap.get? a = some o ∧ ObjOk X.prog X.w H s.heap a (.ext _) from I.hok a _ z).2.1
  cases r with
  | exc0 e =>
    obtain ⟨oe, vs, e1, e2, e3⟩ := ob e
    exact ⟨_, oe, none, rfl, ⟨e1, e2.1, by unfold PySem.W.notCls; rw [e3] <;> rfl, by rw [e2.2]; trivial⟩, fun f y z => nomatch z⟩
  | exc e ed rn =>
    obtain ⟨oe, vs, e1, e2, e3⟩ := ob e
    have hx := I.hok _ _ (show H _ = some (.xd _) from by
      rcases hd.sub _ _ ed with z | ⟨m, _⟩
      · exact z
      · exact m.elim)
    obtain ⟨mA, hns, hr⟩ := hx
    obtain ⟨od, ho, hl⟩ := lookIn_ns hns
    refine ⟨_, oe, some od, rfl, ⟨e1, e2.1, by unfold PySem.W.notCls; rw [e3] <;> rfl, by rw [e2.2]; exact ho⟩, fun f y z => ?_⟩
    have look : ∀ {vs : List (Str × V)} {xs : List (Str × PV)}, RepN X.K F vs xs → xs.lookup f = some y → ∃ w, vs.lookup f = some w ∧ Rep X.K F w y := by
      intro vs
      induction vs with
      | nil => intro xs r z; cases r; cases z
      | cons p vs ih =>
        intro xs r z
        cases r with
        | @cons k v0 x0 _ xs0 a r =>
          by_cases q : f = k
          · subst q
            simp [List.lookup] at z ⊢
            subst z
            exact a
          · have q2 : (f == k) = false := by simpa using q
            simp [List.lookup, q2] at z ⊢
            exact ih r z
    obtain ⟨w, hw, rw'⟩ := look rn z
    obtain ⟨u, hu, ru⟩ := RelO.some_of (v := w) (o := mA f) (by rw [← hw]; exact hr f)
    exact ⟨od, w, u, rfl, by rw [hl, hu], ru, rw'⟩
theorem kit_ofE {X : Cx} {pins : List (Addr × Obj)} {σ : L2.St} {H : Hp} {s : Shared} {F : Hp} {S : Store} {v : V} {x : PV} {u t : Value} (I : Inv X pins σ H s) (hd : Hold X.K F S H) (r : Rep X.K F v x) (rv : RelV v u) (o : okE X.K x) (ht : tyE S x = some t) :
    ∃ P : Heap → Prop, PySem.W.KitX X.K u t P ∧ P s.heap ∧ u ≠ .builtin "__main__.__loader__#opaque" := by
  cases x with
  | exc C fs =>
    cases ht
    obtain ⟨D, rfl, c⟩ := o
    obtain ⟨a, oe, od, rfl, J, _⟩ := exc_inst I hd r
    obtain rfl : u = Value.ref a := rv
    exact ⟨_, PySem.W.pv_kitx c, J, fun z => nomatch z⟩
  | _ =>
    simp only [tyE] at ht
    obtain ⟨n, hn, e⟩ := Option.map_eq_some_iff.mp ht
    subst e
    exact kit_of I rv (tyN_rep hd r hn)
theorem cw_isiE {X : Cx} : CallW X (.builtin "isinstance") (isinE X.K) := by
  intro pins s σ H vs us Q I rv ⟨F, S, xs, P, hd, rx, q, le⟩
  unfold isinE at q
  split at q
  · rename_i x ys
    obtain ⟨o, t, ws, b, e1, e2, e3, q⟩ := q
    cases rx with
    | cons r1 rx =>
      cases rx with
      | cons r2 rx =>
        cases rx
        obtain ⟨u1, u2, rfl, a1, a2⟩ := vals2 rv
        obtain ⟨Pz, Z, p, hx⟩ := kit_ofE I hd r1 a1 o e1
        cases r2 with
        | @tup tp cs _ ht hr =>
          have hc := clsAll_rep hr e2
          cases (show u2 = Value.ref tp from a2)
          have fin : ∀ tk, EP X pins σ Q (.bool b) { s with toks := tk } := fun tk => ⟨.bl b, H, I.tok tk, rfl, le _ S q F H _ (Same.refl F) hd (.bl b)⟩
          rcases hd.sub.tpAt ht with hT | ⟨o2, its, n, z1, z2, z3, z4, z5⟩
          · obtain ⟨_, its, rv, o, h1, h2, n, h3⟩ := (show ObjOk X.prog X.w H s.heap tp (.tup cs) from I.hok tp _ hT)
            have e4 := ClsV.all hc rv
            subst e4
            obtain ⟨oc, od, dt, sl⟩ := o
            simp only at h2 h3
            subst h2 h3
            exact PySem.W.kia_tup Z I.kIn p h1 e3 hx fin
          · have e4 := ClsV.all hc z5
            obtain ⟨oc, od, dt, sl⟩ := o2
            simp only at z2 z3
            subst z2 z3
            have h1 := I.kIn _ _ z1
            rw [show its = its.toList.toArray from by simp] at h1
            rw [e4] at h1
            exact PySem.W.kia_tup Z I.kIn p h1 e3 hx fin
  · rename_i x y hy
    obtain ⟨o, t, w, b, e1, e2, e3, q⟩ := q
    cases rx with
    | cons r1 rx =>
      cases rx with
      | cons r2 rx =>
        cases rx
        obtain ⟨u1, u2, rfl, a1, a2⟩ := vals2 rv
        obtain ⟨Pz, Z, p, hx⟩ := kit_ofE I hd r1 a1 o e1
        have e4 := (clsOf_rep r2 e2).eq a2
        subst e4
        exact PySem.W.kia_one Z I.kIn p e3 hx fun tk => ⟨.bl b, H, I.tok tk, rfl, le _ S q F H _ (Same.refl F) hd (.bl b)⟩
  · exact q.elim
/-! ### an attribute of a kept exception -/
def wXf (K : PySem.W.Frag) (f : Str) (te : PTE) : PTE := fun ρ S Q => te ρ S fun x S1 => match x with
  | .exc (.ref C) fs => ExcC K C ∧ PySem.W.findIn K (.ref C) f = some none ∧ ∃ v, fs.lookup f = some v ∧ Q v S1
  | _ => False
theorem we_xf {X : Cx} {F0 : Hp} {e : Expr} {te : PTE} {f : Str} {pos : Pos} (he : WE X F0 e te) (hb : attributeBase e f X.env (eval e X.env) = eval e X.env := by rfl) : WE X F0 (.Attribute e f pos) (wXf X.K f te) :=
  ⟨⟨fun pins s σ H Q I ⟨F, ρ, S, P, at_, h, le⟩ => attr_of hb (thn (he.pe.run pins s σ H (fun v H' => ∃ F1 S1 C fs y, Same F F1 ∧ Hold X.K F1 S1 H' ∧ Rep X.K F1 v (.exc (.ref C) fs) ∧ ExcC X.K C ∧ PySem.W.findIn X.K (.ref C) f = some none ∧ fs.lookup f = some y ∧ P y S1) I ⟨F, ρ, S, _, at_, h, fun x S1 h1 F1 H1 v e1 hd1 r1 => by
      split at h1
      · obtain ⟨c, no, y, l, q⟩ := h1
        exact ⟨F1, S1, _, _, y, e1, hd1, r1, c, no, l, q⟩
      · exact h1.elim⟩) fun u s1 ⟨v, H1, I1, rv, F1, S1, C, fs, y, e1, hd1, r1, c, no, l, q⟩ => by
    obtain ⟨a, oe, od, rfl, J, hl⟩ := exc_inst I1 hd1 r1
    obtain rfl : u = Value.ref a := rv
    obtain ⟨o, w, u, rfl, lk, ru, rw'⟩ := hl f y l
    exact HandSPX.exc_get I1.kIn J c.hg c.hk c.hs (PySem.W.findObj_own c.hd no rfl lk) (handed_of ru) ⟨w, H1, I1.tok _, ru, le y S1 q F1 H1 w e1 hd1 rw'⟩)⟩⟩
end L2.Pv

/-! P27: a lambda without parameters handed to a def. -/
namespace L2.Pv
open PySem PySem.Spec PyProof.Rows L2
variable [TbC]
/-- what calling the thunk does: the exception's wish, the store, the answer's wish -/
abbrev PTh := (PX → Store → Prop) → Store → PQ → Prop
abbrev PHo := PTh → Store → PQ → (PX → Store → Prop) → Prop
def wThunk (f : Addr) (th : PTh) (W : PX → PEnv → Store → Prop) : PTE := fun ρ S Q => nth ρ 0 = some (.ref f) ∧ th (fun e S1 => W e ρ S1) S Q
/-- a def of one parameter that calls what it gets -/
def HoG (P : Program) (w : World) (K : PySem.W.Frag) (mg : Str → Option Value) (base : Heap) (k : Nat) (qual : Str) (st : Stmt) (N : List Str) (g : Addr) (a : Str) (SP : PHo) : Prop :=
  ∀ (cdv : Value) (A : Around) (outer : List Env) (s : Shared) (H : Hp) (EX : XK) (F0 : Hp) (f : Addr) (th : PTh) (S0 : Store) (Q : PQ) (E : PX → Store → Prop), (A.deeper (envOfC qual (defScope st) s.heap.objs.size g cdv)).guards = some [] → Room k (A.deeper (envOfC qual (defScope st) s.heap.objs.size g cdv)) →
    PassesOwn (model P w) (cxOf (L2.CX P w) P w K mg base N qual (defScope st) g cdv A outer s H EX).A (cxOf (L2.CX P w) P w K mg base N qual (defScope st) g cdv A outer s H EX).env (cxOf (L2.CX P w) P w K mg base N qual (defScope st) g cdv A outer s H EX).xe →
    TakesP (cxOf (L2.CX P w) P w K mg base N qual (defScope st) g cdv A outer s H EX) F0 (fun e _ S => E e S) →
    (∀ (F1 : Hp) (W : PX → PEnv → Store → Prop) (pn : List (Addr × Obj)) (xe : Value → Shared → Prop) (p1 p2 : Pos), Same F0 F1 → TakesP ((cxOf (L2.CX P w) P w K mg base N qual (defScope st) g cdv A outer s H EX).tr pn xe) F1 W →
      WE ((cxOf (L2.CX P w) P w K mg base N qual (defScope st) g cdv A outer s H EX).tr pn xe) F1 (.Call (.Name a p1) [] [] p2) (wThunk f th W)) →
    SP th S0 Q E → ∃ t, WSs (cxOf (L2.CX P w) P w K mg base N qual (defScope st) g cdv A outer s H EX) F0 (defBody st) t ∧ t { nx := fun _ S' => Q .non S', rt := Q } (startP N [.ref f]) S0
def wLamC (SP : PHo) (tb : (PX → PEnv → Store → Prop) → PTE) (E : PX → PEnv → Store → Prop) : PTE := fun ρ S Q => SP (fun W S1 Q1 => tb (fun e _ S2 => W e S2) ρ S1 Q1) S Q fun e S2 => E e ρ S2
theorem hold_ext {K : PySem.W.Frag} {F H H1 : Hp} {S : Store} (h : Hold K F S H) (e : LamX.ExtN H H1) (t : LamX.Tabs TbC.T H1) : Hold K F S H1 := by
  obtain ⟨R, own, hr, ow⟩ := h
  refine ⟨R, own, ⟨t, hr.noT, fun b u z => ?_, fun b u z => ?_, fun b u z => ?_⟩, ow⟩
  · rcases hr.sub b u z with q | ⟨m, ob, q⟩
    · exact .inl (e _ _ q fun ps y => hr.noT b ps (by rw [z, y]))
    · exact .inr ⟨m, ob, e _ _ q fun ps y => nomatch y⟩
  · obtain ⟨f, o, ho, ro⟩ := hr.raw b u z
    exact ⟨f, o, e _ _ ho fun ps y => (by subst y; cases u <;> exact ro.elim), ro⟩
  · obtain ⟨f, ob, o, ho, ro⟩ := hr.lck b u z
    exact ⟨f, ob, o, e _ _ ho (fun ps y => nomatch y), ro⟩
section
variable {X : Cx} {F0 : Hp}
theorem we_lamcall {x a : Str} {g c Pt : Addr} {k : Nat} {st : Stmt} {fd : FuncData} {Ng : List Str} {SP : PHo} {params : Arguments} {body : Expr} {scope : Scope} {lpos p pos : Pos} {tb : (PX → PEnv → Store → Prop) → PTE} {E : PX → PEnv → Store → Prop}
    (Fg : Fun X.K x x st g fd) (Sg : FnScope Ng [a] (defScope st)) (hH : HoG X.prog X.w X.K X.mg X.base (k + 1) x st Ng g a SP) (hGd : X.A.guards = some []) (hr : Room (k + 2) X.A) (hm : X.mg x = some (.ref g)) (hb : Binds X.K fd [a] [])
    (hN0 : Ng[0]? = some a) (hva : Vis (defScope st) a) (TB : LamX.TabB X.base X.mg c Pt) (hcode : X.env.code = .ref c) (hmT : (Pt, X.env.qual ++ "<lambda>") ∈ TbC.T) (hu : ∀ p ∈ TbC.T, p.1 = Pt → p.2 = X.env.qual ++ "<lambda>") (L : LamX.LamS X.env.scope scope)
    (tk : TakesP X F0 E)
    (hbody : ∀ (A : Around) (outer : List Env) (s : Shared) (H : Hp) (EX : XK) (f c' : Addr) (F : Hp) (W : PX → PEnv → Store → Prop), (A.deeper (LamX.lamEnv X scope s.heap.objs.size f c')).guards = some [] → Room k (A.deeper (LamX.lamEnv X scope s.heap.objs.size f c')) → TakesP (LamX.lamCx X A outer s H EX scope f c') F W → WE (LamX.lamCx X A outer s H EX scope f c') F body (tb W))
    (hg : Gl X x := by rfl) (hdef : defaultsOf params X.env = ([], []) := by rfl) (hbind : ∀ (q : Str) (cl : List (Str × Addr)) (pm cv ctv : Value), bindArgs (PySem.W.kla_fn "<lambda>" q params body scope cl pm cv ctv) ⟨[], []⟩ = pure [] := by intro _ _ _ _ _; rfl)
    (hdb : (x == ("__debug__" : Str)) = false := by decide) (hd : (a == ("__debug__" : Str)) = false := by decide) (hcd : (a == ("__classdict__" : Str)) = false := by decide) :
    WE X F0 (.Call (.Name x p) [.Lambda params body scope lpos] [] pos) (wLamC SP tb E) := by
  refine ⟨⟨fun pins s σ H Q I ⟨F, ρ, S, P, at_, h, le⟩ => ?_⟩⟩
  refine wpAny_Call_Name_kw (ld_glob I hg hm ?_ hdb)
  refine PySem.W.callWith_K (h₀ := X.base) I.ok.mod.kin Fg.kp ?_ (by rfl) (by rfl)
  show wpAny _ _ (spliced ((false, eval (.Lambda params body scope lpos) X.env) :: backTo pos (starEach [] X.env))) _ _ s
  obtain ⟨_, _, hr0, _⟩ := id at_.hold
  refine Calls.spliced_cons (LamX.lam_make2 I TB hcode hmT hu hr0.tabs hdef (L.has I.ok) fun f c' pm' ctv H1 s' I1 eN T1 hf hfn hfr hco => ?_)
  refine Calls.spliced_nil ⟨I1.kIn, ?_⟩
  have hd1 := hold_ext at_.hold eN T1
  obtain ⟨F1, e1, hF1, hd2⟩ := hold_adopt hd1 hco (fun F r z => by cases r <;> exact z) (fun _ z => LamX.codeO_ne _ z) (fun _ _ z => by unfold LamX.CodeO at z; cases z)
  obtain ⟨oc, od, kV, doc, pm, an, cdv, ct, osl, rfl, lk, hcd2⟩ := Fg.ex
  have rc : codeAny (model X.prog X.w) X.A (.call (.ref g) ⟨[.ref f], []⟩) (CR (L2.CX X.prog X.w) X.stack X.prog X.w H1 s' Q (fun cls d H' => lftX X.K F0 E cls d σ H')) s' := by
    have kin : X.K.In s'.heap := I1.kIn
    refine Att.call_fn kin I1.nolimit lk hcd2 hr.depth (hb s' [.ref f] I1.kIn rfl) ?_ (fun s1 ic => ?_) Sg.co Sg.gen Sg.kind
    · rw [List.all_eq_true]
      intro y hy
      have m := Sg.par y.1 (List.of_mem_zip hy).1
      rcases m with m | m <;> rw [m] <;> rfl
    · have J := inv_start (CX := L2.CX X.prog X.w) (E := fun cls d H' => lftX X.K F0 E cls d σ H') (vs := [.ref f]) Sg hr.hd I1.env0 rfl (.cons rfl .nil) ic
      have tkg : TakesP (cxOf (L2.CX X.prog X.w) X.prog X.w X.K X.mg X.base Ng x (defScope st) g cdv X.A X.stack s' H1 (fun cls d H' => lftX X.K F0 E cls d σ H')) F1 (fun e _ S => E e ρ S) := by
        refine Takes.imp (takes_of rfl rfl rfl rfl) fun cls d σ2 H2 z => ?_
        obtain ⟨F2, ρ2, S2, e, a2, rX, q⟩ := z
        exact ⟨F2, ρ, S2, e, at_.next (e1.trans a2.base) a2.hold, rX, q⟩
      have thk : ∀ (Fz : Hp) (W : PX → PEnv → Store → Prop) (pn : List (Addr × Obj)) (xe : Value → Shared → Prop) (p1 p2 : Pos), Same F1 Fz → TakesP ((cxOf (L2.CX X.prog X.w) X.prog X.w X.K X.mg X.base Ng x (defScope st) g cdv X.A X.stack s' H1 (fun cls d H' => lftX X.K F0 E cls d σ H')).tr pn xe) Fz W →
          WE ((cxOf (L2.CX X.prog X.w) X.prog X.w X.K X.mg X.base Ng x (defScope st) g cdv X.A X.stack s' H1 (fun cls d H' => lftX X.K F0 E cls d σ H')).tr pn xe) Fz (.Call (.Name a p1) [] [] p2) (wThunk f (fun W S1 Q1 => tb (fun e _ S2 => W e S2) ρ S1 Q1) W) := by
        intro Fz W pn xe p1 p2 e0z tkz
        refine ⟨⟨fun pinsZ sZ σZ HZ QZ IZ ⟨F3, ρZ, S3, P3, at3, ⟨hs, ht⟩, le3⟩ => ?_⟩⟩
        have eF : Same F1 F3 := e0z.trans at3.base
        obtain ⟨v3, hs3, rv3⟩ := at3.env.get hs
        cases rv3
        have hc3 : HZ c' = some (LamX.CodeO c' (X.env.qual ++ "<lambda>")) := by
          rcases at3.hold.sub _ _ (eF _ _ hF1) with z | ⟨m, _⟩
          · exact z
          · exact m.elim
        refine wpAny_Call_Name_kw (thn ((pe_var (pos := p1) (i := 0) hN0 hva hd hcd).run pinsZ sZ σZ HZ (fun v H1 => v = .ref f ∧ H1 = HZ) IZ ⟨.ref f, hs3, rfl, rfl⟩) fun u s4 ⟨v, H4, I4, r4, q4⟩ => ?_)
        obtain ⟨ev, eH⟩ := q4
        subst ev
        rw [eH] at I4
        obtain rfl : u = Value.ref f := r4
        have of1 : s4.heap.get? f = some (PySem.W.kla_obj "<lambda>" (X.env.qual ++ "<lambda>") params body scope (cloFrom X.env.cells scope.names []) pm' c' ctv) := I4.base.keep f _ hf hfn hfr (fun z => nomatch (show f ∈ ([] : List Addr) from z))
        refine PySem.W.callWith_F0 ⟨_, _, _, _, of1⟩ ?_
        have un : Un (frs X.stack) [] H1 HZ s'.heap s4.heap := I4.base
        obtain ⟨⟨oc2, vs2, t2, hoc, hdc, hvc⟩, _, _⟩ := I4.hok c' _ hc3
        have rc : codeAny (model X.prog X.w) (X.A.deeper (envOfC x (defScope st) s'.heap.objs.size g cdv)) (.call (.ref f) ⟨[], []⟩) (CR (L2.CX X.prog X.w) (envOfC x (defScope st) s'.heap.objs.size g cdv :: X.stack) X.prog X.w HZ s4 QZ (fun cls d H' => lftX X.K Fz W cls d σZ H')) s4 := by
          have hr1 : Room (k + 1) (X.A.deeper (envOfC x (defScope st) s'.heap.objs.size g cdv)) := hr.deeper _
          refine PySem.W.kla_callFunE hr1.depth of1 rfl L.co L.gen rfl ⟨c', oc2, vs2, t2, rfl, hoc, hdc, hvc⟩ ?_
          rw [hbind]
          refine wpAny_pure (wpAny_newFunctionEnv (fun y hy => (L.own y hy).2) (fun y hy => absurd hy (by simp)) (fun h₁ hns hsb => ⟨I4.nolimit.fresh _ hsb, ?_⟩) L.kind)
          show codeAny _ _ (.expr body (LamX.lamEnv X scope s4.heap.objs.size f c')) _ _
          have kp : ∀ b o, s4.heap.get? b = some o → h₁.get? b = some o := fun b o e => hsb.extBut b o (Nat.ne_of_lt (Heap.lt_size e)) (Heap.get?_push_of_some _ e)
          have J : Inv (LamX.lamCx X (X.A.deeper (envOfC x (defScope st) s'.heap.objs.size g cdv)) (envOfC x (defScope st) s'.heap.objs.size g cdv :: X.stack) s4 HZ (fun cls d H' => lftX X.K Fz W cls d σZ H') scope f c') [] σ HZ { s4 with heap := h₁, toks := s4.toks + ([] : List (Str × Value)).length } :=
            LamX.lam_start2 I1 L I4.env0 hr1.hd un hns kp
          have tkl : TakesP (LamX.lamCx X (X.A.deeper (envOfC x (defScope st) s'.heap.objs.size g cdv)) (envOfC x (defScope st) s'.heap.objs.size g cdv :: X.stack) s4 HZ (fun cls d H' => lftX X.K Fz W cls d σZ H') scope f c') F3 (fun e _ S2 => W e ρZ S2) := by
            refine Takes.imp (takes_of rfl rfl rfl rfl) fun cls d σ2 H2 z => ?_
            obtain ⟨F4, ρ4, S4, e, a4, rX, q⟩ := z
            exact ⟨F4, ρZ, S4, e, at3.next a4.base a4.hold, rX, q⟩
          refine PySem.W.kla_codeExpr (wpAny_mono ((hbody (X.A.deeper (envOfC x (defScope st) s'.heap.objs.size g cdv)) (envOfC x (defScope st) s'.heap.objs.size g cdv :: X.stack) s4 HZ (fun cls d H' => lftX X.K Fz W cls d σZ H') f c' F3 (fun e _ S2 => W e ρZ S2) hGd (hr1.deeper _) tkl).pe.run [] _ _ HZ QZ J ⟨F3, ρ, S3, P3, ⟨Same.refl F3, at3.hold, at_.env.mono (e1.trans eF)⟩, ht, le3⟩) (fun v s' hq => ?_) fun e s' hq => hq)
          obtain ⟨w', H', J', rv, q⟩ := hq
          exact ⟨w', H', J'.os, J'.bare, J'.base, J'.hok, rv, q⟩
        refine wpAny_call (codeAny_mono rc fun r s5 hq => ?_)
        cases r with
        | error e => exact tkz e s5 (XE.of_call I4 (fun _ _ _ z => z) hq)
        | ok fl =>
          cases fl with
          | ret u => exact I4.after hq
          | next => exact False.elim hq
          | brk => exact False.elim hq
          | cont => exact False.elim hq
      obtain ⟨t, ht, hq⟩ := hH cdv X.A X.stack s' H1 (fun cls d H' => lftX X.K F0 E cls d σ H') F1 f (fun W S1 Q1 => tb (fun e _ S2 => W e S2) ρ S1 Q1) S P (fun e S2 => E e ρ S2) hGd (hr.deeper _) (passes_of (K := fun e s'' => L2.CX X.prog X.w X.stack H1 s' (fun cls d H' => lftX X.K F0 E cls d σ H') e s'') rfl) tkg thk h
      refine wpAny_mono (ht.pss.run [] s1 _ H1 { nx := fun _ H' => Q .non H', rt := Q } J ⟨F1, _, S, _, ⟨Same.refl F1, hd2, start_env Ng (.cons (.ref f) .nil)⟩, hq, ⟨fun ρ S2 q F2 σ2 H2 e2 a2 => le .non S2 q F2 H2 .non (e1.trans e2) a2.hold .non, le.mono e1, fun _ _ z => z.elim, fun _ _ z => z.elim⟩⟩) (fun fl s'' q => ?_) fun _ _ q => q
      have done : ∀ {σ' : L2.St} {H' : Hp} {v : V} {u : Value}, Inv (cxOf (L2.CX X.prog X.w) X.prog X.w X.K X.mg X.base Ng x (defScope st) g cdv X.A X.stack s' H1 (fun cls d H' => lftX X.K F0 E cls d σ H')) [] σ' H' s'' → RelV v u → Q v H' → CE X.stack X.prog X.w H1 s' Q u s'' := fun {_ H' v _} J a b => ⟨v, H', J.os, J.bare, J.base, J.hok, a, b⟩
      cases fl with
      | ret u => obtain ⟨v, σ', H', J, a, b⟩ := q; exact done J a b
      | next => obtain ⟨σ', H', J, b⟩ := q; exact done (v := .non) J rfl b
      | brk => obtain ⟨_, _, _, b⟩ := q; exact b.elim
      | cont => obtain ⟨_, _, _, b⟩ := q; exact b.elim
  refine wpAny_call (codeAny_mono rc fun r s2 hq => ?_)
  cases r with
  | error e => exact tk e s2 (XE.of_call I1 (fun _ _ _ z => z) hq)
  | ok fl =>
    cases fl with
    | ret u => exact I1.after hq
    | next => exact False.elim hq
    | brk => exact False.elim hq
    | cont => exact False.elim hq
end
end L2.Pv

/-! P28: the combinators, fully applied (printed by genap.py). -/
namespace L2.Pv
open PySem PySem.Spec PyProof.Rows L2
variable [TbC]
theorem wV_ap (i : Nat) (ρ : PEnv) (S : Store) (Q : PQ) : wV i ρ S Q =
  (match nth ρ i with
  | some x => Q x S
  | none => False) := id rfl
theorem wC_ap (x : PV) (ρ : PEnv) (S : Store) (Q : PQ) : wC x ρ S Q =
  (Q x S) := id rfl
theorem wOp_ap (r : PR2) (ta tb : PTE) (ρ : PEnv) (S : Store) (Q : PQ) : wOp r ta tb ρ S Q =
  (ta ρ S fun x S1 => tb ρ S1 fun y S2 => r x y S2 Q) := id rfl
theorem wUn_ap (r : PR1) (ta : PTE) (ρ : PEnv) (S : Store) (Q : PQ) : wUn r ta ρ S Q =
  (ta ρ S fun x S1 => r x S1 Q) := id rfl
theorem wBool_ap (t : PTE) (ρ : PEnv) (S : Store) (Q : Bool → Store → Prop) : wBool t ρ S Q =
  (t ρ S fun x S1 => match x with
  | .bl k => Q k S1
  | _ => False) := id rfl
theorem wChain_ap (r r' : PR2) (ta tb tc : PTE) (ρ : PEnv) (S : Store) (Q : PQ) : wChain r r' ta tb tc ρ S Q =
  (ta ρ S fun x S1 => tb ρ S1 fun y S2 => r x y S2 fun z S3 => match z with
  | .bl k => if k = true then tc ρ S3 fun w S4 => r' y w S4 Q else Q (.bl false) S3
  | _ => False) := id rfl
theorem wTru_ap (t : PTE) (ρ : PEnv) (S : Store) (Q : Bool → Store → Prop) : wTru t ρ S Q =
  (t ρ S fun x S1 => match truP S1 x with
  | some k => Q k S1
  | none => False) := id rfl
theorem wAnd_ap (t u : PTT) (ρ : PEnv) (S : Store) (Q : Bool → Store → Prop) : wAnd t u ρ S Q =
  (t ρ S fun c S1 => match c with
  | true => u ρ S1 Q
  | false => Q false S1) := id rfl
theorem wOr_ap (t u : PTT) (ρ : PEnv) (S : Store) (Q : Bool → Store → Prop) : wOr t u ρ S Q =
  (t ρ S fun c S1 => match c with
  | true => Q true S1
  | false => u ρ S1 Q) := id rfl
theorem wNot_ap (t : PTT) (ρ : PEnv) (S : Store) (Q : Bool → Store → Prop) : wNot t ρ S Q =
  (t ρ S fun c S1 => Q (!c) S1) := id rfl
theorem wIfE_ap (c : PTT) (ta tb : PTE) (ρ : PEnv) (S : Store) (Q : PQ) : wIfE c ta tb ρ S Q =
  (c ρ S fun k S1 => match k with
  | true => ta ρ S1 Q
  | false => tb ρ S1 Q) := id rfl
theorem wAndV_ap (ta tb : PTE) (ρ : PEnv) (S : Store) (Q : PQ) : wAndV ta tb ρ S Q =
  (ta ρ S fun x S1 => match truP S1 x with
  | some true => tb ρ S1 Q
  | some false => Q x S1
  | none => False) := id rfl
theorem wOrV_ap (ta tb : PTE) (ρ : PEnv) (S : Store) (Q : PQ) : wOrV ta tb ρ S Q =
  (ta ρ S fun x S1 => match truP S1 x with
  | some true => Q x S1
  | some false => tb ρ S1 Q
  | none => False) := id rfl
theorem wNotV_ap (ta : PTE) (ρ : PEnv) (S : Store) (Q : PQ) : wNotV ta ρ S Q =
  (ta ρ S fun x S1 => match truP S1 x with
  | some k => Q (.bl !k) S1
  | none => False) := id rfl
theorem wNil_ap (ρ : PEnv) (S : Store) (Q : List PV → Store → Prop) : wNil ρ S Q =
  (Q [] S) := id rfl
theorem wCons_ap (ta : PTE) (t : PTA) (ρ : PEnv) (S : Store) (Q : List PV → Store → Prop) : wCons ta t ρ S Q =
  (ta ρ S fun x S1 => t ρ S1 fun xs S2 => Q (x :: xs) S2) := id rfl
theorem wTup_ap (t : PTA) (ρ : PEnv) (S : Store) (Q : PQ) : wTup t ρ S Q =
  (t ρ S fun xs S1 => Q (.tup xs) S1) := id rfl
theorem wLst_ap (t : PTA) (ρ : PEnv) (S : Store) (Q : PQ) : wLst t ρ S Q =
  (t ρ S fun xs S1 => Q (.lst xs) S1) := id rfl
theorem wLstM_ap (t : PTA) (ρ : PEnv) (S : Store) (Q : PQ) : wLstM t ρ S Q =
  (t ρ S fun xs S1 => ∀ p, S1 p = none → Q (.ref p) (put S1 p (.raw (.lst xs)))) := id rfl
theorem wCB_ap (r : PRs) (t : PTA) (ρ : PEnv) (S : Store) (Q : PQ) : wCB r t ρ S Q =
  (t ρ S fun xs S1 => r xs S1 Q) := id rfl
theorem wBM_ap (r : PRm) (to : PTE) (t : PTA) (ρ : PEnv) (S : Store) (Q : PQ) : wBM r to t ρ S Q =
  (to ρ S fun x S1 => t ρ S1 fun xs S2 => r x xs S2 Q) := id rfl
theorem wgN_ap (i : Nat) (x : PV) (ρ : PEnv) (S : Store) (Q : PEnv → Store → Prop) : wgN i x ρ S Q =
  (Q (stV ρ i (some x)) S) := id rfl
theorem wgNil_ap (xs : List PV) (ρ : PEnv) (S : Store) (Q : PEnv → Store → Prop) : wgNil xs ρ S Q =
  (match xs with
  | [] => Q ρ S
  | _ :: _ => False) := id rfl
theorem wgCons_ap (g : PTG) (gs : PTGs) (xs : List PV) (ρ : PEnv) (S : Store) (Q : PEnv → Store → Prop) : wgCons g gs xs ρ S Q =
  (match xs with
  | [] => False
  | x :: r => g x ρ S fun ρ1 S1 => gs r ρ1 S1 Q) := id rfl
theorem wgTup_ap (n : Nat) (gs : PTGs) (x : PV) (ρ : PEnv) (S : Store) (Q : PEnv → Store → Prop) : wgTup n gs x ρ S Q =
  (match x with
  | .tup xs => xs.length = n ∧ gs xs ρ S Q
  | _ => False) := id rfl
theorem wNext_ap (P : PEnds) (ρ : PEnv) (S : Store) : wNext P ρ S =
  (P.nx ρ S) := id rfl
theorem wSeq_ap (t u : PTS) (P : PEnds) (ρ : PEnv) (S : Store) : wSeq t u P ρ S =
  (t { P with nx := u P } ρ S) := id rfl
theorem wAsg_ap (te : PTE) (g : PTG) (P : PEnds) (ρ : PEnv) (S : Store) : wAsg te g P ρ S =
  (te ρ S fun x S1 => g x ρ S1 P.nx) := id rfl
theorem wDrop_ap (te : PTE) (P : PEnds) (ρ : PEnv) (S : Store) : wDrop te P ρ S =
  (te ρ S fun _ S1 => P.nx ρ S1) := id rfl
theorem wRet_ap (te : PTE) (P : PEnds) (ρ : PEnv) (S : Store) : wRet te P ρ S =
  (te ρ S P.rt) := id rfl
theorem wRetN_ap (P : PEnds) (ρ : PEnv) (S : Store) : wRetN P ρ S =
  (P.rt .non S) := id rfl
theorem wBrk_ap (P : PEnds) (ρ : PEnv) (S : Store) : wBrk P ρ S =
  (P.bk ρ S) := id rfl
theorem wCont_ap (P : PEnds) (ρ : PEnv) (S : Store) : wCont P ρ S =
  (P.ct ρ S) := id rfl
theorem wIfS_ap (c : PTT) (t u : PTS) (P : PEnds) (ρ : PEnv) (S : Store) : wIfS c t u P ρ S =
  (c ρ S fun k S1 => match k with
  | true => t P ρ S1
  | false => u P ρ S1) := id rfl
theorem wNever_ap (P : PEnds) (ρ : PEnv) (S : Store) : wNever P ρ S =
  (False) := id rfl
theorem wPar_ap (i j : Nat) (ta : PTA) (P : PEnds) (ρ : PEnv) (S : Store) : wPar i j ta P ρ S =
  (ta ρ S fun xs S1 => match xs with
  | [x, y] => P.nx (stV (stV ρ i (some x)) j (some y)) S1
  | _ => False) := id rfl
theorem wPar3_ap (i j l : Nat) (ta : PTA) (P : PEnds) (ρ : PEnv) (S : Store) : wPar3 i j l ta P ρ S =
  (ta ρ S fun xs S1 => match xs with
  | [x, y, z] => P.nx (stV (stV (stV ρ i (some x)) j (some y)) l (some z)) S1
  | _ => False) := id rfl
theorem wAug_ap (i : Nat) (te : PTE) (r : PR2) (P : PEnds) (ρ : PEnv) (S : Store) : wAug i te r P ρ S =
  (match nth ρ i with
  | some x => te ρ S fun y S1 => r x y S1 fun z S2 => P.nx (stV ρ i (some z)) S2
  | none => False) := id rfl
theorem wFor_ap (wi : PTI) (g : PTG) (tb : PTS) (P : PEnds) (ρ : PEnv) (S : Store) : wFor wi g tb P ρ S =
  (wi ρ S fun xs G S1 => forI G g tb P xs ρ S1) := id rfl
theorem wYes_ap (ρ : PEnv) (S : Store) (Q : Bool → Store → Prop) : wYes ρ S Q =
  (Q true S) := id rfl
theorem wLc_ap (mk : Bool) (wi : PTI) (g : PTG) (tt : PTT) (te : PTE) (vs : List Nat) (ρ : PEnv) (S : Store) (Q : PQ) : wLc mk wi g tt te vs ρ S Q =
  (wi ρ S fun xs G S1 => ∀ D, S1 D = none → lcI mk D G g tt te Q xs (wipeP ρ vs) S1) := id rfl
theorem wCall_ap (sp : PSp) (dxs : List PV) (E : PX → PEnv → Store → Prop) (t : PTA) (ρ : PEnv) (S : Store) (Q : PQ) : wCall sp dxs E t ρ S Q =
  (t ρ S fun xs S1 => sp (xs ++ dxs) S1 Q fun e S2 => E e ρ S2) := id rfl
theorem wCallK_ap (sp : PSp) (gP : List PV → List PV → List PV) (E : PX → PEnv → Store → Prop) (t tk : PTA) (ρ : PEnv) (S : Store) (Q : PQ) : wCallK sp gP E t tk ρ S Q =
  (t ρ S fun xs S1 => tk ρ S1 fun ys S2 => sp (gP xs ys) S2 Q fun e S3 => E e ρ S3) := id rfl
theorem wiSeq_ap (te : PTE) (ρ : PEnv) (S : Store) (R : List PV → (Store → Prop) → Store → Prop) : wiSeq te ρ S R =
  (te ρ S fun x S1 => match x with
  | .tup xs => R xs (fun _ => True) S1
  | .str z => R (signs z) (fun _ => True) S1
  | .lst xs => R xs (fun _ => True) S1
  | .scr xs => R xs (fun _ => True) S1
  | .ref a => match rdS S1 a with
    | some (.lst xs) => R xs (fun S => seqL S (.ref a) = some xs) S1
    | _ => False
  | _ => False) := id rfl
theorem wiRng1_ap (ta : PTA) (ρ : PEnv) (S : Store) (R : List PV → (Store → Prop) → Store → Prop) : wiRng1 ta ρ S R =
  (ta ρ S fun xs S1 => match xs with
  | [.int j] => -(2 ^ 62) ≤ j ∧ j < 2 ^ 62 ∧ R (rngP 0 j.toNat) (fun _ => True) S1
  | _ => False) := id rfl
theorem wiRng2_ap (ta : PTA) (ρ : PEnv) (S : Store) (R : List PV → (Store → Prop) → Store → Prop) : wiRng2 ta ρ S R =
  (ta ρ S fun xs S1 => match xs with
  | [.int i, .int j] => (-(2 ^ 62) ≤ i ∧ i < 2 ^ 62 ∧ -(2 ^ 62) ≤ j ∧ j < 2 ^ 62) ∧ R (rngP i (j - i).toNat) (fun _ => True) S1
  | _ => False) := id rfl
theorem wRepLit_ap (t : PTA) (tb : PTE) (ρ : PEnv) (S : Store) (Q : PQ) : wRepLit t tb ρ S Q =
  (t ρ S fun xs S1 => ∀ p, S1 p = none → tb ρ (put S1 p (.raw (.lst xs))) fun y S2 => match y with
  | .int k => S2 p = some (.raw (.lst xs)) ∧ (-(2 ^ 63) ≤ k ∧ k < 2 ^ 63 ∧ xs.length * k.toNat ≤ sizeLine) ∧ Q (.lst (List.replicate k.toNat xs).flatten) (rmv S2 p)
  | _ => False) := id rfl
theorem wNoPart_ap (ρ : PEnv) (S : Store) (Q : Option Int → Store → Prop) : wNoPart ρ S Q =
  (Q none S) := id rfl
theorem wPart_ap (t : PTE) (ρ : PEnv) (S : Store) (Q : Option Int → Store → Prop) : wPart t ρ S Q =
  (t ρ S fun x S1 => match x with
  | .int i => Q (some i) S1
  | _ => False) := id rfl
theorem wSl_ap (r : PRS) (te : PTE) (tl th : PTO) (ρ : PEnv) (S : Store) (Q : PQ) : wSl r te tl th ρ S Q =
  (te ρ S fun x S1 => tl ρ S1 fun l S2 => th ρ S2 fun u S3 => r x l u S3 Q) := id rfl
theorem wRevL_ap (te : PTE) (ρ : PEnv) (S : Store) (Q : PQ) : wRevL te ρ S Q =
  (te ρ S fun x S1 => match seqL S1 x with
  | some xs => Q (.lst xs.reverse) S1
  | none => False) := id rfl
theorem wBm_ap (T : String) (r : PRm) (to : PTE) (t : PTA) (ρ : PEnv) (S : Store) (Q : PQ) : wBm T r to t ρ S Q =
  (to ρ S fun x S1 => tyM S1 T x = true ∧ t ρ S1 fun xs S2 => r x xs S2 Q) := id rfl
theorem wDnewM_ap (ρ : PEnv) (S : Store) (Q : PQ) : wDnewM ρ S Q =
  (∀ p, S p = none → Q (.ref p) (put S p (.raw (.dic [])))) := id rfl
theorem wDput_ap (td ty tv : PTE) (P : PEnds) (ρ : PEnv) (S : Store) : wDput td ty tv P ρ S =
  (tv ρ S fun z S1 => td ρ S1 fun x S2 => ty ρ S2 fun y S3 => dputP x y z S3 fun S4 => P.nx ρ S4) := id rfl
theorem wFrz_ap (te : PTE) (ρ : PEnv) (S : Store) (Q : PQ) : wFrz te ρ S Q =
  (te ρ S fun x S1 => ∃ p xs, x = .ref p ∧ S1 p = some (.raw (.lst xs)) ∧ Q (.lst xs) (rmv S1 p)) := id rfl
theorem wCut_ap (t u : PTS) (P : PEnds) (ρ : PEnv) (S : Store) : wCut t u P ρ S =
  (∃ M : PEnv → Store → Prop, t { P with nx := M } ρ S ∧ ∀ ρ' S', M ρ' S' → u P ρ' S') := id rfl
theorem wiZip_ap (ta : PTA) (ρ : PEnv) (S : Store) (R : List PV → (Store → Prop) → Store → Prop) : wiZip ta ρ S R =
  (ta ρ S fun xs S1 => zipsP xs S1 R) := id rfl
theorem wRevA_ap (te : PTE) (ρ : PEnv) (S : Store) (Q : PQ) : wRevA te ρ S Q =
  (te ρ S fun x S1 => revP x S1 Q) := id rfl
theorem wRaise1_ap (C : Addr) (f : Str) (E : PX → PEnv → Store → Prop) (te : PTE) (P : PEnds) (ρ : PEnv) (S : Store) : wRaise1 C f E te P ρ S =
  (te ρ S fun v S1 => E ⟨.ref C, [(f, v)]⟩ ρ S1) := id rfl
theorem wRaise0_ap (C : Addr) (E : PX → PEnv → Store → Prop) (P : PEnds) (ρ : PEnv) (S : Store) : wRaise0 C E P ρ S =
  (E ⟨.ref C, []⟩ ρ S) := id rfl
theorem wXf_ap (K : PySem.W.Frag) (f : Str) (te : PTE) (ρ : PEnv) (S : Store) (Q : PQ) : wXf K f te ρ S Q =
  (te ρ S fun x S1 => match x with
  | .exc (.ref C) fs => ExcC K C ∧ PySem.W.findIn K (.ref C) f = some none ∧ ∃ v, fs.lookup f = some v ∧ Q v S1
  | _ => False) := id rfl
theorem wThunk_ap (f : Addr) (th : PTh) (W : PX → PEnv → Store → Prop) (ρ : PEnv) (S : Store) (Q : PQ) : wThunk f th W ρ S Q =
  (nth ρ 0 = some (.ref f) ∧ th (fun e S1 => W e ρ S1) S Q) := id rfl
theorem wDispM_ap (trs : List (PTE × PTE)) (ρ : PEnv) (S : Store) (Q : PQ) : wDispM trs ρ S Q = (∀ p, S p = none → wPairs trs ρ (put S p (.raw (.dic []))) fun ps S2 => S2 p = some (.raw (.dic [])) ∧ (match keysOf ps with | some ks => ks.Nodup | none => False) ∧ Q (.ref p) (put S2 p (.raw (.dic ps)))) := id rfl
theorem wTryK_ap (K : PySem.W.Frag) (c : Value) (i j : Nat) (E : PX → PEnv → Store → Prop) (tb : (PX → PEnv → Store → Prop) → PTS) (P : PEnds) (ρ : PEnv) (S : Store) : wTryK K c i j E tb P ρ S =
  tb (fun ex ρ1 S1 => ∃ b, PySem.W.exmOne K ex.C c = some b ∧ (b = true → P.nx (stV (stV ρ1 j (some (.exc ex.C ex.fs))) i none) S1) ∧ (b = false → E ex ρ1 S1)) P ρ S := id rfl
theorem wLamC_ap (SP : PHo) (tb : (PX → PEnv → Store → Prop) → PTE) (E : PX → PEnv → Store → Prop) (ρ : PEnv) (S : Store) (Q : PQ) : wLamC SP tb E ρ S Q = SP (fun W S1 Q1 => tb (fun e _ S2 => W e S2) ρ S1 Q1) S Q fun e S2 => E e ρ S2 := id rfl
end L2.Pv

/-! P29: texts of ints. -/
namespace L2.Pv
open PySem PySem.Spec PyProof.Rows L2
variable [TbC]
theorem ofString_ok (s : String) : ∀ c ∈ (Str.ofString s).cps.toList, c < 16 ^ 8 := fun c hc => by
  rw [PySem.Str.ofString_eq_toList] at hc
  simp only [List.toList_toArray] at hc
  obtain ⟨d, _, rfl⟩ := List.mem_map.mp hc
  have h : d.toNat < 0x110000 := by
    have := d.valid
    show d.val.toNat < _
    rcases this with h | h
    · exact Nat.lt_trans h (by decide)
    · exact h.2
  exact Nat.lt_trans h (by decide)
theorem log_ok {i : Int} {B : Nat} (h : i.natAbs ≤ B) (hB : B ≤ 10 ^ 15) : i.natAbs.log2 < 1920 := by
  by_cases z : i.natAbs = 0
  · rw [z]; decide
  · exact (Nat.log2_lt z).mpr (Nat.lt_of_le_of_lt (Nat.le_trans h hB) (by decide))
theorem int_okS {i : Int} (h : i.natAbs ≤ 10 ^ 20) : okS 60 (Str.ofString (toString i)) := by
  refine ⟨?_, ofString_ok _⟩
  have len : ∀ k : Int, 0 ≤ k → k.natAbs < 10 ^ 50 → (Str.ofString (toString k)).length ≤ 50 := fun k h0 h1 => toString_length_le h0 (by decide) (by omega)
  have big : (10 : Nat) ^ 20 < 10 ^ 50 := by decide
  by_cases z : i < 0
  · rw [len_text_neg z]
    have := len (0 - i) (by omega) (by omega)
    omega
  · have := len i (by omega) (by omega)
    omega
theorem one_good {B : Nat} {x : PV} (h : Good B x) : ∀ y ∈ [x], Good B y := fun y hy => by rw [List.mem_singleton.mp hy]; exact h
end L2.Pv

/-! P30: drawn rows are sales; drawn segments. -/
namespace L2.Pv
open PySem PySem.Spec PyProof.Rows L2
variable [TbC]
theorem let_of {c : Nat} (h1 : 97 ≤ c) (h2 : c ≤ 122) : inLet (.str ⟨#[c]⟩) = true := by
  have k : ∀ j < 26, inLet (.str ⟨#[97 + j]⟩) = true := by decide +kernel
  have := k (c - 97) (by omega)
  rwa [show 97 + (c - 97) = c by omega] at this
theorem nam_of {w : Str} (h : NameOk w) : isNam (.str w) = true := by
  show (decide (1 ≤ w.length) && decide (w.length ≤ 8) && (signs w).all inLet) = true
  rw [decide_eq_true h.1, decide_eq_true h.2.1, Bool.true_and, Bool.true_and, List.all_eq_true]
  intro x hx
  obtain ⟨c, hc, rfl⟩ := List.mem_map.mp hx
  exact let_of (h.2.2 c hc).1 (h.2.2 c hc).2
def TimeOk (t : PV) : Prop := ∃ i : Int, t = .int i ∧ 0 ≤ i ∧ i ≤ 1000000000
theorem row_sal {ws : List Str} {ts : List PV} {r : SaleR} (hw : ∀ w ∈ ws, NameOk w) (ht : ∀ t ∈ ts, TimeOk t) (h : RowOk ws ts r) : isSal r.pv = true := by
  obtain ⟨i, e, i0, i1⟩ := ht _ h.time
  have e1 : isPos (.int r.num) = true := decide_eq_true h.pos
  have am : ∀ k : Int, 0 ≤ k → k ≤ 1000000000 → isAmt (.int k) = true := fun k a b => by
    show (decide _ && decide _) = true
    rw [decide_eq_true a, decide_eq_true b]; rfl
  have e2 := am _ h.price.1 h.price.2
  have e3 := am _ h.pen.1 h.pen.2
  have e4 := am _ i0 i1
  have n1 := nam_of (hw _ h.seller)
  have n2 := nam_of (hw _ h.buyer)
  have n3 := nam_of (hw _ h.refunder)
  have n4 := nam_of (hw _ h.guarantor)
  have n5 : neS (.str r.seller) (.str r.buyer) = true := by
    show (!(r.seller == r.buyer)) = true
    rw [beq_eq_false_iff_ne.mpr h.ne]; rfl
  unfold SaleR.pv
  rw [e]
  show (isPos (.int r.num) && isAmt (.int r.price) && isAmt (.int r.pen) && isAmt (.int i) && isNam (.str r.seller) && isNam (.str r.buyer) && isNam (.str r.refunder) && isNam (.str r.guarantor) && neS (.str r.seller) (.str r.buyer)) = true
  rw [e1, e2, e3, e4, n1, n2, n3, n4, n5]
  rfl
theorem rows_linked {ws : List Str} {ts : List PV} {num : Int} {sl : Str} {rs : List SaleR} (h : RowsOk ws ts num sl rs) : linked (rs.map SaleR.pv) = true := by
  refine linked_of fun i a b ha hb => ?_
  rw [List.getElem?_map] at ha hb
  cases ea : rs[i]? with
  | none => rw [ea] at ha; cases ha
  | some x =>
    cases eb : rs[i + 1]? with
    | none => rw [eb] at hb; cases hb
    | some y =>
      rw [ea] at ha
      rw [eb] at hb
      cases ha
      cases hb
      have h1 : x.num < y.num := by
        obtain ⟨l1, e1⟩ := List.getElem?_eq_some_iff.mp ea
        obtain ⟨l2, e2⟩ := List.getElem?_eq_some_iff.mp eb
        have := List.pairwise_iff_getElem.mp h.up i (i + 1) l1 l2 (Nat.lt_succ_self i)
        rwa [e1, e2] at this
      have h2 := h.next i x y ea eb
      show (decide (x.num < y.num) && (x.buyer == y.seller)) = true
      rw [decide_eq_true h1, h2, BEq.rfl]; rfl
def segPV (rs : List SaleR) (b : Bool) : PV := .tup [.tup (rs.map SaleR.pv), .bl b]
theorem seg_is {ws : List Str} {ts : List PV} {num : Int} {sl : Str} {rs : List SaleR} {b : Bool} (hw : ∀ w ∈ ws, NameOk w) (ht : ∀ t ∈ ts, TimeOk t) (h : RowsOk ws ts num sl rs) (h0 : 0 < rs.length) : isSeg (segPV rs b) = true := by
  show (!(rs.map SaleR.pv).isEmpty && (rs.map SaleR.pv).all isSal && linked (rs.map SaleR.pv)) = true
  have e1 : (rs.map SaleR.pv).isEmpty = false := by
    cases rs with
    | nil => cases h0
    | cons x r => rfl
  have e2 : (rs.map SaleR.pv).all isSal = true := by
    rw [List.all_eq_true]
    intro x hx
    obtain ⟨r, hr, rfl⟩ := List.mem_map.mp hx
    exact row_sal hw ht (h.all r hr).1
  rw [e1, e2, rows_linked h]
  rfl
theorem row_good {ws : List Str} {ts : List PV} {r : SaleR} (hw : ∀ w ∈ ws, NameOk w) (ht : ∀ t ∈ ts, TimeOk t) (h : RowOk ws ts r) (hn : r.num ≤ 1000000000) : Good 1000000000 r.pv ∧ dp r.pv = 1 ∧ wt r.pv ≤ 840 := by
  obtain ⟨i, e, i0, i1⟩ := ht _ h.time
  have st : ∀ {w : Str}, NameOk w → Good 1000000000 (.str w) := fun {w} k => .str fun c hc => Nat.lt_of_le_of_lt (k.2.2 c hc).2 (by decide)
  have l1 := (hw _ h.seller).2.1
  have l2 := (hw _ h.buyer).2.1
  have l3 := (hw _ h.refunder).2.1
  have l4 := (hw _ h.guarantor).2.1
  have h1 := h.pos
  have h2 := h.price
  have h3 := h.pen
  unfold SaleR.pv
  rw [e]
  refine ⟨.tup fun x hx => ?_, by simp [dp, dps], by simp [wt, wts]; omega⟩
  simp only [List.mem_cons, List.not_mem_nil, or_false] at hx
  rcases hx with rfl | rfl | rfl | rfl | rfl | rfl | rfl | rfl
  · exact .int (by omega)
  · exact st (hw _ h.seller)
  · exact st (hw _ h.buyer)
  · exact .int (by omega)
  · exact .int (by omega)
  · exact .int (by omega)
  · exact st (hw _ h.refunder)
  · exact st (hw _ h.guarantor)
theorem rows_good {ws : List Str} {ts : List PV} {rs : List SaleR} (hw : ∀ w ∈ ws, NameOk w) (ht : ∀ t ∈ ts, TimeOk t) (h : ∀ r ∈ rs, RowOk ws ts r ∧ r.num ≤ 1000000000) : (∀ x ∈ rs.map SaleR.pv, Good 1000000000 x) ∧ dps (rs.map SaleR.pv) ≤ 1 ∧ wts (rs.map SaleR.pv) ≤ 841 * rs.length := by
  induction rs with
  | nil => exact ⟨fun _ h => (nomatch h), by simp [dps], by simp [wts]⟩
  | cons r rs ih =>
    obtain ⟨a, b, c⟩ := ih fun x hx => h x (List.mem_cons_of_mem _ hx)
    obtain ⟨k1, k2⟩ := h r List.mem_cons_self
    obtain ⟨g1, g2, g3⟩ := row_good hw ht k1 k2
    refine ⟨fun x hx => ?_, ?_, ?_⟩
    · rcases List.mem_cons.mp hx with e | hx
      · rw [e]; exact g1
      · exact a x hx
    · rw [List.map_cons, dps, g2]; omega
    · rw [List.map_cons, wts, List.length_cons]; omega
theorem seg_good {ws : List Str} {ts : List PV} {rs : List SaleR} {b : Bool} (hw : ∀ w ∈ ws, NameOk w) (ht : ∀ t ∈ ts, TimeOk t) (h : ∀ r ∈ rs, RowOk ws ts r ∧ r.num ≤ 1000000000) : Good 1000000000 (segPV rs b) ∧ dp (segPV rs b) ≤ 3 ∧ wt (segPV rs b) ≤ 841 * rs.length + 2 := by
  obtain ⟨k1, k2, k3⟩ := rows_good hw ht h
  refine ⟨.tup fun x hx => ?_, ?_, ?_⟩
  · simp only [List.mem_cons, List.not_mem_nil, or_false] at hx
    rcases hx with rfl | rfl
    · exact .tup k1
    · exact .bl
  · simp [segPV, dp, dps]; omega
  · simp [segPV, wt, wts]; omega
/-- a drawn segment -/
inductive SpSegm : PSp
  | mk {p : Addr} {ws : List Str} {k : Int} {n : Nat} {S : Store} {Q : PQ} {E : PX → Store → Prop} (e : S p = some (drw p n)) (hw : ws.Nodup) (h2 : 2 ≤ ws.length) (hw20 : ws.length ≤ 20) (h0 : 1 ≤ k) (hk : k ≤ 20) (hn : n < 400000)
      (q : ∀ (rs : List SaleR) (b : Bool) (m : Nat) (num : Int) (sl : Str) (ts : List PV), 1 ≤ rs.length → rs.length ≤ k.toNat → RowsOk ws ts num sl rs → (∀ t ∈ ts, TimeOk t) → num ≤ 1040 → m ≤ n + 7 + 20 * k.toNat → Q (segPV rs b) (put S p (drw p m))) : SpSegm [.ref p, .lst (ws.map .str), .int k] S Q E
end L2.Pv

namespace L2.Pv
open PySem PySem.Spec PyProof.Rows L2
def topS (i : Nat) : Stmt := PySem.Challenge.pw_regretmart_k12_segments_recognized.main.body.getD i (.Pass ⟨0, 0, 0, 0⟩)
abbrev s_is_number : Stmt := topS 7
abbrev N_is_number : List Str := ["value"]
theorem sc_is_number : FnScope N_is_number ["value"] (defScope s_is_number) := ⟨rfl, rfl, rfl, by decide +kernel, rfl, by decide +kernel, by decide +kernel⟩
abbrev s_is_name : Stmt := topS 8
abbrev N_is_name : List Str := ["value", "sign"]
theorem sc_is_name : FnScope N_is_name ["value"] (defScope s_is_name) := ⟨rfl, rfl, rfl, by decide +kernel, rfl, by decide +kernel, by decide +kernel⟩
abbrev s_is_amount : Stmt := topS 9
abbrev N_is_amount : List Str := ["value"]
theorem sc_is_amount : FnScope N_is_amount ["value"] (defScope s_is_amount) := ⟨rfl, rfl, rfl, by decide +kernel, rfl, by decide +kernel, by decide +kernel⟩
abbrev s_is_sale : Stmt := topS 12
abbrev N_is_sale : List Str := ["value", "number", "seller", "buyer", "price", "penalty", "closes", "refunder", "guarantor", "name"]
theorem sc_is_sale : FnScope N_is_sale ["value"] (defScope s_is_sale) := ⟨rfl, rfl, rfl, by decide +kernel, rfl, by decide +kernel, by decide +kernel⟩
abbrev s_is_segment : Stmt := topS 14
abbrev N_is_segment : List Str := ["value", "sales", "sale", "one", "other"]
theorem sc_is_segment : FnScope N_is_segment ["value"] (defScope s_is_segment) := ⟨rfl, rfl, rfl, by decide +kernel, rfl, by decide +kernel, by decide +kernel⟩
abbrev s_law_begun : Stmt := topS 16
abbrev N_law_begun : List Str := ["_law_script", "_law_wide", "_law_cell"]
theorem sc_law_begun : FnScope N_law_begun ["_law_script"] (defScope s_law_begun) := ⟨rfl, rfl, rfl, by decide +kernel, rfl, by decide +kernel, by decide +kernel⟩
abbrev s_law_take : Stmt := topS 17
abbrev N_law_take : List Str := ["_law_state", "_law_size", "_law_found", "_law_turn", "_law_cell", "_law_mixed"]
theorem sc_law_take : FnScope N_law_take ["_law_state", "_law_size"] (defScope s_law_take) := ⟨rfl, rfl, rfl, by decide +kernel, rfl, by decide +kernel, by decide +kernel⟩
abbrev s_law_pick : Stmt := topS 18
abbrev N_law_pick : List Str := ["_law_state", "_law_some"]
theorem sc_law_pick : FnScope N_law_pick ["_law_state", "_law_some"] (defScope s_law_pick) := ⟨rfl, rfl, rfl, by decide +kernel, rfl, by decide +kernel, by decide +kernel⟩
abbrev s_law_names : Stmt := topS 19
abbrev N_law_names : List Str := ["_law_state", "_law_many", "_law_letters", "_law_found", "_law_words", "_law_turn", "_law_word", "_law_place", "_law_letter"]
theorem sc_law_names : FnScope N_law_names ["_law_state", "_law_many"] (defScope s_law_names) := ⟨rfl, rfl, rfl, by decide +kernel, rfl, by decide +kernel, by decide +kernel⟩
abbrev s_law_amount : Stmt := topS 20
abbrev N_law_amount : List Str := ["_law_state", "_law_ways"]
theorem sc_law_amount : FnScope N_law_amount ["_law_state"] (defScope s_law_amount) := ⟨rfl, rfl, rfl, by decide +kernel, rfl, by decide +kernel, by decide +kernel⟩
abbrev s_law_sales : Stmt := topS 21
abbrev N_law_sales : List Str := ["_law_state", "_law_names_here", "_law_many", "_law_times", "_law_found", "_law_number", "_law_seller", "_law_turn", "_law_buyer", "_law_roles", "_law_row", "_law_name"]
theorem sc_law_sales : FnScope N_law_sales ["_law_state", "_law_names_here", "_law_many", "_law_times"] (defScope s_law_sales) := ⟨rfl, rfl, rfl, by decide +kernel, rfl, by decide +kernel, by decide +kernel⟩
abbrev s_law_segment : Stmt := topS 22
abbrev N_law_segment : List Str := ["_law_state", "_law_names_here", "_law_most", "_law_times"]
theorem sc_law_segment : FnScope N_law_segment ["_law_state", "_law_names_here", "_law_most"] (defScope s_law_segment) := ⟨rfl, rfl, rfl, by decide +kernel, rfl, by decide +kernel, by decide +kernel⟩
abbrev s_law_is_count : Stmt := topS 23
abbrev N_law_is_count : List Str := ["_law_given", "_law_least", "_law_most"]
theorem sc_law_is_count : FnScope N_law_is_count ["_law_given", "_law_least", "_law_most"] (defScope s_law_is_count) := ⟨rfl, rfl, rfl, by decide +kernel, rfl, by decide +kernel, by decide +kernel⟩
abbrev s_law_is_name : Stmt := topS 24
abbrev N_law_is_name : List Str := ["_law_given", "_law_letter"]
theorem sc_law_is_name : FnScope N_law_is_name ["_law_given"] (defScope s_law_is_name) := ⟨rfl, rfl, rfl, by decide +kernel, rfl, by decide +kernel, by decide +kernel⟩
abbrev s_law_is_sale : Stmt := topS 25
abbrev N_law_is_sale : List Str := ["_law_given", "_law_place"]
theorem sc_law_is_sale : FnScope N_law_is_sale ["_law_given"] (defScope s_law_is_sale) := ⟨rfl, rfl, rfl, by decide +kernel, rfl, by decide +kernel, by decide +kernel⟩
abbrev s_law_is_segment : Stmt := topS 26
abbrev N_law_is_segment : List Str := ["_law_given", "_law_sales_here", "_law_place", "_law_sale"]
theorem sc_law_is_segment : FnScope N_law_is_segment ["_law_given"] (defScope s_law_is_segment) := ⟨rfl, rfl, rfl, by decide +kernel, rfl, by decide +kernel, by decide +kernel⟩
abbrev s_law_bent : Stmt := topS 27
abbrev N_law_bent : List Str := ["_law_state", "_law_thing", "_law_at", "_law_odd"]
theorem sc_law_bent : FnScope N_law_bent ["_law_state", "_law_thing"] (defScope s_law_bent) := ⟨rfl, rfl, rfl, by decide +kernel, rfl, by decide +kernel, by decide +kernel⟩
abbrev s_law : Stmt := topS 28
abbrev N_law : List Str := ["_law_script", "_law_state", "_law_turn", "_law_names_here", "_law_thing", "_law_change", "_law_bent_here", "_law_step", "_law_kept", "_law_due"]
theorem sc_law : FnScope N_law ["_law_script"] (defScope s_law) := ⟨rfl, rfl, rfl, by decide +kernel, rfl, by decide +kernel, by decide +kernel⟩
structure Tx (K : PySem.W.Frag) (mg : Str → Option Value) (base : Heap) where
  f_is_number : Addr
  d_is_number : FuncData
  F_is_number : Fun K "is_number" "is_number" s_is_number f_is_number d_is_number
  b_is_number : Binds K d_is_number ["value"] []
  g_is_number : mg "is_number" = some (.ref f_is_number)
  f_is_name : Addr
  d_is_name : FuncData
  F_is_name : Fun K "is_name" "is_name" s_is_name f_is_name d_is_name
  b_is_name : Binds K d_is_name ["value"] []
  g_is_name : mg "is_name" = some (.ref f_is_name)
  f_is_amount : Addr
  d_is_amount : FuncData
  F_is_amount : Fun K "is_amount" "is_amount" s_is_amount f_is_amount d_is_amount
  b_is_amount : Binds K d_is_amount ["value"] []
  g_is_amount : mg "is_amount" = some (.ref f_is_amount)
  f_is_sale : Addr
  d_is_sale : FuncData
  F_is_sale : Fun K "is_sale" "is_sale" s_is_sale f_is_sale d_is_sale
  b_is_sale : Binds K d_is_sale ["value"] []
  g_is_sale : mg "is_sale" = some (.ref f_is_sale)
  f_is_segment : Addr
  d_is_segment : FuncData
  F_is_segment : Fun K "is_segment" "is_segment" s_is_segment f_is_segment d_is_segment
  b_is_segment : Binds K d_is_segment ["value"] []
  g_is_segment : mg "is_segment" = some (.ref f_is_segment)
  f__law_begun : Addr
  d__law_begun : FuncData
  F__law_begun : Fun K "_law_begun" "_law_begun" s_law_begun f__law_begun d__law_begun
  b__law_begun : Binds K d__law_begun ["_law_script"] []
  g__law_begun : mg "_law_begun" = some (.ref f__law_begun)
  f__law_take : Addr
  d__law_take : FuncData
  F__law_take : Fun K "_law_take" "_law_take" s_law_take f__law_take d__law_take
  b__law_take : Binds K d__law_take ["_law_state", "_law_size"] []
  g__law_take : mg "_law_take" = some (.ref f__law_take)
  f__law_pick : Addr
  d__law_pick : FuncData
  F__law_pick : Fun K "_law_pick" "_law_pick" s_law_pick f__law_pick d__law_pick
  b__law_pick : Binds K d__law_pick ["_law_state", "_law_some"] []
  g__law_pick : mg "_law_pick" = some (.ref f__law_pick)
  f__law_names : Addr
  d__law_names : FuncData
  F__law_names : Fun K "_law_names" "_law_names" s_law_names f__law_names d__law_names
  b__law_names : Binds K d__law_names ["_law_state", "_law_many"] []
  g__law_names : mg "_law_names" = some (.ref f__law_names)
  f__law_amount : Addr
  d__law_amount : FuncData
  F__law_amount : Fun K "_law_amount" "_law_amount" s_law_amount f__law_amount d__law_amount
  b__law_amount : Binds K d__law_amount ["_law_state"] []
  g__law_amount : mg "_law_amount" = some (.ref f__law_amount)
  f__law_sales : Addr
  d__law_sales : FuncData
  F__law_sales : Fun K "_law_sales" "_law_sales" s_law_sales f__law_sales d__law_sales
  b__law_sales : Binds K d__law_sales ["_law_state", "_law_names_here", "_law_many", "_law_times"] []
  g__law_sales : mg "_law_sales" = some (.ref f__law_sales)
  f__law_segment : Addr
  d__law_segment : FuncData
  F__law_segment : Fun K "_law_segment" "_law_segment" s_law_segment f__law_segment d__law_segment
  b__law_segment : Binds K d__law_segment ["_law_state", "_law_names_here", "_law_most"] []
  g__law_segment : mg "_law_segment" = some (.ref f__law_segment)
  f__law_is_count : Addr
  d__law_is_count : FuncData
  F__law_is_count : Fun K "_law_is_count" "_law_is_count" s_law_is_count f__law_is_count d__law_is_count
  b__law_is_count : Binds K d__law_is_count ["_law_given", "_law_least", "_law_most"] []
  g__law_is_count : mg "_law_is_count" = some (.ref f__law_is_count)
  f__law_is_name : Addr
  d__law_is_name : FuncData
  F__law_is_name : Fun K "_law_is_name" "_law_is_name" s_law_is_name f__law_is_name d__law_is_name
  b__law_is_name : Binds K d__law_is_name ["_law_given"] []
  g__law_is_name : mg "_law_is_name" = some (.ref f__law_is_name)
  f__law_is_sale : Addr
  d__law_is_sale : FuncData
  F__law_is_sale : Fun K "_law_is_sale" "_law_is_sale" s_law_is_sale f__law_is_sale d__law_is_sale
  b__law_is_sale : Binds K d__law_is_sale ["_law_given"] []
  g__law_is_sale : mg "_law_is_sale" = some (.ref f__law_is_sale)
  f__law_is_segment : Addr
  d__law_is_segment : FuncData
  F__law_is_segment : Fun K "_law_is_segment" "_law_is_segment" s_law_is_segment f__law_is_segment d__law_is_segment
  b__law_is_segment : Binds K d__law_is_segment ["_law_given"] []
  g__law_is_segment : mg "_law_is_segment" = some (.ref f__law_is_segment)
  f__law_bent : Addr
  d__law_bent : FuncData
  F__law_bent : Fun K "_law_bent" "_law_bent" s_law_bent f__law_bent d__law_bent
  b__law_bent : Binds K d__law_bent ["_law_state", "_law_thing"] []
  g__law_bent : mg "_law_bent" = some (.ref f__law_bent)
  f_law : Addr
  d_law : FuncData
  F_law : Fun K "law" "law" s_law f_law d_law
  b_law : Binds K d_law ["_law_script"] []
  g_law : mg "law" = some (.ref f_law)
  m_abs : mg "abs" = none
  m_all : mg "all" = none
  m_bool : mg "bool" = none
  m_int : mg "int" = none
  m_isinstance : mg "isinstance" = none
  m_len : mg "len" = none
  m_list : mg "list" = none
  m_range : mg "range" = none
  m_repr : mg "repr" = none
  m_str : mg "str" = none
  m_tuple : mg "tuple" = none
  m_zip : mg "zip" = none
  t_LETTERS : Tok
  g_LETTERS : mg "LETTERS" = some (.str "abcdefghijklmnopqrstuvwxyz" t_LETTERS)
  t_LONGEST_NAME : Tok
  g_LONGEST_NAME : mg "LONGEST_NAME" = some (.int 8 t_LONGEST_NAME)
  C_Accounts : Addr
  mc_Accounts : Value
  g_Accounts : mg "Accounts" = some (.ref C_Accounts)
  r_Accounts : ClX.CRead K C_Accounts mc_Accounts
  t_Accounts_MOST : Tok
  c_Accounts_MOST : ClX.CVal K C_Accounts mc_Accounts "MOST" (.int 1000000000) (.int 1000000000 t_Accounts_MOST)
  kb_is_segment_value : KB K d_is_segment ["value"] ["value"] 0 1 (fun us ws => us ++ ws) (fun xs ys => xs ++ ys)
  noSys : NoSys base

/- (wss_one (ws_ret (we_and (we_callB cw_isi T.m_isinstance (wa_cons (we_var 0) (wa_cons (we_bty (n := "int") T.m_int) wa_nil))) (we_one (we_not (we_callB cw_isi T.m_isinstance (wa_cons (we_var 0) (wa_cons (we_bty (n := "bool") T.m_bool) wa_nil)))))))) (wss_cons (ws_if (WW.wt (ww_or (wt_not (wt_tru (we_callB cw_isi T.m_isinstance (wa_cons (we_var 0) (wa_cons (we_bty (n := "str") T.m_str) wa_nil))))) (ww_or1 (wt_not (wt_chain ow_le ow_le we_int (we_callB cw_len T.m_len (wa_cons (we_var 0) wa_nil)) (we_gint T.g_LONGEST_NAME))))))
  (wss_one (ws_ret we_bl))
  wss_nil)
  (wss_one (ws_ret (we_callB (cw_all rfl) T.m_all (wa_cons (we_lc (mk := false) rfl sc_is_name.nd (wi_seq (we_var 0)) (own := [("sign", 1)]) (blkOk_by (N := N_is_name) (sc := defScope s_is_name) (by decide +kernel)) (fun _ _ _ _ _ => (wg_name 1 sc_is_name.nd)) (by decide) (fun _ _ _ _ _ => wts_nil) (fun _ _ _ _ _ => (we_cmp (ow_in (hu_of hr)) (we_var 1) (we_gstr T.g_LETTERS)))) wa_nil))))) (wss_one (ws_ret (we_and (we_call (ok_is_number T) hG (hr.mono (by decide)) T.g_is_number T.F_is_number.kp T.b_is_number dflt0 tk0 (wa_cons (we_var 0) wa_nil)) (we_one (we_chain ow_le ow_le we_int (we_var 0) (we_ccon T.g_Accounts T.r_Accounts T.c_Accounts_MOST fun _ => .int _)))))) (wss_cons (ws_if (WW.wt (ww_or (wt_not (wt_tru (we_callB cw_isi T.m_isinstance (wa_cons (we_var 0) (wa_cons (we_bty (n := "tuple") T.m_tuple) wa_nil))))) (ww_or1 (wt_cmp (ow_ne hr.units) (we_callB cw_len T.m_len (wa_cons (we_var 0) wa_nil)) we_int))))
  (wss_one (ws_ret we_bl))
  wss_nil)
  (wss_cons (ws_asg (we_var 0) (wg_tup (n := 8) rfl (wgs_cons (wg_name 1 sc_is_sale.nd) (wgs_cons (wg_name 2 sc_is_sale.nd) (wgs_cons (wg_name 3 sc_is_sale.nd) (wgs_cons (wg_name 4 sc_is_sale.nd) (wgs_cons (wg_name 5 sc_is_sale.nd) (wgs_cons (wg_name 6 sc_is_sale.nd) (wgs_cons (wg_name 7 sc_is_sale.nd) (wgs_cons (wg_name 8 sc_is_sale.nd) wgs_nil))))))))))
  (wss_cons (ws_if (WW.wt (ww_or (wt_not (wt_tru (we_call (ok_is_number T) hG (hr.mono (by decide)) T.g_is_number T.F_is_number.kp T.b_is_number dflt0 tk0 (wa_cons (we_var 1) wa_nil)))) (ww_or (wt_cmp ow_lt (we_var 1) we_int) (ww_or (wt_not (wt_tru (we_call (ok_is_amount T) hG (hr.mono (by decide)) T.g_is_amount T.F_is_amount.kp T.b_is_amount dflt0 tk0 (wa_cons (we_var 4) wa_nil)))) (ww_or (wt_not (wt_tru (we_call (ok_is_amount T) hG (hr.mono (by decide)) T.g_is_amount T.F_is_amount.kp T.b_is_amount dflt0 tk0 (wa_cons (we_var 5) wa_nil)))) (ww_or1 (wt_not (wt_tru (we_call (ok_is_amount T) hG (hr.mono (by decide)) T.g_is_amount T.F_is_amount.kp T.b_is_amount dflt0 tk0 (wa_cons (we_var 6) wa_nil))))))))))
  (wss_one (ws_ret we_bl))
  wss_nil)
  (wss_one (ws_ret (we_and (we_callB (cw_all rfl) T.m_all (wa_cons (we_lc (mk := false) rfl sc_is_sale.nd (wi_seq (we_tup (wa_cons (we_var 2) (wa_cons (we_var 3) (wa_cons (we_var 7) (wa_cons (we_var 8) wa_nil)))))) (own := [("name", 9)]) (blkOk_by (N := N_is_sale) (sc := defScope s_is_sale) (by decide +kernel)) (fun _ _ _ _ _ => (wg_name 9 sc_is_sale.nd)) (by decide) (fun _ _ _ _ _ => wts_nil) (fun _ _ _ _ _ => (we_call (ok_is_name T) hG (hr.mono (by decide)) T.g_is_name T.F_is_name.kp T.b_is_name dflt0 tk0 (wa_cons (we_var 9) wa_nil)))) wa_nil)) (we_one (we_cmp (ow_ne hr.units) (we_var 2) (we_var 3))))))))) (wss_cons (ws_if (WW.wt (ww_or (wt_not (wt_tru (we_callB cw_isi T.m_isinstance (wa_cons (we_var 0) (wa_cons (we_bty (n := "tuple") T.m_tuple) wa_nil))))) (ww_or (wt_cmp (ow_ne hr.units) (we_callB cw_len T.m_len (wa_cons (we_var 0) wa_nil)) we_int) (ww_or1 (wt_not (wt_tru (we_callB cw_isi T.m_isinstance (wa_cons (we_ix (we_var 0) we_int) (wa_cons (we_bty (n := "bool") T.m_bool) wa_nil)))))))))
  (wss_one (ws_ret we_bl))
  wss_nil)
  (wss_cons (ws_set 1 sc_is_segment.nd (we_ix (we_var 0) we_int))
  (wss_cons (ws_if (WW.wt (ww_or (wt_not (wt_tru (we_callB cw_isi T.m_isinstance (wa_cons (we_var 1) (wa_cons (we_bty (n := "tuple") T.m_tuple) wa_nil))))) (ww_or (wt_cmp (ow_eqNilT hr.units) (we_var 1) (we_tup wa_nil)) (ww_or1 (wt_not (wt_tru (we_callB (cw_all rfl) T.m_all (wa_cons (we_lc (mk := false) rfl sc_is_segment.nd (wi_seq (we_var 1)) (own := [("sale", 2)]) (blkOk_by (N := N_is_segment) (sc := defScope s_is_segment) (by decide +kernel)) (fun _ _ _ _ _ => (wg_name 2 sc_is_segment.nd)) (by decide) (fun _ _ _ _ _ => wts_nil) (fun _ _ _ _ _ => (we_call (ok_is_sale T) hG (hr.mono (by decide)) T.g_is_sale T.F_is_sale.kp T.b_is_sale dflt0 tk0 (wa_cons (we_var 2) wa_nil)))) wa_nil))))))))
  (wss_one (ws_ret we_bl))
  wss_nil)
  (wss_one (ws_ret (we_callB (cw_all rfl) T.m_all (wa_cons (we_lc (mk := false) rfl sc_is_segment.nd (wi_zip T.m_zip (wa_cons (we_var 1) (wa_cons (we_sl sw_slc (we_var 1) (wo_some we_int) wo_none) wa_nil))) (own := [("one", 3), ("other", 4)]) (blkOk_by (N := N_is_segment) (sc := defScope s_is_segment) (by decide +kernel)) (fun _ _ _ _ _ => (wg_tup (n := 2) rfl (wgs_cons (wg_name 3 sc_is_segment.nd) (wgs_cons (wg_name 4 sc_is_segment.nd) wgs_nil)))) (by decide) (fun _ _ _ _ _ => wts_nil) (fun _ _ _ _ _ => (we_and (we_cmp ow_lt (we_ix (we_var 3) we_int) (we_ix (we_var 4) we_int)) (we_one (we_cmp (ow_eq hr.units) (we_ix (we_var 3) we_int) (we_ix (we_var 4) we_int)))))) wa_nil))))))) (wss_cons (ws_setLc (mk := true) 1 rfl sc_law_begun.nd (wi_seq (we_var 0)) (own := [("_law_cell", 2)]) (blkOk_by (N := N_law_begun) (sc := defScope s_law_begun) (by decide +kernel)) (fun _ _ _ _ _ => (wg_name 2 sc_law_begun.nd)) (by decide) (fun _ _ _ _ _ => (wts_one (wt_cmp ow_ge (we_callB cw_abs T.m_abs (wa_cons (we_var 2) wa_nil)) (we_op ow_pow we_int we_int)))) (fun _ _ _ _ _ => (we_op ow_sub (we_callB cw_abs T.m_abs (wa_cons (we_var 2) wa_nil)) (we_op ow_pow we_int we_int))))
  (wss_one (ws_ret (we_dispM (WPs.cons we_str (we_var 1) (WPs.cons we_str (we_or (we_callTy (cw_list (mk := false)) T.m_list (wa_cons (we_var 0) wa_nil)) (we_one (we_lst (wa_cons we_int wa_nil)))) (WPs.cons we_str we_int (WPs.cons we_str we_int WPs.nil)))))))) (wss_cons (ws_while hp (WW.wt (ww_and (wt_cmp (ow_eq hr.units) (we_dget (hu_of hr) (we_var 0) we_str) we_int) (ww_and1 (wt_cmp (ow_neNil hr.units) (we_dget (hu_of hr) (we_var 0) we_str) (we_lst wa_nil)))))
  (wss_one (ws_dput (hu_of hr) (we_var 0) we_str (we_bm PySem.F.plainAttrs_list PySem.F.slot_list_pop PySem.F.type_list_pop (by decide) mw_popAt (we_dget (hu_of hr) (we_var 0) we_str) (wa_cons we_int wa_nil)))))
  (wss_cons (ws_if (wt_cmp ow_gt (we_dget (hu_of hr) (we_var 0) we_str) we_int)
  (wss_cons (ws_set 2 sc_law_take.nd (we_op ow_mod (we_dget (hu_of hr) (we_var 0) we_str) (we_var 1)))
  (wss_cons (ws_dput (hu_of hr) (we_var 0) we_str (we_op ow_fdiv (we_dget (hu_of hr) (we_var 0) we_str) (we_var 1)))
  (wss_one (ws_ret (we_var 2)))))
  wss_nil)
  (wss_cons (ws_set 3 sc_law_take.nd (we_op ow_add (we_dget (hu_of hr) (we_var 0) we_str) we_int))
  (wss_cons (ws_dput (hu_of hr) (we_var 0) we_str (we_var 3))
  (wss_cons (ws_set 4 sc_law_take.nd (we_ix (we_dget (hu_of hr) (we_var 0) we_str) (we_op ow_mod (we_var 3) (we_callB cw_len T.m_len (wa_cons (we_dget (hu_of hr) (we_var 0) we_str) wa_nil)))))
  (wss_cons (ws_set 5 sc_law_take.nd (we_op ow_mod (we_op ow_add (we_op ow_mod (we_var 4) we_int) (we_op ow_mul we_int (we_var 3))) we_int))
  (wss_cons (ws_set 5 sc_law_take.nd (we_op ow_add (we_op ow_add (we_op ow_mod (we_op ow_pow (we_var 5) we_int) we_int) (we_op ow_mul (we_op ow_mod (we_var 4) we_int) (we_var 3))) (we_op ow_mul (we_op ow_mul we_int (we_var 3)) (we_var 3))))
  (wss_one (ws_ret (we_op ow_mod (we_op ow_fdiv (we_op ow_mod (we_op ow_pow (we_var 5) we_int) we_int) we_int) (we_var 1))))))))))) (wss_one (ws_ret (we_ix (we_var 1) (we_call (ok_law_take T) hG (hr.mono (by decide)) T.g__law_take T.F__law_take.kp T.b__law_take dflt0 tk0 (wa_cons (we_var 0) (wa_cons (we_callB cw_len T.m_len (wa_cons (we_var 1) wa_nil)) wa_nil)))))) (wss_cons (ws_asg (we_tup (wa_cons we_str (wa_cons (we_lstM wa_nil) wa_nil))) (wg_tup (n := 2) rfl (wgs_cons (wg_name 2 sc_law_names.nd) (wgs_cons (wg_name 3 sc_law_names.nd) wgs_nil))))
  (wss_cons (ws_set 4 sc_law_names.nd (we_lst (wa_cons we_str (wa_cons we_str (wa_cons we_str (wa_cons we_str (wa_cons we_str (wa_cons we_str (wa_cons we_str (wa_cons we_str (wa_cons we_str (wa_cons we_str (wa_cons we_str (wa_cons we_str wa_nil))))))))))))))
  (wss_cons (ws_for hp rfl (wi_rng1 T.m_range (wa_cons (we_var 1) wa_nil)) (wg_name 5 sc_law_names.nd)
  (wss_cons (ws_set 6 sc_law_names.nd (we_call (ok_law_pick T) hG (hr.mono (by decide)) T.g__law_pick T.F__law_pick.kp T.b__law_pick dflt0 tk0 (wa_cons (we_var 0) (wa_cons (we_var 4) wa_nil))))
  (wss_cut (ws_if (wt_cmp ow_gt (we_call (ok_law_take T) hG (hr.mono (by decide)) T.g__law_take T.F__law_take.kp T.b__law_take dflt0 tk0 (wa_cons (we_var 0) (wa_cons we_int wa_nil))) we_int)
  (wss_one (ws_set 6 sc_law_names.nd (we_bm PySem.F.plainAttrs_str PySem.F.slot_str_join PySem.F.type_str_join (by decide) mw_join we_str (wa_cons (we_lc (mk := false) rfl sc_law_names.nd (wi_rng1 T.m_range (wa_cons (we_op ow_add we_int (we_call (ok_law_take T) hG (hr.mono (by decide)) T.g__law_take T.F__law_take.kp T.b__law_take dflt0 tk0 (wa_cons (we_var 0) (wa_cons we_int wa_nil)))) wa_nil)) (own := [("_law_place", 7)]) (blkOk_by (N := N_law_names) (sc := defScope s_law_names) (by decide +kernel)) (fun _ _ _ _ _ => (wg_name 7 sc_law_names.nd)) (by decide) (fun _ _ _ _ _ => wts_nil) (fun _ _ _ _ _ => (we_call (ok_law_pick T) hG (hr.mono (by decide)) T.g__law_pick T.F__law_pick.kp T.b__law_pick dflt0 tk0 (wa_cons (we_var 0) (wa_cons (we_var 2) wa_nil))))) wa_nil))))
  wss_nil)
  (wss_cut (ws_if (wt_cmp (ow_in (hu_of hr)) (we_var 6) (we_var 3))
  (wss_one (ws_set 6 sc_law_names.nd (we_ix (we_lc (mk := false) rfl sc_law_names.nd (wi_seq (we_var 2)) (own := [("_law_letter", 8)]) (blkOk_by (N := N_law_names) (sc := defScope s_law_names) (by decide +kernel)) (fun _ _ _ _ _ => (wg_name 8 sc_law_names.nd)) (by decide) (fun _ _ _ _ _ => (wts_one (wt_cmp (ow_notIn (hu_of hr)) (we_op ow_add (we_sl sw_slc (we_var 6) wo_none (wo_some we_int)) (we_var 8)) (we_var 3)))) (fun _ _ _ _ _ => (we_op ow_add (we_sl sw_slc (we_var 6) wo_none (wo_some we_int)) (we_var 8)))) we_int)))
  wss_nil)
  (wss_one (ws_expr (we_bm PySem.F.plainAttrs_list PySem.F.slot_list_append PySem.F.type_list_append (by decide) mw_append (we_var 3) (wa_cons (we_var 6) wa_nil))))))))
  (wss_one (ws_ret (we_frz (we_var 3))))))) (wss_cons (ws_set 1 sc_law_amount.nd (we_lst (wa_cons (we_call (ok_law_take T) hG (hr.mono (by decide)) T.g__law_take T.F__law_take.kp T.b__law_take dflt0 tk0 (wa_cons (we_var 0) (wa_cons we_int wa_nil))) (wa_cons (we_call (ok_law_take T) hG (hr.mono (by decide)) T.g__law_take T.F__law_take.kp T.b__law_take dflt0 tk0 (wa_cons (we_var 0) (wa_cons we_int wa_nil))) (wa_cons (we_call (ok_law_take T) hG (hr.mono (by decide)) T.g__law_take T.F__law_take.kp T.b__law_take dflt0 tk0 (wa_cons (we_var 0) (wa_cons we_int wa_nil))) (wa_cons (we_op ow_sub (we_op ow_pow we_int we_int) (we_call (ok_law_take T) hG (hr.mono (by decide)) T.g__law_take T.F__law_take.kp T.b__law_take dflt0 tk0 (wa_cons (we_var 0) (wa_cons we_int wa_nil)))) wa_nil))))))
  (wss_one (ws_ret (we_call (ok_law_pick T) hG (hr.mono (by decide)) T.g__law_pick T.F__law_pick.kp T.b__law_pick dflt0 tk0 (wa_cons (we_var 0) (wa_cons (we_op ow_add (we_var 1) (we_lst (wa_cons (we_ix (we_var 1) we_int) (wa_cons (we_ix (we_var 1) we_int) (wa_cons (we_call (ok_law_take T) hG (hr.mono (by decide)) T.g__law_take T.F__law_take.kp T.b__law_take dflt0 tk0 (wa_cons (we_var 0) (wa_cons (we_op ow_add (we_op ow_pow we_int we_int) we_int) wa_nil))) wa_nil))))) wa_nil)))))) (wss_cut (ws_asg (we_tup (wa_cons (we_lstM wa_nil) (wa_cons we_int (wa_cons (we_call (ok_law_pick T) hG (hr.mono (by decide)) T.g__law_pick T.F__law_pick.kp T.b__law_pick dflt0 tk0 (wa_cons (we_var 0) (wa_cons (we_var 1) wa_nil))) wa_nil)))) (wg_tup (n := 3) rfl (wgs_cons (wg_name 4 sc_law_sales.nd) (wgs_cons (wg_name 5 sc_law_sales.nd) (wgs_cons (wg_name 6 sc_law_sales.nd) wgs_nil)))))
  (wss_cut (ws_for hp rfl (wi_rng1 T.m_range (wa_cons (we_var 2) wa_nil)) (wg_name 7 sc_law_sales.nd)
  (wss_cut (ws_set 5 sc_law_sales.nd (we_op ow_add (we_op ow_add (we_var 5) we_int) (we_call (ok_law_pick T) hG (hr.mono (by decide)) T.g__law_pick T.F__law_pick.kp T.b__law_pick dflt0 tk0 (wa_cons (we_var 0) (wa_cons (we_lst (wa_cons we_int (wa_cons we_int (wa_cons we_int (wa_cons (we_call (ok_law_take T) hG (hr.mono (by decide)) T.g__law_take T.F__law_take.kp T.b__law_take dflt0 tk0 (wa_cons (we_var 0) (wa_cons we_int wa_nil))) wa_nil))))) wa_nil)))))
  (wss_cut (ws_set 8 sc_law_sales.nd (we_call (ok_law_pick T) hG (hr.mono (by decide)) T.g__law_pick T.F__law_pick.kp T.b__law_pick dflt0 tk0 (wa_cons (we_var 0) (wa_cons (we_lc (mk := false) rfl sc_law_sales.nd (wi_seq (we_var 1)) (own := [("_law_name", 11)]) (blkOk_by (N := N_law_sales) (sc := defScope s_law_sales) (by decide +kernel)) (fun _ _ _ _ _ => (wg_name 11 sc_law_sales.nd)) (by decide) (fun _ _ _ _ _ => (wts_one (wt_cmp (ow_ne hr.units) (we_var 11) (we_var 6)))) (fun _ _ _ _ _ => (we_var 11))) wa_nil))))
  (wss_cut (ws_set 9 sc_law_sales.nd (we_lstM (wa_cons (we_call (ok_law_pick T) hG (hr.mono (by decide)) T.g__law_pick T.F__law_pick.kp T.b__law_pick dflt0 tk0 (wa_cons (we_var 0) (wa_cons (we_lst (wa_cons (we_var 6) (wa_cons (we_var 6) (wa_cons (we_var 6) (wa_cons (we_call (ok_law_pick T) hG (hr.mono (by decide)) T.g__law_pick T.F__law_pick.kp T.b__law_pick dflt0 tk0 (wa_cons (we_var 0) (wa_cons (we_var 1) wa_nil))) wa_nil))))) wa_nil))) wa_nil)))
  (wss_cut (ws_expr (we_bm PySem.F.plainAttrs_list PySem.F.slot_list_append PySem.F.type_list_append (by decide) mw_append (we_var 9) (wa_cons (we_call (ok_law_pick T) hG (hr.mono (by decide)) T.g__law_pick T.F__law_pick.kp T.b__law_pick dflt0 tk0 (wa_cons (we_var 0) (wa_cons (we_lst (wa_cons (we_var 8) (wa_cons (we_var 8) (wa_cons (we_var 8) (wa_cons (we_call (ok_law_pick T) hG (hr.mono (by decide)) T.g__law_pick T.F__law_pick.kp T.b__law_pick dflt0 tk0 (wa_cons (we_var 0) (wa_cons (we_var 1) wa_nil))) wa_nil))))) wa_nil))) wa_nil)))
  (wss_cut (ws_set 10 sc_law_sales.nd (we_tup (wa_cons (we_var 5) (wa_cons (we_var 6) (wa_cons (we_var 8) (wa_cons (we_call (ok_law_amount T) hG (hr.mono (by decide)) T.g__law_amount T.F__law_amount.kp T.b__law_amount dflt0 tk0 (wa_cons (we_var 0) wa_nil)) (wa_cons (we_call (ok_law_amount T) hG (hr.mono (by decide)) T.g__law_amount T.F__law_amount.kp T.b__law_amount dflt0 tk0 (wa_cons (we_var 0) wa_nil)) (wa_cons (we_call (ok_law_pick T) hG (hr.mono (by decide)) T.g__law_pick T.F__law_pick.kp T.b__law_pick dflt0 tk0 (wa_cons (we_var 0) (wa_cons (we_var 3) wa_nil))) wa_nil))))))))
  (wss_cut (ws_expr (we_bm PySem.F.plainAttrs_list PySem.F.slot_list_append PySem.F.type_list_append (by decide) mw_append (we_var 4) (wa_cons (we_op ow_add (we_var 10) (we_callTy cw_tuple T.m_tuple (wa_cons (we_frz (we_var 9)) wa_nil))) wa_nil)))
  (wss_one (ws_set 6 sc_law_sales.nd (we_var 8))))))))))
  (wss_one (ws_ret (we_frz (we_var 4)))))) (wss_cut (ws_set 3 sc_law_segment.nd (we_lst (wa_cons (we_call (ok_law_take T) hG (hr.mono (by decide)) T.g__law_take T.F__law_take.kp T.b__law_take dflt0 tk0 (wa_cons (we_var 0) (wa_cons we_int wa_nil))) (wa_cons (we_call (ok_law_take T) hG (hr.mono (by decide)) T.g__law_take T.F__law_take.kp T.b__law_take dflt0 tk0 (wa_cons (we_var 0) (wa_cons we_int wa_nil))) (wa_cons (we_call (ok_law_take T) hG (hr.mono (by decide)) T.g__law_take T.F__law_take.kp T.b__law_take dflt0 tk0 (wa_cons (we_var 0) (wa_cons we_int wa_nil))) (wa_cons (we_op ow_sub (we_op ow_pow we_int we_int) (we_call (ok_law_take T) hG (hr.mono (by decide)) T.g__law_take T.F__law_take.kp T.b__law_take dflt0 tk0 (wa_cons (we_var 0) (wa_cons we_int wa_nil)))) wa_nil))))))
  (wss_one (ws_ret (we_tup (wa_cons (we_callTy cw_tuple T.m_tuple (wa_cons (we_call (ok_law_sales T) hG (hr.mono (by decide)) T.g__law_sales T.F__law_sales.kp T.b__law_sales dflt0 tk0 (wa_cons (we_var 0) (wa_cons (we_var 1) (wa_cons (we_op ow_add we_int (we_call (ok_law_take T) hG (hr.mono (by decide)) T.g__law_take T.F__law_take.kp T.b__law_take dflt0 tk0 (wa_cons (we_var 0) (wa_cons (we_var 2) wa_nil)))) (wa_cons (we_var 3) wa_nil))))) wa_nil)) (wa_cons (we_cmp (ow_eq hr.units) (we_call (ok_law_take T) hG (hr.mono (by decide)) T.g__law_take T.F__law_take.kp T.b__law_take dflt0 tk0 (wa_cons (we_var 0) (wa_cons we_int wa_nil))) we_int) wa_nil)))))) (wss_one (ws_ret (we_and (we_callB cw_isi T.m_isinstance (wa_cons (we_var 0) (wa_cons (we_bty (n := "int") T.m_int) wa_nil))) (we_and (we_not (we_callB cw_isi T.m_isinstance (wa_cons (we_var 0) (wa_cons (we_bty (n := "bool") T.m_bool) wa_nil)))) (we_one (we_chain ow_le ow_le (we_var 1) (we_var 0) (we_var 2))))))) (wss_cons (ws_if (WW.wt (ww_or (wt_not (wt_tru (we_callB cw_isi T.m_isinstance (wa_cons (we_var 0) (wa_cons (we_bty (n := "str") T.m_str) wa_nil))))) (ww_or1 (wt_not (wt_chain ow_le ow_le we_int (we_callB cw_len T.m_len (wa_cons (we_var 0) wa_nil)) we_int)))))
  (wss_one (ws_ret we_bl))
  wss_nil)
  (wss_one (ws_ret (we_cmp (ow_eqNil hr.units) (we_lc (mk := false) rfl sc_law_is_name.nd (wi_seq (we_var 0)) (own := [("_law_letter", 1)]) (blkOk_by (N := N_law_is_name) (sc := defScope s_law_is_name) (by decide +kernel)) (fun _ _ _ _ _ => (wg_name 1 sc_law_is_name.nd)) (by decide) (fun _ _ _ _ _ => (wts_one (wt_cmp (ow_notIn (hu_of hr)) (we_var 1) we_str))) (fun _ _ _ _ _ => (we_var 1))) (we_lst wa_nil))))) (wss_cons (ws_if (WW.wt (ww_or (wt_not (wt_tru (we_callB cw_isi T.m_isinstance (wa_cons (we_var 0) (wa_cons (we_bty (n := "tuple") T.m_tuple) wa_nil))))) (ww_or (wt_cmp (ow_ne hr.units) (we_callB cw_len T.m_len (wa_cons (we_var 0) wa_nil)) we_int) (ww_or1 (wt_not (wt_tru (we_call (ok_law_is_count T) hG (hr.mono (by decide)) T.g__law_is_count T.F__law_is_count.kp T.b__law_is_count dflt0 tk0 (wa_cons (we_ix (we_var 0) we_int) (wa_cons we_int (wa_cons (we_op ow_pow we_int we_int) wa_nil))))))))))
  (wss_one (ws_ret we_bl))
  wss_nil)
  (wss_cons (ws_if (WW.wt (ww_or (wt_cmp (ow_neNil hr.units) (we_lc (mk := false) rfl sc_law_is_sale.nd (wi_seq (we_lst (wa_cons we_int (wa_cons we_int (wa_cons we_int (wa_cons we_int wa_nil)))))) (own := [("_law_place", 1)]) (blkOk_by (N := N_law_is_sale) (sc := defScope s_law_is_sale) (by decide +kernel)) (fun _ _ _ _ _ => (wg_name 1 sc_law_is_sale.nd)) (by decide) (fun _ _ _ _ _ => (wts_one (wt_not (wt_tru (we_call (ok_law_is_name T) hG (hr.mono (by decide)) T.g__law_is_name T.F__law_is_name.kp T.b__law_is_name dflt0 tk0 (wa_cons (we_ix (we_var 0) (we_var 1)) wa_nil)))))) (fun _ _ _ _ _ => (we_var 1))) (we_lst wa_nil)) (ww_or1 (wt_cmp (ow_eq hr.units) (we_ix (we_var 0) we_int) (we_ix (we_var 0) we_int)))))
  (wss_one (ws_ret we_bl))
  wss_nil)
  (wss_one (ws_ret (we_cmp (ow_eqNil hr.units) (we_lc (mk := false) rfl sc_law_is_sale.nd (wi_seq (we_lst (wa_cons we_int (wa_cons we_int (wa_cons we_int wa_nil))))) (own := [("_law_place", 1)]) (blkOk_by (N := N_law_is_sale) (sc := defScope s_law_is_sale) (by decide +kernel)) (fun _ _ _ _ _ => (wg_name 1 sc_law_is_sale.nd)) (by decide) (fun _ _ _ _ _ => (wts_one (wt_not (wt_tru (we_call (ok_law_is_count T) hG (hr.mono (by decide)) T.g__law_is_count T.F__law_is_count.kp T.b__law_is_count dflt0 tk0 (wa_cons (we_ix (we_var 0) (we_var 1)) (wa_cons we_int (wa_cons (we_op ow_pow we_int we_int) wa_nil)))))))) (fun _ _ _ _ _ => (we_var 1))) (we_lst wa_nil)))))) (wss_cons (ws_if (WW.wt (ww_or (wt_not (wt_tru (we_callB cw_isi T.m_isinstance (wa_cons (we_var 0) (wa_cons (we_bty (n := "tuple") T.m_tuple) wa_nil))))) (ww_or (wt_cmp (ow_ne hr.units) (we_callB cw_len T.m_len (wa_cons (we_var 0) wa_nil)) we_int) (ww_or1 (wt_not (wt_tru (we_callB cw_isi T.m_isinstance (wa_cons (we_ix (we_var 0) we_int) (wa_cons (we_bty (n := "bool") T.m_bool) wa_nil)))))))))
  (wss_one (ws_ret we_bl))
  wss_nil)
  (wss_cons (ws_set 1 sc_law_is_segment.nd (we_ix (we_var 0) we_int))
  (wss_cons (ws_if (WW.wt (ww_or (wt_not (wt_tru (we_callB cw_isi T.m_isinstance (wa_cons (we_var 1) (wa_cons (we_bty (n := "tuple") T.m_tuple) wa_nil))))) (ww_or (wt_cmp (ow_eqNilT hr.units) (we_var 1) (we_tup wa_nil)) (ww_or1 (wt_cmp (ow_neNil hr.units) (we_lc (mk := false) rfl sc_law_is_segment.nd (wi_seq (we_var 1)) (own := [("_law_sale", 3)]) (blkOk_by (N := N_law_is_segment) (sc := defScope s_law_is_segment) (by decide +kernel)) (fun _ _ _ _ _ => (wg_name 3 sc_law_is_segment.nd)) (by decide) (fun _ _ _ _ _ => (wts_one (wt_not (wt_tru (we_call (ok_law_is_sale T) hG (hr.mono (by decide)) T.g__law_is_sale T.F__law_is_sale.kp T.b__law_is_sale dflt0 tk0 (wa_cons (we_var 3) wa_nil)))))) (fun _ _ _ _ _ => (we_var 3))) (we_lst wa_nil))))))
  (wss_one (ws_ret we_bl))
  wss_nil)
  (wss_cons (ws_for hp rfl (wi_rng1 T.m_range (wa_cons (we_op ow_sub (we_callB cw_len T.m_len (wa_cons (we_var 1) wa_nil)) we_int) wa_nil)) (wg_name 2 sc_law_is_segment.nd)
  (wss_one (ws_if (WW.wt (ww_or (wt_cmp ow_ge (we_ix (we_ix (we_var 1) (we_var 2)) we_int) (we_ix (we_ix (we_var 1) (we_op ow_add (we_var 2) we_int)) we_int)) (ww_or1 (wt_cmp (ow_ne hr.units) (we_ix (we_ix (we_var 1) (we_var 2)) we_int) (we_ix (we_ix (we_var 1) (we_op ow_add (we_var 2) we_int)) we_int)))))
  (wss_one (ws_ret we_bl))
  wss_nil)))
  (wss_one (ws_ret we_bl)))))) (wss_cut (ws_if (WW.wt (ww_and (wt_tru (we_callB cw_isi T.m_isinstance (wa_cons (we_var 1) (wa_cons (we_bty (n := "tuple") T.m_tuple) wa_nil)))) (ww_and (wt_cmp (ow_neNilT hr.units) (we_var 1) (we_tup wa_nil)) (ww_and1 (wt_cmp ow_gt (we_call (ok_law_take T) hG (hr.mono (by omega)) T.g__law_take T.F__law_take.kp T.b__law_take dflt0 tk0 (wa_cons (we_var 0) (wa_cons we_int wa_nil))) we_int)))))
  (wss_cut (ws_set 2 sc_law_bent.nd (we_call (ok_law_take T) hG (hr.mono (by omega)) T.g__law_take T.F__law_take.kp T.b__law_take dflt0 tk0 (wa_cons (we_var 0) (wa_cons (we_callB cw_len T.m_len (wa_cons (we_var 1) wa_nil)) wa_nil))))
  (wss_one (ws_ret (we_op ow_addB (we_op ow_addB (we_sl sw_slc (we_var 1) wo_none (wo_some (we_var 2))) (we_tup (wa_cons (we_call ih hG (hr.mono (by omega)) T.g__law_bent T.F__law_bent.kp T.b__law_bent dflt0 tk0 (wa_cons (we_var 0) (wa_cons (we_ix (we_var 1) (we_var 2)) wa_nil))) wa_nil))) (we_sl sw_slc (we_var 1) (wo_some (we_op ow_addB (we_var 2) we_int)) wo_none)))))
  wss_nil)
  (wss_cut (ws_set 3 sc_law_bent.nd (we_lst (wa_cons we_non (wa_cons we_bl (wa_cons we_bl (wa_cons we_int (wa_cons we_int (wa_cons (we_un un_negW we_int) (wa_cons we_str (wa_cons we_str (wa_cons we_str (wa_cons we_str (wa_cons we_str (wa_cons (we_tup wa_nil) (wa_cons (we_lst wa_nil) (wa_cons we_dnew (wa_cons (we_op ow_pow we_int we_int) (wa_cons (we_op ow_addB (we_op ow_pow we_int we_int) we_int) wa_nil))))))))))))))))))
  (wss_cut (ws_if (wt_tru (we_callB cw_isi T.m_isinstance (wa_cons (we_var 1) (wa_cons (we_bty (n := "tuple") T.m_tuple) wa_nil))))
  (wss_cut (ws_set 2 sc_law_bent.nd (we_call (ok_law_take T) hG (hr.mono (by omega)) T.g__law_take T.F__law_take.kp T.b__law_take dflt0 tk0 (wa_cons (we_var 0) (wa_cons (we_op ow_addB (we_callB cw_len T.m_len (wa_cons (we_var 1) wa_nil)) we_int) wa_nil))))
  (wss_cut (ws_set 3 sc_law_bent.nd (we_lst (wa_cons (we_callTy (cw_list (mk := false)) T.m_list (wa_cons (we_var 1) wa_nil)) (wa_cons (we_op ow_addB (we_var 1) (we_tup (wa_cons we_non wa_nil))) (wa_cons (we_op ow_addB (we_sl sw_slc (we_var 1) wo_none (wo_some (we_var 2))) (we_sl sw_slc (we_var 1) (wo_some (we_op ow_addB (we_var 2) we_int)) wo_none)) (wa_cons (we_revA (we_var 1)) (wa_cons (we_op ow_addB (we_sl sw_slc (we_var 1) (wo_some (we_var 2)) wo_none) (we_sl sw_slc (we_var 1) wo_none (wo_some (we_var 2)))) wa_nil)))))))
  (wss_one (ws_set 3 sc_law_bent.nd (we_op ow_addB (we_var 3) (we_lst (wa_cons (we_op ow_addB (we_var 1) (we_sl sw_slc (we_var 1) (wo_some (we_un un_negW we_int)) wo_none)) (wa_cons (we_sl sw_slc (we_var 1) (wo_some we_int) wo_none) (wa_cons (we_sl sw_slc (we_var 1) wo_none (wo_some we_int)) (wa_cons (we_tup (wa_cons (we_var 1) wa_nil)) (wa_cons we_non wa_nil)))))))))))
  (wss_one (ws_if (WW.wt (ww_and (wt_tru (we_callB cw_isi T.m_isinstance (wa_cons (we_var 1) (wa_cons (we_bty (n := "int") T.m_int) wa_nil)))) (ww_and1 (wt_cmp (ow_eq hr.units) (we_call (ok_law_take T) hG (hr.mono (by omega)) T.g__law_take T.F__law_take.kp T.b__law_take dflt0 tk0 (wa_cons (we_var 0) (wa_cons we_int wa_nil))) we_int))))
  (wss_one (ws_set 3 sc_law_bent.nd (we_lst (wa_cons (we_op ow_addB (we_var 1) we_int) (wa_cons (we_op ow_subB (we_var 1) we_int) (wa_cons (we_op ow_addB (we_var 1) (we_op ow_pow we_int we_int)) (wa_cons (we_callTy cw_str T.m_str (wa_cons (we_callTy cw_int T.m_int (wa_cons (we_var 1) wa_nil)) wa_nil)) (wa_cons (we_lst (wa_cons (we_var 1) wa_nil)) (wa_cons (we_not (we_var 1)) wa_nil)))))))))
  (wss_one (ws_if (WW.wt (ww_and (wt_tru (we_callB cw_isi T.m_isinstance (wa_cons (we_var 1) (wa_cons (we_bty (n := "str") T.m_str) wa_nil)))) (ww_and1 (wt_cmp (ow_eq hr.units) (we_call (ok_law_take T) hG (hr.mono (by omega)) T.g__law_take T.F__law_take.kp T.b__law_take dflt0 tk0 (wa_cons (we_var 0) (wa_cons we_int wa_nil))) we_int))))
  (wss_one (ws_set 3 sc_law_bent.nd (we_lst (wa_cons (we_op ow_addB (we_var 1) we_str) (wa_cons (we_sl sw_slc (we_var 1) (wo_some we_int) wo_none) (wa_cons (we_op ow_addB (we_sl sw_slc (we_var 1) wo_none (wo_some (we_un un_negW we_int))) we_str) (wa_cons (we_op ow_addB (we_sl sw_slc (we_var 1) wo_none (wo_some (we_un un_negW we_int))) we_str) (wa_cons (we_tup (wa_cons (we_var 1) wa_nil)) (wa_cons (we_revA (we_var 1)) wa_nil)))))))))
  wss_nil)))))
  (wss_one (ws_ret (we_call (ok_law_pick T) hG (hr.mono (by omega)) T.g__law_pick T.F__law_pick.kp T.b__law_pick dflt0 tk0 (wa_cons (we_var 0) (wa_cons (we_var 3) wa_nil)))))))) (wss_cut (ws_set 1 sc_law.nd (we_call (ok_law_begun T) hG (hr.mono (by decide)) T.g__law_begun T.F__law_begun.kp T.b__law_begun dflt0 tk0 (wa_cons (we_var 0) wa_nil)))
  (wss_cut (ws_for hp rfl (wi_rng1 T.m_range (wa_cons we_int wa_nil)) (wg_name 2 sc_law.nd)
  (wss_cut (ws_set 3 sc_law.nd (we_call (ok_law_names T) hG (hr.mono (by decide)) T.g__law_names T.F__law_names.kp T.b__law_names dflt0 tk0 (wa_cons (we_var 1) (wa_cons (we_op ow_add we_int (we_call (ok_law_take T) hG (hr.mono (by decide)) T.g__law_take T.F__law_take.kp T.b__law_take dflt0 tk0 (wa_cons (we_var 1) (wa_cons we_int wa_nil)))) wa_nil))))
  (wss_cut (ws_set 4 sc_law.nd (we_call (ok_law_segment T) hG (hr.mono (by decide)) T.g__law_segment T.F__law_segment.kp T.b__law_segment dflt0 tk0 (wa_cons (we_var 1) (wa_cons (we_var 3) (wa_cons we_int wa_nil)))))
  (wss_cut (ws_if (wt_cmp (ow_ne hr.units) (we_callB (cw_repr hG (hu80 hr) T.noSys) T.m_repr (wa_cons (we_call (ok_is_segment T) hG (hr.mono (by decide)) T.g_is_segment T.F_is_segment.kp T.b_is_segment dflt0 tk0 (wa_cons (we_var 4) wa_nil)) wa_nil)) we_str)
  (wss_one (ws_ret we_bl))
  wss_nil)
  (wss_one (ws_for hp rfl (wi_rng1 T.m_range (wa_cons we_int wa_nil)) (wg_name 5 sc_law.nd)
  (wss_cut (ws_set 6 sc_law.nd (we_var 4))
  (wss_cut (ws_for hp rfl (wi_rng1 T.m_range (wa_cons (we_op ow_add we_int (we_call (ok_law_take T) hG (hr.mono (by decide)) T.g__law_take T.F__law_take.kp T.b__law_take dflt0 tk0 (wa_cons (we_var 1) (wa_cons we_int wa_nil)))) wa_nil)) (wg_name 7 sc_law.nd)
  (wss_one (ws_set 6 sc_law.nd (we_call (ok_law_bent T) hG (hr.mono (by decide)) T.g__law_bent T.F__law_bent.kp T.b__law_bent dflt0 tk0 (wa_cons (we_var 1) (wa_cons (we_var 6) wa_nil))))))
  (wss_cut (ws_par (i := 8) (j := 9) rfl sc_law.nd (wa_cons (we_callB (cw_repr hG (hu80 hr) T.noSys) T.m_repr (wa_cons (we_var 6) wa_nil)) (wa_cons (we_callB (cw_repr hG (hu80 hr) T.noSys) T.m_repr (wa_cons (we_call (ok_law_is_segment T) hG (hr.mono (by decide)) T.g__law_is_segment T.F__law_is_segment.kp T.b__law_is_segment dflt0 tk0 (wa_cons (we_var 6) wa_nil)) wa_nil)) wa_nil)))
  (wss_one (ws_if (WW.wt (ww_or (wt_cmp (ow_ne hr.units) (we_callB (cw_repr hG (hu80 hr) T.noSys) T.m_repr (wa_cons (we_call (ok_is_segment T) hG (hr.mono (by decide)) T.g_is_segment T.F_is_segment.kp T.b_is_segment dflt0 tk0 (wa_cons (we_var 6) wa_nil)) wa_nil)) (we_var 9)) (ww_or (wt_cmp (ow_ne hr.units) (we_callB (cw_repr hG (hu80 hr) T.noSys) T.m_repr (wa_cons (we_callK0 (ok_is_segment T) hG (hr.mono (by decide)) T.g_is_segment T.F_is_segment.kp T.kb_is_segment_value tk0 (wk_cons (we_var 6) wk_nil)) wa_nil)) (we_var 9)) (ww_or1 (wt_cmp (ow_ne hr.units) (we_callB (cw_repr hG (hu80 hr) T.noSys) T.m_repr (wa_cons (we_var 6) wa_nil)) (we_var 8))))))
  (wss_one (ws_ret we_bl))
  wss_nil)))))))))))
  (wss_one (ws_ret we_bl)))) -/
section
variable [TbC] {P : Program} {w : World} {K : PySem.W.Frag} {mg : Str → Option Value} {base : Heap}
/-! ### draws -/
theorem ok_law_takeI (T : Tx K mg base) : FnG P w K mg base 1 T.f__law_take T.d__law_take ["_law_state", "_law_size"] SpTakeI := by
  refine okG T.F__law_take sc_law_take (fun xs S Q E h => by cases h; rfl) fun cdv A outer s H EX F0 xs S0 Q E hG hr hp tk h => ?_
  cases h with
  | @mk p b m n w c r t S _ _ nb hr0 hw hc hc2 hw2 ht htn h1 h2 hn q =>
  refine ⟨_, (wss_cons (ws_while hp (WW.wt (ww_and (wt_cmp (ow_eq hr.units) (we_dget (hu_of hr) (we_var 0) we_str) we_int) (ww_and1 (wt_cmp (ow_neNil hr.units) (we_dget (hu_of hr) (we_var 0) we_str) (we_lst wa_nil)))))
  (wss_one (ws_dput (hu_of hr) (we_var 0) we_str (we_bm PySem.F.plainAttrs_list PySem.F.slot_list_pop PySem.F.type_list_pop (by decide) mw_popAt (we_dget (hu_of hr) (we_var 0) we_str) (wa_cons we_int wa_nil)))))
  (wss_cons (ws_if (wt_cmp ow_gt (we_dget (hu_of hr) (we_var 0) we_str) we_int)
  (wss_cons (ws_set 2 sc_law_take.nd (we_op ow_mod (we_dget (hu_of hr) (we_var 0) we_str) (we_var 1)))
  (wss_cons (ws_dput (hu_of hr) (we_var 0) we_str (we_op ow_fdiv (we_dget (hu_of hr) (we_var 0) we_str) (we_var 1)))
  (wss_one (ws_ret (we_var 2)))))
  wss_nil)
  (wss_cons (ws_set 3 sc_law_take.nd (we_op ow_add (we_dget (hu_of hr) (we_var 0) we_str) we_int))
  (wss_cons (ws_dput (hu_of hr) (we_var 0) we_str (we_var 3))
  (wss_cons (ws_set 4 sc_law_take.nd (we_ix (we_dget (hu_of hr) (we_var 0) we_str) (we_op ow_mod (we_var 3) (we_callB cw_len T.m_len (wa_cons (we_dget (hu_of hr) (we_var 0) we_str) wa_nil)))))
  (wss_cons (ws_set 5 sc_law_take.nd (we_op ow_mod (we_op ow_add (we_op ow_mod (we_var 4) we_int) (we_op ow_mul we_int (we_var 3))) we_int))
  (wss_cons (ws_set 5 sc_law_take.nd (we_op ow_add (we_op ow_add (we_op ow_mod (we_op ow_pow (we_var 5) we_int) we_int) (we_op ow_mul (we_op ow_mod (we_var 4) we_int) (we_var 3))) (we_op ow_mul (we_op ow_mul we_int (we_var 3)) (we_var 3))))
  (wss_one (ws_ret (we_op ow_mod (we_op ow_fdiv (we_op ow_mod (we_op ow_pow (we_var 5) we_int) we_int) we_int) (we_var 1))))))))))), ?_⟩
  simp only [startP, List.map_cons, List.map_nil, List.length_cons, List.length_nil, Nat.reduceAdd, Nat.reduceSub, List.reduceReplicate, List.cons_append, List.nil_append, List.append_nil, wSeq, wAsg, wgN, wgNil, wgCons, wgTup, wDrop, wRet, wRetN, wNext, wBrk, wCont, wIfS, wV, nth, stV, wC, wOp, wUn, wBool, wChain, wTru, truP, wAnd, wOr, wNot, wIfE, wAndV, wOrV, wNotV, wNil, wCons, wTup, wLst, wLstM, wCB, wPar, wPar3, wAug, wFor, wiSeq, wiRng1, wiRng2, seqL, seqO, rows, addP, intP, intP0, subP, fdivP, modP, powP, mulP, CDiv, CPow, CMul, neP, ordP, ltP, leP, gtP, geP, isNon, isP, isNotP, lenO, lenP, absP, min2P, max2P, listP, tupleP, allP, sumP, intCP, isinP, tysOf, ixP, seqK, keyOf, dgetP, wNoPart, wPart, slcP, slcMP, wSl, wRevL, tyM, wBm, appendP, popAtP, joinP, wDnewM, wPairs, wCall, wCallK, wFrz, wDput, dputP, eqNilP, List.isEmpty_nil, List.isEmpty_cons, Bool.not_true, Bool.not_false, Bool.true_eq_false, Bool.false_eq_true, and_true, true_and, ↓reduceIte, Int.reduceToNat, Int.reducePow, Int.reduceNeg, Int.reduceAdd, Int.reduceSub, Int.reduceMul, Nat.reduceMul, Nat.reduceLT, Nat.reduceLeDiff, isB, String.reduceBEq, Bool.or_true, Bool.or_false, Bool.and_true, Bool.and_false, Bool.true_and, Bool.false_and, Bool.false_or, Bool.true_or, Int.cast_ofNat_Int, Int.reduceBEq, Int.reduceBNe, BEq.rfl, wYes, N_law_take]
  refine while_inv (fun k ρ S' => ∃ (w' : List Int) (r' : Int), w'.length = k ∧ w'.length ≤ 63 ∧ 0 ≤ r' ∧ (∀ x ∈ w', 0 ≤ x) ∧ ρ = [some (.ref p), some (.int m), none, none, none, none] ∧ S' = put (put S p (.raw (.dic (drD b c r' t)))) b (.raw (.lst (w'.map .int)))) w.length ⟨w, r, rfl, hw2, hr0, hw, rfl, rfl⟩ ?_
  rintro k ρ S' ⟨w', r', rfl, h63, hr', hw', rfl, rfl⟩
  obtain ⟨x, hx⟩ := cell_at hc (t := t + 1) (by omega)
  by_cases z : r' = 0
  · subst z
    cases w' with
    | cons y ys =>
      simp only [startP, List.map_cons, List.map_nil, List.length_cons, List.length_nil, Nat.reduceAdd, Nat.reduceSub, List.reduceReplicate, List.cons_append, List.nil_append, List.append_nil, wSeq, wAsg, wgN, wgNil, wgCons, wgTup, wDrop, wRet, wRetN, wNext, wBrk, wCont, wIfS, wV, nth, stV, wC, wOp, wUn, wBool, wChain, wTru, truP, wAnd, wOr, wNot, wIfE, wAndV, wOrV, wNotV, wNil, wCons, wTup, wLst, wLstM, wCB, wPar, wPar3, wAug, wFor, wiSeq, wiRng1, wiRng2, seqL, seqO, rows, addP, intP, intP0, subP, fdivP, modP, powP, mulP, CDiv, CPow, CMul, neP, ordP, ltP, leP, gtP, geP, isNon, isP, isNotP, lenO, lenP, absP, min2P, max2P, listP, tupleP, allP, sumP, intCP, isinP, tysOf, ixP, seqK, keyOf, dgetP, wNoPart, wPart, slcP, slcMP, wSl, wRevL, tyM, wBm, appendP, popAtP, joinP, wDnewM, wPairs, wCall, wCallK, wFrz, wDput, dputP, eqNilP, List.isEmpty_nil, List.isEmpty_cons, Bool.not_true, Bool.not_false, Bool.true_eq_false, Bool.false_eq_true, and_true, true_and, ↓reduceIte, Int.reduceToNat, Int.reducePow, Int.reduceNeg, Int.reduceAdd, Int.reduceSub, Int.reduceMul, Nat.reduceMul, Nat.reduceLT, Nat.reduceLeDiff, isB, String.reduceBEq, Bool.or_true, Bool.or_false, Bool.and_true, Bool.and_false, Bool.true_and, Bool.false_and, Bool.false_or, Bool.true_or, Int.cast_ofNat_Int, Int.reduceBEq, Int.reduceBNe, BEq.rfl, wYes, eqP, rdS, put_ne nb, put_ne nb.symm, put_same, drD_wide, drD_cells, drD_rest, drD_turn, drD_setR, drD_setT, drD_len, BEq.rfl]
      refine ⟨_, fun ρ' S' h => h, ⟨by omega, by omega, by decide⟩, ?_⟩
      simp only [Int.toNat_zero, List.getElem?_cons_zero, List.eraseIdx_zero, List.tail_cons, drD_setR, put_put, put_ab nb]
      have hy := List.length_cons (a := y) (as := ys)
      exact ⟨by decide, ys.length, by omega, ys, y, rfl, by omega, hw' y (List.mem_cons_self), fun x h => hw' x (List.mem_cons_of_mem _ h), trivial, rfl⟩
    | nil =>
      simp only [startP, List.map_cons, List.map_nil, List.length_cons, List.length_nil, Nat.reduceAdd, Nat.reduceSub, List.reduceReplicate, List.cons_append, List.nil_append, List.append_nil, wSeq, wAsg, wgN, wgNil, wgCons, wgTup, wDrop, wRet, wRetN, wNext, wBrk, wCont, wIfS, wV, nth, stV, wC, wOp, wUn, wBool, wChain, wTru, truP, wAnd, wOr, wNot, wIfE, wAndV, wOrV, wNotV, wNil, wCons, wTup, wLst, wLstM, wCB, wPar, wPar3, wAug, wFor, wiSeq, wiRng1, wiRng2, seqL, seqO, rows, addP, intP, intP0, subP, fdivP, modP, powP, mulP, CDiv, CPow, CMul, neP, ordP, ltP, leP, gtP, geP, isNon, isP, isNotP, lenO, lenP, absP, min2P, max2P, listP, tupleP, allP, sumP, intCP, isinP, tysOf, ixP, seqK, keyOf, dgetP, wNoPart, wPart, slcP, slcMP, wSl, wRevL, tyM, wBm, appendP, popAtP, joinP, wDnewM, wPairs, wCall, wCallK, wFrz, wDput, dputP, eqNilP, List.isEmpty_nil, List.isEmpty_cons, Bool.not_true, Bool.not_false, Bool.true_eq_false, Bool.false_eq_true, and_true, true_and, ↓reduceIte, Int.reduceToNat, Int.reducePow, Int.reduceNeg, Int.reduceAdd, Int.reduceSub, Int.reduceMul, Nat.reduceMul, Nat.reduceLT, Nat.reduceLeDiff, isB, String.reduceBEq, Bool.or_true, Bool.or_false, Bool.and_true, Bool.and_false, Bool.true_and, Bool.false_and, Bool.false_or, Bool.true_or, Int.cast_ofNat_Int, Int.reduceBEq, Int.reduceBNe, BEq.rfl, wYes, eqP, rdS, put_ne nb, put_ne nb.symm, put_same, drD_wide, drD_cells, drD_rest, drD_turn, drD_setR, drD_setT, drD_len, BEq.rfl, hx, Int.lt_irrefl, decide_false, put_ab nb]
      refine ⟨by decide, by rw [List.length_map]; have := List.length_pos_iff.mpr hc; omega, by decide, .inr (by omega), by decide, ⟨by decide, by decide, ?_⟩, by decide, by decide, .inr (by omega), .inl (by decide), .inr (by omega), ⟨by decide, by decide, ?_⟩, by decide, ⟨by decide, by decide⟩, h1, q _ [] 0 (t + 1) ?_ ?_ (by omega) (fun x h => nomatch h) (Nat.zero_le _) (by omega) (by omega)⟩
      · omega
      · exact mix_lt (by omega) (by omega)
      · exact Int.emod_nonneg _ (by omega)
      · exact Int.emod_lt_of_pos _ h1
  · simp only [startP, List.map_cons, List.map_nil, List.length_cons, List.length_nil, Nat.reduceAdd, Nat.reduceSub, List.reduceReplicate, List.cons_append, List.nil_append, List.append_nil, wSeq, wAsg, wgN, wgNil, wgCons, wgTup, wDrop, wRet, wRetN, wNext, wBrk, wCont, wIfS, wV, nth, stV, wC, wOp, wUn, wBool, wChain, wTru, truP, wAnd, wOr, wNot, wIfE, wAndV, wOrV, wNotV, wNil, wCons, wTup, wLst, wLstM, wCB, wPar, wPar3, wAug, wFor, wiSeq, wiRng1, wiRng2, seqL, seqO, rows, addP, intP, intP0, subP, fdivP, modP, powP, mulP, CDiv, CPow, CMul, neP, ordP, ltP, leP, gtP, geP, isNon, isP, isNotP, lenO, lenP, absP, min2P, max2P, listP, tupleP, allP, sumP, intCP, isinP, tysOf, ixP, seqK, keyOf, dgetP, wNoPart, wPart, slcP, slcMP, wSl, wRevL, tyM, wBm, appendP, popAtP, joinP, wDnewM, wPairs, wCall, wCallK, wFrz, wDput, dputP, eqNilP, List.isEmpty_nil, List.isEmpty_cons, Bool.not_true, Bool.not_false, Bool.true_eq_false, Bool.false_eq_true, and_true, true_and, ↓reduceIte, Int.reduceToNat, Int.reducePow, Int.reduceNeg, Int.reduceAdd, Int.reduceSub, Int.reduceMul, Nat.reduceMul, Nat.reduceLT, Nat.reduceLeDiff, isB, String.reduceBEq, Bool.or_true, Bool.or_false, Bool.and_true, Bool.and_false, Bool.true_and, Bool.false_and, Bool.false_or, Bool.true_or, Int.cast_ofNat_Int, Int.reduceBEq, Int.reduceBNe, BEq.rfl, wYes, eqP, rdS, put_ne nb, put_ne nb.symm, put_same, drD_wide, drD_cells, drD_rest, drD_turn, drD_setR, drD_setT, drD_len, beq_false_of_ne z, decide_eq_true (show 0 < r' by omega), put_ab nb]
    exact ⟨h1, ⟨h1, h2⟩, by decide, q _ _ _ _ (Int.emod_nonneg _ (by omega)) (Int.emod_lt_of_pos _ h1) (Int.ediv_nonneg hr' (by omega)) hw' h63 ht (by omega)⟩

theorem ok_law_take (T : Tx K mg base) : FnG P w K mg base 1 T.f__law_take T.d__law_take ["_law_state", "_law_size"] SpTake := by
  refine (ok_law_takeI T).via (fun xs S Q E h => by cases h; rfl) fun F H S xs Q E hd h => ?_
  cases h with
  | @mk p m n _ _ _ e h1 h2 hn q =>
  obtain ⟨b, r1, r2, nb, sb, ⟨w, c, r, t, rfl, rfl, a1, a2, a3, a4, a5, a6, a7⟩, hd'⟩ := hd.open2 e
  refine ⟨_, fun v S2 => ∃ (u : Int) (w' : List Int) (r' t' : Int), v = .int u ∧ 0 ≤ u ∧ u < m ∧ 0 ≤ r' ∧ (∀ x ∈ w', 0 ≤ x) ∧ w'.length ≤ 63 ∧ 0 ≤ t' ∧ t' ≤ (n + 1 : Nat) ∧ S2 = put (put S p (.raw (.dic (drD b c r' t')))) b (.raw (.lst (w'.map .int))), fun _ _ => False, hd',
    .mk nb a1 a2 a3 a4 a5 a6 a7 h1 h2 hn fun v w' r' t' b1 b2 b3 b4 b5 b6 b7 => ⟨v, w', r', t', rfl, b1, b2, b3, b4, b5, b6, b7, rfl⟩, fun v S2 ⟨u, w', r', t', z1, z2, z3, z4, z5, z6, z7, z8, z9⟩ => ?_, fun _ _ z => z.elim⟩
  subst z1 z9
  refine ⟨_, fun F2 H2 hd2 => ?_, q u z2 z3⟩
  have := hd2.close2 (p := p) (b := b) (n := n + 1) (ψ := drR) (by rw [put_ne nb.symm, put_same]) put_same nb ⟨w', c, r', t', rfl, rfl, z4, z5, a3, a4, z6, z7, z8⟩
  rwa [put_ab nb, rmv_put (by rw [put_ne nb]; exact sb)] at this
theorem ok_law_begunI (T : Tx K mg base) : FnG P w K mg base 1 T.f__law_begun T.d__law_begun ["_law_script"] SpBegunI := by
  refine okG T.F__law_begun sc_law_begun (fun xs S Q E h => by cases h; rfl) fun cdv A outer s H EX F0 xs S0 Q E hG hr hp tk h => ?_
  cases h with
  | @mk ns _ _ _ hl q =>
  refine ⟨_, (wss_cons (ws_setLc (mk := true) 1 rfl sc_law_begun.nd (wi_seq (we_var 0)) (own := [("_law_cell", 2)]) (blkOk_by (N := N_law_begun) (sc := defScope s_law_begun) (by decide +kernel)) (fun _ _ _ _ _ => (wg_name 2 sc_law_begun.nd)) (by decide) (fun _ _ _ _ _ => (wts_one (wt_cmp ow_ge (we_callB cw_abs T.m_abs (wa_cons (we_var 2) wa_nil)) (we_op ow_pow we_int we_int)))) (fun _ _ _ _ _ => (we_op ow_sub (we_callB cw_abs T.m_abs (wa_cons (we_var 2) wa_nil)) (we_op ow_pow we_int we_int))))
  (wss_one (ws_ret (we_dispM (WPs.cons we_str (we_var 1) (WPs.cons we_str (we_or (we_callTy (cw_list (mk := false)) T.m_list (wa_cons (we_var 0) wa_nil)) (we_one (we_lst (wa_cons we_int wa_nil)))) (WPs.cons we_str we_int (WPs.cons we_str we_int WPs.nil)))))))), ?_⟩
  simp only [startP, List.map_cons, List.map_nil, List.length_cons, List.length_nil, Nat.reduceAdd, Nat.reduceSub, List.reduceReplicate, List.cons_append, List.nil_append, List.append_nil, wSeq, wAsg, wgN, wgNil, wgCons, wgTup, wDrop, wRet, wRetN, wNext, wBrk, wCont, wIfS, wV, nth, stV, wC, wOp, wUn, wBool, wChain, wTru, truP, wAnd, wOr, wNot, wIfE, wAndV, wOrV, wNotV, wNil, wCons, wTup, wLst, wLstM, wCB, wPar, wPar3, wAug, wFor, wiSeq, wiRng1, wiRng2, seqL, seqO, rows, addP, intP, intP0, subP, fdivP, modP, powP, mulP, CDiv, CPow, CMul, neP, ordP, ltP, leP, gtP, geP, isNon, isP, isNotP, lenO, lenP, absP, min2P, max2P, listP, tupleP, allP, sumP, intCP, isinP, tysOf, ixP, seqK, keyOf, dgetP, wNoPart, wPart, slcP, slcMP, wSl, wRevL, tyM, wBm, appendP, popAtP, joinP, wDnewM, wPairs, wCall, wCallK, wFrz, wDput, dputP, eqNilP, List.isEmpty_nil, List.isEmpty_cons, Bool.not_true, Bool.not_false, Bool.true_eq_false, Bool.false_eq_true, and_true, true_and, ↓reduceIte, Int.reduceToNat, Int.reducePow, Int.reduceNeg, Int.reduceAdd, Int.reduceSub, Int.reduceMul, Nat.reduceMul, Nat.reduceLT, Nat.reduceLeDiff, isB, String.reduceBEq, Bool.or_true, Bool.or_false, Bool.and_true, Bool.and_false, Bool.true_and, Bool.false_and, Bool.false_or, Bool.true_or, Int.cast_ofNat_Int, Int.reduceBEq, Int.reduceBNe, BEq.rfl, wYes, N_law_begun, wLc, wDispM]
  intro D hD
  have hfm : ∀ l : List Int, (l.map PV.int).filterMap wideF = ((l.filter wideB).map wideV).map .int := by
    intro l
    induction l with
    | nil => rfl
    | cons i l ih =>
      by_cases z : wideB i = true
      · rw [List.map_cons, List.filterMap_cons_some (show wideF (.int i) = some (.int (wideV i)) from if_pos z), List.filter_cons_of_pos z, List.map_cons, List.map_cons, ih]
      · rw [List.map_cons, List.filterMap_cons_none (show wideF (.int i) = none from if_neg z), List.filter_cons_of_neg z, ih]
  refine lc_pure wideF (by rw [List.length_map]; exact Nat.le_trans hl (by decide)) (fun x hx S' R1 R0 _ k1 k0 => ?_) trivial ?_
  · obtain ⟨i, _, rfl⟩ := List.mem_map.mp hx
    simp only [startP, List.map_cons, List.map_nil, List.length_cons, List.length_nil, Nat.reduceAdd, Nat.reduceSub, List.reduceReplicate, List.cons_append, List.nil_append, List.append_nil, wSeq, wAsg, wgN, wgNil, wgCons, wgTup, wDrop, wRet, wRetN, wNext, wBrk, wCont, wIfS, wV, nth, stV, wC, wOp, wUn, wBool, wChain, wTru, truP, wAnd, wOr, wNot, wIfE, wAndV, wOrV, wNotV, wNil, wCons, wTup, wLst, wLstM, wCB, wPar, wPar3, wAug, wFor, wiSeq, wiRng1, wiRng2, seqL, seqO, rows, addP, intP, intP0, subP, fdivP, modP, powP, mulP, CDiv, CPow, CMul, neP, ordP, ltP, leP, gtP, geP, isNon, isP, isNotP, lenO, lenP, absP, min2P, max2P, listP, tupleP, allP, sumP, intCP, isinP, tysOf, ixP, seqK, keyOf, dgetP, wNoPart, wPart, slcP, slcMP, wSl, wRevL, tyM, wBm, appendP, popAtP, joinP, wDnewM, wPairs, wCall, wCallK, wFrz, wDput, dputP, eqNilP, List.isEmpty_nil, List.isEmpty_cons, Bool.not_true, Bool.not_false, Bool.true_eq_false, Bool.false_eq_true, and_true, true_and, ↓reduceIte, Int.reduceToNat, Int.reducePow, Int.reduceNeg, Int.reduceAdd, Int.reduceSub, Int.reduceMul, Nat.reduceMul, Nat.reduceLT, Nat.reduceLeDiff, isB, String.reduceBEq, Bool.or_true, Bool.or_false, Bool.and_true, Bool.and_false, Bool.true_and, Bool.false_and, Bool.false_or, Bool.true_or, Int.cast_ofNat_Int, Int.reduceBEq, Int.reduceBNe, BEq.rfl, wYes, wipeP]
    refine ⟨by decide, ?_⟩
    split
    · rename_i z
      exact ⟨by decide, k1 _ (if_pos z)⟩
    · rename_i z
      exact k0 (if_neg (by show ¬ (decide _ = true); rw [z]; decide))
  · show lcEnd true _ _ _ _
    simp only [lcEnd]
    intro p hp'
    have nb : D ≠ p := fun z => by rw [← z, put_same] at hp'; cases hp'
    rw [put_ne nb.symm] at hp'
    simp only [hfm, put_put, put_same]
    have hw : ∀ x ∈ (ns.filter wideB).map wideV, 0 ≤ x := fun x hx => by
      obtain ⟨i, hi, rfl⟩ := List.mem_map.mp hx
      have := of_decide_eq_true (List.mem_filter.mp hi).2
      unfold wideV
      omega
    have hwl : ((ns.filter wideB).map wideV).length ≤ 63 := by
      rw [List.length_map]
      exact Nat.le_trans (List.length_filter_le _ _) hl
    have hk : ∀ x y : PV, (match keysOf [(PV.str "wide", x), (PV.str "cells", y), (PV.str "rest", PV.int 0), (PV.str "turn", PV.int 0)] with
        | some ks => ks.Nodup
        | none => False) := fun x y => by
      show List.Nodup [(Sum.inr "wide" : Key), .inr "cells", .inr "rest", .inr "turn"]
      decide +kernel
    cases ns with
    | nil => exact ⟨trivial, hk (.ref D) (.lst [.int 1]), q p D _ [1] nb hp' hD hw (fun z => nomatch z) (by decide) hwl⟩
    | cons n1 ns => exact ⟨trivial, hk (.ref D) (.lst ((n1 :: ns).map .int)), q p D _ (n1 :: ns) nb hp' hD hw (fun z => nomatch z) hl hwl⟩
theorem ok_law_begun (T : Tx K mg base) : FnG P w K mg base 1 T.f__law_begun T.d__law_begun ["_law_script"] SpBegun := by
  refine (ok_law_begunI T).via (fun xs S Q E h => by cases h; rfl) fun F H S xs Q E hd h => ?_
  cases h with
  | @mk ns _ _ _ hl q =>
  refine ⟨S, fun v S2 => ∃ (p b : Addr) (w c : List Int), v = .ref p ∧ b ≠ p ∧ S p = none ∧ S b = none ∧ (∀ x ∈ w, 0 ≤ x) ∧ c ≠ [] ∧ c.length ≤ 63 ∧ w.length ≤ 63 ∧ S2 = put (put S b (.raw (.lst (w.map .int)))) p (.raw (.dic (drD b c 0 0))), fun _ _ => False, hd,
    .mk hl fun p b w c a1 a2 a3 a4 a5 a6 a7 => ⟨p, b, w, c, rfl, a1, a2, a3, a4, a5, a6, a7, rfl⟩, fun v S2 ⟨p, b, w, c, z1, nb, z2, z3, z4, z5, z6, z7, z8⟩ => ?_, fun _ _ z => z.elim⟩
  subst z1 z8
  refine ⟨_, fun F2 H2 hd2 => ?_, q p z2⟩
  have := hd2.close2 (p := p) (b := b) (n := 0) (ψ := drR) put_same (by rw [put_ne nb, put_same]) nb ⟨w, c, 0, 0, rfl, rfl, Int.le_refl 0, z4, z5, z6, z7, Int.le_refl 0, Int.le_refl 0⟩
  rwa [put_put, put_comm nb, rmv_put (by rw [put_ne nb]; exact z3)] at this
theorem ok_law_pick (T : Tx K mg base) : FnG P w K mg base 2 T.f__law_pick T.d__law_pick ["_law_state", "_law_some"] SpPick := by
  refine okG T.F__law_pick sc_law_pick (fun xs S Q E h => by cases h; rfl) fun cdv A outer s H EX F0 xs S0 Q E hG hr hp tk h => ?_
  cases h with
  | @mk p x xs n _ _ _ e hx h0 hl hn q =>
  refine ⟨_, (wss_one (ws_ret (we_ix (we_var 1) (we_call (ok_law_take T) hG (hr.mono (by decide)) T.g__law_take T.F__law_take.kp T.b__law_take dflt0 tk0 (wa_cons (we_var 0) (wa_cons (we_callB cw_len T.m_len (wa_cons (we_var 1) wa_nil)) wa_nil)))))), ?_⟩
  have hpos := List.length_pos_iff.mpr h0
  simp only [startP, N_law_pick, List.map_cons, List.map_nil, List.length_cons, List.length_nil, Nat.reduceAdd, Nat.reduceSub, List.reduceReplicate, List.append_nil, wRet, wOp, wV, nth, wCall, wCons, wCB, wNil, lenP, rows_len hx hl]
  refine .mk e (by omega) (by omega) hn fun r b1 b2 => ?_
  exact rows_ix (rows_put e hx) hl b1 b2 q

/-! ### what is a name, a number, a sum, a sale -/
theorem ok_is_number (T : Tx K mg base) : FnG P w K mg base 1 T.f_is_number T.d_is_number ["value"] (pure1 PlainX fun x => .bl (isNum x)) := by
  refine okG T.F_is_number sc_is_number pure1_len fun cdv A outer s H EX F0 xs S0 Q E hG hr hp tk h => ?_
  unfold pure1 at h
  split at h
  · rename_i x
    obtain ⟨h, q⟩ := h
    have hpl := h.plain
    refine ⟨_, (wss_one (ws_ret (we_and (we_callB cw_isi T.m_isinstance (wa_cons (we_var 0) (wa_cons (we_bty (n := "int") T.m_int) wa_nil))) (we_one (we_not (we_callB cw_isi T.m_isinstance (wa_cons (we_var 0) (wa_cons (we_bty (n := "bool") T.m_bool) wa_nil)))))))), ?_⟩
    cases x <;> first | cases hpl; done | (simp only [startP, List.map_cons, List.map_nil, List.length_cons, List.length_nil, Nat.reduceAdd, Nat.reduceSub, List.reduceReplicate, List.cons_append, List.nil_append, List.append_nil, wSeq, wAsg, wgN, wgNil, wgCons, wgTup, wDrop, wRet, wRetN, wNext, wBrk, wCont, wIfS, wV, nth, stV, wC, wOp, wUn, wBool, wChain, wTru, truP, wAnd, wOr, wNot, wIfE, wAndV, wOrV, wNotV, wNil, wCons, wTup, wLst, wLstM, wCB, wPar, wPar3, wAug, wFor, wiSeq, wiRng1, wiRng2, seqL, seqO, rows, addP, intP, intP0, subP, fdivP, modP, powP, mulP, CDiv, CPow, CMul, neP, ordP, ltP, leP, gtP, geP, isNon, isP, isNotP, lenO, lenP, absP, min2P, max2P, listP, tupleP, allP, sumP, intCP, isinP, tysOf, ixP, seqK, keyOf, dgetP, wNoPart, wPart, slcP, slcMP, wSl, wRevL, tyM, wBm, appendP, popAtP, joinP, wDnewM, wPairs, wCall, wCallK, wFrz, wDput, dputP, eqNilP, List.isEmpty_nil, List.isEmpty_cons, Bool.not_true, Bool.not_false, Bool.true_eq_false, Bool.false_eq_true, and_true, true_and, ↓reduceIte, Int.reduceToNat, Int.reducePow, Int.reduceNeg, Int.reduceAdd, Int.reduceSub, Int.reduceMul, Nat.reduceMul, Nat.reduceLT, Nat.reduceLeDiff, isB, String.reduceBEq, Bool.or_true, Bool.or_false, Bool.and_true, Bool.and_false, Bool.true_and, Bool.false_and, Bool.false_or, Bool.true_or, Int.cast_ofNat_Int, Int.reduceBEq, Int.reduceBNe, BEq.rfl, wYes, N_is_number, kind_int, kind_bool, tyN]; exact q)
  · exact h.elim
theorem ok_is_amount (T : Tx K mg base) : FnG P w K mg base 2 T.f_is_amount T.d_is_amount ["value"] (pure1 PlainX fun x => .bl (isAmt x)) := by
  refine okG T.F_is_amount sc_is_amount pure1_len fun cdv A outer s H EX F0 xs S0 Q E hG hr hp tk h => ?_
  unfold pure1 at h
  split at h
  · rename_i x
    obtain ⟨h, q⟩ := h
    have hpl := h.plain
    refine ⟨_, (wss_one (ws_ret (we_and (we_call (ok_is_number T) hG (hr.mono (by decide)) T.g_is_number T.F_is_number.kp T.b_is_number dflt0 tk0 (wa_cons (we_var 0) wa_nil)) (we_one (we_chain ow_le ow_le we_int (we_var 0) (we_ccon T.g_Accounts T.r_Accounts T.c_Accounts_MOST fun _ => .int _)))))), ?_⟩
    simp only [startP, List.map_cons, List.map_nil, List.length_cons, List.length_nil, Nat.reduceAdd, Nat.reduceSub, List.reduceReplicate, List.cons_append, List.nil_append, List.append_nil, wSeq, wAsg, wgN, wgNil, wgCons, wgTup, wDrop, wRet, wRetN, wNext, wBrk, wCont, wIfS, wV, nth, stV, wC, wOp, wUn, wBool, wChain, wTru, truP, wAnd, wOr, wNot, wIfE, wAndV, wOrV, wNotV, wNil, wCons, wTup, wLst, wLstM, wCB, wPar, wPar3, wAug, wFor, wiSeq, wiRng1, wiRng2, seqL, seqO, rows, addP, intP, intP0, subP, fdivP, modP, powP, mulP, CDiv, CPow, CMul, neP, ordP, ltP, leP, gtP, geP, isNon, isP, isNotP, lenO, lenP, absP, min2P, max2P, listP, tupleP, allP, sumP, intCP, isinP, tysOf, ixP, seqK, keyOf, dgetP, wNoPart, wPart, slcP, slcMP, wSl, wRevL, tyM, wBm, appendP, popAtP, joinP, wDnewM, wPairs, wCall, wCallK, wFrz, wDput, dputP, eqNilP, List.isEmpty_nil, List.isEmpty_cons, Bool.not_true, Bool.not_false, Bool.true_eq_false, Bool.false_eq_true, and_true, true_and, ↓reduceIte, Int.reduceToNat, Int.reducePow, Int.reduceNeg, Int.reduceAdd, Int.reduceSub, Int.reduceMul, Nat.reduceMul, Nat.reduceLT, Nat.reduceLeDiff, isB, String.reduceBEq, Bool.or_true, Bool.or_false, Bool.and_true, Bool.and_false, Bool.true_and, Bool.false_and, Bool.false_or, Bool.true_or, Int.cast_ofNat_Int, Int.reduceBEq, Int.reduceBNe, BEq.rfl, wYes, N_is_amount, pure1]
    refine ⟨h, ?_⟩
    cases x with
    | int i =>
      simp only [isNum, truP, startP, List.map_cons, List.map_nil, List.length_cons, List.length_nil, Nat.reduceAdd, Nat.reduceSub, List.reduceReplicate, List.cons_append, List.nil_append, List.append_nil, wSeq, wAsg, wgN, wgNil, wgCons, wgTup, wDrop, wRet, wRetN, wNext, wBrk, wCont, wIfS, wV, nth, stV, wC, wOp, wUn, wBool, wChain, wTru, truP, wAnd, wOr, wNot, wIfE, wAndV, wOrV, wNotV, wNil, wCons, wTup, wLst, wLstM, wCB, wPar, wPar3, wAug, wFor, wiSeq, wiRng1, wiRng2, seqL, seqO, rows, addP, intP, intP0, subP, fdivP, modP, powP, mulP, CDiv, CPow, CMul, neP, ordP, ltP, leP, gtP, geP, isNon, isP, isNotP, lenO, lenP, absP, min2P, max2P, listP, tupleP, allP, sumP, intCP, isinP, tysOf, ixP, seqK, keyOf, dgetP, wNoPart, wPart, slcP, slcMP, wSl, wRevL, tyM, wBm, appendP, popAtP, joinP, wDnewM, wPairs, wCall, wCallK, wFrz, wDput, dputP, eqNilP, List.isEmpty_nil, List.isEmpty_cons, Bool.not_true, Bool.not_false, Bool.true_eq_false, Bool.false_eq_true, and_true, true_and, ↓reduceIte, Int.reduceToNat, Int.reducePow, Int.reduceNeg, Int.reduceAdd, Int.reduceSub, Int.reduceMul, Nat.reduceMul, Nat.reduceLT, Nat.reduceLeDiff, isB, String.reduceBEq, Bool.or_true, Bool.or_false, Bool.and_true, Bool.and_false, Bool.true_and, Bool.false_and, Bool.false_or, Bool.true_or, Int.cast_ofNat_Int, Int.reduceBEq, Int.reduceBNe, BEq.rfl, wYes]
      replace q : Q (.bl (decide (0 ≤ i) && decide (i ≤ 1000000000))) S0 := q
      by_cases z : 0 ≤ i
      · simp only [z, decide_true, ↓reduceIte]
        rwa [decide_eq_true z, Bool.true_and] at q
      · simp only [z, decide_false, Bool.false_eq_true, ↓reduceIte]
        rwa [decide_eq_false z, Bool.false_and] at q
    | _ => exact q
  · exact h.elim
theorem ok_is_name (T : Tx K mg base) : FnG P w K mg base 1 T.f_is_name T.d_is_name ["value"] (pure1 PlainX fun x => .bl (isNam x)) := by
  refine okG T.F_is_name sc_is_name pure1_len fun cdv A outer s H EX F0 xs S0 Q E hG hr hp tk h => ?_
  unfold pure1 at h
  split at h
  · rename_i x
    obtain ⟨h, q⟩ := h
    have hpl := h.plain
    refine ⟨_, (wss_cons (ws_if (WW.wt (ww_or (wt_not (wt_tru (we_callB cw_isi T.m_isinstance (wa_cons (we_var 0) (wa_cons (we_bty (n := "str") T.m_str) wa_nil))))) (ww_or1 (wt_not (wt_chain ow_le ow_le we_int (we_callB cw_len T.m_len (wa_cons (we_var 0) wa_nil)) (we_gint T.g_LONGEST_NAME))))))
  (wss_one (ws_ret we_bl))
  wss_nil)
  (wss_one (ws_ret (we_callB (cw_all rfl) T.m_all (wa_cons (we_lc (mk := false) rfl sc_is_name.nd (wi_seq (we_var 0)) (own := [("sign", 1)]) (blkOk_by (N := N_is_name) (sc := defScope s_is_name) (by decide +kernel)) (fun _ _ _ _ _ => (wg_name 1 sc_is_name.nd)) (by decide) (fun _ _ _ _ _ => wts_nil) (fun _ _ _ _ _ => (we_cmp (ow_in (hu_of hr)) (we_var 1) (we_gstr T.g_LETTERS)))) wa_nil))))), ?_⟩
    cases x with
    | str z =>
      have hz := h.str
      have hz2 : z.length ≤ sizeLine := Nat.le_trans hz (by decide)
      simp only [startP, List.map_cons, List.map_nil, List.length_cons, List.length_nil, Nat.reduceAdd, Nat.reduceSub, List.reduceReplicate, List.cons_append, List.nil_append, List.append_nil, wSeq, wAsg, wgN, wgNil, wgCons, wgTup, wDrop, wRet, wRetN, wNext, wBrk, wCont, wIfS, wV, nth, stV, wC, wOp, wUn, wBool, wChain, wTru, truP, wAnd, wOr, wNot, wIfE, wAndV, wOrV, wNotV, wNil, wCons, wTup, wLst, wLstM, wCB, wPar, wPar3, wAug, wFor, wiSeq, wiRng1, wiRng2, seqL, seqO, rows, addP, intP, intP0, subP, fdivP, modP, powP, mulP, CDiv, CPow, CMul, neP, ordP, ltP, leP, gtP, geP, isNon, isP, isNotP, lenO, lenP, absP, min2P, max2P, listP, tupleP, allP, sumP, intCP, isinP, tysOf, ixP, seqK, keyOf, dgetP, wNoPart, wPart, slcP, slcMP, wSl, wRevL, tyM, wBm, appendP, popAtP, joinP, wDnewM, wPairs, wCall, wCallK, wFrz, wDput, dputP, eqNilP, List.isEmpty_nil, List.isEmpty_cons, Bool.not_true, Bool.not_false, Bool.true_eq_false, Bool.false_eq_true, and_true, true_and, ↓reduceIte, Int.reduceToNat, Int.reducePow, Int.reduceNeg, Int.reduceAdd, Int.reduceSub, Int.reduceMul, Nat.reduceMul, Nat.reduceLT, Nat.reduceLeDiff, isB, String.reduceBEq, Bool.or_true, Bool.or_false, Bool.and_true, Bool.and_false, Bool.true_and, Bool.false_and, Bool.false_or, Bool.true_or, Int.cast_ofNat_Int, Int.reduceBEq, Int.reduceBNe, BEq.rfl, wYes, N_is_name, kind_str, tyN, hz2, wLc]
      replace q : Q (.bl (decide (1 ≤ z.length) && decide (z.length ≤ 8) && (signs z).all inLet)) S0 := q
      have e1 : decide ((1 : Int) ≤ (z.length : Int)) = decide (1 ≤ z.length) := decide_eq_decide.mpr (by omega)
      have e2 : decide ((z.length : Int) ≤ 8) = decide (z.length ≤ 8) := decide_eq_decide.mpr (by omega)
      simp only [e1, e2]
      by_cases a1 : 1 ≤ z.length
      · by_cases a2 : z.length ≤ 8
        · rw [decide_eq_true a1, decide_eq_true a2] at q ⊢
          simp only [Bool.not_true, ↓reduceIte, Bool.true_and] at q ⊢
          intro D hD
          refine lc_pureF (fun x => some (.bl (inLet x))) (by rw [signs_len]; exact hz2) hD (fun x hx S' R1 R0 _ k1 k0 => ?_) (fun _ _ => trivial) ?_
          · obtain ⟨c, _, rfl⟩ := List.mem_map.mp hx
            simp only [startP, List.map_cons, List.map_nil, List.length_cons, List.length_nil, Nat.reduceAdd, Nat.reduceSub, List.reduceReplicate, List.cons_append, List.nil_append, List.append_nil, wSeq, wAsg, wgN, wgNil, wgCons, wgTup, wDrop, wRet, wRetN, wNext, wBrk, wCont, wIfS, wV, nth, stV, wC, wOp, wUn, wBool, wChain, wTru, truP, wAnd, wOr, wNot, wIfE, wAndV, wOrV, wNotV, wNil, wCons, wTup, wLst, wLstM, wCB, wPar, wPar3, wAug, wFor, wiSeq, wiRng1, wiRng2, seqL, seqO, rows, addP, intP, intP0, subP, fdivP, modP, powP, mulP, CDiv, CPow, CMul, neP, ordP, ltP, leP, gtP, geP, isNon, isP, isNotP, lenO, lenP, absP, min2P, max2P, listP, tupleP, allP, sumP, intCP, isinP, tysOf, ixP, seqK, keyOf, dgetP, wNoPart, wPart, slcP, slcMP, wSl, wRevL, tyM, wBm, appendP, popAtP, joinP, wDnewM, wPairs, wCall, wCallK, wFrz, wDput, dputP, eqNilP, List.isEmpty_nil, List.isEmpty_cons, Bool.not_true, Bool.not_false, Bool.true_eq_false, Bool.false_eq_true, and_true, true_and, ↓reduceIte, Int.reduceToNat, Int.reducePow, Int.reduceNeg, Int.reduceAdd, Int.reduceSub, Int.reduceMul, Nat.reduceMul, Nat.reduceLT, Nat.reduceLeDiff, isB, String.reduceBEq, Bool.or_true, Bool.or_false, Bool.and_true, Bool.and_false, Bool.true_and, Bool.false_and, Bool.false_or, Bool.true_or, Int.cast_ofNat_Int, Int.reduceBEq, Int.reduceBNe, BEq.rfl, wYes, wipeP, wYes, inP, memP]
            exact k1 _ rfl
          · simp only [filterMap_some, boolsOf_in, all_id]
            exact q
        · rw [decide_eq_true a1, decide_eq_false a2] at q ⊢
          simpa using q
      · rw [decide_eq_false a1] at q ⊢
        simpa using q
    | _ => first | cases hpl; done | (simp only [startP, List.map_cons, List.map_nil, List.length_cons, List.length_nil, Nat.reduceAdd, Nat.reduceSub, List.reduceReplicate, List.cons_append, List.nil_append, List.append_nil, wSeq, wAsg, wgN, wgNil, wgCons, wgTup, wDrop, wRet, wRetN, wNext, wBrk, wCont, wIfS, wV, nth, stV, wC, wOp, wUn, wBool, wChain, wTru, truP, wAnd, wOr, wNot, wIfE, wAndV, wOrV, wNotV, wNil, wCons, wTup, wLst, wLstM, wCB, wPar, wPar3, wAug, wFor, wiSeq, wiRng1, wiRng2, seqL, seqO, rows, addP, intP, intP0, subP, fdivP, modP, powP, mulP, CDiv, CPow, CMul, neP, ordP, ltP, leP, gtP, geP, isNon, isP, isNotP, lenO, lenP, absP, min2P, max2P, listP, tupleP, allP, sumP, intCP, isinP, tysOf, ixP, seqK, keyOf, dgetP, wNoPart, wPart, slcP, slcMP, wSl, wRevL, tyM, wBm, appendP, popAtP, joinP, wDnewM, wPairs, wCall, wCallK, wFrz, wDput, dputP, eqNilP, List.isEmpty_nil, List.isEmpty_cons, Bool.not_true, Bool.not_false, Bool.true_eq_false, Bool.false_eq_true, and_true, true_and, ↓reduceIte, Int.reduceToNat, Int.reducePow, Int.reduceNeg, Int.reduceAdd, Int.reduceSub, Int.reduceMul, Nat.reduceMul, Nat.reduceLT, Nat.reduceLeDiff, isB, String.reduceBEq, Bool.or_true, Bool.or_false, Bool.and_true, Bool.and_false, Bool.true_and, Bool.false_and, Bool.false_or, Bool.true_or, Int.cast_ofNat_Int, Int.reduceBEq, Int.reduceBNe, BEq.rfl, wYes, N_is_name, kind_str, tyN]; exact q)
  · exact h.elim
theorem ok_law_is_name (T : Tx K mg base) : FnG P w K mg base 1 T.f__law_is_name T.d__law_is_name ["_law_given"] (pure1 PlainX fun x => .bl (isNam x)) := by
  refine okG T.F__law_is_name sc_law_is_name pure1_len fun cdv A outer s H EX F0 xs S0 Q E hG hr hp tk h => ?_
  unfold pure1 at h
  split at h
  · rename_i x
    obtain ⟨h, q⟩ := h
    have hpl := h.plain
    refine ⟨_, (wss_cons (ws_if (WW.wt (ww_or (wt_not (wt_tru (we_callB cw_isi T.m_isinstance (wa_cons (we_var 0) (wa_cons (we_bty (n := "str") T.m_str) wa_nil))))) (ww_or1 (wt_not (wt_chain ow_le ow_le we_int (we_callB cw_len T.m_len (wa_cons (we_var 0) wa_nil)) we_int)))))
  (wss_one (ws_ret we_bl))
  wss_nil)
  (wss_one (ws_ret (we_cmp (ow_eqNil hr.units) (we_lc (mk := false) rfl sc_law_is_name.nd (wi_seq (we_var 0)) (own := [("_law_letter", 1)]) (blkOk_by (N := N_law_is_name) (sc := defScope s_law_is_name) (by decide +kernel)) (fun _ _ _ _ _ => (wg_name 1 sc_law_is_name.nd)) (by decide) (fun _ _ _ _ _ => (wts_one (wt_cmp (ow_notIn (hu_of hr)) (we_var 1) we_str))) (fun _ _ _ _ _ => (we_var 1))) (we_lst wa_nil))))), ?_⟩
    cases x with
    | str z =>
      have hz := h.str
      have hz2 : z.length ≤ sizeLine := Nat.le_trans hz (by decide)
      simp only [startP, List.map_cons, List.map_nil, List.length_cons, List.length_nil, Nat.reduceAdd, Nat.reduceSub, List.reduceReplicate, List.cons_append, List.nil_append, List.append_nil, wSeq, wAsg, wgN, wgNil, wgCons, wgTup, wDrop, wRet, wRetN, wNext, wBrk, wCont, wIfS, wV, nth, stV, wC, wOp, wUn, wBool, wChain, wTru, truP, wAnd, wOr, wNot, wIfE, wAndV, wOrV, wNotV, wNil, wCons, wTup, wLst, wLstM, wCB, wPar, wPar3, wAug, wFor, wiSeq, wiRng1, wiRng2, seqL, seqO, rows, addP, intP, intP0, subP, fdivP, modP, powP, mulP, CDiv, CPow, CMul, neP, ordP, ltP, leP, gtP, geP, isNon, isP, isNotP, lenO, lenP, absP, min2P, max2P, listP, tupleP, allP, sumP, intCP, isinP, tysOf, ixP, seqK, keyOf, dgetP, wNoPart, wPart, slcP, slcMP, wSl, wRevL, tyM, wBm, appendP, popAtP, joinP, wDnewM, wPairs, wCall, wCallK, wFrz, wDput, dputP, eqNilP, List.isEmpty_nil, List.isEmpty_cons, Bool.not_true, Bool.not_false, Bool.true_eq_false, Bool.false_eq_true, and_true, true_and, ↓reduceIte, Int.reduceToNat, Int.reducePow, Int.reduceNeg, Int.reduceAdd, Int.reduceSub, Int.reduceMul, Nat.reduceMul, Nat.reduceLT, Nat.reduceLeDiff, isB, String.reduceBEq, Bool.or_true, Bool.or_false, Bool.and_true, Bool.and_false, Bool.true_and, Bool.false_and, Bool.false_or, Bool.true_or, Int.cast_ofNat_Int, Int.reduceBEq, Int.reduceBNe, BEq.rfl, wYes, N_law_is_name, kind_str, tyN, hz2, wLc]
      replace q : Q (.bl (decide (1 ≤ z.length) && decide (z.length ≤ 8) && (signs z).all inLet)) S0 := q
      have e1 : decide ((1 : Int) ≤ (z.length : Int)) = decide (1 ≤ z.length) := decide_eq_decide.mpr (by omega)
      have e2 : decide ((z.length : Int) ≤ 8) = decide (z.length ≤ 8) := decide_eq_decide.mpr (by omega)
      simp only [e1, e2]
      by_cases a1 : 1 ≤ z.length
      · by_cases a2 : z.length ≤ 8
        · rw [decide_eq_true a1, decide_eq_true a2] at q ⊢
          simp only [Bool.not_true, ↓reduceIte, Bool.true_and] at q ⊢
          intro D hD
          refine lc_pureF (fun x => if inLet x = true then none else some x) (by rw [signs_len]; exact hz2) hD (fun x hx S' R1 R0 _ k1 k0 => ?_) (fun _ _ => trivial) ?_
          · obtain ⟨c, _, rfl⟩ := List.mem_map.mp hx
            simp only [startP, List.map_cons, List.map_nil, List.length_cons, List.length_nil, Nat.reduceAdd, Nat.reduceSub, List.reduceReplicate, List.cons_append, List.nil_append, List.append_nil, wSeq, wAsg, wgN, wgNil, wgCons, wgTup, wDrop, wRet, wRetN, wNext, wBrk, wCont, wIfS, wV, nth, stV, wC, wOp, wUn, wBool, wChain, wTru, truP, wAnd, wOr, wNot, wIfE, wAndV, wOrV, wNotV, wNil, wCons, wTup, wLst, wLstM, wCB, wPar, wPar3, wAug, wFor, wiSeq, wiRng1, wiRng2, seqL, seqO, rows, addP, intP, intP0, subP, fdivP, modP, powP, mulP, CDiv, CPow, CMul, neP, ordP, ltP, leP, gtP, geP, isNon, isP, isNotP, lenO, lenP, absP, min2P, max2P, listP, tupleP, allP, sumP, intCP, isinP, tysOf, ixP, seqK, keyOf, dgetP, wNoPart, wPart, slcP, slcMP, wSl, wRevL, tyM, wBm, appendP, popAtP, joinP, wDnewM, wPairs, wCall, wCallK, wFrz, wDput, dputP, eqNilP, List.isEmpty_nil, List.isEmpty_cons, Bool.not_true, Bool.not_false, Bool.true_eq_false, Bool.false_eq_true, and_true, true_and, ↓reduceIte, Int.reduceToNat, Int.reducePow, Int.reduceNeg, Int.reduceAdd, Int.reduceSub, Int.reduceMul, Nat.reduceMul, Nat.reduceLT, Nat.reduceLeDiff, isB, String.reduceBEq, Bool.or_true, Bool.or_false, Bool.and_true, Bool.and_false, Bool.true_and, Bool.false_and, Bool.false_or, Bool.true_or, Int.cast_ofNat_Int, Int.reduceBEq, Int.reduceBNe, BEq.rfl, wYes, wipeP, wYes, notInP, memP]
            split
            · rename_i b
              exact k1 _ (if_neg (by rw [inLet, lets]; simpa using b))
            · rename_i b
              exact k0 (if_pos (by rw [inLet, lets]; simpa using b))
          · simp only [none_bad]
            exact q
        · rw [decide_eq_true a1, decide_eq_false a2] at q ⊢
          simpa using q
      · rw [decide_eq_false a1] at q ⊢
        simpa using q
    | _ => first | cases hpl; done | (simp only [startP, List.map_cons, List.map_nil, List.length_cons, List.length_nil, Nat.reduceAdd, Nat.reduceSub, List.reduceReplicate, List.cons_append, List.nil_append, List.append_nil, wSeq, wAsg, wgN, wgNil, wgCons, wgTup, wDrop, wRet, wRetN, wNext, wBrk, wCont, wIfS, wV, nth, stV, wC, wOp, wUn, wBool, wChain, wTru, truP, wAnd, wOr, wNot, wIfE, wAndV, wOrV, wNotV, wNil, wCons, wTup, wLst, wLstM, wCB, wPar, wPar3, wAug, wFor, wiSeq, wiRng1, wiRng2, seqL, seqO, rows, addP, intP, intP0, subP, fdivP, modP, powP, mulP, CDiv, CPow, CMul, neP, ordP, ltP, leP, gtP, geP, isNon, isP, isNotP, lenO, lenP, absP, min2P, max2P, listP, tupleP, allP, sumP, intCP, isinP, tysOf, ixP, seqK, keyOf, dgetP, wNoPart, wPart, slcP, slcMP, wSl, wRevL, tyM, wBm, appendP, popAtP, joinP, wDnewM, wPairs, wCall, wCallK, wFrz, wDput, dputP, eqNilP, List.isEmpty_nil, List.isEmpty_cons, Bool.not_true, Bool.not_false, Bool.true_eq_false, Bool.false_eq_true, and_true, true_and, ↓reduceIte, Int.reduceToNat, Int.reducePow, Int.reduceNeg, Int.reduceAdd, Int.reduceSub, Int.reduceMul, Nat.reduceMul, Nat.reduceLT, Nat.reduceLeDiff, isB, String.reduceBEq, Bool.or_true, Bool.or_false, Bool.and_true, Bool.and_false, Bool.true_and, Bool.false_and, Bool.false_or, Bool.true_or, Int.cast_ofNat_Int, Int.reduceBEq, Int.reduceBNe, BEq.rfl, wYes, N_law_is_name, kind_str, tyN]; exact q)
  · exact h.elim
theorem ok_is_sale (T : Tx K mg base) : FnG P w K mg base 3 T.f_is_sale T.d_is_sale ["value"] (pure1 (RowX) fun x => .bl (isSal x)) := by
  refine okG T.F_is_sale sc_is_sale pure1_len fun cdv A outer s H EX F0 xs S0 Q E hG hr hp tk h => ?_
  unfold pure1 at h
  split at h
  · rename_i x
    obtain ⟨h, q⟩ := h
    refine ⟨_, (wss_cons (ws_if (WW.wt (ww_or (wt_not (wt_tru (we_callB cw_isi T.m_isinstance (wa_cons (we_var 0) (wa_cons (we_bty (n := "tuple") T.m_tuple) wa_nil))))) (ww_or1 (wt_cmp (ow_ne hr.units) (we_callB cw_len T.m_len (wa_cons (we_var 0) wa_nil)) we_int))))
  (wss_one (ws_ret we_bl))
  wss_nil)
  (wss_cons (ws_asg (we_var 0) (wg_tup (n := 8) rfl (wgs_cons (wg_name 1 sc_is_sale.nd) (wgs_cons (wg_name 2 sc_is_sale.nd) (wgs_cons (wg_name 3 sc_is_sale.nd) (wgs_cons (wg_name 4 sc_is_sale.nd) (wgs_cons (wg_name 5 sc_is_sale.nd) (wgs_cons (wg_name 6 sc_is_sale.nd) (wgs_cons (wg_name 7 sc_is_sale.nd) (wgs_cons (wg_name 8 sc_is_sale.nd) wgs_nil))))))))))
  (wss_cons (ws_if (WW.wt (ww_or (wt_not (wt_tru (we_call (ok_is_number T) hG (hr.mono (by decide)) T.g_is_number T.F_is_number.kp T.b_is_number dflt0 tk0 (wa_cons (we_var 1) wa_nil)))) (ww_or (wt_cmp ow_lt (we_var 1) we_int) (ww_or (wt_not (wt_tru (we_call (ok_is_amount T) hG (hr.mono (by decide)) T.g_is_amount T.F_is_amount.kp T.b_is_amount dflt0 tk0 (wa_cons (we_var 4) wa_nil)))) (ww_or (wt_not (wt_tru (we_call (ok_is_amount T) hG (hr.mono (by decide)) T.g_is_amount T.F_is_amount.kp T.b_is_amount dflt0 tk0 (wa_cons (we_var 5) wa_nil)))) (ww_or1 (wt_not (wt_tru (we_call (ok_is_amount T) hG (hr.mono (by decide)) T.g_is_amount T.F_is_amount.kp T.b_is_amount dflt0 tk0 (wa_cons (we_var 6) wa_nil))))))))))
  (wss_one (ws_ret we_bl))
  wss_nil)
  (wss_one (ws_ret (we_and (we_callB (cw_all rfl) T.m_all (wa_cons (we_lc (mk := false) rfl sc_is_sale.nd (wi_seq (we_tup (wa_cons (we_var 2) (wa_cons (we_var 3) (wa_cons (we_var 7) (wa_cons (we_var 8) wa_nil)))))) (own := [("name", 9)]) (blkOk_by (N := N_is_sale) (sc := defScope s_is_sale) (by decide +kernel)) (fun _ _ _ _ _ => (wg_name 9 sc_is_sale.nd)) (by decide) (fun _ _ _ _ _ => wts_nil) (fun _ _ _ _ _ => (we_call (ok_is_name T) hG (hr.mono (by decide)) T.g_is_name T.F_is_name.kp T.b_is_name dflt0 tk0 (wa_cons (we_var 9) wa_nil)))) wa_nil)) (we_one (we_cmp (ow_ne hr.units) (we_var 2) (we_var 3))))))))), ?_⟩
    cases h with
    | oth hp hn => cases x <;> first | cases hp; done | (exact absurd rfl (hn _)) | (simp only [startP, List.map_cons, List.map_nil, List.length_cons, List.length_nil, Nat.reduceAdd, Nat.reduceSub, List.reduceReplicate, List.cons_append, List.nil_append, List.append_nil, wSeq, wAsg, wgN, wgNil, wgCons, wgTup, wDrop, wRet, wRetN, wNext, wBrk, wCont, wIfS, wV, nth, stV, wC, wOp, wUn, wBool, wChain, wTru, truP, wAnd, wOr, wNot, wIfE, wAndV, wOrV, wNotV, wNil, wCons, wTup, wLst, wLstM, wCB, wPar, wPar3, wAug, wFor, wiSeq, wiRng1, wiRng2, seqL, seqO, rows, addP, intP, intP0, subP, fdivP, modP, powP, mulP, CDiv, CPow, CMul, neP, ordP, ltP, leP, gtP, geP, isNon, isP, isNotP, lenO, lenP, absP, min2P, max2P, listP, tupleP, allP, sumP, intCP, isinP, tysOf, ixP, seqK, keyOf, dgetP, wNoPart, wPart, slcP, slcMP, wSl, wRevL, tyM, wBm, appendP, popAtP, joinP, wDnewM, wPairs, wCall, wCallK, wFrz, wDput, dputP, eqNilP, List.isEmpty_nil, List.isEmpty_cons, Bool.not_true, Bool.not_false, Bool.true_eq_false, Bool.false_eq_true, and_true, true_and, ↓reduceIte, Int.reduceToNat, Int.reducePow, Int.reduceNeg, Int.reduceAdd, Int.reduceSub, Int.reduceMul, Nat.reduceMul, Nat.reduceLT, Nat.reduceLeDiff, isB, String.reduceBEq, Bool.or_true, Bool.or_false, Bool.and_true, Bool.and_false, Bool.true_and, Bool.false_and, Bool.false_or, Bool.true_or, Int.cast_ofNat_Int, Int.reduceBEq, Int.reduceBNe, BEq.rfl, wYes, N_is_sale, kind_tuple, tyN]; exact q)
    | @tup xs hx =>
      simp only [startP, List.map_cons, List.map_nil, List.length_cons, List.length_nil, Nat.reduceAdd, Nat.reduceSub, List.reduceReplicate, List.cons_append, List.nil_append, List.append_nil, wSeq, wAsg, wgN, wgNil, wgCons, wgTup, wDrop, wRet, wRetN, wNext, wBrk, wCont, wIfS, wV, nth, stV, wC, wOp, wUn, wBool, wChain, wTru, truP, wAnd, wOr, wNot, wIfE, wAndV, wOrV, wNotV, wNil, wCons, wTup, wLst, wLstM, wCB, wPar, wPar3, wAug, wFor, wiSeq, wiRng1, wiRng2, seqL, seqO, rows, addP, intP, intP0, subP, fdivP, modP, powP, mulP, CDiv, CPow, CMul, neP, ordP, ltP, leP, gtP, geP, isNon, isP, isNotP, lenO, lenP, absP, min2P, max2P, listP, tupleP, allP, sumP, intCP, isinP, tysOf, ixP, seqK, keyOf, dgetP, wNoPart, wPart, slcP, slcMP, wSl, wRevL, tyM, wBm, appendP, popAtP, joinP, wDnewM, wPairs, wCall, wCallK, wFrz, wDput, dputP, eqNilP, List.isEmpty_nil, List.isEmpty_cons, Bool.not_true, Bool.not_false, Bool.true_eq_false, Bool.false_eq_true, and_true, true_and, ↓reduceIte, Int.reduceToNat, Int.reducePow, Int.reduceNeg, Int.reduceAdd, Int.reduceSub, Int.reduceMul, Nat.reduceMul, Nat.reduceLT, Nat.reduceLeDiff, isB, String.reduceBEq, Bool.or_true, Bool.or_false, Bool.and_true, Bool.and_false, Bool.true_and, Bool.false_and, Bool.false_or, Bool.true_or, Int.cast_ofNat_Int, Int.reduceBEq, Int.reduceBNe, BEq.rfl, wYes, N_is_sale, kind_tuple, tyN]
      by_cases hl : xs.length = 8
      · obtain ⟨a, b, c, d, e, f, g, h, rfl⟩ := eight hl
        have ha := hx a (by simp)
        have hb := hx b (by simp)
        have hc := hx c (by simp)
        have hd := hx d (by simp)
        have he := hx e (by simp)
        have hf := hx f (by simp)
        have hg := hx g (by simp)
        have hh := hx h (by simp)
        simp only [startP, List.map_cons, List.map_nil, List.length_cons, List.length_nil, Nat.reduceAdd, Nat.reduceSub, List.reduceReplicate, List.cons_append, List.nil_append, List.append_nil, wSeq, wAsg, wgN, wgNil, wgCons, wgTup, wDrop, wRet, wRetN, wNext, wBrk, wCont, wIfS, wV, nth, stV, wC, wOp, wUn, wBool, wChain, wTru, truP, wAnd, wOr, wNot, wIfE, wAndV, wOrV, wNotV, wNil, wCons, wTup, wLst, wLstM, wCB, wPar, wPar3, wAug, wFor, wiSeq, wiRng1, wiRng2, seqL, seqO, rows, addP, intP, intP0, subP, fdivP, modP, powP, mulP, CDiv, CPow, CMul, neP, ordP, ltP, leP, gtP, geP, isNon, isP, isNotP, lenO, lenP, absP, min2P, max2P, listP, tupleP, allP, sumP, intCP, isinP, tysOf, ixP, seqK, keyOf, dgetP, wNoPart, wPart, slcP, slcMP, wSl, wRevL, tyM, wBm, appendP, popAtP, joinP, wDnewM, wPairs, wCall, wCallK, wFrz, wDput, dputP, eqNilP, List.isEmpty_nil, List.isEmpty_cons, Bool.not_true, Bool.not_false, Bool.true_eq_false, Bool.false_eq_true, and_true, true_and, ↓reduceIte, Int.reduceToNat, Int.reducePow, Int.reduceNeg, Int.reduceAdd, Int.reduceSub, Int.reduceMul, Nat.reduceMul, Nat.reduceLT, Nat.reduceLeDiff, isB, String.reduceBEq, Bool.or_true, Bool.or_false, Bool.and_true, Bool.and_false, Bool.true_and, Bool.false_and, Bool.false_or, Bool.true_or, Int.cast_ofNat_Int, Int.reduceBEq, Int.reduceBNe, BEq.rfl, wYes, eqP, pure1, ha, hd, he, hf, Int.ofNat_eq_coe, wLc]
        replace q : Q (.bl (isPos a && isAmt d && isAmt e && isAmt f && isNam b && isNam c && isNam g && isNam h && neS b c)) S0 := q
        cases a with
        | int i =>
          by_cases z : i < 1
          · have e0 : isPos (.int i) = false := decide_eq_false (by omega)
            simp only [e0, startP, List.map_cons, List.map_nil, List.length_cons, List.length_nil, Nat.reduceAdd, Nat.reduceSub, List.reduceReplicate, List.cons_append, List.nil_append, List.append_nil, wSeq, wAsg, wgN, wgNil, wgCons, wgTup, wDrop, wRet, wRetN, wNext, wBrk, wCont, wIfS, wV, nth, stV, wC, wOp, wUn, wBool, wChain, wTru, truP, wAnd, wOr, wNot, wIfE, wAndV, wOrV, wNotV, wNil, wCons, wTup, wLst, wLstM, wCB, wPar, wPar3, wAug, wFor, wiSeq, wiRng1, wiRng2, seqL, seqO, rows, addP, intP, intP0, subP, fdivP, modP, powP, mulP, CDiv, CPow, CMul, neP, ordP, ltP, leP, gtP, geP, isNon, isP, isNotP, lenO, lenP, absP, min2P, max2P, listP, tupleP, allP, sumP, intCP, isinP, tysOf, ixP, seqK, keyOf, dgetP, wNoPart, wPart, slcP, slcMP, wSl, wRevL, tyM, wBm, appendP, popAtP, joinP, wDnewM, wPairs, wCall, wCallK, wFrz, wDput, dputP, eqNilP, List.isEmpty_nil, List.isEmpty_cons, Bool.not_true, Bool.not_false, Bool.true_eq_false, Bool.false_eq_true, and_true, true_and, ↓reduceIte, Int.reduceToNat, Int.reducePow, Int.reduceNeg, Int.reduceAdd, Int.reduceSub, Int.reduceMul, Nat.reduceMul, Nat.reduceLT, Nat.reduceLeDiff, isB, String.reduceBEq, Bool.or_true, Bool.or_false, Bool.and_true, Bool.and_false, Bool.true_and, Bool.false_and, Bool.false_or, Bool.true_or, Int.cast_ofNat_Int, Int.reduceBEq, Int.reduceBNe, BEq.rfl, wYes] at q
            simp only [isNum, z, decide_true, startP, List.map_cons, List.map_nil, List.length_cons, List.length_nil, Nat.reduceAdd, Nat.reduceSub, List.reduceReplicate, List.cons_append, List.nil_append, List.append_nil, wSeq, wAsg, wgN, wgNil, wgCons, wgTup, wDrop, wRet, wRetN, wNext, wBrk, wCont, wIfS, wV, nth, stV, wC, wOp, wUn, wBool, wChain, wTru, truP, wAnd, wOr, wNot, wIfE, wAndV, wOrV, wNotV, wNil, wCons, wTup, wLst, wLstM, wCB, wPar, wPar3, wAug, wFor, wiSeq, wiRng1, wiRng2, seqL, seqO, rows, addP, intP, intP0, subP, fdivP, modP, powP, mulP, CDiv, CPow, CMul, neP, ordP, ltP, leP, gtP, geP, isNon, isP, isNotP, lenO, lenP, absP, min2P, max2P, listP, tupleP, allP, sumP, intCP, isinP, tysOf, ixP, seqK, keyOf, dgetP, wNoPart, wPart, slcP, slcMP, wSl, wRevL, tyM, wBm, appendP, popAtP, joinP, wDnewM, wPairs, wCall, wCallK, wFrz, wDput, dputP, eqNilP, List.isEmpty_nil, List.isEmpty_cons, Bool.not_true, Bool.not_false, Bool.true_eq_false, Bool.false_eq_true, and_true, true_and, ↓reduceIte, Int.reduceToNat, Int.reducePow, Int.reduceNeg, Int.reduceAdd, Int.reduceSub, Int.reduceMul, Nat.reduceMul, Nat.reduceLT, Nat.reduceLeDiff, isB, String.reduceBEq, Bool.or_true, Bool.or_false, Bool.and_true, Bool.and_false, Bool.true_and, Bool.false_and, Bool.false_or, Bool.true_or, Int.cast_ofNat_Int, Int.reduceBEq, Int.reduceBNe, BEq.rfl, wYes]
            exact q
          · have e0 : isPos (.int i) = true := decide_eq_true (by omega)
            simp only [e0, startP, List.map_cons, List.map_nil, List.length_cons, List.length_nil, Nat.reduceAdd, Nat.reduceSub, List.reduceReplicate, List.cons_append, List.nil_append, List.append_nil, wSeq, wAsg, wgN, wgNil, wgCons, wgTup, wDrop, wRet, wRetN, wNext, wBrk, wCont, wIfS, wV, nth, stV, wC, wOp, wUn, wBool, wChain, wTru, truP, wAnd, wOr, wNot, wIfE, wAndV, wOrV, wNotV, wNil, wCons, wTup, wLst, wLstM, wCB, wPar, wPar3, wAug, wFor, wiSeq, wiRng1, wiRng2, seqL, seqO, rows, addP, intP, intP0, subP, fdivP, modP, powP, mulP, CDiv, CPow, CMul, neP, ordP, ltP, leP, gtP, geP, isNon, isP, isNotP, lenO, lenP, absP, min2P, max2P, listP, tupleP, allP, sumP, intCP, isinP, tysOf, ixP, seqK, keyOf, dgetP, wNoPart, wPart, slcP, slcMP, wSl, wRevL, tyM, wBm, appendP, popAtP, joinP, wDnewM, wPairs, wCall, wCallK, wFrz, wDput, dputP, eqNilP, List.isEmpty_nil, List.isEmpty_cons, Bool.not_true, Bool.not_false, Bool.true_eq_false, Bool.false_eq_true, and_true, true_and, ↓reduceIte, Int.reduceToNat, Int.reducePow, Int.reduceNeg, Int.reduceAdd, Int.reduceSub, Int.reduceMul, Nat.reduceMul, Nat.reduceLT, Nat.reduceLeDiff, isB, String.reduceBEq, Bool.or_true, Bool.or_false, Bool.and_true, Bool.and_false, Bool.true_and, Bool.false_and, Bool.false_or, Bool.true_or, Int.cast_ofNat_Int, Int.reduceBEq, Int.reduceBNe, BEq.rfl, wYes] at q
            simp only [isNum, z, decide_false, startP, List.map_cons, List.map_nil, List.length_cons, List.length_nil, Nat.reduceAdd, Nat.reduceSub, List.reduceReplicate, List.cons_append, List.nil_append, List.append_nil, wSeq, wAsg, wgN, wgNil, wgCons, wgTup, wDrop, wRet, wRetN, wNext, wBrk, wCont, wIfS, wV, nth, stV, wC, wOp, wUn, wBool, wChain, wTru, truP, wAnd, wOr, wNot, wIfE, wAndV, wOrV, wNotV, wNil, wCons, wTup, wLst, wLstM, wCB, wPar, wPar3, wAug, wFor, wiSeq, wiRng1, wiRng2, seqL, seqO, rows, addP, intP, intP0, subP, fdivP, modP, powP, mulP, CDiv, CPow, CMul, neP, ordP, ltP, leP, gtP, geP, isNon, isP, isNotP, lenO, lenP, absP, min2P, max2P, listP, tupleP, allP, sumP, intCP, isinP, tysOf, ixP, seqK, keyOf, dgetP, wNoPart, wPart, slcP, slcMP, wSl, wRevL, tyM, wBm, appendP, popAtP, joinP, wDnewM, wPairs, wCall, wCallK, wFrz, wDput, dputP, eqNilP, List.isEmpty_nil, List.isEmpty_cons, Bool.not_true, Bool.not_false, Bool.true_eq_false, Bool.false_eq_true, and_true, true_and, ↓reduceIte, Int.reduceToNat, Int.reducePow, Int.reduceNeg, Int.reduceAdd, Int.reduceSub, Int.reduceMul, Nat.reduceMul, Nat.reduceLT, Nat.reduceLeDiff, isB, String.reduceBEq, Bool.or_true, Bool.or_false, Bool.and_true, Bool.and_false, Bool.true_and, Bool.false_and, Bool.false_or, Bool.true_or, Int.cast_ofNat_Int, Int.reduceBEq, Int.reduceBNe, BEq.rfl, wYes]
            cases e1 : isAmt d with
            | false => simp only [e1, startP, List.map_cons, List.map_nil, List.length_cons, List.length_nil, Nat.reduceAdd, Nat.reduceSub, List.reduceReplicate, List.cons_append, List.nil_append, List.append_nil, wSeq, wAsg, wgN, wgNil, wgCons, wgTup, wDrop, wRet, wRetN, wNext, wBrk, wCont, wIfS, wV, nth, stV, wC, wOp, wUn, wBool, wChain, wTru, truP, wAnd, wOr, wNot, wIfE, wAndV, wOrV, wNotV, wNil, wCons, wTup, wLst, wLstM, wCB, wPar, wPar3, wAug, wFor, wiSeq, wiRng1, wiRng2, seqL, seqO, rows, addP, intP, intP0, subP, fdivP, modP, powP, mulP, CDiv, CPow, CMul, neP, ordP, ltP, leP, gtP, geP, isNon, isP, isNotP, lenO, lenP, absP, min2P, max2P, listP, tupleP, allP, sumP, intCP, isinP, tysOf, ixP, seqK, keyOf, dgetP, wNoPart, wPart, slcP, slcMP, wSl, wRevL, tyM, wBm, appendP, popAtP, joinP, wDnewM, wPairs, wCall, wCallK, wFrz, wDput, dputP, eqNilP, List.isEmpty_nil, List.isEmpty_cons, Bool.not_true, Bool.not_false, Bool.true_eq_false, Bool.false_eq_true, and_true, true_and, ↓reduceIte, Int.reduceToNat, Int.reducePow, Int.reduceNeg, Int.reduceAdd, Int.reduceSub, Int.reduceMul, Nat.reduceMul, Nat.reduceLT, Nat.reduceLeDiff, isB, String.reduceBEq, Bool.or_true, Bool.or_false, Bool.and_true, Bool.and_false, Bool.true_and, Bool.false_and, Bool.false_or, Bool.true_or, Int.cast_ofNat_Int, Int.reduceBEq, Int.reduceBNe, BEq.rfl, wYes] at q ⊢; exact q
            | true =>
            cases e2 : isAmt e with
            | false => simp only [e1, e2, startP, List.map_cons, List.map_nil, List.length_cons, List.length_nil, Nat.reduceAdd, Nat.reduceSub, List.reduceReplicate, List.cons_append, List.nil_append, List.append_nil, wSeq, wAsg, wgN, wgNil, wgCons, wgTup, wDrop, wRet, wRetN, wNext, wBrk, wCont, wIfS, wV, nth, stV, wC, wOp, wUn, wBool, wChain, wTru, truP, wAnd, wOr, wNot, wIfE, wAndV, wOrV, wNotV, wNil, wCons, wTup, wLst, wLstM, wCB, wPar, wPar3, wAug, wFor, wiSeq, wiRng1, wiRng2, seqL, seqO, rows, addP, intP, intP0, subP, fdivP, modP, powP, mulP, CDiv, CPow, CMul, neP, ordP, ltP, leP, gtP, geP, isNon, isP, isNotP, lenO, lenP, absP, min2P, max2P, listP, tupleP, allP, sumP, intCP, isinP, tysOf, ixP, seqK, keyOf, dgetP, wNoPart, wPart, slcP, slcMP, wSl, wRevL, tyM, wBm, appendP, popAtP, joinP, wDnewM, wPairs, wCall, wCallK, wFrz, wDput, dputP, eqNilP, List.isEmpty_nil, List.isEmpty_cons, Bool.not_true, Bool.not_false, Bool.true_eq_false, Bool.false_eq_true, and_true, true_and, ↓reduceIte, Int.reduceToNat, Int.reducePow, Int.reduceNeg, Int.reduceAdd, Int.reduceSub, Int.reduceMul, Nat.reduceMul, Nat.reduceLT, Nat.reduceLeDiff, isB, String.reduceBEq, Bool.or_true, Bool.or_false, Bool.and_true, Bool.and_false, Bool.true_and, Bool.false_and, Bool.false_or, Bool.true_or, Int.cast_ofNat_Int, Int.reduceBEq, Int.reduceBNe, BEq.rfl, wYes] at q ⊢; exact q
            | true =>
            cases e3 : isAmt f with
            | false => simp only [e1, e2, e3, startP, List.map_cons, List.map_nil, List.length_cons, List.length_nil, Nat.reduceAdd, Nat.reduceSub, List.reduceReplicate, List.cons_append, List.nil_append, List.append_nil, wSeq, wAsg, wgN, wgNil, wgCons, wgTup, wDrop, wRet, wRetN, wNext, wBrk, wCont, wIfS, wV, nth, stV, wC, wOp, wUn, wBool, wChain, wTru, truP, wAnd, wOr, wNot, wIfE, wAndV, wOrV, wNotV, wNil, wCons, wTup, wLst, wLstM, wCB, wPar, wPar3, wAug, wFor, wiSeq, wiRng1, wiRng2, seqL, seqO, rows, addP, intP, intP0, subP, fdivP, modP, powP, mulP, CDiv, CPow, CMul, neP, ordP, ltP, leP, gtP, geP, isNon, isP, isNotP, lenO, lenP, absP, min2P, max2P, listP, tupleP, allP, sumP, intCP, isinP, tysOf, ixP, seqK, keyOf, dgetP, wNoPart, wPart, slcP, slcMP, wSl, wRevL, tyM, wBm, appendP, popAtP, joinP, wDnewM, wPairs, wCall, wCallK, wFrz, wDput, dputP, eqNilP, List.isEmpty_nil, List.isEmpty_cons, Bool.not_true, Bool.not_false, Bool.true_eq_false, Bool.false_eq_true, and_true, true_and, ↓reduceIte, Int.reduceToNat, Int.reducePow, Int.reduceNeg, Int.reduceAdd, Int.reduceSub, Int.reduceMul, Nat.reduceMul, Nat.reduceLT, Nat.reduceLeDiff, isB, String.reduceBEq, Bool.or_true, Bool.or_false, Bool.and_true, Bool.and_false, Bool.true_and, Bool.false_and, Bool.false_or, Bool.true_or, Int.cast_ofNat_Int, Int.reduceBEq, Int.reduceBNe, BEq.rfl, wYes] at q ⊢; exact q
            | true =>
            simp only [e1, e2, e3, startP, List.map_cons, List.map_nil, List.length_cons, List.length_nil, Nat.reduceAdd, Nat.reduceSub, List.reduceReplicate, List.cons_append, List.nil_append, List.append_nil, wSeq, wAsg, wgN, wgNil, wgCons, wgTup, wDrop, wRet, wRetN, wNext, wBrk, wCont, wIfS, wV, nth, stV, wC, wOp, wUn, wBool, wChain, wTru, truP, wAnd, wOr, wNot, wIfE, wAndV, wOrV, wNotV, wNil, wCons, wTup, wLst, wLstM, wCB, wPar, wPar3, wAug, wFor, wiSeq, wiRng1, wiRng2, seqL, seqO, rows, addP, intP, intP0, subP, fdivP, modP, powP, mulP, CDiv, CPow, CMul, neP, ordP, ltP, leP, gtP, geP, isNon, isP, isNotP, lenO, lenP, absP, min2P, max2P, listP, tupleP, allP, sumP, intCP, isinP, tysOf, ixP, seqK, keyOf, dgetP, wNoPart, wPart, slcP, slcMP, wSl, wRevL, tyM, wBm, appendP, popAtP, joinP, wDnewM, wPairs, wCall, wCallK, wFrz, wDput, dputP, eqNilP, List.isEmpty_nil, List.isEmpty_cons, Bool.not_true, Bool.not_false, Bool.true_eq_false, Bool.false_eq_true, and_true, true_and, ↓reduceIte, Int.reduceToNat, Int.reducePow, Int.reduceNeg, Int.reduceAdd, Int.reduceSub, Int.reduceMul, Nat.reduceMul, Nat.reduceLT, Nat.reduceLeDiff, isB, String.reduceBEq, Bool.or_true, Bool.or_false, Bool.and_true, Bool.and_false, Bool.true_and, Bool.false_and, Bool.false_or, Bool.true_or, Int.cast_ofNat_Int, Int.reduceBEq, Int.reduceBNe, BEq.rfl, wYes] at q ⊢
            intro D hD
            refine lc_pureF (fun x => some (.bl (isNam x))) (show 4 ≤ sizeLine by decide) hD (fun x hx2 S' R1 R0 _ k1 k0 => ?_) (fun _ _ => trivial) ?_
            · have hx3 : PlainX x := by
                simp only [List.mem_cons, List.not_mem_nil, or_false] at hx2
                rcases hx2 with rfl | rfl | rfl | rfl <;> assumption
              simp only [startP, List.map_cons, List.map_nil, List.length_cons, List.length_nil, Nat.reduceAdd, Nat.reduceSub, List.reduceReplicate, List.cons_append, List.nil_append, List.append_nil, wSeq, wAsg, wgN, wgNil, wgCons, wgTup, wDrop, wRet, wRetN, wNext, wBrk, wCont, wIfS, wV, nth, stV, wC, wOp, wUn, wBool, wChain, wTru, truP, wAnd, wOr, wNot, wIfE, wAndV, wOrV, wNotV, wNil, wCons, wTup, wLst, wLstM, wCB, wPar, wPar3, wAug, wFor, wiSeq, wiRng1, wiRng2, seqL, seqO, rows, addP, intP, intP0, subP, fdivP, modP, powP, mulP, CDiv, CPow, CMul, neP, ordP, ltP, leP, gtP, geP, isNon, isP, isNotP, lenO, lenP, absP, min2P, max2P, listP, tupleP, allP, sumP, intCP, isinP, tysOf, ixP, seqK, keyOf, dgetP, wNoPart, wPart, slcP, slcMP, wSl, wRevL, tyM, wBm, appendP, popAtP, joinP, wDnewM, wPairs, wCall, wCallK, wFrz, wDput, dputP, eqNilP, List.isEmpty_nil, List.isEmpty_cons, Bool.not_true, Bool.not_false, Bool.true_eq_false, Bool.false_eq_true, and_true, true_and, ↓reduceIte, Int.reduceToNat, Int.reducePow, Int.reduceNeg, Int.reduceAdd, Int.reduceSub, Int.reduceMul, Nat.reduceMul, Nat.reduceLT, Nat.reduceLeDiff, isB, String.reduceBEq, Bool.or_true, Bool.or_false, Bool.and_true, Bool.and_false, Bool.true_and, Bool.false_and, Bool.false_or, Bool.true_or, Int.cast_ofNat_Int, Int.reduceBEq, Int.reduceBNe, BEq.rfl, wYes, wipeP, pure1, hx3]
              exact k1 _ rfl
            · simp only [startP, List.map_cons, List.map_nil, List.length_cons, List.length_nil, Nat.reduceAdd, Nat.reduceSub, List.reduceReplicate, List.cons_append, List.nil_append, List.append_nil, wSeq, wAsg, wgN, wgNil, wgCons, wgTup, wDrop, wRet, wRetN, wNext, wBrk, wCont, wIfS, wV, nth, stV, wC, wOp, wUn, wBool, wChain, wTru, truP, wAnd, wOr, wNot, wIfE, wAndV, wOrV, wNotV, wNil, wCons, wTup, wLst, wLstM, wCB, wPar, wPar3, wAug, wFor, wiSeq, wiRng1, wiRng2, seqL, seqO, rows, addP, intP, intP0, subP, fdivP, modP, powP, mulP, CDiv, CPow, CMul, neP, ordP, ltP, leP, gtP, geP, isNon, isP, isNotP, lenO, lenP, absP, min2P, max2P, listP, tupleP, allP, sumP, intCP, isinP, tysOf, ixP, seqK, keyOf, dgetP, wNoPart, wPart, slcP, slcMP, wSl, wRevL, tyM, wBm, appendP, popAtP, joinP, wDnewM, wPairs, wCall, wCallK, wFrz, wDput, dputP, eqNilP, List.isEmpty_nil, List.isEmpty_cons, Bool.not_true, Bool.not_false, Bool.true_eq_false, Bool.false_eq_true, and_true, true_and, ↓reduceIte, Int.reduceToNat, Int.reducePow, Int.reduceNeg, Int.reduceAdd, Int.reduceSub, Int.reduceMul, Nat.reduceMul, Nat.reduceLT, Nat.reduceLeDiff, isB, String.reduceBEq, Bool.or_true, Bool.or_false, Bool.and_true, Bool.and_false, Bool.true_and, Bool.false_and, Bool.false_or, Bool.true_or, Int.cast_ofNat_Int, Int.reduceBEq, Int.reduceBNe, BEq.rfl, wYes, List.filterMap_cons, List.filterMap_nil, boolsOf, List.all_cons, List.all_nil, id_eq]
              cases e4 : isNam b with
              | false => simp only [e4, startP, List.map_cons, List.map_nil, List.length_cons, List.length_nil, Nat.reduceAdd, Nat.reduceSub, List.reduceReplicate, List.cons_append, List.nil_append, List.append_nil, wSeq, wAsg, wgN, wgNil, wgCons, wgTup, wDrop, wRet, wRetN, wNext, wBrk, wCont, wIfS, wV, nth, stV, wC, wOp, wUn, wBool, wChain, wTru, truP, wAnd, wOr, wNot, wIfE, wAndV, wOrV, wNotV, wNil, wCons, wTup, wLst, wLstM, wCB, wPar, wPar3, wAug, wFor, wiSeq, wiRng1, wiRng2, seqL, seqO, rows, addP, intP, intP0, subP, fdivP, modP, powP, mulP, CDiv, CPow, CMul, neP, ordP, ltP, leP, gtP, geP, isNon, isP, isNotP, lenO, lenP, absP, min2P, max2P, listP, tupleP, allP, sumP, intCP, isinP, tysOf, ixP, seqK, keyOf, dgetP, wNoPart, wPart, slcP, slcMP, wSl, wRevL, tyM, wBm, appendP, popAtP, joinP, wDnewM, wPairs, wCall, wCallK, wFrz, wDput, dputP, eqNilP, List.isEmpty_nil, List.isEmpty_cons, Bool.not_true, Bool.not_false, Bool.true_eq_false, Bool.false_eq_true, and_true, true_and, ↓reduceIte, Int.reduceToNat, Int.reducePow, Int.reduceNeg, Int.reduceAdd, Int.reduceSub, Int.reduceMul, Nat.reduceMul, Nat.reduceLT, Nat.reduceLeDiff, isB, String.reduceBEq, Bool.or_true, Bool.or_false, Bool.and_true, Bool.and_false, Bool.true_and, Bool.false_and, Bool.false_or, Bool.true_or, Int.cast_ofNat_Int, Int.reduceBEq, Int.reduceBNe, BEq.rfl, wYes] at q ⊢; exact q
              | true =>
              cases e5 : isNam c with
              | false => simp only [e4, e5, startP, List.map_cons, List.map_nil, List.length_cons, List.length_nil, Nat.reduceAdd, Nat.reduceSub, List.reduceReplicate, List.cons_append, List.nil_append, List.append_nil, wSeq, wAsg, wgN, wgNil, wgCons, wgTup, wDrop, wRet, wRetN, wNext, wBrk, wCont, wIfS, wV, nth, stV, wC, wOp, wUn, wBool, wChain, wTru, truP, wAnd, wOr, wNot, wIfE, wAndV, wOrV, wNotV, wNil, wCons, wTup, wLst, wLstM, wCB, wPar, wPar3, wAug, wFor, wiSeq, wiRng1, wiRng2, seqL, seqO, rows, addP, intP, intP0, subP, fdivP, modP, powP, mulP, CDiv, CPow, CMul, neP, ordP, ltP, leP, gtP, geP, isNon, isP, isNotP, lenO, lenP, absP, min2P, max2P, listP, tupleP, allP, sumP, intCP, isinP, tysOf, ixP, seqK, keyOf, dgetP, wNoPart, wPart, slcP, slcMP, wSl, wRevL, tyM, wBm, appendP, popAtP, joinP, wDnewM, wPairs, wCall, wCallK, wFrz, wDput, dputP, eqNilP, List.isEmpty_nil, List.isEmpty_cons, Bool.not_true, Bool.not_false, Bool.true_eq_false, Bool.false_eq_true, and_true, true_and, ↓reduceIte, Int.reduceToNat, Int.reducePow, Int.reduceNeg, Int.reduceAdd, Int.reduceSub, Int.reduceMul, Nat.reduceMul, Nat.reduceLT, Nat.reduceLeDiff, isB, String.reduceBEq, Bool.or_true, Bool.or_false, Bool.and_true, Bool.and_false, Bool.true_and, Bool.false_and, Bool.false_or, Bool.true_or, Int.cast_ofNat_Int, Int.reduceBEq, Int.reduceBNe, BEq.rfl, wYes] at q ⊢; exact q
              | true =>
              cases e6 : isNam g with
              | false => simp only [e4, e5, e6, startP, List.map_cons, List.map_nil, List.length_cons, List.length_nil, Nat.reduceAdd, Nat.reduceSub, List.reduceReplicate, List.cons_append, List.nil_append, List.append_nil, wSeq, wAsg, wgN, wgNil, wgCons, wgTup, wDrop, wRet, wRetN, wNext, wBrk, wCont, wIfS, wV, nth, stV, wC, wOp, wUn, wBool, wChain, wTru, truP, wAnd, wOr, wNot, wIfE, wAndV, wOrV, wNotV, wNil, wCons, wTup, wLst, wLstM, wCB, wPar, wPar3, wAug, wFor, wiSeq, wiRng1, wiRng2, seqL, seqO, rows, addP, intP, intP0, subP, fdivP, modP, powP, mulP, CDiv, CPow, CMul, neP, ordP, ltP, leP, gtP, geP, isNon, isP, isNotP, lenO, lenP, absP, min2P, max2P, listP, tupleP, allP, sumP, intCP, isinP, tysOf, ixP, seqK, keyOf, dgetP, wNoPart, wPart, slcP, slcMP, wSl, wRevL, tyM, wBm, appendP, popAtP, joinP, wDnewM, wPairs, wCall, wCallK, wFrz, wDput, dputP, eqNilP, List.isEmpty_nil, List.isEmpty_cons, Bool.not_true, Bool.not_false, Bool.true_eq_false, Bool.false_eq_true, and_true, true_and, ↓reduceIte, Int.reduceToNat, Int.reducePow, Int.reduceNeg, Int.reduceAdd, Int.reduceSub, Int.reduceMul, Nat.reduceMul, Nat.reduceLT, Nat.reduceLeDiff, isB, String.reduceBEq, Bool.or_true, Bool.or_false, Bool.and_true, Bool.and_false, Bool.true_and, Bool.false_and, Bool.false_or, Bool.true_or, Int.cast_ofNat_Int, Int.reduceBEq, Int.reduceBNe, BEq.rfl, wYes] at q ⊢; exact q
              | true =>
              cases e7 : isNam h with
              | false => simp only [e4, e5, e6, e7, startP, List.map_cons, List.map_nil, List.length_cons, List.length_nil, Nat.reduceAdd, Nat.reduceSub, List.reduceReplicate, List.cons_append, List.nil_append, List.append_nil, wSeq, wAsg, wgN, wgNil, wgCons, wgTup, wDrop, wRet, wRetN, wNext, wBrk, wCont, wIfS, wV, nth, stV, wC, wOp, wUn, wBool, wChain, wTru, truP, wAnd, wOr, wNot, wIfE, wAndV, wOrV, wNotV, wNil, wCons, wTup, wLst, wLstM, wCB, wPar, wPar3, wAug, wFor, wiSeq, wiRng1, wiRng2, seqL, seqO, rows, addP, intP, intP0, subP, fdivP, modP, powP, mulP, CDiv, CPow, CMul, neP, ordP, ltP, leP, gtP, geP, isNon, isP, isNotP, lenO, lenP, absP, min2P, max2P, listP, tupleP, allP, sumP, intCP, isinP, tysOf, ixP, seqK, keyOf, dgetP, wNoPart, wPart, slcP, slcMP, wSl, wRevL, tyM, wBm, appendP, popAtP, joinP, wDnewM, wPairs, wCall, wCallK, wFrz, wDput, dputP, eqNilP, List.isEmpty_nil, List.isEmpty_cons, Bool.not_true, Bool.not_false, Bool.true_eq_false, Bool.false_eq_true, and_true, true_and, ↓reduceIte, Int.reduceToNat, Int.reducePow, Int.reduceNeg, Int.reduceAdd, Int.reduceSub, Int.reduceMul, Nat.reduceMul, Nat.reduceLT, Nat.reduceLeDiff, isB, String.reduceBEq, Bool.or_true, Bool.or_false, Bool.and_true, Bool.and_false, Bool.true_and, Bool.false_and, Bool.false_or, Bool.true_or, Int.cast_ofNat_Int, Int.reduceBEq, Int.reduceBNe, BEq.rfl, wYes] at q ⊢; exact q
              | true =>
              simp only [e4, e5, e6, e7, startP, List.map_cons, List.map_nil, List.length_cons, List.length_nil, Nat.reduceAdd, Nat.reduceSub, List.reduceReplicate, List.cons_append, List.nil_append, List.append_nil, wSeq, wAsg, wgN, wgNil, wgCons, wgTup, wDrop, wRet, wRetN, wNext, wBrk, wCont, wIfS, wV, nth, stV, wC, wOp, wUn, wBool, wChain, wTru, truP, wAnd, wOr, wNot, wIfE, wAndV, wOrV, wNotV, wNil, wCons, wTup, wLst, wLstM, wCB, wPar, wPar3, wAug, wFor, wiSeq, wiRng1, wiRng2, seqL, seqO, rows, addP, intP, intP0, subP, fdivP, modP, powP, mulP, CDiv, CPow, CMul, neP, ordP, ltP, leP, gtP, geP, isNon, isP, isNotP, lenO, lenP, absP, min2P, max2P, listP, tupleP, allP, sumP, intCP, isinP, tysOf, ixP, seqK, keyOf, dgetP, wNoPart, wPart, slcP, slcMP, wSl, wRevL, tyM, wBm, appendP, popAtP, joinP, wDnewM, wPairs, wCall, wCallK, wFrz, wDput, dputP, eqNilP, List.isEmpty_nil, List.isEmpty_cons, Bool.not_true, Bool.not_false, Bool.true_eq_false, Bool.false_eq_true, and_true, true_and, ↓reduceIte, Int.reduceToNat, Int.reducePow, Int.reduceNeg, Int.reduceAdd, Int.reduceSub, Int.reduceMul, Nat.reduceMul, Nat.reduceLT, Nat.reduceLeDiff, isB, String.reduceBEq, Bool.or_true, Bool.or_false, Bool.and_true, Bool.and_false, Bool.true_and, Bool.false_and, Bool.false_or, Bool.true_or, Int.cast_ofNat_Int, Int.reduceBEq, Int.reduceBNe, BEq.rfl, wYes] at q ⊢
              cases b with
              | str b =>
                cases c with
                | str c => exact q
                | _ => cases e5
              | _ => cases e4
        | _ => exact q
      · have e0 : ((xs.length : Int) == 8) = false := beq_eq_false_iff_ne.mpr (by omega)
        simp only [e0, eqP, startP, List.map_cons, List.map_nil, List.length_cons, List.length_nil, Nat.reduceAdd, Nat.reduceSub, List.reduceReplicate, List.cons_append, List.nil_append, List.append_nil, wSeq, wAsg, wgN, wgNil, wgCons, wgTup, wDrop, wRet, wRetN, wNext, wBrk, wCont, wIfS, wV, nth, stV, wC, wOp, wUn, wBool, wChain, wTru, truP, wAnd, wOr, wNot, wIfE, wAndV, wOrV, wNotV, wNil, wCons, wTup, wLst, wLstM, wCB, wPar, wPar3, wAug, wFor, wiSeq, wiRng1, wiRng2, seqL, seqO, rows, addP, intP, intP0, subP, fdivP, modP, powP, mulP, CDiv, CPow, CMul, neP, ordP, ltP, leP, gtP, geP, isNon, isP, isNotP, lenO, lenP, absP, min2P, max2P, listP, tupleP, allP, sumP, intCP, isinP, tysOf, ixP, seqK, keyOf, dgetP, wNoPart, wPart, slcP, slcMP, wSl, wRevL, tyM, wBm, appendP, popAtP, joinP, wDnewM, wPairs, wCall, wCallK, wFrz, wDput, dputP, eqNilP, List.isEmpty_nil, List.isEmpty_cons, Bool.not_true, Bool.not_false, Bool.true_eq_false, Bool.false_eq_true, and_true, true_and, ↓reduceIte, Int.reduceToNat, Int.reducePow, Int.reduceNeg, Int.reduceAdd, Int.reduceSub, Int.reduceMul, Nat.reduceMul, Nat.reduceLT, Nat.reduceLeDiff, isB, String.reduceBEq, Bool.or_true, Bool.or_false, Bool.and_true, Bool.and_false, Bool.true_and, Bool.false_and, Bool.false_or, Bool.true_or, Int.cast_ofNat_Int, Int.reduceBEq, Int.reduceBNe, BEq.rfl, wYes]
        replace q : Q (.bl (isSal (.tup xs))) S0 := q
        rwa [not_eight hl] at q
  · exact h.elim
theorem ok_law_is_count (T : Tx K mg base) : FnG P w K mg base 1 T.f__law_is_count T.d__law_is_count ["_law_given", "_law_least", "_law_most"] SpCount := by
  refine okG T.F__law_is_count sc_law_is_count (fun xs S Q E h => by cases h; rfl) fun cdv A outer s H EX F0 xs S0 Q E hG hr hp tk h => ?_
  cases h with
  | @mk x lo hi _ _ _ hpl q =>
  refine ⟨_, (wss_one (ws_ret (we_and (we_callB cw_isi T.m_isinstance (wa_cons (we_var 0) (wa_cons (we_bty (n := "int") T.m_int) wa_nil))) (we_and (we_not (we_callB cw_isi T.m_isinstance (wa_cons (we_var 0) (wa_cons (we_bty (n := "bool") T.m_bool) wa_nil)))) (we_one (we_chain ow_le ow_le (we_var 1) (we_var 0) (we_var 2))))))), ?_⟩
  have hpp := hpl.plain
  cases x with
  | int i =>
    simp only [startP, List.map_cons, List.map_nil, List.length_cons, List.length_nil, Nat.reduceAdd, Nat.reduceSub, List.reduceReplicate, List.cons_append, List.nil_append, List.append_nil, wSeq, wAsg, wgN, wgNil, wgCons, wgTup, wDrop, wRet, wRetN, wNext, wBrk, wCont, wIfS, wV, nth, stV, wC, wOp, wUn, wBool, wChain, wTru, truP, wAnd, wOr, wNot, wIfE, wAndV, wOrV, wNotV, wNil, wCons, wTup, wLst, wLstM, wCB, wPar, wPar3, wAug, wFor, wiRng1, wiRng2, seqL, seqO, rows, subP, fdivP, modP, powP, mulP, CDiv, CPow, CMul, neP, ltP, leP, gtP, geP, isNon, isP, isNotP, lenO, lenP, absP, min2P, max2P, listP, tupleP, allP, sumP, intCP, isinP, tysOf, seqK, keyOf, dgetP, wNoPart, wPart, slcMP, wSl, wRevL, tyM, wBm, appendP, popAtP, joinP, wDnewM, wPairs, wCall, wCallK, wFrz, wDput, dputP, eqNilP, List.isEmpty_nil, List.isEmpty_cons, Bool.not_true, Bool.not_false, Bool.true_eq_false, Bool.false_eq_true, and_true, true_and, ↓reduceIte, Int.reduceToNat, Int.reducePow, Int.reduceNeg, Int.reduceAdd, Int.reduceSub, Int.reduceMul, Nat.reduceMul, Nat.reduceLT, Nat.reduceLeDiff, isB, String.reduceBEq, Bool.or_true, Bool.or_false, Bool.and_true, Bool.and_false, Bool.true_and, Bool.false_and, Bool.false_or, Bool.true_or, Int.cast_ofNat_Int, Int.reduceBEq, Int.reduceBNe, BEq.rfl, wYes, wCut, pow_ok9, pow_ok18, pow_ok30, line_eq, put_same, put_put, List.mem_cons, List.not_mem_nil, or_false, addP_int, addP_str, addP_tup, addP_lst, intP_int, intP0_int, ordP_int, eqP_int, eqP_str, eqP_bl, eqP_non, ixP_str, ixP_lst, ixP_tup, ixP_scr, slcP_str, slcP_tup, slcP_lst, wiSeq_eq, walkP_tup, walkP_str, walkP_lst, walkP_scr, N_law_is_count, kind_int, kind_bool, tyN]
    replace q : Q (.bl (decide (lo ≤ i) && decide (i ≤ hi))) S0 := q
    by_cases z : lo ≤ i
    · rw [decide_eq_true z, Bool.true_and] at q
      simp only [z, decide_true, ↓reduceIte]
      exact q
    · rw [decide_eq_false z, Bool.false_and] at q
      simp only [z, decide_false, Bool.false_eq_true, ↓reduceIte]
      exact q
  | _ => first | cases hpp; done | (simp only [startP, List.map_cons, List.map_nil, List.length_cons, List.length_nil, Nat.reduceAdd, Nat.reduceSub, List.reduceReplicate, List.cons_append, List.nil_append, List.append_nil, wSeq, wAsg, wgN, wgNil, wgCons, wgTup, wDrop, wRet, wRetN, wNext, wBrk, wCont, wIfS, wV, nth, stV, wC, wOp, wUn, wBool, wChain, wTru, truP, wAnd, wOr, wNot, wIfE, wAndV, wOrV, wNotV, wNil, wCons, wTup, wLst, wLstM, wCB, wPar, wPar3, wAug, wFor, wiRng1, wiRng2, seqL, seqO, rows, subP, fdivP, modP, powP, mulP, CDiv, CPow, CMul, neP, ltP, leP, gtP, geP, isNon, isP, isNotP, lenO, lenP, absP, min2P, max2P, listP, tupleP, allP, sumP, intCP, isinP, tysOf, seqK, keyOf, dgetP, wNoPart, wPart, slcMP, wSl, wRevL, tyM, wBm, appendP, popAtP, joinP, wDnewM, wPairs, wCall, wCallK, wFrz, wDput, dputP, eqNilP, List.isEmpty_nil, List.isEmpty_cons, Bool.not_true, Bool.not_false, Bool.true_eq_false, Bool.false_eq_true, and_true, true_and, ↓reduceIte, Int.reduceToNat, Int.reducePow, Int.reduceNeg, Int.reduceAdd, Int.reduceSub, Int.reduceMul, Nat.reduceMul, Nat.reduceLT, Nat.reduceLeDiff, isB, String.reduceBEq, Bool.or_true, Bool.or_false, Bool.and_true, Bool.and_false, Bool.true_and, Bool.false_and, Bool.false_or, Bool.true_or, Int.cast_ofNat_Int, Int.reduceBEq, Int.reduceBNe, BEq.rfl, wYes, wCut, pow_ok9, pow_ok18, pow_ok30, line_eq, put_same, put_put, List.mem_cons, List.not_mem_nil, or_false, addP_int, addP_str, addP_tup, addP_lst, intP_int, intP0_int, ordP_int, eqP_int, eqP_str, eqP_bl, eqP_non, ixP_str, ixP_lst, ixP_tup, ixP_scr, slcP_str, slcP_tup, slcP_lst, wiSeq_eq, walkP_tup, walkP_str, walkP_lst, walkP_scr, N_law_is_count, kind_int, kind_bool, tyN]; exact q)
theorem ok_law_is_sale (T : Tx K mg base) : FnG P w K mg base 2 T.f__law_is_sale T.d__law_is_sale ["_law_given"] (pure1 RowX fun x => .bl (isSal x)) := by
  refine okG T.F__law_is_sale sc_law_is_sale pure1_len fun cdv A outer s H EX F0 xs S0 Q E hG hr hp tk h => ?_
  unfold pure1 at h
  split at h
  · rename_i x
    obtain ⟨h, q⟩ := h
    refine ⟨_, (wss_cons (ws_if (WW.wt (ww_or (wt_not (wt_tru (we_callB cw_isi T.m_isinstance (wa_cons (we_var 0) (wa_cons (we_bty (n := "tuple") T.m_tuple) wa_nil))))) (ww_or (wt_cmp (ow_ne hr.units) (we_callB cw_len T.m_len (wa_cons (we_var 0) wa_nil)) we_int) (ww_or1 (wt_not (wt_tru (we_call (ok_law_is_count T) hG (hr.mono (by decide)) T.g__law_is_count T.F__law_is_count.kp T.b__law_is_count dflt0 tk0 (wa_cons (we_ix (we_var 0) we_int) (wa_cons we_int (wa_cons (we_op ow_pow we_int we_int) wa_nil))))))))))
  (wss_one (ws_ret we_bl))
  wss_nil)
  (wss_cons (ws_if (WW.wt (ww_or (wt_cmp (ow_neNil hr.units) (we_lc (mk := false) rfl sc_law_is_sale.nd (wi_seq (we_lst (wa_cons we_int (wa_cons we_int (wa_cons we_int (wa_cons we_int wa_nil)))))) (own := [("_law_place", 1)]) (blkOk_by (N := N_law_is_sale) (sc := defScope s_law_is_sale) (by decide +kernel)) (fun _ _ _ _ _ => (wg_name 1 sc_law_is_sale.nd)) (by decide) (fun _ _ _ _ _ => (wts_one (wt_not (wt_tru (we_call (ok_law_is_name T) hG (hr.mono (by decide)) T.g__law_is_name T.F__law_is_name.kp T.b__law_is_name dflt0 tk0 (wa_cons (we_ix (we_var 0) (we_var 1)) wa_nil)))))) (fun _ _ _ _ _ => (we_var 1))) (we_lst wa_nil)) (ww_or1 (wt_cmp (ow_eq hr.units) (we_ix (we_var 0) we_int) (we_ix (we_var 0) we_int)))))
  (wss_one (ws_ret we_bl))
  wss_nil)
  (wss_one (ws_ret (we_cmp (ow_eqNil hr.units) (we_lc (mk := false) rfl sc_law_is_sale.nd (wi_seq (we_lst (wa_cons we_int (wa_cons we_int (wa_cons we_int wa_nil))))) (own := [("_law_place", 1)]) (blkOk_by (N := N_law_is_sale) (sc := defScope s_law_is_sale) (by decide +kernel)) (fun _ _ _ _ _ => (wg_name 1 sc_law_is_sale.nd)) (by decide) (fun _ _ _ _ _ => (wts_one (wt_not (wt_tru (we_call (ok_law_is_count T) hG (hr.mono (by decide)) T.g__law_is_count T.F__law_is_count.kp T.b__law_is_count dflt0 tk0 (wa_cons (we_ix (we_var 0) (we_var 1)) (wa_cons we_int (wa_cons (we_op ow_pow we_int we_int) wa_nil)))))))) (fun _ _ _ _ _ => (we_var 1))) (we_lst wa_nil)))))), ?_⟩
    cases h with
    | oth hp hn => cases x <;> first | cases hp; done | (exact absurd rfl (hn _)) | (simp only [startP, List.map_cons, List.map_nil, List.length_cons, List.length_nil, Nat.reduceAdd, Nat.reduceSub, List.reduceReplicate, List.cons_append, List.nil_append, List.append_nil, wSeq, wAsg, wgN, wgNil, wgCons, wgTup, wDrop, wRet, wRetN, wNext, wBrk, wCont, wIfS, wV, nth, stV, wC, wOp, wUn, wBool, wChain, wTru, truP, wAnd, wOr, wNot, wIfE, wAndV, wOrV, wNotV, wNil, wCons, wTup, wLst, wLstM, wCB, wPar, wPar3, wAug, wFor, wiRng1, wiRng2, seqL, seqO, rows, subP, fdivP, modP, powP, mulP, CDiv, CPow, CMul, neP, ltP, leP, gtP, geP, isNon, isP, isNotP, lenO, lenP, absP, min2P, max2P, listP, tupleP, allP, sumP, intCP, isinP, tysOf, seqK, keyOf, dgetP, wNoPart, wPart, slcMP, wSl, wRevL, tyM, wBm, appendP, popAtP, joinP, wDnewM, wPairs, wCall, wCallK, wFrz, wDput, dputP, eqNilP, List.isEmpty_nil, List.isEmpty_cons, Bool.not_true, Bool.not_false, Bool.true_eq_false, Bool.false_eq_true, and_true, true_and, ↓reduceIte, Int.reduceToNat, Int.reducePow, Int.reduceNeg, Int.reduceAdd, Int.reduceSub, Int.reduceMul, Nat.reduceMul, Nat.reduceLT, Nat.reduceLeDiff, isB, String.reduceBEq, Bool.or_true, Bool.or_false, Bool.and_true, Bool.and_false, Bool.true_and, Bool.false_and, Bool.false_or, Bool.true_or, Int.cast_ofNat_Int, Int.reduceBEq, Int.reduceBNe, BEq.rfl, wYes, wCut, pow_ok9, pow_ok18, pow_ok30, line_eq, put_same, put_put, List.mem_cons, List.not_mem_nil, or_false, addP_int, addP_str, addP_tup, addP_lst, intP_int, intP0_int, ordP_int, eqP_int, eqP_str, eqP_bl, eqP_non, ixP_str, ixP_lst, ixP_tup, ixP_scr, slcP_str, slcP_tup, slcP_lst, wiSeq_eq, walkP_tup, walkP_str, walkP_lst, walkP_scr, N_law_is_sale, kind_tuple, tyN]; exact q)
    | @tup xs hx =>
      simp only [startP, List.map_cons, List.map_nil, List.length_cons, List.length_nil, Nat.reduceAdd, Nat.reduceSub, List.reduceReplicate, List.cons_append, List.nil_append, List.append_nil, wSeq, wAsg, wgN, wgNil, wgCons, wgTup, wDrop, wRet, wRetN, wNext, wBrk, wCont, wIfS, wV, nth, stV, wC, wOp, wUn, wBool, wChain, wTru, truP, wAnd, wOr, wNot, wIfE, wAndV, wOrV, wNotV, wNil, wCons, wTup, wLst, wLstM, wCB, wPar, wPar3, wAug, wFor, wiRng1, wiRng2, seqL, seqO, rows, subP, fdivP, modP, powP, mulP, CDiv, CPow, CMul, neP, ltP, leP, gtP, geP, isNon, isP, isNotP, lenO, lenP, absP, min2P, max2P, listP, tupleP, allP, sumP, intCP, isinP, tysOf, seqK, keyOf, dgetP, wNoPart, wPart, slcMP, wSl, wRevL, tyM, wBm, appendP, popAtP, joinP, wDnewM, wPairs, wCall, wCallK, wFrz, wDput, dputP, eqNilP, List.isEmpty_nil, List.isEmpty_cons, Bool.not_true, Bool.not_false, Bool.true_eq_false, Bool.false_eq_true, and_true, true_and, ↓reduceIte, Int.reduceToNat, Int.reducePow, Int.reduceNeg, Int.reduceAdd, Int.reduceSub, Int.reduceMul, Nat.reduceMul, Nat.reduceLT, Nat.reduceLeDiff, isB, String.reduceBEq, Bool.or_true, Bool.or_false, Bool.and_true, Bool.and_false, Bool.true_and, Bool.false_and, Bool.false_or, Bool.true_or, Int.cast_ofNat_Int, Int.reduceBEq, Int.reduceBNe, BEq.rfl, wYes, wCut, pow_ok9, pow_ok18, pow_ok30, line_eq, put_same, put_put, List.mem_cons, List.not_mem_nil, or_false, addP_int, addP_str, addP_tup, addP_lst, intP_int, intP0_int, ordP_int, eqP_int, eqP_str, eqP_bl, eqP_non, ixP_str, ixP_lst, ixP_tup, ixP_scr, slcP_str, slcP_tup, slcP_lst, wiSeq_eq, walkP_tup, walkP_str, walkP_lst, walkP_scr, N_law_is_sale, kind_tuple, tyN, eqNilP]
      by_cases hl : xs.length = 8
      · obtain ⟨a, b, c, d, e, f, g, h, rfl⟩ := eight hl
        have ha := hx a (by simp)
        have hb := hx b (by simp)
        have hc := hx c (by simp)
        have hd := hx d (by simp)
        have he := hx e (by simp)
        have hf := hx f (by simp)
        have hg := hx g (by simp)
        have hh := hx h (by simp)
        have i0 : atI [a, b, c, d, e, f, g, h] 0 = some a := rfl
        have i1 : atI [a, b, c, d, e, f, g, h] 1 = some b := rfl
        have i2 : atI [a, b, c, d, e, f, g, h] 2 = some c := rfl
        have i3 : atI [a, b, c, d, e, f, g, h] 3 = some d := rfl
        have i4 : atI [a, b, c, d, e, f, g, h] 4 = some e := rfl
        have i5 : atI [a, b, c, d, e, f, g, h] 5 = some f := rfl
        have i6 : atI [a, b, c, d, e, f, g, h] 6 = some g := rfl
        have i7 : atI [a, b, c, d, e, f, g, h] 7 = some h := rfl
        simp only [startP, List.map_cons, List.map_nil, List.length_cons, List.length_nil, Nat.reduceAdd, Nat.reduceSub, List.reduceReplicate, List.cons_append, List.nil_append, List.append_nil, wSeq, wAsg, wgN, wgNil, wgCons, wgTup, wDrop, wRet, wRetN, wNext, wBrk, wCont, wIfS, wV, nth, stV, wC, wOp, wUn, wBool, wChain, wTru, truP, wAnd, wOr, wNot, wIfE, wAndV, wOrV, wNotV, wNil, wCons, wTup, wLst, wLstM, wCB, wPar, wPar3, wAug, wFor, wiRng1, wiRng2, seqL, seqO, rows, subP, fdivP, modP, powP, mulP, CDiv, CPow, CMul, neP, ltP, leP, gtP, geP, isNon, isP, isNotP, lenO, lenP, absP, min2P, max2P, listP, tupleP, allP, sumP, intCP, isinP, tysOf, seqK, keyOf, dgetP, wNoPart, wPart, slcMP, wSl, wRevL, tyM, wBm, appendP, popAtP, joinP, wDnewM, wPairs, wCall, wCallK, wFrz, wDput, dputP, eqNilP, List.isEmpty_nil, List.isEmpty_cons, Bool.not_true, Bool.not_false, Bool.true_eq_false, Bool.false_eq_true, and_true, true_and, ↓reduceIte, Int.reduceToNat, Int.reducePow, Int.reduceNeg, Int.reduceAdd, Int.reduceSub, Int.reduceMul, Nat.reduceMul, Nat.reduceLT, Nat.reduceLeDiff, isB, String.reduceBEq, Bool.or_true, Bool.or_false, Bool.and_true, Bool.and_false, Bool.true_and, Bool.false_and, Bool.false_or, Bool.true_or, Int.cast_ofNat_Int, Int.reduceBEq, Int.reduceBNe, BEq.rfl, wYes, wCut, pow_ok9, pow_ok18, pow_ok30, line_eq, put_same, put_put, List.mem_cons, List.not_mem_nil, or_false, addP_int, addP_str, addP_tup, addP_lst, intP_int, intP0_int, ordP_int, eqP_int, eqP_str, eqP_bl, eqP_non, ixP_str, ixP_lst, ixP_tup, ixP_scr, slcP_str, slcP_tup, slcP_lst, wiSeq_eq, walkP_tup, walkP_str, walkP_lst, walkP_scr, i0, i1, i2, wLc]
        replace q : Q (.bl (isPos a && isAmt d && isAmt e && isAmt f && isNam b && isNam c && isNam g && isNam h && neS b c)) S0 := q
        refine ⟨by decide, .mk ha ?_⟩
        cases a with
        | int i =>
          have hi := ha.int
          have e0 : isCnt 1 10000000000000000000000000000000000000000 (.int i) = isPos (.int i) := by
            show (decide (1 ≤ i) && decide (i ≤ 10000000000000000000000000000000000000000)) = decide (1 ≤ i)
            rw [decide_eq_true (show i ≤ 10000000000000000000000000000000000000000 by omega), Bool.and_true]
          simp only [e0, startP, List.map_cons, List.map_nil, List.length_cons, List.length_nil, Nat.reduceAdd, Nat.reduceSub, List.reduceReplicate, List.cons_append, List.nil_append, List.append_nil, wSeq, wAsg, wgN, wgNil, wgCons, wgTup, wDrop, wRet, wRetN, wNext, wBrk, wCont, wIfS, wV, nth, stV, wC, wOp, wUn, wBool, wChain, wTru, truP, wAnd, wOr, wNot, wIfE, wAndV, wOrV, wNotV, wNil, wCons, wTup, wLst, wLstM, wCB, wPar, wPar3, wAug, wFor, wiRng1, wiRng2, seqL, seqO, rows, subP, fdivP, modP, powP, mulP, CDiv, CPow, CMul, neP, ltP, leP, gtP, geP, isNon, isP, isNotP, lenO, lenP, absP, min2P, max2P, listP, tupleP, allP, sumP, intCP, isinP, tysOf, seqK, keyOf, dgetP, wNoPart, wPart, slcMP, wSl, wRevL, tyM, wBm, appendP, popAtP, joinP, wDnewM, wPairs, wCall, wCallK, wFrz, wDput, dputP, eqNilP, List.isEmpty_nil, List.isEmpty_cons, Bool.not_true, Bool.not_false, Bool.true_eq_false, Bool.false_eq_true, and_true, true_and, ↓reduceIte, Int.reduceToNat, Int.reducePow, Int.reduceNeg, Int.reduceAdd, Int.reduceSub, Int.reduceMul, Nat.reduceMul, Nat.reduceLT, Nat.reduceLeDiff, isB, String.reduceBEq, Bool.or_true, Bool.or_false, Bool.and_true, Bool.and_false, Bool.true_and, Bool.false_and, Bool.false_or, Bool.true_or, Int.cast_ofNat_Int, Int.reduceBEq, Int.reduceBNe, BEq.rfl, wYes, wCut, pow_ok9, pow_ok18, pow_ok30, line_eq, put_same, put_put, List.mem_cons, List.not_mem_nil, or_false, addP_int, addP_str, addP_tup, addP_lst, intP_int, intP0_int, ordP_int, eqP_int, eqP_str, eqP_bl, eqP_non, ixP_str, ixP_lst, ixP_tup, ixP_scr, slcP_str, slcP_tup, slcP_lst, wiSeq_eq, walkP_tup, walkP_str, walkP_lst, walkP_scr]
          cases e1 : isPos (.int i) with
          | false => simp only [e1, startP, List.map_cons, List.map_nil, List.length_cons, List.length_nil, Nat.reduceAdd, Nat.reduceSub, List.reduceReplicate, List.cons_append, List.nil_append, List.append_nil, wSeq, wAsg, wgN, wgNil, wgCons, wgTup, wDrop, wRet, wRetN, wNext, wBrk, wCont, wIfS, wV, nth, stV, wC, wOp, wUn, wBool, wChain, wTru, truP, wAnd, wOr, wNot, wIfE, wAndV, wOrV, wNotV, wNil, wCons, wTup, wLst, wLstM, wCB, wPar, wPar3, wAug, wFor, wiRng1, wiRng2, seqL, seqO, rows, subP, fdivP, modP, powP, mulP, CDiv, CPow, CMul, neP, ltP, leP, gtP, geP, isNon, isP, isNotP, lenO, lenP, absP, min2P, max2P, listP, tupleP, allP, sumP, intCP, isinP, tysOf, seqK, keyOf, dgetP, wNoPart, wPart, slcMP, wSl, wRevL, tyM, wBm, appendP, popAtP, joinP, wDnewM, wPairs, wCall, wCallK, wFrz, wDput, dputP, eqNilP, List.isEmpty_nil, List.isEmpty_cons, Bool.not_true, Bool.not_false, Bool.true_eq_false, Bool.false_eq_true, and_true, true_and, ↓reduceIte, Int.reduceToNat, Int.reducePow, Int.reduceNeg, Int.reduceAdd, Int.reduceSub, Int.reduceMul, Nat.reduceMul, Nat.reduceLT, Nat.reduceLeDiff, isB, String.reduceBEq, Bool.or_true, Bool.or_false, Bool.and_true, Bool.and_false, Bool.true_and, Bool.false_and, Bool.false_or, Bool.true_or, Int.cast_ofNat_Int, Int.reduceBEq, Int.reduceBNe, BEq.rfl, wYes, wCut, pow_ok9, pow_ok18, pow_ok30, line_eq, put_same, put_put, List.mem_cons, List.not_mem_nil, or_false, addP_int, addP_str, addP_tup, addP_lst, intP_int, intP0_int, ordP_int, eqP_int, eqP_str, eqP_bl, eqP_non, ixP_str, ixP_lst, ixP_tup, ixP_scr, slcP_str, slcP_tup, slcP_lst, wiSeq_eq, walkP_tup, walkP_str, walkP_lst, walkP_scr] at q ⊢; exact q
          | true =>
          simp only [e1, startP, List.map_cons, List.map_nil, List.length_cons, List.length_nil, Nat.reduceAdd, Nat.reduceSub, List.reduceReplicate, List.cons_append, List.nil_append, List.append_nil, wSeq, wAsg, wgN, wgNil, wgCons, wgTup, wDrop, wRet, wRetN, wNext, wBrk, wCont, wIfS, wV, nth, stV, wC, wOp, wUn, wBool, wChain, wTru, truP, wAnd, wOr, wNot, wIfE, wAndV, wOrV, wNotV, wNil, wCons, wTup, wLst, wLstM, wCB, wPar, wPar3, wAug, wFor, wiRng1, wiRng2, seqL, seqO, rows, subP, fdivP, modP, powP, mulP, CDiv, CPow, CMul, neP, ltP, leP, gtP, geP, isNon, isP, isNotP, lenO, lenP, absP, min2P, max2P, listP, tupleP, allP, sumP, intCP, isinP, tysOf, seqK, keyOf, dgetP, wNoPart, wPart, slcMP, wSl, wRevL, tyM, wBm, appendP, popAtP, joinP, wDnewM, wPairs, wCall, wCallK, wFrz, wDput, dputP, eqNilP, List.isEmpty_nil, List.isEmpty_cons, Bool.not_true, Bool.not_false, Bool.true_eq_false, Bool.false_eq_true, and_true, true_and, ↓reduceIte, Int.reduceToNat, Int.reducePow, Int.reduceNeg, Int.reduceAdd, Int.reduceSub, Int.reduceMul, Nat.reduceMul, Nat.reduceLT, Nat.reduceLeDiff, isB, String.reduceBEq, Bool.or_true, Bool.or_false, Bool.and_true, Bool.and_false, Bool.true_and, Bool.false_and, Bool.false_or, Bool.true_or, Int.cast_ofNat_Int, Int.reduceBEq, Int.reduceBNe, BEq.rfl, wYes, wCut, pow_ok9, pow_ok18, pow_ok30, line_eq, put_same, put_put, List.mem_cons, List.not_mem_nil, or_false, addP_int, addP_str, addP_tup, addP_lst, intP_int, intP0_int, ordP_int, eqP_int, eqP_str, eqP_bl, eqP_non, ixP_str, ixP_lst, ixP_tup, ixP_scr, slcP_str, slcP_tup, slcP_lst, wiSeq_eq, walkP_tup, walkP_str, walkP_lst, walkP_scr] at q ⊢
          intro D hD
          refine lc_pureF (fun x => if (match x with | .int 1 => isNam b | .int 2 => isNam c | .int 6 => isNam g | .int 7 => isNam h | _ => true) = true then none else some x) (show 4 ≤ sizeLine by decide) hD (fun x hx2 S' R1 R0 _ k1 k0 => ?_) (fun _ _ => trivial) ?_
          · simp only [List.mem_cons, List.not_mem_nil, or_false] at hx2
            rcases hx2 with rfl | rfl | rfl | rfl
            · simp only [startP, List.map_cons, List.map_nil, List.length_cons, List.length_nil, Nat.reduceAdd, Nat.reduceSub, List.reduceReplicate, List.cons_append, List.nil_append, List.append_nil, wSeq, wAsg, wgN, wgNil, wgCons, wgTup, wDrop, wRet, wRetN, wNext, wBrk, wCont, wIfS, wV, nth, stV, wC, wOp, wUn, wBool, wChain, wTru, truP, wAnd, wOr, wNot, wIfE, wAndV, wOrV, wNotV, wNil, wCons, wTup, wLst, wLstM, wCB, wPar, wPar3, wAug, wFor, wiRng1, wiRng2, seqL, seqO, rows, subP, fdivP, modP, powP, mulP, CDiv, CPow, CMul, neP, ltP, leP, gtP, geP, isNon, isP, isNotP, lenO, lenP, absP, min2P, max2P, listP, tupleP, allP, sumP, intCP, isinP, tysOf, seqK, keyOf, dgetP, wNoPart, wPart, slcMP, wSl, wRevL, tyM, wBm, appendP, popAtP, joinP, wDnewM, wPairs, wCall, wCallK, wFrz, wDput, dputP, eqNilP, List.isEmpty_nil, List.isEmpty_cons, Bool.not_true, Bool.not_false, Bool.true_eq_false, Bool.false_eq_true, and_true, true_and, ↓reduceIte, Int.reduceToNat, Int.reducePow, Int.reduceNeg, Int.reduceAdd, Int.reduceSub, Int.reduceMul, Nat.reduceMul, Nat.reduceLT, Nat.reduceLeDiff, isB, String.reduceBEq, Bool.or_true, Bool.or_false, Bool.and_true, Bool.and_false, Bool.true_and, Bool.false_and, Bool.false_or, Bool.true_or, Int.cast_ofNat_Int, Int.reduceBEq, Int.reduceBNe, BEq.rfl, wYes, wCut, pow_ok9, pow_ok18, pow_ok30, line_eq, put_same, put_put, List.mem_cons, List.not_mem_nil, or_false, addP_int, addP_str, addP_tup, addP_lst, intP_int, intP0_int, ordP_int, eqP_int, eqP_str, eqP_bl, eqP_non, ixP_str, ixP_lst, ixP_tup, ixP_scr, slcP_str, slcP_tup, slcP_lst, wiSeq_eq, walkP_tup, walkP_str, walkP_lst, walkP_scr, wipeP, pure1, i1, hb]
              cases z : isNam b
              · exact k1 _ (if_neg (by simp [z]))
              · exact k0 (if_pos z)
            · simp only [startP, List.map_cons, List.map_nil, List.length_cons, List.length_nil, Nat.reduceAdd, Nat.reduceSub, List.reduceReplicate, List.cons_append, List.nil_append, List.append_nil, wSeq, wAsg, wgN, wgNil, wgCons, wgTup, wDrop, wRet, wRetN, wNext, wBrk, wCont, wIfS, wV, nth, stV, wC, wOp, wUn, wBool, wChain, wTru, truP, wAnd, wOr, wNot, wIfE, wAndV, wOrV, wNotV, wNil, wCons, wTup, wLst, wLstM, wCB, wPar, wPar3, wAug, wFor, wiRng1, wiRng2, seqL, seqO, rows, subP, fdivP, modP, powP, mulP, CDiv, CPow, CMul, neP, ltP, leP, gtP, geP, isNon, isP, isNotP, lenO, lenP, absP, min2P, max2P, listP, tupleP, allP, sumP, intCP, isinP, tysOf, seqK, keyOf, dgetP, wNoPart, wPart, slcMP, wSl, wRevL, tyM, wBm, appendP, popAtP, joinP, wDnewM, wPairs, wCall, wCallK, wFrz, wDput, dputP, eqNilP, List.isEmpty_nil, List.isEmpty_cons, Bool.not_true, Bool.not_false, Bool.true_eq_false, Bool.false_eq_true, and_true, true_and, ↓reduceIte, Int.reduceToNat, Int.reducePow, Int.reduceNeg, Int.reduceAdd, Int.reduceSub, Int.reduceMul, Nat.reduceMul, Nat.reduceLT, Nat.reduceLeDiff, isB, String.reduceBEq, Bool.or_true, Bool.or_false, Bool.and_true, Bool.and_false, Bool.true_and, Bool.false_and, Bool.false_or, Bool.true_or, Int.cast_ofNat_Int, Int.reduceBEq, Int.reduceBNe, BEq.rfl, wYes, wCut, pow_ok9, pow_ok18, pow_ok30, line_eq, put_same, put_put, List.mem_cons, List.not_mem_nil, or_false, addP_int, addP_str, addP_tup, addP_lst, intP_int, intP0_int, ordP_int, eqP_int, eqP_str, eqP_bl, eqP_non, ixP_str, ixP_lst, ixP_tup, ixP_scr, slcP_str, slcP_tup, slcP_lst, wiSeq_eq, walkP_tup, walkP_str, walkP_lst, walkP_scr, wipeP, pure1, i2, hc]
              cases z : isNam c
              · exact k1 _ (if_neg (by simp [z]))
              · exact k0 (if_pos z)
            · simp only [startP, List.map_cons, List.map_nil, List.length_cons, List.length_nil, Nat.reduceAdd, Nat.reduceSub, List.reduceReplicate, List.cons_append, List.nil_append, List.append_nil, wSeq, wAsg, wgN, wgNil, wgCons, wgTup, wDrop, wRet, wRetN, wNext, wBrk, wCont, wIfS, wV, nth, stV, wC, wOp, wUn, wBool, wChain, wTru, truP, wAnd, wOr, wNot, wIfE, wAndV, wOrV, wNotV, wNil, wCons, wTup, wLst, wLstM, wCB, wPar, wPar3, wAug, wFor, wiRng1, wiRng2, seqL, seqO, rows, subP, fdivP, modP, powP, mulP, CDiv, CPow, CMul, neP, ltP, leP, gtP, geP, isNon, isP, isNotP, lenO, lenP, absP, min2P, max2P, listP, tupleP, allP, sumP, intCP, isinP, tysOf, seqK, keyOf, dgetP, wNoPart, wPart, slcMP, wSl, wRevL, tyM, wBm, appendP, popAtP, joinP, wDnewM, wPairs, wCall, wCallK, wFrz, wDput, dputP, eqNilP, List.isEmpty_nil, List.isEmpty_cons, Bool.not_true, Bool.not_false, Bool.true_eq_false, Bool.false_eq_true, and_true, true_and, ↓reduceIte, Int.reduceToNat, Int.reducePow, Int.reduceNeg, Int.reduceAdd, Int.reduceSub, Int.reduceMul, Nat.reduceMul, Nat.reduceLT, Nat.reduceLeDiff, isB, String.reduceBEq, Bool.or_true, Bool.or_false, Bool.and_true, Bool.and_false, Bool.true_and, Bool.false_and, Bool.false_or, Bool.true_or, Int.cast_ofNat_Int, Int.reduceBEq, Int.reduceBNe, BEq.rfl, wYes, wCut, pow_ok9, pow_ok18, pow_ok30, line_eq, put_same, put_put, List.mem_cons, List.not_mem_nil, or_false, addP_int, addP_str, addP_tup, addP_lst, intP_int, intP0_int, ordP_int, eqP_int, eqP_str, eqP_bl, eqP_non, ixP_str, ixP_lst, ixP_tup, ixP_scr, slcP_str, slcP_tup, slcP_lst, wiSeq_eq, walkP_tup, walkP_str, walkP_lst, walkP_scr, wipeP, pure1, i6, hg]
              cases z : isNam g
              · exact k1 _ (if_neg (by simp [z]))
              · exact k0 (if_pos z)
            · simp only [startP, List.map_cons, List.map_nil, List.length_cons, List.length_nil, Nat.reduceAdd, Nat.reduceSub, List.reduceReplicate, List.cons_append, List.nil_append, List.append_nil, wSeq, wAsg, wgN, wgNil, wgCons, wgTup, wDrop, wRet, wRetN, wNext, wBrk, wCont, wIfS, wV, nth, stV, wC, wOp, wUn, wBool, wChain, wTru, truP, wAnd, wOr, wNot, wIfE, wAndV, wOrV, wNotV, wNil, wCons, wTup, wLst, wLstM, wCB, wPar, wPar3, wAug, wFor, wiRng1, wiRng2, seqL, seqO, rows, subP, fdivP, modP, powP, mulP, CDiv, CPow, CMul, neP, ltP, leP, gtP, geP, isNon, isP, isNotP, lenO, lenP, absP, min2P, max2P, listP, tupleP, allP, sumP, intCP, isinP, tysOf, seqK, keyOf, dgetP, wNoPart, wPart, slcMP, wSl, wRevL, tyM, wBm, appendP, popAtP, joinP, wDnewM, wPairs, wCall, wCallK, wFrz, wDput, dputP, eqNilP, List.isEmpty_nil, List.isEmpty_cons, Bool.not_true, Bool.not_false, Bool.true_eq_false, Bool.false_eq_true, and_true, true_and, ↓reduceIte, Int.reduceToNat, Int.reducePow, Int.reduceNeg, Int.reduceAdd, Int.reduceSub, Int.reduceMul, Nat.reduceMul, Nat.reduceLT, Nat.reduceLeDiff, isB, String.reduceBEq, Bool.or_true, Bool.or_false, Bool.and_true, Bool.and_false, Bool.true_and, Bool.false_and, Bool.false_or, Bool.true_or, Int.cast_ofNat_Int, Int.reduceBEq, Int.reduceBNe, BEq.rfl, wYes, wCut, pow_ok9, pow_ok18, pow_ok30, line_eq, put_same, put_put, List.mem_cons, List.not_mem_nil, or_false, addP_int, addP_str, addP_tup, addP_lst, intP_int, intP0_int, ordP_int, eqP_int, eqP_str, eqP_bl, eqP_non, ixP_str, ixP_lst, ixP_tup, ixP_scr, slcP_str, slcP_tup, slcP_lst, wiSeq_eq, walkP_tup, walkP_str, walkP_lst, walkP_scr, wipeP, pure1, i7, hh]
              cases z : isNam h
              · exact k1 _ (if_neg (by simp [z]))
              · exact k0 (if_pos z)
          · simp only [none_bad, List.all_cons, List.all_nil, startP, List.map_cons, List.map_nil, List.length_cons, List.length_nil, Nat.reduceAdd, Nat.reduceSub, List.reduceReplicate, List.cons_append, List.nil_append, List.append_nil, wSeq, wAsg, wgN, wgNil, wgCons, wgTup, wDrop, wRet, wRetN, wNext, wBrk, wCont, wIfS, wV, nth, stV, wC, wOp, wUn, wBool, wChain, wTru, truP, wAnd, wOr, wNot, wIfE, wAndV, wOrV, wNotV, wNil, wCons, wTup, wLst, wLstM, wCB, wPar, wPar3, wAug, wFor, wiRng1, wiRng2, seqL, seqO, rows, subP, fdivP, modP, powP, mulP, CDiv, CPow, CMul, neP, ltP, leP, gtP, geP, isNon, isP, isNotP, lenO, lenP, absP, min2P, max2P, listP, tupleP, allP, sumP, intCP, isinP, tysOf, seqK, keyOf, dgetP, wNoPart, wPart, slcMP, wSl, wRevL, tyM, wBm, appendP, popAtP, joinP, wDnewM, wPairs, wCall, wCallK, wFrz, wDput, dputP, eqNilP, List.isEmpty_nil, List.isEmpty_cons, Bool.not_true, Bool.not_false, Bool.true_eq_false, Bool.false_eq_true, and_true, true_and, ↓reduceIte, Int.reduceToNat, Int.reducePow, Int.reduceNeg, Int.reduceAdd, Int.reduceSub, Int.reduceMul, Nat.reduceMul, Nat.reduceLT, Nat.reduceLeDiff, isB, String.reduceBEq, Bool.or_true, Bool.or_false, Bool.and_true, Bool.and_false, Bool.true_and, Bool.false_and, Bool.false_or, Bool.true_or, Int.cast_ofNat_Int, Int.reduceBEq, Int.reduceBNe, BEq.rfl, wYes, wCut, pow_ok9, pow_ok18, pow_ok30, line_eq, put_same, put_put, List.mem_cons, List.not_mem_nil, or_false, addP_int, addP_str, addP_tup, addP_lst, intP_int, intP0_int, ordP_int, eqP_int, eqP_str, eqP_bl, eqP_non, ixP_str, ixP_lst, ixP_tup, ixP_scr, slcP_str, slcP_tup, slcP_lst, wiSeq_eq, walkP_tup, walkP_str, walkP_lst, walkP_scr]
            cases e4 : isNam b with
            | false => simp only [e4, startP, List.map_cons, List.map_nil, List.length_cons, List.length_nil, Nat.reduceAdd, Nat.reduceSub, List.reduceReplicate, List.cons_append, List.nil_append, List.append_nil, wSeq, wAsg, wgN, wgNil, wgCons, wgTup, wDrop, wRet, wRetN, wNext, wBrk, wCont, wIfS, wV, nth, stV, wC, wOp, wUn, wBool, wChain, wTru, truP, wAnd, wOr, wNot, wIfE, wAndV, wOrV, wNotV, wNil, wCons, wTup, wLst, wLstM, wCB, wPar, wPar3, wAug, wFor, wiRng1, wiRng2, seqL, seqO, rows, subP, fdivP, modP, powP, mulP, CDiv, CPow, CMul, neP, ltP, leP, gtP, geP, isNon, isP, isNotP, lenO, lenP, absP, min2P, max2P, listP, tupleP, allP, sumP, intCP, isinP, tysOf, seqK, keyOf, dgetP, wNoPart, wPart, slcMP, wSl, wRevL, tyM, wBm, appendP, popAtP, joinP, wDnewM, wPairs, wCall, wCallK, wFrz, wDput, dputP, eqNilP, List.isEmpty_nil, List.isEmpty_cons, Bool.not_true, Bool.not_false, Bool.true_eq_false, Bool.false_eq_true, and_true, true_and, ↓reduceIte, Int.reduceToNat, Int.reducePow, Int.reduceNeg, Int.reduceAdd, Int.reduceSub, Int.reduceMul, Nat.reduceMul, Nat.reduceLT, Nat.reduceLeDiff, isB, String.reduceBEq, Bool.or_true, Bool.or_false, Bool.and_true, Bool.and_false, Bool.true_and, Bool.false_and, Bool.false_or, Bool.true_or, Int.cast_ofNat_Int, Int.reduceBEq, Int.reduceBNe, BEq.rfl, wYes, wCut, pow_ok9, pow_ok18, pow_ok30, line_eq, put_same, put_put, List.mem_cons, List.not_mem_nil, or_false, addP_int, addP_str, addP_tup, addP_lst, intP_int, intP0_int, ordP_int, eqP_int, eqP_str, eqP_bl, eqP_non, ixP_str, ixP_lst, ixP_tup, ixP_scr, slcP_str, slcP_tup, slcP_lst, wiSeq_eq, walkP_tup, walkP_str, walkP_lst, walkP_scr] at q ⊢; exact q
            | true =>
            cases e5 : isNam c with
            | false => simp only [e4, e5, startP, List.map_cons, List.map_nil, List.length_cons, List.length_nil, Nat.reduceAdd, Nat.reduceSub, List.reduceReplicate, List.cons_append, List.nil_append, List.append_nil, wSeq, wAsg, wgN, wgNil, wgCons, wgTup, wDrop, wRet, wRetN, wNext, wBrk, wCont, wIfS, wV, nth, stV, wC, wOp, wUn, wBool, wChain, wTru, truP, wAnd, wOr, wNot, wIfE, wAndV, wOrV, wNotV, wNil, wCons, wTup, wLst, wLstM, wCB, wPar, wPar3, wAug, wFor, wiRng1, wiRng2, seqL, seqO, rows, subP, fdivP, modP, powP, mulP, CDiv, CPow, CMul, neP, ltP, leP, gtP, geP, isNon, isP, isNotP, lenO, lenP, absP, min2P, max2P, listP, tupleP, allP, sumP, intCP, isinP, tysOf, seqK, keyOf, dgetP, wNoPart, wPart, slcMP, wSl, wRevL, tyM, wBm, appendP, popAtP, joinP, wDnewM, wPairs, wCall, wCallK, wFrz, wDput, dputP, eqNilP, List.isEmpty_nil, List.isEmpty_cons, Bool.not_true, Bool.not_false, Bool.true_eq_false, Bool.false_eq_true, and_true, true_and, ↓reduceIte, Int.reduceToNat, Int.reducePow, Int.reduceNeg, Int.reduceAdd, Int.reduceSub, Int.reduceMul, Nat.reduceMul, Nat.reduceLT, Nat.reduceLeDiff, isB, String.reduceBEq, Bool.or_true, Bool.or_false, Bool.and_true, Bool.and_false, Bool.true_and, Bool.false_and, Bool.false_or, Bool.true_or, Int.cast_ofNat_Int, Int.reduceBEq, Int.reduceBNe, BEq.rfl, wYes, wCut, pow_ok9, pow_ok18, pow_ok30, line_eq, put_same, put_put, List.mem_cons, List.not_mem_nil, or_false, addP_int, addP_str, addP_tup, addP_lst, intP_int, intP0_int, ordP_int, eqP_int, eqP_str, eqP_bl, eqP_non, ixP_str, ixP_lst, ixP_tup, ixP_scr, slcP_str, slcP_tup, slcP_lst, wiSeq_eq, walkP_tup, walkP_str, walkP_lst, walkP_scr] at q ⊢; exact q
            | true =>
            cases e6 : isNam g with
            | false => simp only [e4, e5, e6, startP, List.map_cons, List.map_nil, List.length_cons, List.length_nil, Nat.reduceAdd, Nat.reduceSub, List.reduceReplicate, List.cons_append, List.nil_append, List.append_nil, wSeq, wAsg, wgN, wgNil, wgCons, wgTup, wDrop, wRet, wRetN, wNext, wBrk, wCont, wIfS, wV, nth, stV, wC, wOp, wUn, wBool, wChain, wTru, truP, wAnd, wOr, wNot, wIfE, wAndV, wOrV, wNotV, wNil, wCons, wTup, wLst, wLstM, wCB, wPar, wPar3, wAug, wFor, wiRng1, wiRng2, seqL, seqO, rows, subP, fdivP, modP, powP, mulP, CDiv, CPow, CMul, neP, ltP, leP, gtP, geP, isNon, isP, isNotP, lenO, lenP, absP, min2P, max2P, listP, tupleP, allP, sumP, intCP, isinP, tysOf, seqK, keyOf, dgetP, wNoPart, wPart, slcMP, wSl, wRevL, tyM, wBm, appendP, popAtP, joinP, wDnewM, wPairs, wCall, wCallK, wFrz, wDput, dputP, eqNilP, List.isEmpty_nil, List.isEmpty_cons, Bool.not_true, Bool.not_false, Bool.true_eq_false, Bool.false_eq_true, and_true, true_and, ↓reduceIte, Int.reduceToNat, Int.reducePow, Int.reduceNeg, Int.reduceAdd, Int.reduceSub, Int.reduceMul, Nat.reduceMul, Nat.reduceLT, Nat.reduceLeDiff, isB, String.reduceBEq, Bool.or_true, Bool.or_false, Bool.and_true, Bool.and_false, Bool.true_and, Bool.false_and, Bool.false_or, Bool.true_or, Int.cast_ofNat_Int, Int.reduceBEq, Int.reduceBNe, BEq.rfl, wYes, wCut, pow_ok9, pow_ok18, pow_ok30, line_eq, put_same, put_put, List.mem_cons, List.not_mem_nil, or_false, addP_int, addP_str, addP_tup, addP_lst, intP_int, intP0_int, ordP_int, eqP_int, eqP_str, eqP_bl, eqP_non, ixP_str, ixP_lst, ixP_tup, ixP_scr, slcP_str, slcP_tup, slcP_lst, wiSeq_eq, walkP_tup, walkP_str, walkP_lst, walkP_scr] at q ⊢; exact q
            | true =>
            cases e7 : isNam h with
            | false => simp only [e4, e5, e6, e7, startP, List.map_cons, List.map_nil, List.length_cons, List.length_nil, Nat.reduceAdd, Nat.reduceSub, List.reduceReplicate, List.cons_append, List.nil_append, List.append_nil, wSeq, wAsg, wgN, wgNil, wgCons, wgTup, wDrop, wRet, wRetN, wNext, wBrk, wCont, wIfS, wV, nth, stV, wC, wOp, wUn, wBool, wChain, wTru, truP, wAnd, wOr, wNot, wIfE, wAndV, wOrV, wNotV, wNil, wCons, wTup, wLst, wLstM, wCB, wPar, wPar3, wAug, wFor, wiRng1, wiRng2, seqL, seqO, rows, subP, fdivP, modP, powP, mulP, CDiv, CPow, CMul, neP, ltP, leP, gtP, geP, isNon, isP, isNotP, lenO, lenP, absP, min2P, max2P, listP, tupleP, allP, sumP, intCP, isinP, tysOf, seqK, keyOf, dgetP, wNoPart, wPart, slcMP, wSl, wRevL, tyM, wBm, appendP, popAtP, joinP, wDnewM, wPairs, wCall, wCallK, wFrz, wDput, dputP, eqNilP, List.isEmpty_nil, List.isEmpty_cons, Bool.not_true, Bool.not_false, Bool.true_eq_false, Bool.false_eq_true, and_true, true_and, ↓reduceIte, Int.reduceToNat, Int.reducePow, Int.reduceNeg, Int.reduceAdd, Int.reduceSub, Int.reduceMul, Nat.reduceMul, Nat.reduceLT, Nat.reduceLeDiff, isB, String.reduceBEq, Bool.or_true, Bool.or_false, Bool.and_true, Bool.and_false, Bool.true_and, Bool.false_and, Bool.false_or, Bool.true_or, Int.cast_ofNat_Int, Int.reduceBEq, Int.reduceBNe, BEq.rfl, wYes, wCut, pow_ok9, pow_ok18, pow_ok30, line_eq, put_same, put_put, List.mem_cons, List.not_mem_nil, or_false, addP_int, addP_str, addP_tup, addP_lst, intP_int, intP0_int, ordP_int, eqP_int, eqP_str, eqP_bl, eqP_non, ixP_str, ixP_lst, ixP_tup, ixP_scr, slcP_str, slcP_tup, slcP_lst, wiSeq_eq, walkP_tup, walkP_str, walkP_lst, walkP_scr] at q ⊢; exact q
            | true =>
            simp only [e4, e5, e6, e7, startP, List.map_cons, List.map_nil, List.length_cons, List.length_nil, Nat.reduceAdd, Nat.reduceSub, List.reduceReplicate, List.cons_append, List.nil_append, List.append_nil, wSeq, wAsg, wgN, wgNil, wgCons, wgTup, wDrop, wRet, wRetN, wNext, wBrk, wCont, wIfS, wV, nth, stV, wC, wOp, wUn, wBool, wChain, wTru, truP, wAnd, wOr, wNot, wIfE, wAndV, wOrV, wNotV, wNil, wCons, wTup, wLst, wLstM, wCB, wPar, wPar3, wAug, wFor, wiRng1, wiRng2, seqL, seqO, rows, subP, fdivP, modP, powP, mulP, CDiv, CPow, CMul, neP, ltP, leP, gtP, geP, isNon, isP, isNotP, lenO, lenP, absP, min2P, max2P, listP, tupleP, allP, sumP, intCP, isinP, tysOf, seqK, keyOf, dgetP, wNoPart, wPart, slcMP, wSl, wRevL, tyM, wBm, appendP, popAtP, joinP, wDnewM, wPairs, wCall, wCallK, wFrz, wDput, dputP, eqNilP, List.isEmpty_nil, List.isEmpty_cons, Bool.not_true, Bool.not_false, Bool.true_eq_false, Bool.false_eq_true, and_true, true_and, ↓reduceIte, Int.reduceToNat, Int.reducePow, Int.reduceNeg, Int.reduceAdd, Int.reduceSub, Int.reduceMul, Nat.reduceMul, Nat.reduceLT, Nat.reduceLeDiff, isB, String.reduceBEq, Bool.or_true, Bool.or_false, Bool.and_true, Bool.and_false, Bool.true_and, Bool.false_and, Bool.false_or, Bool.true_or, Int.cast_ofNat_Int, Int.reduceBEq, Int.reduceBNe, BEq.rfl, wYes, wCut, pow_ok9, pow_ok18, pow_ok30, line_eq, put_same, put_put, List.mem_cons, List.not_mem_nil, or_false, addP_int, addP_str, addP_tup, addP_lst, intP_int, intP0_int, ordP_int, eqP_int, eqP_str, eqP_bl, eqP_non, ixP_str, ixP_lst, ixP_tup, ixP_scr, slcP_str, slcP_tup, slcP_lst, wiSeq_eq, walkP_tup, walkP_str, walkP_lst, walkP_scr] at q ⊢
            cases b with
            | str b =>
              cases c with
              | str c =>
                simp only [startP, List.map_cons, List.map_nil, List.length_cons, List.length_nil, Nat.reduceAdd, Nat.reduceSub, List.reduceReplicate, List.cons_append, List.nil_append, List.append_nil, wSeq, wAsg, wgN, wgNil, wgCons, wgTup, wDrop, wRet, wRetN, wNext, wBrk, wCont, wIfS, wV, nth, stV, wC, wOp, wUn, wBool, wChain, wTru, truP, wAnd, wOr, wNot, wIfE, wAndV, wOrV, wNotV, wNil, wCons, wTup, wLst, wLstM, wCB, wPar, wPar3, wAug, wFor, wiRng1, wiRng2, seqL, seqO, rows, subP, fdivP, modP, powP, mulP, CDiv, CPow, CMul, neP, ltP, leP, gtP, geP, isNon, isP, isNotP, lenO, lenP, absP, min2P, max2P, listP, tupleP, allP, sumP, intCP, isinP, tysOf, seqK, keyOf, dgetP, wNoPart, wPart, slcMP, wSl, wRevL, tyM, wBm, appendP, popAtP, joinP, wDnewM, wPairs, wCall, wCallK, wFrz, wDput, dputP, eqNilP, List.isEmpty_nil, List.isEmpty_cons, Bool.not_true, Bool.not_false, Bool.true_eq_false, Bool.false_eq_true, and_true, true_and, ↓reduceIte, Int.reduceToNat, Int.reducePow, Int.reduceNeg, Int.reduceAdd, Int.reduceSub, Int.reduceMul, Nat.reduceMul, Nat.reduceLT, Nat.reduceLeDiff, isB, String.reduceBEq, Bool.or_true, Bool.or_false, Bool.and_true, Bool.and_false, Bool.true_and, Bool.false_and, Bool.false_or, Bool.true_or, Int.cast_ofNat_Int, Int.reduceBEq, Int.reduceBNe, BEq.rfl, wYes, wCut, pow_ok9, pow_ok18, pow_ok30, line_eq, put_same, put_put, List.mem_cons, List.not_mem_nil, or_false, addP_int, addP_str, addP_tup, addP_lst, intP_int, intP0_int, ordP_int, eqP_int, eqP_str, eqP_bl, eqP_non, ixP_str, ixP_lst, ixP_tup, ixP_scr, slcP_str, slcP_tup, slcP_lst, wiSeq_eq, walkP_tup, walkP_str, walkP_lst, walkP_scr]
                replace q : Q (.bl (isAmt d && isAmt e && isAmt f && !(b == c))) S0 := q
                cases e8 : b == c with
                | true => simp only [e8, startP, List.map_cons, List.map_nil, List.length_cons, List.length_nil, Nat.reduceAdd, Nat.reduceSub, List.reduceReplicate, List.cons_append, List.nil_append, List.append_nil, wSeq, wAsg, wgN, wgNil, wgCons, wgTup, wDrop, wRet, wRetN, wNext, wBrk, wCont, wIfS, wV, nth, stV, wC, wOp, wUn, wBool, wChain, wTru, truP, wAnd, wOr, wNot, wIfE, wAndV, wOrV, wNotV, wNil, wCons, wTup, wLst, wLstM, wCB, wPar, wPar3, wAug, wFor, wiRng1, wiRng2, seqL, seqO, rows, subP, fdivP, modP, powP, mulP, CDiv, CPow, CMul, neP, ltP, leP, gtP, geP, isNon, isP, isNotP, lenO, lenP, absP, min2P, max2P, listP, tupleP, allP, sumP, intCP, isinP, tysOf, seqK, keyOf, dgetP, wNoPart, wPart, slcMP, wSl, wRevL, tyM, wBm, appendP, popAtP, joinP, wDnewM, wPairs, wCall, wCallK, wFrz, wDput, dputP, eqNilP, List.isEmpty_nil, List.isEmpty_cons, Bool.not_true, Bool.not_false, Bool.true_eq_false, Bool.false_eq_true, and_true, true_and, ↓reduceIte, Int.reduceToNat, Int.reducePow, Int.reduceNeg, Int.reduceAdd, Int.reduceSub, Int.reduceMul, Nat.reduceMul, Nat.reduceLT, Nat.reduceLeDiff, isB, String.reduceBEq, Bool.or_true, Bool.or_false, Bool.and_true, Bool.and_false, Bool.true_and, Bool.false_and, Bool.false_or, Bool.true_or, Int.cast_ofNat_Int, Int.reduceBEq, Int.reduceBNe, BEq.rfl, wYes, wCut, pow_ok9, pow_ok18, pow_ok30, line_eq, put_same, put_put, List.mem_cons, List.not_mem_nil, or_false, addP_int, addP_str, addP_tup, addP_lst, intP_int, intP0_int, ordP_int, eqP_int, eqP_str, eqP_bl, eqP_non, ixP_str, ixP_lst, ixP_tup, ixP_scr, slcP_str, slcP_tup, slcP_lst, wiSeq_eq, walkP_tup, walkP_str, walkP_lst, walkP_scr] at q ⊢; exact q
                | false =>
                simp only [e8, startP, List.map_cons, List.map_nil, List.length_cons, List.length_nil, Nat.reduceAdd, Nat.reduceSub, List.reduceReplicate, List.cons_append, List.nil_append, List.append_nil, wSeq, wAsg, wgN, wgNil, wgCons, wgTup, wDrop, wRet, wRetN, wNext, wBrk, wCont, wIfS, wV, nth, stV, wC, wOp, wUn, wBool, wChain, wTru, truP, wAnd, wOr, wNot, wIfE, wAndV, wOrV, wNotV, wNil, wCons, wTup, wLst, wLstM, wCB, wPar, wPar3, wAug, wFor, wiRng1, wiRng2, seqL, seqO, rows, subP, fdivP, modP, powP, mulP, CDiv, CPow, CMul, neP, ltP, leP, gtP, geP, isNon, isP, isNotP, lenO, lenP, absP, min2P, max2P, listP, tupleP, allP, sumP, intCP, isinP, tysOf, seqK, keyOf, dgetP, wNoPart, wPart, slcMP, wSl, wRevL, tyM, wBm, appendP, popAtP, joinP, wDnewM, wPairs, wCall, wCallK, wFrz, wDput, dputP, eqNilP, List.isEmpty_nil, List.isEmpty_cons, Bool.not_true, Bool.not_false, Bool.true_eq_false, Bool.false_eq_true, and_true, true_and, ↓reduceIte, Int.reduceToNat, Int.reducePow, Int.reduceNeg, Int.reduceAdd, Int.reduceSub, Int.reduceMul, Nat.reduceMul, Nat.reduceLT, Nat.reduceLeDiff, isB, String.reduceBEq, Bool.or_true, Bool.or_false, Bool.and_true, Bool.and_false, Bool.true_and, Bool.false_and, Bool.false_or, Bool.true_or, Int.cast_ofNat_Int, Int.reduceBEq, Int.reduceBNe, BEq.rfl, wYes, wCut, pow_ok9, pow_ok18, pow_ok30, line_eq, put_same, put_put, List.mem_cons, List.not_mem_nil, or_false, addP_int, addP_str, addP_tup, addP_lst, intP_int, intP0_int, ordP_int, eqP_int, eqP_str, eqP_bl, eqP_non, ixP_str, ixP_lst, ixP_tup, ixP_scr, slcP_str, slcP_tup, slcP_lst, wiSeq_eq, walkP_tup, walkP_str, walkP_lst, walkP_scr] at q ⊢
                intro D2 hD2
                refine lc_pureF (fun x => if (match x with | .int 3 => isAmt d | .int 4 => isAmt e | .int 5 => isAmt f | _ => true) = true then none else some x) (show 3 ≤ sizeLine by decide) hD2 (fun x hx2 S' R1 R0 _ k1 k0 => ?_) (fun _ _ => trivial) ?_
                · simp only [List.mem_cons, List.not_mem_nil, or_false] at hx2
                  rcases hx2 with rfl | rfl | rfl
                  · simp only [startP, List.map_cons, List.map_nil, List.length_cons, List.length_nil, Nat.reduceAdd, Nat.reduceSub, List.reduceReplicate, List.cons_append, List.nil_append, List.append_nil, wSeq, wAsg, wgN, wgNil, wgCons, wgTup, wDrop, wRet, wRetN, wNext, wBrk, wCont, wIfS, wV, nth, stV, wC, wOp, wUn, wBool, wChain, wTru, truP, wAnd, wOr, wNot, wIfE, wAndV, wOrV, wNotV, wNil, wCons, wTup, wLst, wLstM, wCB, wPar, wPar3, wAug, wFor, wiRng1, wiRng2, seqL, seqO, rows, subP, fdivP, modP, powP, mulP, CDiv, CPow, CMul, neP, ltP, leP, gtP, geP, isNon, isP, isNotP, lenO, lenP, absP, min2P, max2P, listP, tupleP, allP, sumP, intCP, isinP, tysOf, seqK, keyOf, dgetP, wNoPart, wPart, slcMP, wSl, wRevL, tyM, wBm, appendP, popAtP, joinP, wDnewM, wPairs, wCall, wCallK, wFrz, wDput, dputP, eqNilP, List.isEmpty_nil, List.isEmpty_cons, Bool.not_true, Bool.not_false, Bool.true_eq_false, Bool.false_eq_true, and_true, true_and, ↓reduceIte, Int.reduceToNat, Int.reducePow, Int.reduceNeg, Int.reduceAdd, Int.reduceSub, Int.reduceMul, Nat.reduceMul, Nat.reduceLT, Nat.reduceLeDiff, isB, String.reduceBEq, Bool.or_true, Bool.or_false, Bool.and_true, Bool.and_false, Bool.true_and, Bool.false_and, Bool.false_or, Bool.true_or, Int.cast_ofNat_Int, Int.reduceBEq, Int.reduceBNe, BEq.rfl, wYes, wCut, pow_ok9, pow_ok18, pow_ok30, line_eq, put_same, put_put, List.mem_cons, List.not_mem_nil, or_false, addP_int, addP_str, addP_tup, addP_lst, intP_int, intP0_int, ordP_int, eqP_int, eqP_str, eqP_bl, eqP_non, ixP_str, ixP_lst, ixP_tup, ixP_scr, slcP_str, slcP_tup, slcP_lst, wiSeq_eq, walkP_tup, walkP_str, walkP_lst, walkP_scr, wipeP, i3]
                    refine .mk hd ?_
                    rw [cnt_amt]
                    cases z : isAmt d
                    · exact k1 _ (if_neg (by simp [z]))
                    · exact k0 (if_pos z)
                  · simp only [startP, List.map_cons, List.map_nil, List.length_cons, List.length_nil, Nat.reduceAdd, Nat.reduceSub, List.reduceReplicate, List.cons_append, List.nil_append, List.append_nil, wSeq, wAsg, wgN, wgNil, wgCons, wgTup, wDrop, wRet, wRetN, wNext, wBrk, wCont, wIfS, wV, nth, stV, wC, wOp, wUn, wBool, wChain, wTru, truP, wAnd, wOr, wNot, wIfE, wAndV, wOrV, wNotV, wNil, wCons, wTup, wLst, wLstM, wCB, wPar, wPar3, wAug, wFor, wiRng1, wiRng2, seqL, seqO, rows, subP, fdivP, modP, powP, mulP, CDiv, CPow, CMul, neP, ltP, leP, gtP, geP, isNon, isP, isNotP, lenO, lenP, absP, min2P, max2P, listP, tupleP, allP, sumP, intCP, isinP, tysOf, seqK, keyOf, dgetP, wNoPart, wPart, slcMP, wSl, wRevL, tyM, wBm, appendP, popAtP, joinP, wDnewM, wPairs, wCall, wCallK, wFrz, wDput, dputP, eqNilP, List.isEmpty_nil, List.isEmpty_cons, Bool.not_true, Bool.not_false, Bool.true_eq_false, Bool.false_eq_true, and_true, true_and, ↓reduceIte, Int.reduceToNat, Int.reducePow, Int.reduceNeg, Int.reduceAdd, Int.reduceSub, Int.reduceMul, Nat.reduceMul, Nat.reduceLT, Nat.reduceLeDiff, isB, String.reduceBEq, Bool.or_true, Bool.or_false, Bool.and_true, Bool.and_false, Bool.true_and, Bool.false_and, Bool.false_or, Bool.true_or, Int.cast_ofNat_Int, Int.reduceBEq, Int.reduceBNe, BEq.rfl, wYes, wCut, pow_ok9, pow_ok18, pow_ok30, line_eq, put_same, put_put, List.mem_cons, List.not_mem_nil, or_false, addP_int, addP_str, addP_tup, addP_lst, intP_int, intP0_int, ordP_int, eqP_int, eqP_str, eqP_bl, eqP_non, ixP_str, ixP_lst, ixP_tup, ixP_scr, slcP_str, slcP_tup, slcP_lst, wiSeq_eq, walkP_tup, walkP_str, walkP_lst, walkP_scr, wipeP, i4]
                    refine .mk he ?_
                    rw [cnt_amt]
                    cases z : isAmt e
                    · exact k1 _ (if_neg (by simp [z]))
                    · exact k0 (if_pos z)
                  · simp only [startP, List.map_cons, List.map_nil, List.length_cons, List.length_nil, Nat.reduceAdd, Nat.reduceSub, List.reduceReplicate, List.cons_append, List.nil_append, List.append_nil, wSeq, wAsg, wgN, wgNil, wgCons, wgTup, wDrop, wRet, wRetN, wNext, wBrk, wCont, wIfS, wV, nth, stV, wC, wOp, wUn, wBool, wChain, wTru, truP, wAnd, wOr, wNot, wIfE, wAndV, wOrV, wNotV, wNil, wCons, wTup, wLst, wLstM, wCB, wPar, wPar3, wAug, wFor, wiRng1, wiRng2, seqL, seqO, rows, subP, fdivP, modP, powP, mulP, CDiv, CPow, CMul, neP, ltP, leP, gtP, geP, isNon, isP, isNotP, lenO, lenP, absP, min2P, max2P, listP, tupleP, allP, sumP, intCP, isinP, tysOf, seqK, keyOf, dgetP, wNoPart, wPart, slcMP, wSl, wRevL, tyM, wBm, appendP, popAtP, joinP, wDnewM, wPairs, wCall, wCallK, wFrz, wDput, dputP, eqNilP, List.isEmpty_nil, List.isEmpty_cons, Bool.not_true, Bool.not_false, Bool.true_eq_false, Bool.false_eq_true, and_true, true_and, ↓reduceIte, Int.reduceToNat, Int.reducePow, Int.reduceNeg, Int.reduceAdd, Int.reduceSub, Int.reduceMul, Nat.reduceMul, Nat.reduceLT, Nat.reduceLeDiff, isB, String.reduceBEq, Bool.or_true, Bool.or_false, Bool.and_true, Bool.and_false, Bool.true_and, Bool.false_and, Bool.false_or, Bool.true_or, Int.cast_ofNat_Int, Int.reduceBEq, Int.reduceBNe, BEq.rfl, wYes, wCut, pow_ok9, pow_ok18, pow_ok30, line_eq, put_same, put_put, List.mem_cons, List.not_mem_nil, or_false, addP_int, addP_str, addP_tup, addP_lst, intP_int, intP0_int, ordP_int, eqP_int, eqP_str, eqP_bl, eqP_non, ixP_str, ixP_lst, ixP_tup, ixP_scr, slcP_str, slcP_tup, slcP_lst, wiSeq_eq, walkP_tup, walkP_str, walkP_lst, walkP_scr, wipeP, i5]
                    refine .mk hf ?_
                    rw [cnt_amt]
                    cases z : isAmt f
                    · exact k1 _ (if_neg (by simp [z]))
                    · exact k0 (if_pos z)
                · simp only [none_bad, List.all_cons, List.all_nil, Bool.and_true]
                  rw [Bool.and_assoc] at q
                  exact q
              | _ => cases e5
            | _ => cases e4
        | _ => exact q
      · have e0 : ((xs.length : Int) == 8) = false := beq_eq_false_iff_ne.mpr (by omega)
        simp only [e0, startP, List.map_cons, List.map_nil, List.length_cons, List.length_nil, Nat.reduceAdd, Nat.reduceSub, List.reduceReplicate, List.cons_append, List.nil_append, List.append_nil, wSeq, wAsg, wgN, wgNil, wgCons, wgTup, wDrop, wRet, wRetN, wNext, wBrk, wCont, wIfS, wV, nth, stV, wC, wOp, wUn, wBool, wChain, wTru, truP, wAnd, wOr, wNot, wIfE, wAndV, wOrV, wNotV, wNil, wCons, wTup, wLst, wLstM, wCB, wPar, wPar3, wAug, wFor, wiRng1, wiRng2, seqL, seqO, rows, subP, fdivP, modP, powP, mulP, CDiv, CPow, CMul, neP, ltP, leP, gtP, geP, isNon, isP, isNotP, lenO, lenP, absP, min2P, max2P, listP, tupleP, allP, sumP, intCP, isinP, tysOf, seqK, keyOf, dgetP, wNoPart, wPart, slcMP, wSl, wRevL, tyM, wBm, appendP, popAtP, joinP, wDnewM, wPairs, wCall, wCallK, wFrz, wDput, dputP, eqNilP, List.isEmpty_nil, List.isEmpty_cons, Bool.not_true, Bool.not_false, Bool.true_eq_false, Bool.false_eq_true, and_true, true_and, ↓reduceIte, Int.reduceToNat, Int.reducePow, Int.reduceNeg, Int.reduceAdd, Int.reduceSub, Int.reduceMul, Nat.reduceMul, Nat.reduceLT, Nat.reduceLeDiff, isB, String.reduceBEq, Bool.or_true, Bool.or_false, Bool.and_true, Bool.and_false, Bool.true_and, Bool.false_and, Bool.false_or, Bool.true_or, Int.cast_ofNat_Int, Int.reduceBEq, Int.reduceBNe, BEq.rfl, wYes, wCut, pow_ok9, pow_ok18, pow_ok30, line_eq, put_same, put_put, List.mem_cons, List.not_mem_nil, or_false, addP_int, addP_str, addP_tup, addP_lst, intP_int, intP0_int, ordP_int, eqP_int, eqP_str, eqP_bl, eqP_non, ixP_str, ixP_lst, ixP_tup, ixP_scr, slcP_str, slcP_tup, slcP_lst, wiSeq_eq, walkP_tup, walkP_str, walkP_lst, walkP_scr]
        replace q : Q (.bl (isSal (.tup xs))) S0 := q
        rwa [not_eight hl] at q
  · exact h.elim

/-! ### sums, names, sales drawn -/
theorem ok_law_amount (T : Tx K mg base) : FnG P w K mg base 3 T.f__law_amount T.d__law_amount ["_law_state"] SpAmount := by
  refine okG T.F__law_amount sc_law_amount (fun xs S Q E h => by cases h; rfl) fun cdv A outer s H EX F0 xs S0 Q E hG hr hp tk h => ?_
  cases h with
  | @mk p n _ _ _ e hn q =>
  refine ⟨_, (wss_cons (ws_set 1 sc_law_amount.nd (we_lst (wa_cons (we_call (ok_law_take T) hG (hr.mono (by decide)) T.g__law_take T.F__law_take.kp T.b__law_take dflt0 tk0 (wa_cons (we_var 0) (wa_cons we_int wa_nil))) (wa_cons (we_call (ok_law_take T) hG (hr.mono (by decide)) T.g__law_take T.F__law_take.kp T.b__law_take dflt0 tk0 (wa_cons (we_var 0) (wa_cons we_int wa_nil))) (wa_cons (we_call (ok_law_take T) hG (hr.mono (by decide)) T.g__law_take T.F__law_take.kp T.b__law_take dflt0 tk0 (wa_cons (we_var 0) (wa_cons we_int wa_nil))) (wa_cons (we_op ow_sub (we_op ow_pow we_int we_int) (we_call (ok_law_take T) hG (hr.mono (by decide)) T.g__law_take T.F__law_take.kp T.b__law_take dflt0 tk0 (wa_cons (we_var 0) (wa_cons we_int wa_nil)))) wa_nil))))))
  (wss_one (ws_ret (we_call (ok_law_pick T) hG (hr.mono (by decide)) T.g__law_pick T.F__law_pick.kp T.b__law_pick dflt0 tk0 (wa_cons (we_var 0) (wa_cons (we_op ow_add (we_var 1) (we_lst (wa_cons (we_ix (we_var 1) we_int) (wa_cons (we_ix (we_var 1) we_int) (wa_cons (we_call (ok_law_take T) hG (hr.mono (by decide)) T.g__law_take T.F__law_take.kp T.b__law_take dflt0 tk0 (wa_cons (we_var 0) (wa_cons (we_op ow_add (we_op ow_pow we_int we_int) we_int) wa_nil))) wa_nil))))) wa_nil)))))), ?_⟩
  simp only [startP, List.map_cons, List.map_nil, List.length_cons, List.length_nil, Nat.reduceAdd, Nat.reduceSub, List.reduceReplicate, List.cons_append, List.nil_append, List.append_nil, wSeq, wAsg, wgN, wgNil, wgCons, wgTup, wDrop, wRet, wRetN, wNext, wBrk, wCont, wIfS, wV, nth, stV, wC, wOp, wUn, wBool, wChain, wTru, truP, wAnd, wOr, wNot, wIfE, wAndV, wOrV, wNotV, wNil, wCons, wTup, wLst, wLstM, wCB, wPar, wPar3, wAug, wFor, wiRng1, wiRng2, seqL, seqO, rows, subP, fdivP, modP, powP, mulP, CDiv, CPow, CMul, neP, ltP, leP, gtP, geP, isNon, isP, isNotP, lenO, lenP, absP, min2P, max2P, listP, tupleP, allP, sumP, intCP, isinP, tysOf, seqK, keyOf, dgetP, wNoPart, wPart, slcMP, wSl, wRevL, tyM, wBm, appendP, popAtP, joinP, wDnewM, wPairs, wCall, wCallK, wFrz, wDput, dputP, eqNilP, List.isEmpty_nil, List.isEmpty_cons, Bool.not_true, Bool.not_false, Bool.true_eq_false, Bool.false_eq_true, and_true, true_and, ↓reduceIte, Int.reduceToNat, Int.reducePow, Int.reduceNeg, Int.reduceAdd, Int.reduceSub, Int.reduceMul, Nat.reduceMul, Nat.reduceLT, Nat.reduceLeDiff, isB, String.reduceBEq, Bool.or_true, Bool.or_false, Bool.and_true, Bool.and_false, Bool.true_and, Bool.false_and, Bool.false_or, Bool.true_or, Int.cast_ofNat_Int, Int.reduceBEq, Int.reduceBNe, BEq.rfl, wYes, wCut, pow_ok9, pow_ok18, pow_ok30, line_eq, put_same, put_put, List.mem_cons, List.not_mem_nil, or_false, addP_int, addP_str, addP_tup, addP_lst, intP_int, intP0_int, ordP_int, eqP_int, eqP_str, eqP_bl, eqP_non, ixP_str, ixP_lst, ixP_tup, ixP_scr, slcP_str, slcP_tup, slcP_lst, wiSeq_eq, walkP_tup, walkP_str, walkP_lst, walkP_scr, N_law_amount]
  refine .mk e (by decide) (by decide) (by omega) fun r1 a1 b1 => ?_
  refine .mk put_same (by decide) (by decide) (by omega) fun r2 a2 b2 => ?_
  refine .mk put_same (by decide) (by decide) (by omega) fun r3 a3 b3 => ?_
  simp only [startP, List.map_cons, List.map_nil, List.length_cons, List.length_nil, Nat.reduceAdd, Nat.reduceSub, List.reduceReplicate, List.cons_append, List.nil_append, List.append_nil, wSeq, wAsg, wgN, wgNil, wgCons, wgTup, wDrop, wRet, wRetN, wNext, wBrk, wCont, wIfS, wV, nth, stV, wC, wOp, wUn, wBool, wChain, wTru, truP, wAnd, wOr, wNot, wIfE, wAndV, wOrV, wNotV, wNil, wCons, wTup, wLst, wLstM, wCB, wPar, wPar3, wAug, wFor, wiRng1, wiRng2, seqL, seqO, rows, subP, fdivP, modP, powP, mulP, CDiv, CPow, CMul, neP, ltP, leP, gtP, geP, isNon, isP, isNotP, lenO, lenP, absP, min2P, max2P, listP, tupleP, allP, sumP, intCP, isinP, tysOf, seqK, keyOf, dgetP, wNoPart, wPart, slcMP, wSl, wRevL, tyM, wBm, appendP, popAtP, joinP, wDnewM, wPairs, wCall, wCallK, wFrz, wDput, dputP, eqNilP, List.isEmpty_nil, List.isEmpty_cons, Bool.not_true, Bool.not_false, Bool.true_eq_false, Bool.false_eq_true, and_true, true_and, ↓reduceIte, Int.reduceToNat, Int.reducePow, Int.reduceNeg, Int.reduceAdd, Int.reduceSub, Int.reduceMul, Nat.reduceMul, Nat.reduceLT, Nat.reduceLeDiff, isB, String.reduceBEq, Bool.or_true, Bool.or_false, Bool.and_true, Bool.and_false, Bool.true_and, Bool.false_and, Bool.false_or, Bool.true_or, Int.cast_ofNat_Int, Int.reduceBEq, Int.reduceBNe, BEq.rfl, wYes, wCut, pow_ok9, pow_ok18, pow_ok30, line_eq, put_same, put_put, List.mem_cons, List.not_mem_nil, or_false, addP_int, addP_str, addP_tup, addP_lst, intP_int, intP0_int, ordP_int, eqP_int, eqP_str, eqP_bl, eqP_non, ixP_str, ixP_lst, ixP_tup, ixP_scr, slcP_str, slcP_tup, slcP_lst, wiSeq_eq, walkP_tup, walkP_str, walkP_lst, walkP_scr, put_put]
  refine .mk put_same (by decide) (by decide) (by omega) fun r4 a4 b4 => ?_
  have j1 : atI [PV.int r1, PV.int r2, PV.int r3, PV.int (1000000000 - r4)] 1 = some (.int r2) := rfl
  have j2 : atI [PV.int r1, PV.int r2, PV.int r3, PV.int (1000000000 - r4)] 2 = some (.int r3) := rfl
  simp only [startP, List.map_cons, List.map_nil, List.length_cons, List.length_nil, Nat.reduceAdd, Nat.reduceSub, List.reduceReplicate, List.cons_append, List.nil_append, List.append_nil, wSeq, wAsg, wgN, wgNil, wgCons, wgTup, wDrop, wRet, wRetN, wNext, wBrk, wCont, wIfS, wV, nth, stV, wC, wOp, wUn, wBool, wChain, wTru, truP, wAnd, wOr, wNot, wIfE, wAndV, wOrV, wNotV, wNil, wCons, wTup, wLst, wLstM, wCB, wPar, wPar3, wAug, wFor, wiRng1, wiRng2, seqL, seqO, rows, subP, fdivP, modP, powP, mulP, CDiv, CPow, CMul, neP, ltP, leP, gtP, geP, isNon, isP, isNotP, lenO, lenP, absP, min2P, max2P, listP, tupleP, allP, sumP, intCP, isinP, tysOf, seqK, keyOf, dgetP, wNoPart, wPart, slcMP, wSl, wRevL, tyM, wBm, appendP, popAtP, joinP, wDnewM, wPairs, wCall, wCallK, wFrz, wDput, dputP, eqNilP, List.isEmpty_nil, List.isEmpty_cons, Bool.not_true, Bool.not_false, Bool.true_eq_false, Bool.false_eq_true, and_true, true_and, ↓reduceIte, Int.reduceToNat, Int.reducePow, Int.reduceNeg, Int.reduceAdd, Int.reduceSub, Int.reduceMul, Nat.reduceMul, Nat.reduceLT, Nat.reduceLeDiff, isB, String.reduceBEq, Bool.or_true, Bool.or_false, Bool.and_true, Bool.and_false, Bool.true_and, Bool.false_and, Bool.false_or, Bool.true_or, Int.cast_ofNat_Int, Int.reduceBEq, Int.reduceBNe, BEq.rfl, wYes, wCut, pow_ok9, pow_ok18, pow_ok30, line_eq, put_same, put_put, List.mem_cons, List.not_mem_nil, or_false, addP_int, addP_str, addP_tup, addP_lst, intP_int, intP0_int, ordP_int, eqP_int, eqP_str, eqP_bl, eqP_non, ixP_str, ixP_lst, ixP_tup, ixP_scr, slcP_str, slcP_tup, slcP_lst, wiSeq_eq, walkP_tup, walkP_str, walkP_lst, walkP_scr, put_put, j1, j2]
  refine .mk (n := n + 4) put_same (by decide) (by decide) (by omega) fun r5 a5 b5 => ?_
  simp only [startP, List.map_cons, List.map_nil, List.length_cons, List.length_nil, Nat.reduceAdd, Nat.reduceSub, List.reduceReplicate, List.cons_append, List.nil_append, List.append_nil, wSeq, wAsg, wgN, wgNil, wgCons, wgTup, wDrop, wRet, wRetN, wNext, wBrk, wCont, wIfS, wV, nth, stV, wC, wOp, wUn, wBool, wChain, wTru, truP, wAnd, wOr, wNot, wIfE, wAndV, wOrV, wNotV, wNil, wCons, wTup, wLst, wLstM, wCB, wPar, wPar3, wAug, wFor, wiRng1, wiRng2, seqL, seqO, rows, subP, fdivP, modP, powP, mulP, CDiv, CPow, CMul, neP, ltP, leP, gtP, geP, isNon, isP, isNotP, lenO, lenP, absP, min2P, max2P, listP, tupleP, allP, sumP, intCP, isinP, tysOf, seqK, keyOf, dgetP, wNoPart, wPart, slcMP, wSl, wRevL, tyM, wBm, appendP, popAtP, joinP, wDnewM, wPairs, wCall, wCallK, wFrz, wDput, dputP, eqNilP, List.isEmpty_nil, List.isEmpty_cons, Bool.not_true, Bool.not_false, Bool.true_eq_false, Bool.false_eq_true, and_true, true_and, ↓reduceIte, Int.reduceToNat, Int.reducePow, Int.reduceNeg, Int.reduceAdd, Int.reduceSub, Int.reduceMul, Nat.reduceMul, Nat.reduceLT, Nat.reduceLeDiff, isB, String.reduceBEq, Bool.or_true, Bool.or_false, Bool.and_true, Bool.and_false, Bool.true_and, Bool.false_and, Bool.false_or, Bool.true_or, Int.cast_ofNat_Int, Int.reduceBEq, Int.reduceBNe, BEq.rfl, wYes, wCut, pow_ok9, pow_ok18, pow_ok30, line_eq, put_same, put_put, List.mem_cons, List.not_mem_nil, or_false, addP_int, addP_str, addP_tup, addP_lst, intP_int, intP0_int, ordP_int, eqP_int, eqP_str, eqP_bl, eqP_non, ixP_str, ixP_lst, ixP_tup, ixP_scr, slcP_str, slcP_tup, slcP_lst, wiSeq_eq, walkP_tup, walkP_str, walkP_lst, walkP_scr, put_put]
  refine .mk (n := n + 4 + 1) put_same rfl (by simp) (by simp) (by omega) fun y hy => ?_
  simp only [put_put]
  simp only [List.mem_cons, List.not_mem_nil, or_false] at hy
  rcases hy with rfl | rfl | rfl | rfl | rfl | rfl | rfl <;> exact q _ (by omega) (by omega)
theorem ok_law_names (T : Tx K mg base) : FnG P w K mg base 3 T.f__law_names T.d__law_names ["_law_state", "_law_many"] SpNames := by
  refine okG T.F__law_names sc_law_names (fun xs S Q E h => by cases h; rfl) fun cdv A outer s H EX F0 xs S0 Q E hG hr hp tk h => ?_
  cases h with
  | @mk p k n _ _ _ e h0 hk hn q =>
  refine ⟨_, (wss_cons (ws_asg (we_tup (wa_cons we_str (wa_cons (we_lstM wa_nil) wa_nil))) (wg_tup (n := 2) rfl (wgs_cons (wg_name 2 sc_law_names.nd) (wgs_cons (wg_name 3 sc_law_names.nd) wgs_nil))))
  (wss_cons (ws_set 4 sc_law_names.nd (we_lst (wa_cons we_str (wa_cons we_str (wa_cons we_str (wa_cons we_str (wa_cons we_str (wa_cons we_str (wa_cons we_str (wa_cons we_str (wa_cons we_str (wa_cons we_str (wa_cons we_str (wa_cons we_str wa_nil))))))))))))))
  (wss_cons (ws_for hp rfl (wi_rng1 T.m_range (wa_cons (we_var 1) wa_nil)) (wg_name 5 sc_law_names.nd)
  (wss_cons (ws_set 6 sc_law_names.nd (we_call (ok_law_pick T) hG (hr.mono (by decide)) T.g__law_pick T.F__law_pick.kp T.b__law_pick dflt0 tk0 (wa_cons (we_var 0) (wa_cons (we_var 4) wa_nil))))
  (wss_cut (ws_if (wt_cmp ow_gt (we_call (ok_law_take T) hG (hr.mono (by decide)) T.g__law_take T.F__law_take.kp T.b__law_take dflt0 tk0 (wa_cons (we_var 0) (wa_cons we_int wa_nil))) we_int)
  (wss_one (ws_set 6 sc_law_names.nd (we_bm PySem.F.plainAttrs_str PySem.F.slot_str_join PySem.F.type_str_join (by decide) mw_join we_str (wa_cons (we_lc (mk := false) rfl sc_law_names.nd (wi_rng1 T.m_range (wa_cons (we_op ow_add we_int (we_call (ok_law_take T) hG (hr.mono (by decide)) T.g__law_take T.F__law_take.kp T.b__law_take dflt0 tk0 (wa_cons (we_var 0) (wa_cons we_int wa_nil)))) wa_nil)) (own := [("_law_place", 7)]) (blkOk_by (N := N_law_names) (sc := defScope s_law_names) (by decide +kernel)) (fun _ _ _ _ _ => (wg_name 7 sc_law_names.nd)) (by decide) (fun _ _ _ _ _ => wts_nil) (fun _ _ _ _ _ => (we_call (ok_law_pick T) hG (hr.mono (by decide)) T.g__law_pick T.F__law_pick.kp T.b__law_pick dflt0 tk0 (wa_cons (we_var 0) (wa_cons (we_var 2) wa_nil))))) wa_nil))))
  wss_nil)
  (wss_cut (ws_if (wt_cmp (ow_in (hu_of hr)) (we_var 6) (we_var 3))
  (wss_one (ws_set 6 sc_law_names.nd (we_ix (we_lc (mk := false) rfl sc_law_names.nd (wi_seq (we_var 2)) (own := [("_law_letter", 8)]) (blkOk_by (N := N_law_names) (sc := defScope s_law_names) (by decide +kernel)) (fun _ _ _ _ _ => (wg_name 8 sc_law_names.nd)) (by decide) (fun _ _ _ _ _ => (wts_one (wt_cmp (ow_notIn (hu_of hr)) (we_op ow_add (we_sl sw_slc (we_var 6) wo_none (wo_some we_int)) (we_var 8)) (we_var 3)))) (fun _ _ _ _ _ => (we_op ow_add (we_sl sw_slc (we_var 6) wo_none (wo_some we_int)) (we_var 8)))) we_int)))
  wss_nil)
  (wss_one (ws_expr (we_bm PySem.F.plainAttrs_list PySem.F.slot_list_append PySem.F.type_list_append (by decide) mw_append (we_var 3) (wa_cons (we_var 6) wa_nil))))))))
  (wss_one (ws_ret (we_frz (we_var 3))))))), ?_⟩
  simp only [startP, List.map_cons, List.map_nil, List.length_cons, List.length_nil, Nat.reduceAdd, Nat.reduceSub, List.reduceReplicate, List.cons_append, List.nil_append, List.append_nil, wSeq, wAsg, wgN, wgNil, wgCons, wgTup, wDrop, wRet, wRetN, wNext, wBrk, wCont, wIfS, wV, nth, stV, wC, wOp, wUn, wBool, wChain, wTru, truP, wAnd, wOr, wNot, wIfE, wAndV, wOrV, wNotV, wNil, wCons, wTup, wLst, wLstM, wCB, wPar, wPar3, wAug, wFor, wiRng1, wiRng2, seqL, seqO, rows, subP, fdivP, modP, powP, mulP, CDiv, CPow, CMul, neP, ltP, leP, gtP, geP, isNon, isP, isNotP, lenO, lenP, absP, min2P, max2P, listP, tupleP, allP, sumP, intCP, isinP, tysOf, seqK, keyOf, dgetP, wNoPart, wPart, slcMP, wSl, wRevL, tyM, wBm, appendP, popAtP, joinP, wDnewM, wPairs, wCall, wCallK, wFrz, wDput, dputP, eqNilP, List.isEmpty_nil, List.isEmpty_cons, Bool.not_true, Bool.not_false, Bool.true_eq_false, Bool.false_eq_true, and_true, true_and, ↓reduceIte, Int.reduceToNat, Int.reducePow, Int.reduceNeg, Int.reduceAdd, Int.reduceSub, Int.reduceMul, Nat.reduceMul, Nat.reduceLT, Nat.reduceLeDiff, isB, String.reduceBEq, Bool.or_true, Bool.or_false, Bool.and_true, Bool.and_false, Bool.true_and, Bool.false_and, Bool.false_or, Bool.true_or, Int.cast_ofNat_Int, Int.reduceBEq, Int.reduceBNe, BEq.rfl, wYes, wCut, pow_ok9, pow_ok18, pow_ok30, line_eq, put_same, put_put, List.mem_cons, List.not_mem_nil, or_false, addP_int, addP_str, addP_tup, addP_lst, intP_int, intP0_int, ordP_int, eqP_int, eqP_str, eqP_bl, eqP_non, ixP_str, ixP_lst, ixP_tup, ixP_scr, slcP_str, slcP_tup, slcP_lst, wiSeq_eq, walkP_tup, walkP_str, walkP_lst, walkP_scr, N_law_names]
  intro a ha
  have nb : a ≠ p := fun z => by rw [z, e] at ha; cases ha
  refine ⟨by omega, by omega, ?_⟩
  refine for_inv (fun done ρ S => ∃ (ws : List Str) (m : Nat) (t v : Option PV), ws.length = done.length ∧ ws.Nodup ∧ (∀ w ∈ ws, NameOk w) ∧ m ≤ n + 12 * done.length ∧ ρ = [some (.ref p), some (.int k), some (.str lets), some (.ref a), some (.lst wordsL), t, v, none, none] ∧ S = put (put S0 p (drw p m)) a (.raw (.lst (ws.map .str))))
    ⟨[], n, none, none, rfl, .nil, (fun _ z => nomatch z), Nat.le_refl n, rfl, ?_⟩ ?_ ?_
  · funext b
    by_cases z : b = p
    · rw [z, put_ne nb.symm, put_ne nb.symm, put_same, e]
    · by_cases z2 : b = a
      · rw [z2, put_same, put_same]; rfl
      · rw [put_ne z2, put_ne z2, put_ne z]
  · rintro ρ S ⟨ws, m, t, v, e1, e2, e3, e4, rfl, rfl⟩
    simp only [startP, List.map_cons, List.map_nil, List.length_cons, List.length_nil, Nat.reduceAdd, Nat.reduceSub, List.reduceReplicate, List.cons_append, List.nil_append, List.append_nil, wSeq, wAsg, wgN, wgNil, wgCons, wgTup, wDrop, wRet, wRetN, wNext, wBrk, wCont, wIfS, wV, nth, stV, wC, wOp, wUn, wBool, wChain, wTru, truP, wAnd, wOr, wNot, wIfE, wAndV, wOrV, wNotV, wNil, wCons, wTup, wLst, wLstM, wCB, wPar, wPar3, wAug, wFor, wiRng1, wiRng2, seqL, seqO, rows, subP, fdivP, modP, powP, mulP, CDiv, CPow, CMul, neP, ltP, leP, gtP, geP, isNon, isP, isNotP, lenO, lenP, absP, min2P, max2P, listP, tupleP, allP, sumP, intCP, isinP, tysOf, seqK, keyOf, dgetP, wNoPart, wPart, slcMP, wSl, wRevL, tyM, wBm, appendP, popAtP, joinP, wDnewM, wPairs, wCall, wCallK, wFrz, wDput, dputP, eqNilP, List.isEmpty_nil, List.isEmpty_cons, Bool.not_true, Bool.not_false, Bool.true_eq_false, Bool.false_eq_true, and_true, true_and, ↓reduceIte, Int.reduceToNat, Int.reducePow, Int.reduceNeg, Int.reduceAdd, Int.reduceSub, Int.reduceMul, Nat.reduceMul, Nat.reduceLT, Nat.reduceLeDiff, isB, String.reduceBEq, Bool.or_true, Bool.or_false, Bool.and_true, Bool.and_false, Bool.true_and, Bool.false_and, Bool.false_or, Bool.true_or, Int.cast_ofNat_Int, Int.reduceBEq, Int.reduceBNe, BEq.rfl, wYes, wCut, pow_ok9, pow_ok18, pow_ok30, line_eq, put_same, put_put, List.mem_cons, List.not_mem_nil, or_false, addP_int, addP_str, addP_tup, addP_lst, intP_int, intP0_int, ordP_int, eqP_int, eqP_str, eqP_bl, eqP_non, ixP_str, ixP_lst, ixP_tup, ixP_scr, slcP_str, slcP_tup, slcP_lst, wiSeq_eq, walkP_tup, walkP_str, walkP_lst, walkP_scr]
    rw [rng_len] at e1 e4
    refine ⟨a, ws.map .str, rfl, put_same, ?_⟩
    rw [rmv_put (by rw [put_ne nb]; exact ha)]
    exact q ws m e1 e2 e3 e4
  · rintro done x rest ρ S ed ⟨ws, m, t, v, e1, e2, e3, e4, rfl, rfl⟩
    have hdl : done.length < 20 := by
      have := congrArg List.length ed
      rw [rng_len, List.length_append, List.length_cons] at this
      omega
    refine ⟨trivial, ?_⟩
    simp only [startP, List.map_cons, List.map_nil, List.length_cons, List.length_nil, Nat.reduceAdd, Nat.reduceSub, List.reduceReplicate, List.cons_append, List.nil_append, List.append_nil, wSeq, wAsg, wgN, wgNil, wgCons, wgTup, wDrop, wRet, wRetN, wNext, wBrk, wCont, wIfS, wV, nth, stV, wC, wOp, wUn, wBool, wChain, wTru, truP, wAnd, wOr, wNot, wIfE, wAndV, wOrV, wNotV, wNil, wCons, wTup, wLst, wLstM, wCB, wPar, wPar3, wAug, wFor, wiRng1, wiRng2, seqL, seqO, rows, subP, fdivP, modP, powP, mulP, CDiv, CPow, CMul, neP, ltP, leP, gtP, geP, isNon, isP, isNotP, lenO, lenP, absP, min2P, max2P, listP, tupleP, allP, sumP, intCP, isinP, tysOf, seqK, keyOf, dgetP, wNoPart, wPart, slcMP, wSl, wRevL, tyM, wBm, appendP, popAtP, joinP, wDnewM, wPairs, wCall, wCallK, wFrz, wDput, dputP, eqNilP, List.isEmpty_nil, List.isEmpty_cons, Bool.not_true, Bool.not_false, Bool.true_eq_false, Bool.false_eq_true, and_true, true_and, ↓reduceIte, Int.reduceToNat, Int.reducePow, Int.reduceNeg, Int.reduceAdd, Int.reduceSub, Int.reduceMul, Nat.reduceMul, Nat.reduceLT, Nat.reduceLeDiff, isB, String.reduceBEq, Bool.or_true, Bool.or_false, Bool.and_true, Bool.and_false, Bool.true_and, Bool.false_and, Bool.false_or, Bool.true_or, Int.cast_ofNat_Int, Int.reduceBEq, Int.reduceBNe, BEq.rfl, wYes, wCut, pow_ok9, pow_ok18, pow_ok30, line_eq, put_same, put_put, List.mem_cons, List.not_mem_nil, or_false, addP_int, addP_str, addP_tup, addP_lst, intP_int, intP0_int, ordP_int, eqP_int, eqP_str, eqP_bl, eqP_non, ixP_str, ixP_lst, ixP_tup, ixP_scr, slcP_str, slcP_tup, slcP_lst, wiSeq_eq, walkP_tup, walkP_str, walkP_lst, walkP_scr]
    refine .mk (n := m) (xs := wordsL) (by rw [put_ne nb.symm, put_same]) rfl (by decide) (by decide) (by omega) fun y hy => ?_
    obtain ⟨w, rfl, hw⟩ := words_ok y hy
    simp only [put_ab nb]
    refine ⟨fun ρ S => ∃ (w : Str) (m' : Nat), NameOk w ∧ m' ≤ m + 12 ∧ ρ = [some (.ref p), some (.int k), some (.str lets), some (.ref a), some (.lst wordsL), some x, some (.str w), none, none] ∧ S = put (put S0 p (drw p m')) a (.raw (.lst (ws.map .str))), ?_, ?_⟩
    · refine .mk (n := m + 1) (by rw [put_ne nb.symm, put_same]) (by decide) (by decide) (by omega) fun r a1 b1 => ?_
      simp only [put_ab nb, startP, List.map_cons, List.map_nil, List.length_cons, List.length_nil, Nat.reduceAdd, Nat.reduceSub, List.reduceReplicate, List.cons_append, List.nil_append, List.append_nil, wSeq, wAsg, wgN, wgNil, wgCons, wgTup, wDrop, wRet, wRetN, wNext, wBrk, wCont, wIfS, wV, nth, stV, wC, wOp, wUn, wBool, wChain, wTru, truP, wAnd, wOr, wNot, wIfE, wAndV, wOrV, wNotV, wNil, wCons, wTup, wLst, wLstM, wCB, wPar, wPar3, wAug, wFor, wiRng1, wiRng2, seqL, seqO, rows, subP, fdivP, modP, powP, mulP, CDiv, CPow, CMul, neP, ltP, leP, gtP, geP, isNon, isP, isNotP, lenO, lenP, absP, min2P, max2P, listP, tupleP, allP, sumP, intCP, isinP, tysOf, seqK, keyOf, dgetP, wNoPart, wPart, slcMP, wSl, wRevL, tyM, wBm, appendP, popAtP, joinP, wDnewM, wPairs, wCall, wCallK, wFrz, wDput, dputP, eqNilP, List.isEmpty_nil, List.isEmpty_cons, Bool.not_true, Bool.not_false, Bool.true_eq_false, Bool.false_eq_true, and_true, true_and, ↓reduceIte, Int.reduceToNat, Int.reducePow, Int.reduceNeg, Int.reduceAdd, Int.reduceSub, Int.reduceMul, Nat.reduceMul, Nat.reduceLT, Nat.reduceLeDiff, isB, String.reduceBEq, Bool.or_true, Bool.or_false, Bool.and_true, Bool.and_false, Bool.true_and, Bool.false_and, Bool.false_or, Bool.true_or, Int.cast_ofNat_Int, Int.reduceBEq, Int.reduceBNe, BEq.rfl, wYes, wCut, pow_ok9, pow_ok18, pow_ok30, line_eq, put_same, put_put, List.mem_cons, List.not_mem_nil, or_false, addP_int, addP_str, addP_tup, addP_lst, intP_int, intP0_int, ordP_int, eqP_int, eqP_str, eqP_bl, eqP_non, ixP_str, ixP_lst, ixP_tup, ixP_scr, slcP_str, slcP_tup, slcP_lst, wiSeq_eq, walkP_tup, walkP_str, walkP_lst, walkP_scr]
      split
      · simp only [startP, List.map_cons, List.map_nil, List.length_cons, List.length_nil, Nat.reduceAdd, Nat.reduceSub, List.reduceReplicate, List.cons_append, List.nil_append, List.append_nil, wSeq, wAsg, wgN, wgNil, wgCons, wgTup, wDrop, wRet, wRetN, wNext, wBrk, wCont, wIfS, wV, nth, stV, wC, wOp, wUn, wBool, wChain, wTru, truP, wAnd, wOr, wNot, wIfE, wAndV, wOrV, wNotV, wNil, wCons, wTup, wLst, wLstM, wCB, wPar, wPar3, wAug, wFor, wiRng1, wiRng2, seqL, seqO, rows, subP, fdivP, modP, powP, mulP, CDiv, CPow, CMul, neP, ltP, leP, gtP, geP, isNon, isP, isNotP, lenO, lenP, absP, min2P, max2P, listP, tupleP, allP, sumP, intCP, isinP, tysOf, seqK, keyOf, dgetP, wNoPart, wPart, slcMP, wSl, wRevL, tyM, wBm, appendP, popAtP, joinP, wDnewM, wPairs, wCall, wCallK, wFrz, wDput, dputP, eqNilP, List.isEmpty_nil, List.isEmpty_cons, Bool.not_true, Bool.not_false, Bool.true_eq_false, Bool.false_eq_true, and_true, true_and, ↓reduceIte, Int.reduceToNat, Int.reducePow, Int.reduceNeg, Int.reduceAdd, Int.reduceSub, Int.reduceMul, Nat.reduceMul, Nat.reduceLT, Nat.reduceLeDiff, isB, String.reduceBEq, Bool.or_true, Bool.or_false, Bool.and_true, Bool.and_false, Bool.true_and, Bool.false_and, Bool.false_or, Bool.true_or, Int.cast_ofNat_Int, Int.reduceBEq, Int.reduceBNe, BEq.rfl, wYes, wCut, pow_ok9, pow_ok18, pow_ok30, line_eq, put_same, put_put, List.mem_cons, List.not_mem_nil, or_false, addP_int, addP_str, addP_tup, addP_lst, intP_int, intP0_int, ordP_int, eqP_int, eqP_str, eqP_bl, eqP_non, ixP_str, ixP_lst, ixP_tup, ixP_scr, slcP_str, slcP_tup, slcP_lst, wiSeq_eq, walkP_tup, walkP_str, walkP_lst, walkP_scr, wLc]
        refine .mk (n := m + 2) (by rw [put_ne nb.symm, put_same]) (by decide) (by decide) (by omega) fun r2 a2 b2 => ?_
        simp only [put_ab nb, startP, List.map_cons, List.map_nil, List.length_cons, List.length_nil, Nat.reduceAdd, Nat.reduceSub, List.reduceReplicate, List.cons_append, List.nil_append, List.append_nil, wSeq, wAsg, wgN, wgNil, wgCons, wgTup, wDrop, wRet, wRetN, wNext, wBrk, wCont, wIfS, wV, nth, stV, wC, wOp, wUn, wBool, wChain, wTru, truP, wAnd, wOr, wNot, wIfE, wAndV, wOrV, wNotV, wNil, wCons, wTup, wLst, wLstM, wCB, wPar, wPar3, wAug, wFor, wiRng1, wiRng2, seqL, seqO, rows, subP, fdivP, modP, powP, mulP, CDiv, CPow, CMul, neP, ltP, leP, gtP, geP, isNon, isP, isNotP, lenO, lenP, absP, min2P, max2P, listP, tupleP, allP, sumP, intCP, isinP, tysOf, seqK, keyOf, dgetP, wNoPart, wPart, slcMP, wSl, wRevL, tyM, wBm, appendP, popAtP, joinP, wDnewM, wPairs, wCall, wCallK, wFrz, wDput, dputP, eqNilP, List.isEmpty_nil, List.isEmpty_cons, Bool.not_true, Bool.not_false, Bool.true_eq_false, Bool.false_eq_true, and_true, true_and, ↓reduceIte, Int.reduceToNat, Int.reducePow, Int.reduceNeg, Int.reduceAdd, Int.reduceSub, Int.reduceMul, Nat.reduceMul, Nat.reduceLT, Nat.reduceLeDiff, isB, String.reduceBEq, Bool.or_true, Bool.or_false, Bool.and_true, Bool.and_false, Bool.true_and, Bool.false_and, Bool.false_or, Bool.true_or, Int.cast_ofNat_Int, Int.reduceBEq, Int.reduceBNe, BEq.rfl, wYes, wCut, pow_ok9, pow_ok18, pow_ok30, line_eq, put_same, put_put, List.mem_cons, List.not_mem_nil, or_false, addP_int, addP_str, addP_tup, addP_lst, intP_int, intP0_int, ordP_int, eqP_int, eqP_str, eqP_bl, eqP_non, ixP_str, ixP_lst, ixP_tup, ixP_scr, slcP_str, slcP_tup, slcP_lst, wiSeq_eq, walkP_tup, walkP_str, walkP_lst, walkP_scr]
        refine ⟨by omega, by omega, fun D hD => ?_⟩
        refine lc_letters (p := p) (m := m + 3) (z := lets) hD (by rw [put_ne nb.symm, put_same]) (by rw [rng_len]; omega) (by rw [rng_len]; omega) (fun x S' Q' m' e' h' k' => ?_) (fun bs hb hb2 => ?_)
        · simp only [startP, List.map_cons, List.map_nil, List.length_cons, List.length_nil, Nat.reduceAdd, Nat.reduceSub, List.reduceReplicate, List.cons_append, List.nil_append, List.append_nil, wSeq, wAsg, wgN, wgNil, wgCons, wgTup, wDrop, wRet, wRetN, wNext, wBrk, wCont, wIfS, wV, nth, stV, wC, wOp, wUn, wBool, wChain, wTru, truP, wAnd, wOr, wNot, wIfE, wAndV, wOrV, wNotV, wNil, wCons, wTup, wLst, wLstM, wCB, wPar, wPar3, wAug, wFor, wiRng1, wiRng2, seqL, seqO, rows, subP, fdivP, modP, powP, mulP, CDiv, CPow, CMul, neP, ltP, leP, gtP, geP, isNon, isP, isNotP, lenO, lenP, absP, min2P, max2P, listP, tupleP, allP, sumP, intCP, isinP, tysOf, seqK, keyOf, dgetP, wNoPart, wPart, slcMP, wSl, wRevL, tyM, wBm, appendP, popAtP, joinP, wDnewM, wPairs, wCall, wCallK, wFrz, wDput, dputP, eqNilP, List.isEmpty_nil, List.isEmpty_cons, Bool.not_true, Bool.not_false, Bool.true_eq_false, Bool.false_eq_true, and_true, true_and, ↓reduceIte, Int.reduceToNat, Int.reducePow, Int.reduceNeg, Int.reduceAdd, Int.reduceSub, Int.reduceMul, Nat.reduceMul, Nat.reduceLT, Nat.reduceLeDiff, isB, String.reduceBEq, Bool.or_true, Bool.or_false, Bool.and_true, Bool.and_false, Bool.true_and, Bool.false_and, Bool.false_or, Bool.true_or, Int.cast_ofNat_Int, Int.reduceBEq, Int.reduceBNe, BEq.rfl, wYes, wCut, pow_ok9, pow_ok18, pow_ok30, line_eq, put_same, put_put, List.mem_cons, List.not_mem_nil, or_false, addP_int, addP_str, addP_tup, addP_lst, intP_int, intP0_int, ordP_int, eqP_int, eqP_str, eqP_bl, eqP_non, ixP_str, ixP_lst, ixP_tup, ixP_scr, slcP_str, slcP_tup, slcP_lst, wiSeq_eq, walkP_tup, walkP_str, walkP_lst, walkP_scr, wipeP]
          exact .mk e' rfl lets_ne lets_len h' k'
        · rw [rng_len] at hb ⊢
          have h1s : ∀ b ∈ bs, b.length = 1 := fun b h => (letter_ok (hb2 b h)).1
          simp only [startP, List.map_cons, List.map_nil, List.length_cons, List.length_nil, Nat.reduceAdd, Nat.reduceSub, List.reduceReplicate, List.cons_append, List.nil_append, List.append_nil, wSeq, wAsg, wgN, wgNil, wgCons, wgTup, wDrop, wRet, wRetN, wNext, wBrk, wCont, wIfS, wV, nth, stV, wC, wOp, wUn, wBool, wChain, wTru, truP, wAnd, wOr, wNot, wIfE, wAndV, wOrV, wNotV, wNil, wCons, wTup, wLst, wLstM, wCB, wPar, wPar3, wAug, wFor, wiRng1, wiRng2, seqL, seqO, rows, subP, fdivP, modP, powP, mulP, CDiv, CPow, CMul, neP, ltP, leP, gtP, geP, isNon, isP, isNotP, lenO, lenP, absP, min2P, max2P, listP, tupleP, allP, sumP, intCP, isinP, tysOf, seqK, keyOf, dgetP, wNoPart, wPart, slcMP, wSl, wRevL, tyM, wBm, appendP, popAtP, joinP, wDnewM, wPairs, wCall, wCallK, wFrz, wDput, dputP, eqNilP, List.isEmpty_nil, List.isEmpty_cons, Bool.not_true, Bool.not_false, Bool.true_eq_false, Bool.false_eq_true, and_true, true_and, ↓reduceIte, Int.reduceToNat, Int.reducePow, Int.reduceNeg, Int.reduceAdd, Int.reduceSub, Int.reduceMul, Nat.reduceMul, Nat.reduceLT, Nat.reduceLeDiff, isB, String.reduceBEq, Bool.or_true, Bool.or_false, Bool.and_true, Bool.and_false, Bool.true_and, Bool.false_and, Bool.false_or, Bool.true_or, Int.cast_ofNat_Int, Int.reduceBEq, Int.reduceBNe, BEq.rfl, wYes, wCut, pow_ok9, pow_ok18, pow_ok30, line_eq, put_same, put_put, List.mem_cons, List.not_mem_nil, or_false, addP_int, addP_str, addP_tup, addP_lst, intP_int, intP0_int, ordP_int, eqP_int, eqP_str, eqP_bl, eqP_non, ixP_str, ixP_lst, ixP_tup, ixP_scr, slcP_str, slcP_tup, slcP_lst, wiSeq_eq, walkP_tup, walkP_str, walkP_lst, walkP_scr, strsOf_map, put_ab nb]
          refine ⟨by rw [join_sum (z := lets) h1s]; omega, Txt.join "" bs, m + 3 + (1 + r2).toNat, name_join hb2 (by omega) (by omega), by omega, rfl, rfl⟩
      · exact ⟨w, m + 2, hw, by omega, rfl, rfl⟩
    · rintro ρ S ⟨w, m', hw, hm', rfl, rfl⟩
      simp only [startP, List.map_cons, List.map_nil, List.length_cons, List.length_nil, Nat.reduceAdd, Nat.reduceSub, List.reduceReplicate, List.cons_append, List.nil_append, List.append_nil, wSeq, wAsg, wgN, wgNil, wgCons, wgTup, wDrop, wRet, wRetN, wNext, wBrk, wCont, wIfS, wV, nth, stV, wC, wOp, wUn, wBool, wChain, wTru, truP, wAnd, wOr, wNot, wIfE, wAndV, wOrV, wNotV, wNil, wCons, wTup, wLst, wLstM, wCB, wPar, wPar3, wAug, wFor, wiRng1, wiRng2, seqL, seqO, rows, subP, fdivP, modP, powP, mulP, CDiv, CPow, CMul, neP, ltP, leP, gtP, geP, isNon, isP, isNotP, lenO, lenP, absP, min2P, max2P, listP, tupleP, allP, sumP, intCP, isinP, tysOf, seqK, keyOf, dgetP, wNoPart, wPart, slcMP, wSl, wRevL, tyM, wBm, appendP, popAtP, joinP, wDnewM, wPairs, wCall, wCallK, wFrz, wDput, dputP, eqNilP, List.isEmpty_nil, List.isEmpty_cons, Bool.not_true, Bool.not_false, Bool.true_eq_false, Bool.false_eq_true, and_true, true_and, ↓reduceIte, Int.reduceToNat, Int.reducePow, Int.reduceNeg, Int.reduceAdd, Int.reduceSub, Int.reduceMul, Nat.reduceMul, Nat.reduceLT, Nat.reduceLeDiff, isB, String.reduceBEq, Bool.or_true, Bool.or_false, Bool.and_true, Bool.and_false, Bool.true_and, Bool.false_and, Bool.false_or, Bool.true_or, Int.cast_ofNat_Int, Int.reduceBEq, Int.reduceBNe, BEq.rfl, wYes, wCut, pow_ok9, pow_ok18, pow_ok30, line_eq, put_same, put_put, List.mem_cons, List.not_mem_nil, or_false, addP_int, addP_str, addP_tup, addP_lst, intP_int, intP0_int, ordP_int, eqP_int, eqP_str, eqP_bl, eqP_non, ixP_str, ixP_lst, ixP_tup, ixP_scr, slcP_str, slcP_tup, slcP_lst, wiSeq_eq, walkP_tup, walkP_str, walkP_lst, walkP_scr]
      have ra : rdS (put (put S0 p (drw p m')) a (.raw (.lst (ws.map .str)))) a = some (.lst (ws.map .str)) := rdS_raw put_same
      refine ⟨fun ρ S => ∃ (w : Str) (m' : Nat), NameOk w ∧ w ∉ ws ∧ m' ≤ m + 12 ∧ ρ = [some (.ref p), some (.int k), some (.str lets), some (.ref a), some (.lst wordsL), some x, some (.str w), none, none] ∧ S = put (put S0 p (drw p m')) a (.raw (.lst (ws.map .str))), ?_, ?_⟩
      · simp only [inP, memP_strs ra]
        by_cases hin : w ∈ ws
        · simp only [hin, decide_true, startP, List.map_cons, List.map_nil, List.length_cons, List.length_nil, Nat.reduceAdd, Nat.reduceSub, List.reduceReplicate, List.cons_append, List.nil_append, List.append_nil, wSeq, wAsg, wgN, wgNil, wgCons, wgTup, wDrop, wRet, wRetN, wNext, wBrk, wCont, wIfS, wV, nth, stV, wC, wOp, wUn, wBool, wChain, wTru, truP, wAnd, wOr, wNot, wIfE, wAndV, wOrV, wNotV, wNil, wCons, wTup, wLst, wLstM, wCB, wPar, wPar3, wAug, wFor, wiRng1, wiRng2, seqL, seqO, rows, subP, fdivP, modP, powP, mulP, CDiv, CPow, CMul, neP, ltP, leP, gtP, geP, isNon, isP, isNotP, lenO, lenP, absP, min2P, max2P, listP, tupleP, allP, sumP, intCP, isinP, tysOf, seqK, keyOf, dgetP, wNoPart, wPart, slcMP, wSl, wRevL, tyM, wBm, appendP, popAtP, joinP, wDnewM, wPairs, wCall, wCallK, wFrz, wDput, dputP, eqNilP, List.isEmpty_nil, List.isEmpty_cons, Bool.not_true, Bool.not_false, Bool.true_eq_false, Bool.false_eq_true, and_true, true_and, ↓reduceIte, Int.reduceToNat, Int.reducePow, Int.reduceNeg, Int.reduceAdd, Int.reduceSub, Int.reduceMul, Nat.reduceMul, Nat.reduceLT, Nat.reduceLeDiff, isB, String.reduceBEq, Bool.or_true, Bool.or_false, Bool.and_true, Bool.and_false, Bool.true_and, Bool.false_and, Bool.false_or, Bool.true_or, Int.cast_ofNat_Int, Int.reduceBEq, Int.reduceBNe, BEq.rfl, wYes, wCut, pow_ok9, pow_ok18, pow_ok30, line_eq, put_same, put_put, List.mem_cons, List.not_mem_nil, or_false, addP_int, addP_str, addP_tup, addP_lst, intP_int, intP0_int, ordP_int, eqP_int, eqP_str, eqP_bl, eqP_non, ixP_str, ixP_lst, ixP_tup, ixP_scr, slcP_str, slcP_tup, slcP_lst, wiSeq_eq, walkP_tup, walkP_str, walkP_lst, walkP_scr, wLc]
          intro D hD
          have nD : a ≠ D := fun z => by rw [← z, put_same] at hD; cases hD
          refine lc_pureF (freshF w ws) (by rw [line_eq]; exact lets_len) hD (fun y hy S' R1 R0 hS k1 k0 => ?_) (fun _ _ => trivial) ?_
          · obtain ⟨c, _, rfl⟩ := List.mem_map.mp hy
            have ra' : rdS S' a = some (.lst (ws.map .str)) := by
              rw [← ra]
              simp only [rdS, hS a nD]
            simp only [startP, List.map_cons, List.map_nil, List.length_cons, List.length_nil, Nat.reduceAdd, Nat.reduceSub, List.reduceReplicate, List.cons_append, List.nil_append, List.append_nil, wSeq, wAsg, wgN, wgNil, wgCons, wgTup, wDrop, wRet, wRetN, wNext, wBrk, wCont, wIfS, wV, nth, stV, wC, wOp, wUn, wBool, wChain, wTru, truP, wAnd, wOr, wNot, wIfE, wAndV, wOrV, wNotV, wNil, wCons, wTup, wLst, wLstM, wCB, wPar, wPar3, wAug, wFor, wiRng1, wiRng2, seqL, seqO, rows, subP, fdivP, modP, powP, mulP, CDiv, CPow, CMul, neP, ltP, leP, gtP, geP, isNon, isP, isNotP, lenO, lenP, absP, min2P, max2P, listP, tupleP, allP, sumP, intCP, isinP, tysOf, seqK, keyOf, dgetP, wNoPart, wPart, slcMP, wSl, wRevL, tyM, wBm, appendP, popAtP, joinP, wDnewM, wPairs, wCall, wCallK, wFrz, wDput, dputP, eqNilP, List.isEmpty_nil, List.isEmpty_cons, Bool.not_true, Bool.not_false, Bool.true_eq_false, Bool.false_eq_true, and_true, true_and, ↓reduceIte, Int.reduceToNat, Int.reducePow, Int.reduceNeg, Int.reduceAdd, Int.reduceSub, Int.reduceMul, Nat.reduceMul, Nat.reduceLT, Nat.reduceLeDiff, isB, String.reduceBEq, Bool.or_true, Bool.or_false, Bool.and_true, Bool.and_false, Bool.true_and, Bool.false_and, Bool.false_or, Bool.true_or, Int.cast_ofNat_Int, Int.reduceBEq, Int.reduceBNe, BEq.rfl, wYes, wCut, pow_ok9, pow_ok18, pow_ok30, line_eq, put_same, put_put, List.mem_cons, List.not_mem_nil, or_false, addP_int, addP_str, addP_tup, addP_lst, intP_int, intP0_int, ordP_int, eqP_int, eqP_str, eqP_bl, eqP_non, ixP_str, ixP_lst, ixP_tup, ixP_scr, slcP_str, slcP_tup, slcP_lst, wiSeq_eq, walkP_tup, walkP_str, walkP_lst, walkP_scr, wipeP, notInP, memP_strs ra']
            have hz := (name_cut hw hy).2.1
            rw [len_app] at hz
            have hw1 := hw.2.1
            refine ⟨by omega, by omega, ?_⟩
            by_cases y : Txt.slice w none (some 7) ++ (⟨#[c]⟩ : Str) ∈ ws
            · simp only [y, decide_true, Bool.not_true]
              exact k0 (if_pos y)
            · simp only [y, decide_false, Bool.not_false]
              exact ⟨by omega, by omega, k1 _ (if_neg y)⟩
          · obtain ⟨l, r, e5, hl, hn⟩ := fresh_first (w := w) (ws := ws) (by omega)
            simp only [e5, atI_zero, startP, List.map_cons, List.map_nil, List.length_cons, List.length_nil, Nat.reduceAdd, Nat.reduceSub, List.reduceReplicate, List.cons_append, List.nil_append, List.append_nil, wSeq, wAsg, wgN, wgNil, wgCons, wgTup, wDrop, wRet, wRetN, wNext, wBrk, wCont, wIfS, wV, nth, stV, wC, wOp, wUn, wBool, wChain, wTru, truP, wAnd, wOr, wNot, wIfE, wAndV, wOrV, wNotV, wNil, wCons, wTup, wLst, wLstM, wCB, wPar, wPar3, wAug, wFor, wiRng1, wiRng2, seqL, seqO, rows, subP, fdivP, modP, powP, mulP, CDiv, CPow, CMul, neP, ltP, leP, gtP, geP, isNon, isP, isNotP, lenO, lenP, absP, min2P, max2P, listP, tupleP, allP, sumP, intCP, isinP, tysOf, seqK, keyOf, dgetP, wNoPart, wPart, slcMP, wSl, wRevL, tyM, wBm, appendP, popAtP, joinP, wDnewM, wPairs, wCall, wCallK, wFrz, wDput, dputP, eqNilP, List.isEmpty_nil, List.isEmpty_cons, Bool.not_true, Bool.not_false, Bool.true_eq_false, Bool.false_eq_true, and_true, true_and, ↓reduceIte, Int.reduceToNat, Int.reducePow, Int.reduceNeg, Int.reduceAdd, Int.reduceSub, Int.reduceMul, Nat.reduceMul, Nat.reduceLT, Nat.reduceLeDiff, isB, String.reduceBEq, Bool.or_true, Bool.or_false, Bool.and_true, Bool.and_false, Bool.true_and, Bool.false_and, Bool.false_or, Bool.true_or, Int.cast_ofNat_Int, Int.reduceBEq, Int.reduceBNe, BEq.rfl, wYes, wCut, pow_ok9, pow_ok18, pow_ok30, line_eq, put_same, put_put, List.mem_cons, List.not_mem_nil, or_false, addP_int, addP_str, addP_tup, addP_lst, intP_int, intP0_int, ordP_int, eqP_int, eqP_str, eqP_bl, eqP_non, ixP_str, ixP_lst, ixP_tup, ixP_scr, slcP_str, slcP_tup, slcP_lst, wiSeq_eq, walkP_tup, walkP_str, walkP_lst, walkP_scr]
            exact ⟨_, m', name_cut hw hl, hn, hm', rfl, rfl⟩
        · simp only [hin, decide_false, startP, List.map_cons, List.map_nil, List.length_cons, List.length_nil, Nat.reduceAdd, Nat.reduceSub, List.reduceReplicate, List.cons_append, List.nil_append, List.append_nil, wSeq, wAsg, wgN, wgNil, wgCons, wgTup, wDrop, wRet, wRetN, wNext, wBrk, wCont, wIfS, wV, nth, stV, wC, wOp, wUn, wBool, wChain, wTru, truP, wAnd, wOr, wNot, wIfE, wAndV, wOrV, wNotV, wNil, wCons, wTup, wLst, wLstM, wCB, wPar, wPar3, wAug, wFor, wiRng1, wiRng2, seqL, seqO, rows, subP, fdivP, modP, powP, mulP, CDiv, CPow, CMul, neP, ltP, leP, gtP, geP, isNon, isP, isNotP, lenO, lenP, absP, min2P, max2P, listP, tupleP, allP, sumP, intCP, isinP, tysOf, seqK, keyOf, dgetP, wNoPart, wPart, slcMP, wSl, wRevL, tyM, wBm, appendP, popAtP, joinP, wDnewM, wPairs, wCall, wCallK, wFrz, wDput, dputP, eqNilP, List.isEmpty_nil, List.isEmpty_cons, Bool.not_true, Bool.not_false, Bool.true_eq_false, Bool.false_eq_true, and_true, true_and, ↓reduceIte, Int.reduceToNat, Int.reducePow, Int.reduceNeg, Int.reduceAdd, Int.reduceSub, Int.reduceMul, Nat.reduceMul, Nat.reduceLT, Nat.reduceLeDiff, isB, String.reduceBEq, Bool.or_true, Bool.or_false, Bool.and_true, Bool.and_false, Bool.true_and, Bool.false_and, Bool.false_or, Bool.true_or, Int.cast_ofNat_Int, Int.reduceBEq, Int.reduceBNe, BEq.rfl, wYes, wCut, pow_ok9, pow_ok18, pow_ok30, line_eq, put_same, put_put, List.mem_cons, List.not_mem_nil, or_false, addP_int, addP_str, addP_tup, addP_lst, intP_int, intP0_int, ordP_int, eqP_int, eqP_str, eqP_bl, eqP_non, ixP_str, ixP_lst, ixP_tup, ixP_scr, slcP_str, slcP_tup, slcP_lst, wiSeq_eq, walkP_tup, walkP_str, walkP_lst, walkP_scr]
          exact ⟨w, m', hw, hin, hm', rfl, rfl⟩
      · rintro ρ S ⟨w, m', hw, hn, hm', rfl, rfl⟩
        simp only [startP, List.map_cons, List.map_nil, List.length_cons, List.length_nil, Nat.reduceAdd, Nat.reduceSub, List.reduceReplicate, List.cons_append, List.nil_append, List.append_nil, wSeq, wAsg, wgN, wgNil, wgCons, wgTup, wDrop, wRet, wRetN, wNext, wBrk, wCont, wIfS, wV, nth, stV, wC, wOp, wUn, wBool, wChain, wTru, truP, wAnd, wOr, wNot, wIfE, wAndV, wOrV, wNotV, wNil, wCons, wTup, wLst, wLstM, wCB, wPar, wPar3, wAug, wFor, wiRng1, wiRng2, seqL, seqO, rows, subP, fdivP, modP, powP, mulP, CDiv, CPow, CMul, neP, ltP, leP, gtP, geP, isNon, isP, isNotP, lenO, lenP, absP, min2P, max2P, listP, tupleP, allP, sumP, intCP, isinP, tysOf, seqK, keyOf, dgetP, wNoPart, wPart, slcMP, wSl, wRevL, tyM, wBm, appendP, popAtP, joinP, wDnewM, wPairs, wCall, wCallK, wFrz, wDput, dputP, eqNilP, List.isEmpty_nil, List.isEmpty_cons, Bool.not_true, Bool.not_false, Bool.true_eq_false, Bool.false_eq_true, and_true, true_and, ↓reduceIte, Int.reduceToNat, Int.reducePow, Int.reduceNeg, Int.reduceAdd, Int.reduceSub, Int.reduceMul, Nat.reduceMul, Nat.reduceLT, Nat.reduceLeDiff, isB, String.reduceBEq, Bool.or_true, Bool.or_false, Bool.and_true, Bool.and_false, Bool.true_and, Bool.false_and, Bool.false_or, Bool.true_or, Int.cast_ofNat_Int, Int.reduceBEq, Int.reduceBNe, BEq.rfl, wYes, wCut, pow_ok9, pow_ok18, pow_ok30, line_eq, put_same, put_put, List.mem_cons, List.not_mem_nil, or_false, addP_int, addP_str, addP_tup, addP_lst, intP_int, intP0_int, ordP_int, eqP_int, eqP_str, eqP_bl, eqP_non, ixP_str, ixP_lst, ixP_tup, ixP_scr, slcP_str, slcP_tup, slcP_lst, wiSeq_eq, walkP_tup, walkP_str, walkP_lst, walkP_scr, rdS]
        refine ⟨by rw [List.length_map]; omega, done ++ [x], by rw [ed, List.append_assoc]; rfl, ws ++ [w], m', some x, some (.str w), by rw [List.length_append, List.length_append, e1]; rfl, ?_, ?_, ?_, rfl, by rw [List.map_append]; rfl⟩
        · rw [List.nodup_append]
          exact ⟨e2, List.nodup_cons.mpr ⟨List.not_mem_nil, List.nodup_nil⟩, fun x hx y hy e => hn (by rw [List.mem_singleton] at hy; rw [← hy, ← e]; exact hx)⟩
        · intro z hz
          rcases List.mem_append.mp hz with hz | hz
          · exact e3 z hz
          · rw [List.mem_singleton] at hz; rw [hz]; exact hw
        · rw [List.length_append]
          show m' ≤ n + 12 * (done.length + 1)
          omega

theorem ok_law_sales (T : Tx K mg base) : FnG P w K mg base 4 T.f__law_sales T.d__law_sales ["_law_state", "_law_names_here", "_law_many", "_law_times"] SpSales := by
  refine okG T.F__law_sales sc_law_sales (fun xs S Q E h => by cases h; rfl) fun cdv A outer s H EX F0 xs S0 Q E hG hr hp tk h => ?_
  cases h with
  | @mk p ws k ts n _ _ _ e hw h2 hw20 h0 hk ht htl hn q =>
  refine ⟨_, (wss_cut (ws_asg (we_tup (wa_cons (we_lstM wa_nil) (wa_cons we_int (wa_cons (we_call (ok_law_pick T) hG (hr.mono (by decide)) T.g__law_pick T.F__law_pick.kp T.b__law_pick dflt0 tk0 (wa_cons (we_var 0) (wa_cons (we_var 1) wa_nil))) wa_nil)))) (wg_tup (n := 3) rfl (wgs_cons (wg_name 4 sc_law_sales.nd) (wgs_cons (wg_name 5 sc_law_sales.nd) (wgs_cons (wg_name 6 sc_law_sales.nd) wgs_nil)))))
  (wss_cut (ws_for hp rfl (wi_rng1 T.m_range (wa_cons (we_var 2) wa_nil)) (wg_name 7 sc_law_sales.nd)
  (wss_cut (ws_set 5 sc_law_sales.nd (we_op ow_add (we_op ow_add (we_var 5) we_int) (we_call (ok_law_pick T) hG (hr.mono (by decide)) T.g__law_pick T.F__law_pick.kp T.b__law_pick dflt0 tk0 (wa_cons (we_var 0) (wa_cons (we_lst (wa_cons we_int (wa_cons we_int (wa_cons we_int (wa_cons (we_call (ok_law_take T) hG (hr.mono (by decide)) T.g__law_take T.F__law_take.kp T.b__law_take dflt0 tk0 (wa_cons (we_var 0) (wa_cons we_int wa_nil))) wa_nil))))) wa_nil)))))
  (wss_cut (ws_set 8 sc_law_sales.nd (we_call (ok_law_pick T) hG (hr.mono (by decide)) T.g__law_pick T.F__law_pick.kp T.b__law_pick dflt0 tk0 (wa_cons (we_var 0) (wa_cons (we_lc (mk := false) rfl sc_law_sales.nd (wi_seq (we_var 1)) (own := [("_law_name", 11)]) (blkOk_by (N := N_law_sales) (sc := defScope s_law_sales) (by decide +kernel)) (fun _ _ _ _ _ => (wg_name 11 sc_law_sales.nd)) (by decide) (fun _ _ _ _ _ => (wts_one (wt_cmp (ow_ne hr.units) (we_var 11) (we_var 6)))) (fun _ _ _ _ _ => (we_var 11))) wa_nil))))
  (wss_cut (ws_set 9 sc_law_sales.nd (we_lstM (wa_cons (we_call (ok_law_pick T) hG (hr.mono (by decide)) T.g__law_pick T.F__law_pick.kp T.b__law_pick dflt0 tk0 (wa_cons (we_var 0) (wa_cons (we_lst (wa_cons (we_var 6) (wa_cons (we_var 6) (wa_cons (we_var 6) (wa_cons (we_call (ok_law_pick T) hG (hr.mono (by decide)) T.g__law_pick T.F__law_pick.kp T.b__law_pick dflt0 tk0 (wa_cons (we_var 0) (wa_cons (we_var 1) wa_nil))) wa_nil))))) wa_nil))) wa_nil)))
  (wss_cut (ws_expr (we_bm PySem.F.plainAttrs_list PySem.F.slot_list_append PySem.F.type_list_append (by decide) mw_append (we_var 9) (wa_cons (we_call (ok_law_pick T) hG (hr.mono (by decide)) T.g__law_pick T.F__law_pick.kp T.b__law_pick dflt0 tk0 (wa_cons (we_var 0) (wa_cons (we_lst (wa_cons (we_var 8) (wa_cons (we_var 8) (wa_cons (we_var 8) (wa_cons (we_call (ok_law_pick T) hG (hr.mono (by decide)) T.g__law_pick T.F__law_pick.kp T.b__law_pick dflt0 tk0 (wa_cons (we_var 0) (wa_cons (we_var 1) wa_nil))) wa_nil))))) wa_nil))) wa_nil)))
  (wss_cut (ws_set 10 sc_law_sales.nd (we_tup (wa_cons (we_var 5) (wa_cons (we_var 6) (wa_cons (we_var 8) (wa_cons (we_call (ok_law_amount T) hG (hr.mono (by decide)) T.g__law_amount T.F__law_amount.kp T.b__law_amount dflt0 tk0 (wa_cons (we_var 0) wa_nil)) (wa_cons (we_call (ok_law_amount T) hG (hr.mono (by decide)) T.g__law_amount T.F__law_amount.kp T.b__law_amount dflt0 tk0 (wa_cons (we_var 0) wa_nil)) (wa_cons (we_call (ok_law_pick T) hG (hr.mono (by decide)) T.g__law_pick T.F__law_pick.kp T.b__law_pick dflt0 tk0 (wa_cons (we_var 0) (wa_cons (we_var 3) wa_nil))) wa_nil))))))))
  (wss_cut (ws_expr (we_bm PySem.F.plainAttrs_list PySem.F.slot_list_append PySem.F.type_list_append (by decide) mw_append (we_var 4) (wa_cons (we_op ow_add (we_var 10) (we_callTy cw_tuple T.m_tuple (wa_cons (we_frz (we_var 9)) wa_nil))) wa_nil)))
  (wss_one (ws_set 6 sc_law_sales.nd (we_var 8))))))))))
  (wss_one (ws_ret (we_frz (we_var 4)))))), ?_⟩
  refine cut_intro (fun ρ S => ∃ (a : Addr) (s0 : Str), a ≠ p ∧ S0 a = none ∧ s0 ∈ ws ∧ ρ = [some (.ref p), some (.lst (ws.map .str)), some (.int k), some (.lst ts), some (.ref a), some (.int 0), some (.str s0), none, none, none, none, none] ∧ S = put (put S0 p (drw p (n + 1))) a (.raw (.lst []))) ?_ ?_
  · simp only [startP, List.map_cons, List.map_nil, List.length_cons, List.length_nil, Nat.reduceAdd, Nat.reduceSub, List.reduceReplicate, List.cons_append, List.nil_append, List.append_nil, wSeq, wAsg, wgN, wgNil, wgCons, wgTup, wDrop, wRet, wRetN, wNext, wBrk, wCont, wIfS, wV, nth, stV, wC, wOp, wUn, wBool, wChain, wTru, truP, wAnd, wOr, wNot, wIfE, wAndV, wOrV, wNotV, wNil, wCons, wTup, wLst, wLstM, wCB, wPar, wPar3, wAug, wFor, wiRng1, wiRng2, seqL, seqO, rows, subP, fdivP, modP, powP, mulP, CDiv, CPow, CMul, neP, ltP, leP, gtP, geP, isNon, isP, isNotP, lenO, lenP, absP, min2P, max2P, listP, tupleP, allP, sumP, intCP, isinP, tysOf, seqK, keyOf, dgetP, wNoPart, wPart, slcMP, wSl, wRevL, tyM, wBm, appendP, popAtP, joinP, wDnewM, wPairs, wCall, wCallK, wFrz, wDput, dputP, eqNilP, List.isEmpty_nil, List.isEmpty_cons, Bool.not_true, Bool.not_false, Bool.true_eq_false, Bool.false_eq_true, and_true, true_and, ↓reduceIte, Int.reduceToNat, Int.reducePow, Int.reduceNeg, Int.reduceAdd, Int.reduceSub, Int.reduceMul, Nat.reduceMul, Nat.reduceLT, Nat.reduceLeDiff, isB, String.reduceBEq, Bool.or_true, Bool.or_false, Bool.and_true, Bool.and_false, Bool.true_and, Bool.false_and, Bool.false_or, Bool.true_or, Int.cast_ofNat_Int, Int.reduceBEq, Int.reduceBNe, BEq.rfl, wYes, wCut, pow_ok9, pow_ok18, pow_ok30, line_eq, put_same, put_put, List.mem_cons, List.not_mem_nil, or_false, addP_int, addP_str, addP_tup, addP_lst, intP_int, intP0_int, ordP_int, eqP_int, eqP_str, eqP_bl, eqP_non, ixP_str, ixP_lst, ixP_tup, ixP_scr, slcP_str, slcP_tup, slcP_lst, wiSeq_eq, walkP_tup, walkP_str, walkP_lst, walkP_scr, N_law_sales]
    intro a ha
    have nb : a ≠ p := fun z => by rw [z, e] at ha; cases ha
    refine .mk (n := n) (xs := ws.map .str) (by rw [put_ne nb.symm]; exact e) rfl (by intro z; have := congrArg List.length z; rw [List.length_map, List.length_nil] at this; omega) (by rw [List.length_map]; omega) (by omega) fun y hy => ?_
    obtain ⟨s0, hs0, rfl⟩ := List.mem_map.mp hy
    exact ⟨a, s0, nb, ha, hs0, rfl, put_comm nb⟩
  rintro ρ S ⟨a, s0, nb, ha, hs0, rfl, rfl⟩
  refine cut_intro (fun ρ S => ∃ (rs : List SaleR) (m : Nat) (num : Int) (sl : Str) (t v u z : Option PV), rs.length = k.toNat ∧ m ≤ n + 1 + 20 * k.toNat ∧ 0 ≤ num ∧ num ≤ 52 * k.toNat ∧ sl ∈ ws ∧ RowsOk ws ts num sl rs ∧ ρ = [some (.ref p), some (.lst (ws.map .str)), some (.int k), some (.lst ts), some (.ref a), some (.int num), some (.str sl), t, v, u, z, none] ∧ S = put (put S0 p (drw p m)) a (.raw (.lst (rs.map SaleR.pv)))) ?_ ?_
  · simp only [wFor, wiRng1, wCons, wNil, wV, nth]
    refine ⟨by omega, by omega, ?_⟩
    refine for_inv (fun done ρ S => ∃ (rs : List SaleR) (m : Nat) (num : Int) (sl : Str) (t v u z : Option PV), rs.length = done.length ∧ m ≤ n + 1 + 20 * done.length ∧ 0 ≤ num ∧ num ≤ 52 * done.length ∧ sl ∈ ws ∧ RowsOk ws ts num sl rs ∧ ρ = [some (.ref p), some (.lst (ws.map .str)), some (.int k), some (.lst ts), some (.ref a), some (.int num), some (.str sl), t, v, u, z, none] ∧ S = put (put S0 p (drw p m)) a (.raw (.lst (rs.map SaleR.pv))))
      ⟨[], n + 1, 0, s0, none, none, none, none, rfl, Nat.le_refl _, Int.le_refl 0, Int.le_refl 0, hs0, rows0, rfl, rfl⟩ ?_ ?_
    · rintro ρ S ⟨rs, m, num, sl, t, v, u, z, e1, e2, e3, e4, e5, e6, rfl, rfl⟩
      rw [rng_len] at e1 e2 e4
      exact ⟨trivial, rs, m, num, sl, t, v, u, z, e1, e2, e3, e4, e5, e6, rfl, rfl⟩
    · rintro done x rest ρ S ed ⟨rs, m, num, sl, t, v, u, z, e1, e2, e3, e4, e5, e6, rfl, rfl⟩
      have hdl : done.length < 20 := by
        have := congrArg List.length ed
        rw [rng_len, List.length_append, List.length_cons] at this
        omega
      have nsne : ws.map PV.str ≠ [] := fun z => by have := congrArg List.length z; rw [List.length_map, List.length_nil] at this; omega
      have nslen : (ws.map PV.str).length ≤ 16777216 := by rw [List.length_map]; omega
      refine ⟨trivial, ?_⟩
      refine cut_intro (fun ρ S => ∃ n2 : Int, num < n2 ∧ n2 ≤ num + 51 ∧ ρ = [some (.ref p), some (.lst (ws.map .str)), some (.int k), some (.lst ts), some (.ref a), some (.int n2), some (.str sl), some x, v, u, z, none] ∧ S = put (put S0 p (drw p (m + 2))) a (.raw (.lst (rs.map SaleR.pv)))) ?_ ?_
      · simp only [startP, List.map_cons, List.map_nil, List.length_cons, List.length_nil, Nat.reduceAdd, Nat.reduceSub, List.reduceReplicate, List.cons_append, List.nil_append, List.append_nil, wSeq, wAsg, wgN, wgNil, wgCons, wgTup, wDrop, wRet, wRetN, wNext, wBrk, wCont, wIfS, wV, nth, stV, wC, wOp, wUn, wBool, wChain, wTru, truP, wAnd, wOr, wNot, wIfE, wAndV, wOrV, wNotV, wNil, wCons, wTup, wLst, wLstM, wCB, wPar, wPar3, wAug, wFor, wiRng1, wiRng2, seqL, seqO, rows, subP, fdivP, modP, powP, mulP, CDiv, CPow, CMul, neP, ltP, leP, gtP, geP, isNon, isP, isNotP, lenO, lenP, absP, min2P, max2P, listP, tupleP, allP, sumP, intCP, isinP, tysOf, seqK, keyOf, dgetP, wNoPart, wPart, slcMP, wSl, wRevL, tyM, wBm, appendP, popAtP, joinP, wDnewM, wPairs, wCall, wCallK, wFrz, wDput, dputP, eqNilP, List.isEmpty_nil, List.isEmpty_cons, Bool.not_true, Bool.not_false, Bool.true_eq_false, Bool.false_eq_true, and_true, true_and, ↓reduceIte, Int.reduceToNat, Int.reducePow, Int.reduceNeg, Int.reduceAdd, Int.reduceSub, Int.reduceMul, Nat.reduceMul, Nat.reduceLT, Nat.reduceLeDiff, isB, String.reduceBEq, Bool.or_true, Bool.or_false, Bool.and_true, Bool.and_false, Bool.true_and, Bool.false_and, Bool.false_or, Bool.true_or, Int.cast_ofNat_Int, Int.reduceBEq, Int.reduceBNe, BEq.rfl, wYes, wCut, pow_ok9, pow_ok18, pow_ok30, line_eq, put_same, put_put, List.mem_cons, List.not_mem_nil, or_false, addP_int, addP_str, addP_tup, addP_lst, intP_int, intP0_int, ordP_int, eqP_int, eqP_str, eqP_bl, eqP_non, ixP_str, ixP_lst, ixP_tup, ixP_scr, slcP_str, slcP_tup, slcP_lst, wiSeq_eq, walkP_tup, walkP_str, walkP_lst, walkP_scr]
        refine .mk (n := m) (by rw [put_ne nb.symm, put_same]) (by decide) (by decide) (by omega) fun r1 a1 b1 => ?_
        refine .mk (n := m + 1) (xs := [.int 0, .int 0, .int 1, .int r1]) (by rw [put_ab nb, put_ne nb.symm, put_same]) rfl (by simp) (by simp) (by omega) fun y hy => ?_
        simp only [put_ab nb, put_put]
        simp only [List.mem_cons, List.not_mem_nil, or_false] at hy
        rcases hy with rfl | rfl | rfl | rfl <;> exact ⟨_, by omega, by omega, rfl, rfl⟩
      rintro ρ S ⟨n2, g1, g2, rfl, rfl⟩
      refine cut_intro (fun ρ S => ∃ by_ : Str, by_ ∈ ws ∧ sl ≠ by_ ∧ ρ = [some (.ref p), some (.lst (ws.map .str)), some (.int k), some (.lst ts), some (.ref a), some (.int n2), some (.str sl), some x, some (.str by_), u, z, none] ∧ S = put (put S0 p (drw p (m + 3))) a (.raw (.lst (rs.map SaleR.pv)))) ?_ ?_
      · simp only [startP, List.map_cons, List.map_nil, List.length_cons, List.length_nil, Nat.reduceAdd, Nat.reduceSub, List.reduceReplicate, List.cons_append, List.nil_append, List.append_nil, wSeq, wAsg, wgN, wgNil, wgCons, wgTup, wDrop, wRet, wRetN, wNext, wBrk, wCont, wIfS, wV, nth, stV, wC, wOp, wUn, wBool, wChain, wTru, truP, wAnd, wOr, wNot, wIfE, wAndV, wOrV, wNotV, wNil, wCons, wTup, wLst, wLstM, wCB, wPar, wPar3, wAug, wFor, wiRng1, wiRng2, seqL, seqO, rows, subP, fdivP, modP, powP, mulP, CDiv, CPow, CMul, neP, ltP, leP, gtP, geP, isNon, isP, isNotP, lenO, lenP, absP, min2P, max2P, listP, tupleP, allP, sumP, intCP, isinP, tysOf, seqK, keyOf, dgetP, wNoPart, wPart, slcMP, wSl, wRevL, tyM, wBm, appendP, popAtP, joinP, wDnewM, wPairs, wCall, wCallK, wFrz, wDput, dputP, eqNilP, List.isEmpty_nil, List.isEmpty_cons, Bool.not_true, Bool.not_false, Bool.true_eq_false, Bool.false_eq_true, and_true, true_and, ↓reduceIte, Int.reduceToNat, Int.reducePow, Int.reduceNeg, Int.reduceAdd, Int.reduceSub, Int.reduceMul, Nat.reduceMul, Nat.reduceLT, Nat.reduceLeDiff, isB, String.reduceBEq, Bool.or_true, Bool.or_false, Bool.and_true, Bool.and_false, Bool.true_and, Bool.false_and, Bool.false_or, Bool.true_or, Int.cast_ofNat_Int, Int.reduceBEq, Int.reduceBNe, BEq.rfl, wYes, wCut, pow_ok9, pow_ok18, pow_ok30, line_eq, put_same, put_put, List.mem_cons, List.not_mem_nil, or_false, addP_int, addP_str, addP_tup, addP_lst, intP_int, intP0_int, ordP_int, eqP_int, eqP_str, eqP_bl, eqP_non, ixP_str, ixP_lst, ixP_tup, ixP_scr, slcP_str, slcP_tup, slcP_lst, wiSeq_eq, walkP_tup, walkP_str, walkP_lst, walkP_scr, wLc]
        intro D hD
        refine lc_pureF (otherF sl) nslen hD (fun y hy S' R1 R0 hS k1 k0 => ?_) (fun _ _ => trivial) ?_
        · obtain ⟨c, _, rfl⟩ := List.mem_map.mp hy
          simp only [startP, List.map_cons, List.map_nil, List.length_cons, List.length_nil, Nat.reduceAdd, Nat.reduceSub, List.reduceReplicate, List.cons_append, List.nil_append, List.append_nil, wSeq, wAsg, wgN, wgNil, wgCons, wgTup, wDrop, wRet, wRetN, wNext, wBrk, wCont, wIfS, wV, nth, stV, wC, wOp, wUn, wBool, wChain, wTru, truP, wAnd, wOr, wNot, wIfE, wAndV, wOrV, wNotV, wNil, wCons, wTup, wLst, wLstM, wCB, wPar, wPar3, wAug, wFor, wiRng1, wiRng2, seqL, seqO, rows, subP, fdivP, modP, powP, mulP, CDiv, CPow, CMul, neP, ltP, leP, gtP, geP, isNon, isP, isNotP, lenO, lenP, absP, min2P, max2P, listP, tupleP, allP, sumP, intCP, isinP, tysOf, seqK, keyOf, dgetP, wNoPart, wPart, slcMP, wSl, wRevL, tyM, wBm, appendP, popAtP, joinP, wDnewM, wPairs, wCall, wCallK, wFrz, wDput, dputP, eqNilP, List.isEmpty_nil, List.isEmpty_cons, Bool.not_true, Bool.not_false, Bool.true_eq_false, Bool.false_eq_true, and_true, true_and, ↓reduceIte, Int.reduceToNat, Int.reducePow, Int.reduceNeg, Int.reduceAdd, Int.reduceSub, Int.reduceMul, Nat.reduceMul, Nat.reduceLT, Nat.reduceLeDiff, isB, String.reduceBEq, Bool.or_true, Bool.or_false, Bool.and_true, Bool.and_false, Bool.true_and, Bool.false_and, Bool.false_or, Bool.true_or, Int.cast_ofNat_Int, Int.reduceBEq, Int.reduceBNe, BEq.rfl, wYes, wCut, pow_ok9, pow_ok18, pow_ok30, line_eq, put_same, put_put, List.mem_cons, List.not_mem_nil, or_false, addP_int, addP_str, addP_tup, addP_lst, intP_int, intP0_int, ordP_int, eqP_int, eqP_str, eqP_bl, eqP_non, ixP_str, ixP_lst, ixP_tup, ixP_scr, slcP_str, slcP_tup, slcP_lst, wiSeq_eq, walkP_tup, walkP_str, walkP_lst, walkP_scr, wipeP]
          by_cases y : c = sl
          · subst y
            simp only [BEq.rfl, Bool.not_true]
            exact k0 (if_pos rfl)
          · simp only [beq_false_of_ne y, Bool.not_false]
            exact k1 _ (if_neg y)
        · rw [others]
          refine .mk (n := m + 2) (by rw [put_ne nb.symm, put_same]) rfl (fun z => others_ne (s := sl) hw h2 (List.map_eq_nil_iff.mp z)) (by rw [List.length_map]; have := List.length_filter_le (fun z => decide (z ≠ sl)) ws; omega) (by omega) fun y hy => ?_
          obtain ⟨b, hb, rfl⟩ := List.mem_map.mp hy
          rw [List.mem_filter] at hb
          rw [put_ab nb]
          exact ⟨b, hb.1, fun z => (of_decide_eq_true hb.2) z.symm, rfl, rfl⟩
      rintro ρ S ⟨by_, g3, g4, rfl, rfl⟩
      refine cut_intro (fun ρ S => ∃ (d : Addr) (r1 : Str), d ≠ p ∧ d ≠ a ∧ S0 d = none ∧ r1 ∈ ws ∧ ρ = [some (.ref p), some (.lst (ws.map .str)), some (.int k), some (.lst ts), some (.ref a), some (.int n2), some (.str sl), some x, some (.str by_), some (.ref d), z, none] ∧ S = put (put (put S0 p (drw p (m + 5))) a (.raw (.lst (rs.map SaleR.pv)))) d (.raw (.lst [.str r1]))) ?_ ?_
      · simp only [startP, List.map_cons, List.map_nil, List.length_cons, List.length_nil, Nat.reduceAdd, Nat.reduceSub, List.reduceReplicate, List.cons_append, List.nil_append, List.append_nil, wSeq, wAsg, wgN, wgNil, wgCons, wgTup, wDrop, wRet, wRetN, wNext, wBrk, wCont, wIfS, wV, nth, stV, wC, wOp, wUn, wBool, wChain, wTru, truP, wAnd, wOr, wNot, wIfE, wAndV, wOrV, wNotV, wNil, wCons, wTup, wLst, wLstM, wCB, wPar, wPar3, wAug, wFor, wiRng1, wiRng2, seqL, seqO, rows, subP, fdivP, modP, powP, mulP, CDiv, CPow, CMul, neP, ltP, leP, gtP, geP, isNon, isP, isNotP, lenO, lenP, absP, min2P, max2P, listP, tupleP, allP, sumP, intCP, isinP, tysOf, seqK, keyOf, dgetP, wNoPart, wPart, slcMP, wSl, wRevL, tyM, wBm, appendP, popAtP, joinP, wDnewM, wPairs, wCall, wCallK, wFrz, wDput, dputP, eqNilP, List.isEmpty_nil, List.isEmpty_cons, Bool.not_true, Bool.not_false, Bool.true_eq_false, Bool.false_eq_true, and_true, true_and, ↓reduceIte, Int.reduceToNat, Int.reducePow, Int.reduceNeg, Int.reduceAdd, Int.reduceSub, Int.reduceMul, Nat.reduceMul, Nat.reduceLT, Nat.reduceLeDiff, isB, String.reduceBEq, Bool.or_true, Bool.or_false, Bool.and_true, Bool.and_false, Bool.true_and, Bool.false_and, Bool.false_or, Bool.true_or, Int.cast_ofNat_Int, Int.reduceBEq, Int.reduceBNe, BEq.rfl, wYes, wCut, pow_ok9, pow_ok18, pow_ok30, line_eq, put_same, put_put, List.mem_cons, List.not_mem_nil, or_false, addP_int, addP_str, addP_tup, addP_lst, intP_int, intP0_int, ordP_int, eqP_int, eqP_str, eqP_bl, eqP_non, ixP_str, ixP_lst, ixP_tup, ixP_scr, slcP_str, slcP_tup, slcP_lst, wiSeq_eq, walkP_tup, walkP_str, walkP_lst, walkP_scr]
        refine .mk (n := m + 3) (by rw [put_ne nb.symm, put_same]) rfl nsne nslen (by omega) fun y hy => ?_
        obtain ⟨c, hc, rfl⟩ := List.mem_map.mp hy
        refine .mk (n := m + 4) (xs := [.str sl, .str sl, .str sl, .str c]) (by rw [put_ab nb, put_ne nb.symm, put_same]) rfl (by simp) (by simp) (by omega) fun y2 hy2 => ?_
        simp only [put_ab nb, put_put]
        intro d hd
        obtain ⟨d1, hd⟩ := put_none hd
        obtain ⟨d2, hd⟩ := put_none hd
        simp only [List.mem_cons, List.not_mem_nil, or_false] at hy2
        rcases hy2 with rfl | rfl | rfl | rfl
        · exact ⟨d, _, d2, d1, hd, e5, rfl, rfl⟩
        · exact ⟨d, _, d2, d1, hd, e5, rfl, rfl⟩
        · exact ⟨d, _, d2, d1, hd, e5, rfl, rfl⟩
        · exact ⟨d, _, d2, d1, hd, hc, rfl, rfl⟩
      rintro ρ S ⟨d, r1, g5, g6, g7, g8, rfl, rfl⟩
      refine cut_intro (fun ρ S => ∃ (r2 : Str), r2 ∈ ws ∧ ρ = [some (.ref p), some (.lst (ws.map .str)), some (.int k), some (.lst ts), some (.ref a), some (.int n2), some (.str sl), some x, some (.str by_), some (.ref d), z, none] ∧ S = put (put (put S0 p (drw p (m + 7))) a (.raw (.lst (rs.map SaleR.pv)))) d (.raw (.lst [.str r1, .str r2]))) ?_ ?_
      · simp only [startP, List.map_cons, List.map_nil, List.length_cons, List.length_nil, Nat.reduceAdd, Nat.reduceSub, List.reduceReplicate, List.cons_append, List.nil_append, List.append_nil, wSeq, wAsg, wgN, wgNil, wgCons, wgTup, wDrop, wRet, wRetN, wNext, wBrk, wCont, wIfS, wV, nth, stV, wC, wOp, wUn, wBool, wChain, wTru, truP, wAnd, wOr, wNot, wIfE, wAndV, wOrV, wNotV, wNil, wCons, wTup, wLst, wLstM, wCB, wPar, wPar3, wAug, wFor, wiRng1, wiRng2, seqL, seqO, rows, subP, fdivP, modP, powP, mulP, CDiv, CPow, CMul, neP, ltP, leP, gtP, geP, isNon, isP, isNotP, lenO, lenP, absP, min2P, max2P, listP, tupleP, allP, sumP, intCP, isinP, tysOf, seqK, keyOf, dgetP, wNoPart, wPart, slcMP, wSl, wRevL, tyM, wBm, appendP, popAtP, joinP, wDnewM, wPairs, wCall, wCallK, wFrz, wDput, dputP, eqNilP, List.isEmpty_nil, List.isEmpty_cons, Bool.not_true, Bool.not_false, Bool.true_eq_false, Bool.false_eq_true, and_true, true_and, ↓reduceIte, Int.reduceToNat, Int.reducePow, Int.reduceNeg, Int.reduceAdd, Int.reduceSub, Int.reduceMul, Nat.reduceMul, Nat.reduceLT, Nat.reduceLeDiff, isB, String.reduceBEq, Bool.or_true, Bool.or_false, Bool.and_true, Bool.and_false, Bool.true_and, Bool.false_and, Bool.false_or, Bool.true_or, Int.cast_ofNat_Int, Int.reduceBEq, Int.reduceBNe, BEq.rfl, wYes, wCut, pow_ok9, pow_ok18, pow_ok30, line_eq, put_same, put_put, List.mem_cons, List.not_mem_nil, or_false, addP_int, addP_str, addP_tup, addP_lst, intP_int, intP0_int, ordP_int, eqP_int, eqP_str, eqP_bl, eqP_non, ixP_str, ixP_lst, ixP_tup, ixP_scr, slcP_str, slcP_tup, slcP_lst, wiSeq_eq, walkP_tup, walkP_str, walkP_lst, walkP_scr, rdS]
        refine .mk (n := m + 5) (by rw [put_ne g5.symm, put_ne nb.symm, put_same]) rfl nsne nslen (by omega) fun y hy => ?_
        obtain ⟨c, hc, rfl⟩ := List.mem_map.mp hy
        refine .mk (n := m + 6) (xs := [.str by_, .str by_, .str by_, .str c]) (by rw [put_ab3 nb g5, put_ne g5.symm, put_ne nb.symm, put_same]) rfl (by simp) (by simp) (by omega) fun y2 hy2 => ?_
        simp only [put_ab3 nb g5, put_same, put_put, List.length_cons, List.length_nil]
        simp only [List.mem_cons, List.not_mem_nil, or_false] at hy2
        rcases hy2 with rfl | rfl | rfl | rfl
        · exact ⟨by decide, _, g3, rfl⟩
        · exact ⟨by decide, _, g3, rfl⟩
        · exact ⟨by decide, _, g3, rfl⟩
        · exact ⟨by decide, _, hc, rfl⟩
      rintro ρ S ⟨r2, g9, rfl, rfl⟩
      refine cut_intro (fun ρ S => ∃ (pr pe : Int) (tm : PV), (0 ≤ pr ∧ pr ≤ 1000000000) ∧ (0 ≤ pe ∧ pe ≤ 1000000000) ∧ tm ∈ ts ∧ ρ = [some (.ref p), some (.lst (ws.map .str)), some (.int k), some (.lst ts), some (.ref a), some (.int n2), some (.str sl), some x, some (.str by_), some (.ref d), some (.tup [.int n2, .str sl, .str by_, .int pr, .int pe, tm]), none] ∧ S = put (put (put S0 p (drw p (m + 20))) a (.raw (.lst (rs.map SaleR.pv)))) d (.raw (.lst [.str r1, .str r2]))) ?_ ?_
      · simp only [startP, List.map_cons, List.map_nil, List.length_cons, List.length_nil, Nat.reduceAdd, Nat.reduceSub, List.reduceReplicate, List.cons_append, List.nil_append, List.append_nil, wSeq, wAsg, wgN, wgNil, wgCons, wgTup, wDrop, wRet, wRetN, wNext, wBrk, wCont, wIfS, wV, nth, stV, wC, wOp, wUn, wBool, wChain, wTru, truP, wAnd, wOr, wNot, wIfE, wAndV, wOrV, wNotV, wNil, wCons, wTup, wLst, wLstM, wCB, wPar, wPar3, wAug, wFor, wiRng1, wiRng2, seqL, seqO, rows, subP, fdivP, modP, powP, mulP, CDiv, CPow, CMul, neP, ltP, leP, gtP, geP, isNon, isP, isNotP, lenO, lenP, absP, min2P, max2P, listP, tupleP, allP, sumP, intCP, isinP, tysOf, seqK, keyOf, dgetP, wNoPart, wPart, slcMP, wSl, wRevL, tyM, wBm, appendP, popAtP, joinP, wDnewM, wPairs, wCall, wCallK, wFrz, wDput, dputP, eqNilP, List.isEmpty_nil, List.isEmpty_cons, Bool.not_true, Bool.not_false, Bool.true_eq_false, Bool.false_eq_true, and_true, true_and, ↓reduceIte, Int.reduceToNat, Int.reducePow, Int.reduceNeg, Int.reduceAdd, Int.reduceSub, Int.reduceMul, Nat.reduceMul, Nat.reduceLT, Nat.reduceLeDiff, isB, String.reduceBEq, Bool.or_true, Bool.or_false, Bool.and_true, Bool.and_false, Bool.true_and, Bool.false_and, Bool.false_or, Bool.true_or, Int.cast_ofNat_Int, Int.reduceBEq, Int.reduceBNe, BEq.rfl, wYes, wCut, pow_ok9, pow_ok18, pow_ok30, line_eq, put_same, put_put, List.mem_cons, List.not_mem_nil, or_false, addP_int, addP_str, addP_tup, addP_lst, intP_int, intP0_int, ordP_int, eqP_int, eqP_str, eqP_bl, eqP_non, ixP_str, ixP_lst, ixP_tup, ixP_scr, slcP_str, slcP_tup, slcP_lst, wiSeq_eq, walkP_tup, walkP_str, walkP_lst, walkP_scr]
        refine .mk (n := m + 7) (by rw [put_ne g5.symm, put_ne nb.symm, put_same]) (by omega) fun pr p1 p2 => ?_
        simp only [put_ab3 nb g5]
        refine .mk (n := m + 13) (by rw [put_ne g5.symm, put_ne nb.symm, put_same]) (by omega) fun pe p3 p4 => ?_
        simp only [put_ab3 nb g5]
        refine .mk (n := m + 19) (by rw [put_ne g5.symm, put_ne nb.symm, put_same]) rfl ht htl (by omega) fun tm hm => ?_
        simp only [put_ab3 nb g5]
        exact ⟨pr, pe, tm, ⟨p1, p2⟩, ⟨p3, p4⟩, hm, by trivial, by trivial⟩
      rintro ρ S ⟨pr, pe, tm, g10, g11, g12, rfl, rfl⟩
      refine cut_intro (fun ρ S => ρ = [some (.ref p), some (.lst (ws.map .str)), some (.int k), some (.lst ts), some (.ref a), some (.int n2), some (.str sl), some x, some (.str by_), some (.ref d), some (.tup [.int n2, .str sl, .str by_, .int pr, .int pe, tm]), none] ∧ S = put (put S0 p (drw p (m + 20))) a (.raw (.lst ((rs ++ [SaleR.mk n2 sl by_ pr pe tm r1 r2]).map SaleR.pv)))) ?_ ?_
      · have rm : rmv (put (put (put S0 p (drw p (m + 20))) a (.raw (.lst (rs.map SaleR.pv)))) d (.raw (.lst [.str r1, .str r2]))) d = put (put S0 p (drw p (m + 20))) a (.raw (.lst (rs.map SaleR.pv))) := rmv_put (by rw [put_ne g6, put_ne g5]; exact g7)
        simp only [startP, List.map_cons, List.map_nil, List.length_cons, List.length_nil, Nat.reduceAdd, Nat.reduceSub, List.reduceReplicate, List.cons_append, List.nil_append, List.append_nil, wSeq, wAsg, wgN, wgNil, wgCons, wgTup, wDrop, wRet, wRetN, wNext, wBrk, wCont, wIfS, wV, nth, stV, wC, wOp, wUn, wBool, wChain, wTru, truP, wAnd, wOr, wNot, wIfE, wAndV, wOrV, wNotV, wNil, wCons, wTup, wLst, wLstM, wCB, wPar, wPar3, wAug, wFor, wiRng1, wiRng2, seqL, seqO, rows, subP, fdivP, modP, powP, mulP, CDiv, CPow, CMul, neP, ltP, leP, gtP, geP, isNon, isP, isNotP, lenO, lenP, absP, min2P, max2P, listP, tupleP, allP, sumP, intCP, isinP, tysOf, seqK, keyOf, dgetP, wNoPart, wPart, slcMP, wSl, wRevL, tyM, wBm, appendP, popAtP, joinP, wDnewM, wPairs, wCall, wCallK, wFrz, wDput, dputP, eqNilP, List.isEmpty_nil, List.isEmpty_cons, Bool.not_true, Bool.not_false, Bool.true_eq_false, Bool.false_eq_true, and_true, true_and, ↓reduceIte, Int.reduceToNat, Int.reducePow, Int.reduceNeg, Int.reduceAdd, Int.reduceSub, Int.reduceMul, Nat.reduceMul, Nat.reduceLT, Nat.reduceLeDiff, isB, String.reduceBEq, Bool.or_true, Bool.or_false, Bool.and_true, Bool.and_false, Bool.true_and, Bool.false_and, Bool.false_or, Bool.true_or, Int.cast_ofNat_Int, Int.reduceBEq, Int.reduceBNe, BEq.rfl, wYes, wCut, pow_ok9, pow_ok18, pow_ok30, line_eq, put_same, put_put, List.mem_cons, List.not_mem_nil, or_false, addP_int, addP_str, addP_tup, addP_lst, intP_int, intP0_int, ordP_int, eqP_int, eqP_str, eqP_bl, eqP_non, ixP_str, ixP_lst, ixP_tup, ixP_scr, slcP_str, slcP_tup, slcP_lst, wiSeq_eq, walkP_tup, walkP_str, walkP_lst, walkP_scr, rdS, put_ne (Ne.symm g6)]
        refine ⟨d, [PV.str r1, PV.str r2], rfl, put_same, ?_⟩
        simp only [startP, List.map_cons, List.map_nil, List.length_cons, List.length_nil, Nat.reduceAdd, Nat.reduceSub, List.reduceReplicate, List.cons_append, List.nil_append, List.append_nil, wSeq, wAsg, wgN, wgNil, wgCons, wgTup, wDrop, wRet, wRetN, wNext, wBrk, wCont, wIfS, wV, nth, stV, wC, wOp, wUn, wBool, wChain, wTru, truP, wAnd, wOr, wNot, wIfE, wAndV, wOrV, wNotV, wNil, wCons, wTup, wLst, wLstM, wCB, wPar, wPar3, wAug, wFor, wiRng1, wiRng2, seqL, seqO, rows, subP, fdivP, modP, powP, mulP, CDiv, CPow, CMul, neP, ltP, leP, gtP, geP, isNon, isP, isNotP, lenO, lenP, absP, min2P, max2P, listP, tupleP, allP, sumP, intCP, isinP, tysOf, seqK, keyOf, dgetP, wNoPart, wPart, slcMP, wSl, wRevL, tyM, wBm, appendP, popAtP, joinP, wDnewM, wPairs, wCall, wCallK, wFrz, wDput, dputP, eqNilP, List.isEmpty_nil, List.isEmpty_cons, Bool.not_true, Bool.not_false, Bool.true_eq_false, Bool.false_eq_true, and_true, true_and, ↓reduceIte, Int.reduceToNat, Int.reducePow, Int.reduceNeg, Int.reduceAdd, Int.reduceSub, Int.reduceMul, Nat.reduceMul, Nat.reduceLT, Nat.reduceLeDiff, isB, String.reduceBEq, Bool.or_true, Bool.or_false, Bool.and_true, Bool.and_false, Bool.true_and, Bool.false_and, Bool.false_or, Bool.true_or, Int.cast_ofNat_Int, Int.reduceBEq, Int.reduceBNe, BEq.rfl, wYes, wCut, pow_ok9, pow_ok18, pow_ok30, line_eq, put_same, put_put, List.mem_cons, List.not_mem_nil, or_false, addP_int, addP_str, addP_tup, addP_lst, intP_int, intP0_int, ordP_int, eqP_int, eqP_str, eqP_bl, eqP_non, ixP_str, ixP_lst, ixP_tup, ixP_scr, slcP_str, slcP_tup, slcP_lst, wiSeq_eq, walkP_tup, walkP_str, walkP_lst, walkP_scr, rm]
        exact ⟨by rw [List.length_map]; omega, by rw [List.map_append]; rfl⟩
      rintro ρ S ⟨rfl, rfl⟩
      simp only [startP, List.map_cons, List.map_nil, List.length_cons, List.length_nil, Nat.reduceAdd, Nat.reduceSub, List.reduceReplicate, List.cons_append, List.nil_append, List.append_nil, wSeq, wAsg, wgN, wgNil, wgCons, wgTup, wDrop, wRet, wRetN, wNext, wBrk, wCont, wIfS, wV, nth, stV, wC, wOp, wUn, wBool, wChain, wTru, truP, wAnd, wOr, wNot, wIfE, wAndV, wOrV, wNotV, wNil, wCons, wTup, wLst, wLstM, wCB, wPar, wPar3, wAug, wFor, wiRng1, wiRng2, seqL, seqO, rows, subP, fdivP, modP, powP, mulP, CDiv, CPow, CMul, neP, ltP, leP, gtP, geP, isNon, isP, isNotP, lenO, lenP, absP, min2P, max2P, listP, tupleP, allP, sumP, intCP, isinP, tysOf, seqK, keyOf, dgetP, wNoPart, wPart, slcMP, wSl, wRevL, tyM, wBm, appendP, popAtP, joinP, wDnewM, wPairs, wCall, wCallK, wFrz, wDput, dputP, eqNilP, List.isEmpty_nil, List.isEmpty_cons, Bool.not_true, Bool.not_false, Bool.true_eq_false, Bool.false_eq_true, and_true, true_and, ↓reduceIte, Int.reduceToNat, Int.reducePow, Int.reduceNeg, Int.reduceAdd, Int.reduceSub, Int.reduceMul, Nat.reduceMul, Nat.reduceLT, Nat.reduceLeDiff, isB, String.reduceBEq, Bool.or_true, Bool.or_false, Bool.and_true, Bool.and_false, Bool.true_and, Bool.false_and, Bool.false_or, Bool.true_or, Int.cast_ofNat_Int, Int.reduceBEq, Int.reduceBNe, BEq.rfl, wYes, wCut, pow_ok9, pow_ok18, pow_ok30, line_eq, put_same, put_put, List.mem_cons, List.not_mem_nil, or_false, addP_int, addP_str, addP_tup, addP_lst, intP_int, intP0_int, ordP_int, eqP_int, eqP_str, eqP_bl, eqP_non, ixP_str, ixP_lst, ixP_tup, ixP_scr, slcP_str, slcP_tup, slcP_lst, wiSeq_eq, walkP_tup, walkP_str, walkP_lst, walkP_scr]
      refine ⟨done ++ [x], by rw [ed, List.append_assoc]; rfl, rs ++ [SaleR.mk n2 sl by_ pr pe tm r1 r2], m + 20, n2, by_, some x, some (.str by_), some (.ref d), some (.tup [.int n2, .str sl, .str by_, .int pr, .int pe, tm]), by rw [List.length_append, List.length_append, e1]; rfl, ?_, by omega, ?_, g3, e6.snoc (r := SaleR.mk n2 sl by_ pr pe tm r1 r2) ⟨by show 1 ≤ n2; omega, e5, g3, g4, g10, g11, g12, g8, g9⟩ g1 rfl, rfl, rfl⟩
      · rw [List.length_append]
        show m + 20 ≤ n + 1 + 20 * (done.length + 1)
        omega
      · rw [List.length_append]
        show n2 ≤ 52 * ((done.length + 1 : Nat) : Int)
        omega
  rintro ρ S ⟨rs, m, num, sl, t, v, u, z, e1, e2, e3, e4, e5, e6, rfl, rfl⟩
  simp only [startP, List.map_cons, List.map_nil, List.length_cons, List.length_nil, Nat.reduceAdd, Nat.reduceSub, List.reduceReplicate, List.cons_append, List.nil_append, List.append_nil, wSeq, wAsg, wgN, wgNil, wgCons, wgTup, wDrop, wRet, wRetN, wNext, wBrk, wCont, wIfS, wV, nth, stV, wC, wOp, wUn, wBool, wChain, wTru, truP, wAnd, wOr, wNot, wIfE, wAndV, wOrV, wNotV, wNil, wCons, wTup, wLst, wLstM, wCB, wPar, wPar3, wAug, wFor, wiRng1, wiRng2, seqL, seqO, rows, subP, fdivP, modP, powP, mulP, CDiv, CPow, CMul, neP, ltP, leP, gtP, geP, isNon, isP, isNotP, lenO, lenP, absP, min2P, max2P, listP, tupleP, allP, sumP, intCP, isinP, tysOf, seqK, keyOf, dgetP, wNoPart, wPart, slcMP, wSl, wRevL, tyM, wBm, appendP, popAtP, joinP, wDnewM, wPairs, wCall, wCallK, wFrz, wDput, dputP, eqNilP, List.isEmpty_nil, List.isEmpty_cons, Bool.not_true, Bool.not_false, Bool.true_eq_false, Bool.false_eq_true, and_true, true_and, ↓reduceIte, Int.reduceToNat, Int.reducePow, Int.reduceNeg, Int.reduceAdd, Int.reduceSub, Int.reduceMul, Nat.reduceMul, Nat.reduceLT, Nat.reduceLeDiff, isB, String.reduceBEq, Bool.or_true, Bool.or_false, Bool.and_true, Bool.and_false, Bool.true_and, Bool.false_and, Bool.false_or, Bool.true_or, Int.cast_ofNat_Int, Int.reduceBEq, Int.reduceBNe, BEq.rfl, wYes, wCut, pow_ok9, pow_ok18, pow_ok30, line_eq, put_same, put_put, List.mem_cons, List.not_mem_nil, or_false, addP_int, addP_str, addP_tup, addP_lst, intP_int, intP0_int, ordP_int, eqP_int, eqP_str, eqP_bl, eqP_non, ixP_str, ixP_lst, ixP_tup, ixP_scr, slcP_str, slcP_tup, slcP_lst, wiSeq_eq, walkP_tup, walkP_str, walkP_lst, walkP_scr]
  refine ⟨a, rs.map SaleR.pv, rfl, put_same, ?_⟩
  rw [rmv_put (by rw [put_ne nb]; exact ha)]
  exact q rs m num sl e1 e6 (by omega) (by omega)

theorem ok_is_segment (T : Tx K mg base) : FnG P w K mg base 4 T.f_is_segment T.d_is_segment ["value"] (pure1 SegX fun x => .bl (isSeg x)) := by
  refine okG T.F_is_segment sc_is_segment pure1_len fun cdv A outer s H EX F0 xs S0 Q E hG hr hp tk h => ?_
  unfold pure1 at h
  split at h
  · rename_i x
    obtain ⟨h, q⟩ := h
    refine ⟨_, (wss_cons (ws_if (WW.wt (ww_or (wt_not (wt_tru (we_callB cw_isi T.m_isinstance (wa_cons (we_var 0) (wa_cons (we_bty (n := "tuple") T.m_tuple) wa_nil))))) (ww_or (wt_cmp (ow_ne hr.units) (we_callB cw_len T.m_len (wa_cons (we_var 0) wa_nil)) we_int) (ww_or1 (wt_not (wt_tru (we_callB cw_isi T.m_isinstance (wa_cons (we_ix (we_var 0) we_int) (wa_cons (we_bty (n := "bool") T.m_bool) wa_nil)))))))))
  (wss_one (ws_ret we_bl))
  wss_nil)
  (wss_cons (ws_set 1 sc_is_segment.nd (we_ix (we_var 0) we_int))
  (wss_cons (ws_if (WW.wt (ww_or (wt_not (wt_tru (we_callB cw_isi T.m_isinstance (wa_cons (we_var 1) (wa_cons (we_bty (n := "tuple") T.m_tuple) wa_nil))))) (ww_or (wt_cmp (ow_eqNilT hr.units) (we_var 1) (we_tup wa_nil)) (ww_or1 (wt_not (wt_tru (we_callB (cw_all rfl) T.m_all (wa_cons (we_lc (mk := false) rfl sc_is_segment.nd (wi_seq (we_var 1)) (own := [("sale", 2)]) (blkOk_by (N := N_is_segment) (sc := defScope s_is_segment) (by decide +kernel)) (fun _ _ _ _ _ => (wg_name 2 sc_is_segment.nd)) (by decide) (fun _ _ _ _ _ => wts_nil) (fun _ _ _ _ _ => (we_call (ok_is_sale T) hG (hr.mono (by decide)) T.g_is_sale T.F_is_sale.kp T.b_is_sale dflt0 tk0 (wa_cons (we_var 2) wa_nil)))) wa_nil))))))))
  (wss_one (ws_ret we_bl))
  wss_nil)
  (wss_one (ws_ret (we_callB (cw_all rfl) T.m_all (wa_cons (we_lc (mk := false) rfl sc_is_segment.nd (wi_zip T.m_zip (wa_cons (we_var 1) (wa_cons (we_sl sw_slc (we_var 1) (wo_some we_int) wo_none) wa_nil))) (own := [("one", 3), ("other", 4)]) (blkOk_by (N := N_is_segment) (sc := defScope s_is_segment) (by decide +kernel)) (fun _ _ _ _ _ => (wg_tup (n := 2) rfl (wgs_cons (wg_name 3 sc_is_segment.nd) (wgs_cons (wg_name 4 sc_is_segment.nd) wgs_nil)))) (by decide) (fun _ _ _ _ _ => wts_nil) (fun _ _ _ _ _ => (we_and (we_cmp ow_lt (we_ix (we_var 3) we_int) (we_ix (we_var 4) we_int)) (we_one (we_cmp (ow_eq hr.units) (we_ix (we_var 3) we_int) (we_ix (we_var 4) we_int)))))) wa_nil))))))), ?_⟩
    cases h with
    | oth hp hn => cases x <;> first | cases hp; done | (exact absurd rfl (hn _)) | (simp only [startP, List.map_cons, List.map_nil, List.length_cons, List.length_nil, Nat.reduceAdd, Nat.reduceSub, List.reduceReplicate, List.cons_append, List.nil_append, List.append_nil, wSeq, wAsg, wgN, wgNil, wgCons, wgTup, wDrop, wRet, wRetN, wNext, wBrk, wCont, wIfS, wV, nth, stV, wC, wOp, wUn, wBool, wChain, wTru, truP, wAnd, wOr, wNot, wIfE, wAndV, wOrV, wNotV, wNil, wCons, wTup, wLst, wLstM, wCB, wPar, wPar3, wAug, wFor, wiRng1, wiRng2, seqL, seqO, rows, subP, fdivP, modP, powP, mulP, CDiv, CPow, CMul, neP, ltP, leP, gtP, geP, isNon, isP, isNotP, lenO, lenP, absP, min2P, max2P, listP, tupleP, allP, sumP, intCP, isinP, tysOf, seqK, keyOf, dgetP, wNoPart, wPart, slcMP, wSl, wRevL, tyM, wBm, appendP, popAtP, joinP, wDnewM, wPairs, wCall, wCallK, wFrz, wDput, dputP, eqNilP, List.isEmpty_nil, List.isEmpty_cons, Bool.not_true, Bool.not_false, Bool.true_eq_false, Bool.false_eq_true, and_true, true_and, ↓reduceIte, Int.reduceToNat, Int.reducePow, Int.reduceNeg, Int.reduceAdd, Int.reduceSub, Int.reduceMul, Nat.reduceMul, Nat.reduceLT, Nat.reduceLeDiff, isB, String.reduceBEq, Bool.or_true, Bool.or_false, Bool.and_true, Bool.and_false, Bool.true_and, Bool.false_and, Bool.false_or, Bool.true_or, Int.cast_ofNat_Int, Int.reduceBEq, Int.reduceBNe, BEq.rfl, wYes, wCut, pow_ok9, pow_ok18, pow_ok30, line_eq, put_same, put_put, List.mem_cons, List.not_mem_nil, or_false, addP_int, addP_str, addP_tup, addP_lst, intP_int, intP0_int, ordP_int, eqP_int, eqP_str, eqP_bl, eqP_non, ixP_str, ixP_lst, ixP_tup, ixP_scr, slcP_str, slcP_tup, slcP_lst, wiSeq_eq, walkP_tup, walkP_str, walkP_lst, walkP_scr, wRevA, revP_str, revP_tup, revP_lst, eqNilT_tup, addBP_bl, addBP_int, addBP_str, addBP_tup, addBP_lst, subBP_bl, subBP_int, strCP_int, strCP_str, wiZip, zipsP, N_is_segment, kind_tuple, tyN]; exact q)
    | @tup xs hx hr2 =>
      rcases two_or (xs := xs) with hl | ⟨a, b, rfl⟩
      · have e0 : ((xs.length : Int) == 2) = false := beq_eq_false_iff_ne.mpr (by omega)
        simp only [startP, List.map_cons, List.map_nil, List.length_cons, List.length_nil, Nat.reduceAdd, Nat.reduceSub, List.reduceReplicate, List.cons_append, List.nil_append, List.append_nil, wSeq, wAsg, wgN, wgNil, wgCons, wgTup, wDrop, wRet, wRetN, wNext, wBrk, wCont, wIfS, wV, nth, stV, wC, wOp, wUn, wBool, wChain, wTru, truP, wAnd, wOr, wNot, wIfE, wAndV, wOrV, wNotV, wNil, wCons, wTup, wLst, wLstM, wCB, wPar, wPar3, wAug, wFor, wiRng1, wiRng2, seqL, seqO, rows, subP, fdivP, modP, powP, mulP, CDiv, CPow, CMul, neP, ltP, leP, gtP, geP, isNon, isP, isNotP, lenO, lenP, absP, min2P, max2P, listP, tupleP, allP, sumP, intCP, isinP, tysOf, seqK, keyOf, dgetP, wNoPart, wPart, slcMP, wSl, wRevL, tyM, wBm, appendP, popAtP, joinP, wDnewM, wPairs, wCall, wCallK, wFrz, wDput, dputP, eqNilP, List.isEmpty_nil, List.isEmpty_cons, Bool.not_true, Bool.not_false, Bool.true_eq_false, Bool.false_eq_true, and_true, true_and, ↓reduceIte, Int.reduceToNat, Int.reducePow, Int.reduceNeg, Int.reduceAdd, Int.reduceSub, Int.reduceMul, Nat.reduceMul, Nat.reduceLT, Nat.reduceLeDiff, isB, String.reduceBEq, Bool.or_true, Bool.or_false, Bool.and_true, Bool.and_false, Bool.true_and, Bool.false_and, Bool.false_or, Bool.true_or, Int.cast_ofNat_Int, Int.reduceBEq, Int.reduceBNe, BEq.rfl, wYes, wCut, pow_ok9, pow_ok18, pow_ok30, line_eq, put_same, put_put, List.mem_cons, List.not_mem_nil, or_false, addP_int, addP_str, addP_tup, addP_lst, intP_int, intP0_int, ordP_int, eqP_int, eqP_str, eqP_bl, eqP_non, ixP_str, ixP_lst, ixP_tup, ixP_scr, slcP_str, slcP_tup, slcP_lst, wiSeq_eq, walkP_tup, walkP_str, walkP_lst, walkP_scr, wRevA, revP_str, revP_tup, revP_lst, eqNilT_tup, addBP_bl, addBP_int, addBP_str, addBP_tup, addBP_lst, subBP_bl, subBP_int, strCP_int, strCP_str, wiZip, zipsP, N_is_segment, kind_tuple, tyN, e0]
        replace q : Q (.bl (isSeg (.tup xs))) S0 := q
        rwa [not_two hl] at q
      · have ha := hx a (by simp)
        have hb := hx b (by simp)
        have i0 : atI [a, b] 0 = some a := rfl
        have i1 : atI [a, b] 1 = some b := rfl
        simp only [startP, List.map_cons, List.map_nil, List.length_cons, List.length_nil, Nat.reduceAdd, Nat.reduceSub, List.reduceReplicate, List.cons_append, List.nil_append, List.append_nil, wSeq, wAsg, wgN, wgNil, wgCons, wgTup, wDrop, wRet, wRetN, wNext, wBrk, wCont, wIfS, wV, nth, stV, wC, wOp, wUn, wBool, wChain, wTru, truP, wAnd, wOr, wNot, wIfE, wAndV, wOrV, wNotV, wNil, wCons, wTup, wLst, wLstM, wCB, wPar, wPar3, wAug, wFor, wiRng1, wiRng2, seqL, seqO, rows, subP, fdivP, modP, powP, mulP, CDiv, CPow, CMul, neP, ltP, leP, gtP, geP, isNon, isP, isNotP, lenO, lenP, absP, min2P, max2P, listP, tupleP, allP, sumP, intCP, isinP, tysOf, seqK, keyOf, dgetP, wNoPart, wPart, slcMP, wSl, wRevL, tyM, wBm, appendP, popAtP, joinP, wDnewM, wPairs, wCall, wCallK, wFrz, wDput, dputP, eqNilP, List.isEmpty_nil, List.isEmpty_cons, Bool.not_true, Bool.not_false, Bool.true_eq_false, Bool.false_eq_true, and_true, true_and, ↓reduceIte, Int.reduceToNat, Int.reducePow, Int.reduceNeg, Int.reduceAdd, Int.reduceSub, Int.reduceMul, Nat.reduceMul, Nat.reduceLT, Nat.reduceLeDiff, isB, String.reduceBEq, Bool.or_true, Bool.or_false, Bool.and_true, Bool.and_false, Bool.true_and, Bool.false_and, Bool.false_or, Bool.true_or, Int.cast_ofNat_Int, Int.reduceBEq, Int.reduceBNe, BEq.rfl, wYes, wCut, pow_ok9, pow_ok18, pow_ok30, line_eq, put_same, put_put, List.mem_cons, List.not_mem_nil, or_false, addP_int, addP_str, addP_tup, addP_lst, intP_int, intP0_int, ordP_int, eqP_int, eqP_str, eqP_bl, eqP_non, ixP_str, ixP_lst, ixP_tup, ixP_scr, slcP_str, slcP_tup, slcP_lst, wiSeq_eq, walkP_tup, walkP_str, walkP_lst, walkP_scr, wRevA, revP_str, revP_tup, revP_lst, eqNilT_tup, addBP_bl, addBP_int, addBP_str, addBP_tup, addBP_lst, subBP_bl, subBP_int, strCP_int, strCP_str, wiZip, zipsP, N_is_segment, kind_tuple, kind_bool, tyN, i0, i1, wLc]
        cases b with
        | bl bb =>
          cases a with
          | tup rr =>
            obtain ⟨hrr, hrl⟩ := hr2 rr (by simp)
            replace q : Q (.bl (!rr.isEmpty && rr.all isSal && linked rr)) S0 := q
            have hrl2 : rr.length ≤ sizeLine := Nat.le_trans hrl (by decide)
            cases e0 : rr.isEmpty with
            | true => simp only [e0, startP, List.map_cons, List.map_nil, List.length_cons, List.length_nil, Nat.reduceAdd, Nat.reduceSub, List.reduceReplicate, List.cons_append, List.nil_append, List.append_nil, wSeq, wAsg, wgN, wgNil, wgCons, wgTup, wDrop, wRet, wRetN, wNext, wBrk, wCont, wIfS, wV, nth, stV, wC, wOp, wUn, wBool, wChain, wTru, truP, wAnd, wOr, wNot, wIfE, wAndV, wOrV, wNotV, wNil, wCons, wTup, wLst, wLstM, wCB, wPar, wPar3, wAug, wFor, wiRng1, wiRng2, seqL, seqO, rows, subP, fdivP, modP, powP, mulP, CDiv, CPow, CMul, neP, ltP, leP, gtP, geP, isNon, isP, isNotP, lenO, lenP, absP, min2P, max2P, listP, tupleP, allP, sumP, intCP, isinP, tysOf, seqK, keyOf, dgetP, wNoPart, wPart, slcMP, wSl, wRevL, tyM, wBm, appendP, popAtP, joinP, wDnewM, wPairs, wCall, wCallK, wFrz, wDput, dputP, eqNilP, List.isEmpty_nil, List.isEmpty_cons, Bool.not_true, Bool.not_false, Bool.true_eq_false, Bool.false_eq_true, and_true, true_and, ↓reduceIte, Int.reduceToNat, Int.reducePow, Int.reduceNeg, Int.reduceAdd, Int.reduceSub, Int.reduceMul, Nat.reduceMul, Nat.reduceLT, Nat.reduceLeDiff, isB, String.reduceBEq, Bool.or_true, Bool.or_false, Bool.and_true, Bool.and_false, Bool.true_and, Bool.false_and, Bool.false_or, Bool.true_or, Int.cast_ofNat_Int, Int.reduceBEq, Int.reduceBNe, BEq.rfl, wYes, wCut, pow_ok9, pow_ok18, pow_ok30, line_eq, put_same, put_put, List.mem_cons, List.not_mem_nil, or_false, addP_int, addP_str, addP_tup, addP_lst, intP_int, intP0_int, ordP_int, eqP_int, eqP_str, eqP_bl, eqP_non, ixP_str, ixP_lst, ixP_tup, ixP_scr, slcP_str, slcP_tup, slcP_lst, wiSeq_eq, walkP_tup, walkP_str, walkP_lst, walkP_scr, wRevA, revP_str, revP_tup, revP_lst, eqNilT_tup, addBP_bl, addBP_int, addBP_str, addBP_tup, addBP_lst, subBP_bl, subBP_int, strCP_int, strCP_str, wiZip, zipsP] at q ⊢; exact q
            | false =>
            simp only [e0, startP, List.map_cons, List.map_nil, List.length_cons, List.length_nil, Nat.reduceAdd, Nat.reduceSub, List.reduceReplicate, List.cons_append, List.nil_append, List.append_nil, wSeq, wAsg, wgN, wgNil, wgCons, wgTup, wDrop, wRet, wRetN, wNext, wBrk, wCont, wIfS, wV, nth, stV, wC, wOp, wUn, wBool, wChain, wTru, truP, wAnd, wOr, wNot, wIfE, wAndV, wOrV, wNotV, wNil, wCons, wTup, wLst, wLstM, wCB, wPar, wPar3, wAug, wFor, wiRng1, wiRng2, seqL, seqO, rows, subP, fdivP, modP, powP, mulP, CDiv, CPow, CMul, neP, ltP, leP, gtP, geP, isNon, isP, isNotP, lenO, lenP, absP, min2P, max2P, listP, tupleP, allP, sumP, intCP, isinP, tysOf, seqK, keyOf, dgetP, wNoPart, wPart, slcMP, wSl, wRevL, tyM, wBm, appendP, popAtP, joinP, wDnewM, wPairs, wCall, wCallK, wFrz, wDput, dputP, eqNilP, List.isEmpty_nil, List.isEmpty_cons, Bool.not_true, Bool.not_false, Bool.true_eq_false, Bool.false_eq_true, and_true, true_and, ↓reduceIte, Int.reduceToNat, Int.reducePow, Int.reduceNeg, Int.reduceAdd, Int.reduceSub, Int.reduceMul, Nat.reduceMul, Nat.reduceLT, Nat.reduceLeDiff, isB, String.reduceBEq, Bool.or_true, Bool.or_false, Bool.and_true, Bool.and_false, Bool.true_and, Bool.false_and, Bool.false_or, Bool.true_or, Int.cast_ofNat_Int, Int.reduceBEq, Int.reduceBNe, BEq.rfl, wYes, wCut, pow_ok9, pow_ok18, pow_ok30, line_eq, put_same, put_put, List.mem_cons, List.not_mem_nil, or_false, addP_int, addP_str, addP_tup, addP_lst, intP_int, intP0_int, ordP_int, eqP_int, eqP_str, eqP_bl, eqP_non, ixP_str, ixP_lst, ixP_tup, ixP_scr, slcP_str, slcP_tup, slcP_lst, wiSeq_eq, walkP_tup, walkP_str, walkP_lst, walkP_scr, wRevA, revP_str, revP_tup, revP_lst, eqNilT_tup, addBP_bl, addBP_int, addBP_str, addBP_tup, addBP_lst, subBP_bl, subBP_int, strCP_int, strCP_str, wiZip, zipsP] at q ⊢
            intro D hD
            refine lc_pureF (fun x => some (.bl (isSal x))) hrl2 hD (fun x hx S' R1 R0 _ k1 k0 => ?_) (fun _ _ => trivial) ?_
            · have hx3 := hrr x hx
              simp only [startP, List.map_cons, List.map_nil, List.length_cons, List.length_nil, Nat.reduceAdd, Nat.reduceSub, List.reduceReplicate, List.cons_append, List.nil_append, List.append_nil, wSeq, wAsg, wgN, wgNil, wgCons, wgTup, wDrop, wRet, wRetN, wNext, wBrk, wCont, wIfS, wV, nth, stV, wC, wOp, wUn, wBool, wChain, wTru, truP, wAnd, wOr, wNot, wIfE, wAndV, wOrV, wNotV, wNil, wCons, wTup, wLst, wLstM, wCB, wPar, wPar3, wAug, wFor, wiRng1, wiRng2, seqL, seqO, rows, subP, fdivP, modP, powP, mulP, CDiv, CPow, CMul, neP, ltP, leP, gtP, geP, isNon, isP, isNotP, lenO, lenP, absP, min2P, max2P, listP, tupleP, allP, sumP, intCP, isinP, tysOf, seqK, keyOf, dgetP, wNoPart, wPart, slcMP, wSl, wRevL, tyM, wBm, appendP, popAtP, joinP, wDnewM, wPairs, wCall, wCallK, wFrz, wDput, dputP, eqNilP, List.isEmpty_nil, List.isEmpty_cons, Bool.not_true, Bool.not_false, Bool.true_eq_false, Bool.false_eq_true, and_true, true_and, ↓reduceIte, Int.reduceToNat, Int.reducePow, Int.reduceNeg, Int.reduceAdd, Int.reduceSub, Int.reduceMul, Nat.reduceMul, Nat.reduceLT, Nat.reduceLeDiff, isB, String.reduceBEq, Bool.or_true, Bool.or_false, Bool.and_true, Bool.and_false, Bool.true_and, Bool.false_and, Bool.false_or, Bool.true_or, Int.cast_ofNat_Int, Int.reduceBEq, Int.reduceBNe, BEq.rfl, wYes, wCut, pow_ok9, pow_ok18, pow_ok30, line_eq, put_same, put_put, List.mem_cons, List.not_mem_nil, or_false, addP_int, addP_str, addP_tup, addP_lst, intP_int, intP0_int, ordP_int, eqP_int, eqP_str, eqP_bl, eqP_non, ixP_str, ixP_lst, ixP_tup, ixP_scr, slcP_str, slcP_tup, slcP_lst, wiSeq_eq, walkP_tup, walkP_str, walkP_lst, walkP_scr, wRevA, revP_str, revP_tup, revP_lst, eqNilT_tup, addBP_bl, addBP_int, addBP_str, addBP_tup, addBP_lst, subBP_bl, subBP_int, strCP_int, strCP_str, wiZip, zipsP, wipeP, pure1, hx3]
              exact k1 _ rfl
            · simp only [filterMap_some, boolsOf_f, all_id, startP, List.map_cons, List.map_nil, List.length_cons, List.length_nil, Nat.reduceAdd, Nat.reduceSub, List.reduceReplicate, List.cons_append, List.nil_append, List.append_nil, wSeq, wAsg, wgN, wgNil, wgCons, wgTup, wDrop, wRet, wRetN, wNext, wBrk, wCont, wIfS, wV, nth, stV, wC, wOp, wUn, wBool, wChain, wTru, truP, wAnd, wOr, wNot, wIfE, wAndV, wOrV, wNotV, wNil, wCons, wTup, wLst, wLstM, wCB, wPar, wPar3, wAug, wFor, wiRng1, wiRng2, seqL, seqO, rows, subP, fdivP, modP, powP, mulP, CDiv, CPow, CMul, neP, ltP, leP, gtP, geP, isNon, isP, isNotP, lenO, lenP, absP, min2P, max2P, listP, tupleP, allP, sumP, intCP, isinP, tysOf, seqK, keyOf, dgetP, wNoPart, wPart, slcMP, wSl, wRevL, tyM, wBm, appendP, popAtP, joinP, wDnewM, wPairs, wCall, wCallK, wFrz, wDput, dputP, eqNilP, List.isEmpty_nil, List.isEmpty_cons, Bool.not_true, Bool.not_false, Bool.true_eq_false, Bool.false_eq_true, and_true, true_and, ↓reduceIte, Int.reduceToNat, Int.reducePow, Int.reduceNeg, Int.reduceAdd, Int.reduceSub, Int.reduceMul, Nat.reduceMul, Nat.reduceLT, Nat.reduceLeDiff, isB, String.reduceBEq, Bool.or_true, Bool.or_false, Bool.and_true, Bool.and_false, Bool.true_and, Bool.false_and, Bool.false_or, Bool.true_or, Int.cast_ofNat_Int, Int.reduceBEq, Int.reduceBNe, BEq.rfl, wYes, wCut, pow_ok9, pow_ok18, pow_ok30, line_eq, put_same, put_put, List.mem_cons, List.not_mem_nil, or_false, addP_int, addP_str, addP_tup, addP_lst, intP_int, intP0_int, ordP_int, eqP_int, eqP_str, eqP_bl, eqP_non, ixP_str, ixP_lst, ixP_tup, ixP_scr, slcP_str, slcP_tup, slcP_lst, wiSeq_eq, walkP_tup, walkP_str, walkP_lst, walkP_scr, wRevA, revP_str, revP_tup, revP_lst, eqNilT_tup, addBP_bl, addBP_int, addBP_str, addBP_tup, addBP_lst, subBP_bl, subBP_int, strCP_int, strCP_str, wiZip, zipsP]
              cases e1 : rr.all isSal with
              | false => simp only [e1, startP, List.map_cons, List.map_nil, List.length_cons, List.length_nil, Nat.reduceAdd, Nat.reduceSub, List.reduceReplicate, List.cons_append, List.nil_append, List.append_nil, wSeq, wAsg, wgN, wgNil, wgCons, wgTup, wDrop, wRet, wRetN, wNext, wBrk, wCont, wIfS, wV, nth, stV, wC, wOp, wUn, wBool, wChain, wTru, truP, wAnd, wOr, wNot, wIfE, wAndV, wOrV, wNotV, wNil, wCons, wTup, wLst, wLstM, wCB, wPar, wPar3, wAug, wFor, wiRng1, wiRng2, seqL, seqO, rows, subP, fdivP, modP, powP, mulP, CDiv, CPow, CMul, neP, ltP, leP, gtP, geP, isNon, isP, isNotP, lenO, lenP, absP, min2P, max2P, listP, tupleP, allP, sumP, intCP, isinP, tysOf, seqK, keyOf, dgetP, wNoPart, wPart, slcMP, wSl, wRevL, tyM, wBm, appendP, popAtP, joinP, wDnewM, wPairs, wCall, wCallK, wFrz, wDput, dputP, eqNilP, List.isEmpty_nil, List.isEmpty_cons, Bool.not_true, Bool.not_false, Bool.true_eq_false, Bool.false_eq_true, and_true, true_and, ↓reduceIte, Int.reduceToNat, Int.reducePow, Int.reduceNeg, Int.reduceAdd, Int.reduceSub, Int.reduceMul, Nat.reduceMul, Nat.reduceLT, Nat.reduceLeDiff, isB, String.reduceBEq, Bool.or_true, Bool.or_false, Bool.and_true, Bool.and_false, Bool.true_and, Bool.false_and, Bool.false_or, Bool.true_or, Int.cast_ofNat_Int, Int.reduceBEq, Int.reduceBNe, BEq.rfl, wYes, wCut, pow_ok9, pow_ok18, pow_ok30, line_eq, put_same, put_put, List.mem_cons, List.not_mem_nil, or_false, addP_int, addP_str, addP_tup, addP_lst, intP_int, intP0_int, ordP_int, eqP_int, eqP_str, eqP_bl, eqP_non, ixP_str, ixP_lst, ixP_tup, ixP_scr, slcP_str, slcP_tup, slcP_lst, wiSeq_eq, walkP_tup, walkP_str, walkP_lst, walkP_scr, wRevA, revP_str, revP_tup, revP_lst, eqNilT_tup, addBP_bl, addBP_int, addBP_str, addBP_tup, addBP_lst, subBP_bl, subBP_int, strCP_int, strCP_str, wiZip, zipsP] at q ⊢; exact q
              | true =>
              simp only [e1, cut_one, startP, List.map_cons, List.map_nil, List.length_cons, List.length_nil, Nat.reduceAdd, Nat.reduceSub, List.reduceReplicate, List.cons_append, List.nil_append, List.append_nil, wSeq, wAsg, wgN, wgNil, wgCons, wgTup, wDrop, wRet, wRetN, wNext, wBrk, wCont, wIfS, wV, nth, stV, wC, wOp, wUn, wBool, wChain, wTru, truP, wAnd, wOr, wNot, wIfE, wAndV, wOrV, wNotV, wNil, wCons, wTup, wLst, wLstM, wCB, wPar, wPar3, wAug, wFor, wiRng1, wiRng2, seqL, seqO, rows, subP, fdivP, modP, powP, mulP, CDiv, CPow, CMul, neP, ltP, leP, gtP, geP, isNon, isP, isNotP, lenO, lenP, absP, min2P, max2P, listP, tupleP, allP, sumP, intCP, isinP, tysOf, seqK, keyOf, dgetP, wNoPart, wPart, slcMP, wSl, wRevL, tyM, wBm, appendP, popAtP, joinP, wDnewM, wPairs, wCall, wCallK, wFrz, wDput, dputP, eqNilP, List.isEmpty_nil, List.isEmpty_cons, Bool.not_true, Bool.not_false, Bool.true_eq_false, Bool.false_eq_true, and_true, true_and, ↓reduceIte, Int.reduceToNat, Int.reducePow, Int.reduceNeg, Int.reduceAdd, Int.reduceSub, Int.reduceMul, Nat.reduceMul, Nat.reduceLT, Nat.reduceLeDiff, isB, String.reduceBEq, Bool.or_true, Bool.or_false, Bool.and_true, Bool.and_false, Bool.true_and, Bool.false_and, Bool.false_or, Bool.true_or, Int.cast_ofNat_Int, Int.reduceBEq, Int.reduceBNe, BEq.rfl, wYes, wCut, pow_ok9, pow_ok18, pow_ok30, line_eq, put_same, put_put, List.mem_cons, List.not_mem_nil, or_false, addP_int, addP_str, addP_tup, addP_lst, intP_int, intP0_int, ordP_int, eqP_int, eqP_str, eqP_bl, eqP_non, ixP_str, ixP_lst, ixP_tup, ixP_scr, slcP_str, slcP_tup, slcP_lst, wiSeq_eq, walkP_tup, walkP_str, walkP_lst, walkP_scr, wRevA, revP_str, revP_tup, revP_lst, eqNilT_tup, addBP_bl, addBP_int, addBP_str, addBP_tup, addBP_lst, subBP_bl, subBP_int, strCP_int, strCP_str, wiZip, zipsP] at q ⊢
              have hs : ∀ r ∈ rr, isSal r = true := List.all_eq_true.mp e1
              intro D2 hD2
              refine lc_pureF (fun x => some (.bl (lnkF x))) (by rw [zipP_len]; omega) hD2 (fun x hx S' R1 R0 _ k1 k0 => ?_) (fun _ _ => trivial) ?_
              · obtain ⟨u, v, hu, hv, rfl⟩ := zipP_mem hx
                obtain ⟨n, s, y, d, e, f, g, k, rfl⟩ := sal_shape (hs u hu)
                obtain ⟨n2, s2, y2, d2, e2, f2, g2, k2, rfl⟩ := sal_shape (hs v (List.mem_of_mem_drop hv))
                simp only [startP, List.map_cons, List.map_nil, List.length_cons, List.length_nil, Nat.reduceAdd, Nat.reduceSub, List.reduceReplicate, List.cons_append, List.nil_append, List.append_nil, wSeq, wAsg, wgN, wgNil, wgCons, wgTup, wDrop, wRet, wRetN, wNext, wBrk, wCont, wIfS, wV, nth, stV, wC, wOp, wUn, wBool, wChain, wTru, truP, wAnd, wOr, wNot, wIfE, wAndV, wOrV, wNotV, wNil, wCons, wTup, wLst, wLstM, wCB, wPar, wPar3, wAug, wFor, wiRng1, wiRng2, seqL, seqO, rows, subP, fdivP, modP, powP, mulP, CDiv, CPow, CMul, neP, ltP, leP, gtP, geP, isNon, isP, isNotP, lenO, lenP, absP, min2P, max2P, listP, tupleP, allP, sumP, intCP, isinP, tysOf, seqK, keyOf, dgetP, wNoPart, wPart, slcMP, wSl, wRevL, tyM, wBm, appendP, popAtP, joinP, wDnewM, wPairs, wCall, wCallK, wFrz, wDput, dputP, eqNilP, List.isEmpty_nil, List.isEmpty_cons, Bool.not_true, Bool.not_false, Bool.true_eq_false, Bool.false_eq_true, and_true, true_and, ↓reduceIte, Int.reduceToNat, Int.reducePow, Int.reduceNeg, Int.reduceAdd, Int.reduceSub, Int.reduceMul, Nat.reduceMul, Nat.reduceLT, Nat.reduceLeDiff, isB, String.reduceBEq, Bool.or_true, Bool.or_false, Bool.and_true, Bool.and_false, Bool.true_and, Bool.false_and, Bool.false_or, Bool.true_or, Int.cast_ofNat_Int, Int.reduceBEq, Int.reduceBNe, BEq.rfl, wYes, wCut, pow_ok9, pow_ok18, pow_ok30, line_eq, put_same, put_put, List.mem_cons, List.not_mem_nil, or_false, addP_int, addP_str, addP_tup, addP_lst, intP_int, intP0_int, ordP_int, eqP_int, eqP_str, eqP_bl, eqP_non, ixP_str, ixP_lst, ixP_tup, ixP_scr, slcP_str, slcP_tup, slcP_lst, wiSeq_eq, walkP_tup, walkP_str, walkP_lst, walkP_scr, wRevA, revP_str, revP_tup, revP_lst, eqNilT_tup, addBP_bl, addBP_int, addBP_str, addBP_tup, addBP_lst, subBP_bl, subBP_int, strCP_int, strCP_str, wiZip, zipsP, wipeP, atI_zero, atI_one, atI_two]
                have kk := k1 (.bl (decide (n < n2) && (y == s2))) rfl
                cases z : decide (n < n2)
                · rw [z, Bool.false_and] at kk; exact kk
                · rw [z, Bool.true_and] at kk; exact kk
              · simp only [filterMap_some, boolsOf_f, all_id, zip_linked, startP, List.map_cons, List.map_nil, List.length_cons, List.length_nil, Nat.reduceAdd, Nat.reduceSub, List.reduceReplicate, List.cons_append, List.nil_append, List.append_nil, wSeq, wAsg, wgN, wgNil, wgCons, wgTup, wDrop, wRet, wRetN, wNext, wBrk, wCont, wIfS, wV, nth, stV, wC, wOp, wUn, wBool, wChain, wTru, truP, wAnd, wOr, wNot, wIfE, wAndV, wOrV, wNotV, wNil, wCons, wTup, wLst, wLstM, wCB, wPar, wPar3, wAug, wFor, wiRng1, wiRng2, seqL, seqO, rows, subP, fdivP, modP, powP, mulP, CDiv, CPow, CMul, neP, ltP, leP, gtP, geP, isNon, isP, isNotP, lenO, lenP, absP, min2P, max2P, listP, tupleP, allP, sumP, intCP, isinP, tysOf, seqK, keyOf, dgetP, wNoPart, wPart, slcMP, wSl, wRevL, tyM, wBm, appendP, popAtP, joinP, wDnewM, wPairs, wCall, wCallK, wFrz, wDput, dputP, eqNilP, List.isEmpty_nil, List.isEmpty_cons, Bool.not_true, Bool.not_false, Bool.true_eq_false, Bool.false_eq_true, and_true, true_and, ↓reduceIte, Int.reduceToNat, Int.reducePow, Int.reduceNeg, Int.reduceAdd, Int.reduceSub, Int.reduceMul, Nat.reduceMul, Nat.reduceLT, Nat.reduceLeDiff, isB, String.reduceBEq, Bool.or_true, Bool.or_false, Bool.and_true, Bool.and_false, Bool.true_and, Bool.false_and, Bool.false_or, Bool.true_or, Int.cast_ofNat_Int, Int.reduceBEq, Int.reduceBNe, BEq.rfl, wYes, wCut, pow_ok9, pow_ok18, pow_ok30, line_eq, put_same, put_put, List.mem_cons, List.not_mem_nil, or_false, addP_int, addP_str, addP_tup, addP_lst, intP_int, intP0_int, ordP_int, eqP_int, eqP_str, eqP_bl, eqP_non, ixP_str, ixP_lst, ixP_tup, ixP_scr, slcP_str, slcP_tup, slcP_lst, wiSeq_eq, walkP_tup, walkP_str, walkP_lst, walkP_scr, wRevA, revP_str, revP_tup, revP_lst, eqNilT_tup, addBP_bl, addBP_int, addBP_str, addBP_tup, addBP_lst, subBP_bl, subBP_int, strCP_int, strCP_str, wiZip, zipsP]
                exact q
          | _ => first | cases ha; done | (simp only [startP, List.map_cons, List.map_nil, List.length_cons, List.length_nil, Nat.reduceAdd, Nat.reduceSub, List.reduceReplicate, List.cons_append, List.nil_append, List.append_nil, wSeq, wAsg, wgN, wgNil, wgCons, wgTup, wDrop, wRet, wRetN, wNext, wBrk, wCont, wIfS, wV, nth, stV, wC, wOp, wUn, wBool, wChain, wTru, truP, wAnd, wOr, wNot, wIfE, wAndV, wOrV, wNotV, wNil, wCons, wTup, wLst, wLstM, wCB, wPar, wPar3, wAug, wFor, wiRng1, wiRng2, seqL, seqO, rows, subP, fdivP, modP, powP, mulP, CDiv, CPow, CMul, neP, ltP, leP, gtP, geP, isNon, isP, isNotP, lenO, lenP, absP, min2P, max2P, listP, tupleP, allP, sumP, intCP, isinP, tysOf, seqK, keyOf, dgetP, wNoPart, wPart, slcMP, wSl, wRevL, tyM, wBm, appendP, popAtP, joinP, wDnewM, wPairs, wCall, wCallK, wFrz, wDput, dputP, eqNilP, List.isEmpty_nil, List.isEmpty_cons, Bool.not_true, Bool.not_false, Bool.true_eq_false, Bool.false_eq_true, and_true, true_and, ↓reduceIte, Int.reduceToNat, Int.reducePow, Int.reduceNeg, Int.reduceAdd, Int.reduceSub, Int.reduceMul, Nat.reduceMul, Nat.reduceLT, Nat.reduceLeDiff, isB, String.reduceBEq, Bool.or_true, Bool.or_false, Bool.and_true, Bool.and_false, Bool.true_and, Bool.false_and, Bool.false_or, Bool.true_or, Int.cast_ofNat_Int, Int.reduceBEq, Int.reduceBNe, BEq.rfl, wYes, wCut, pow_ok9, pow_ok18, pow_ok30, line_eq, put_same, put_put, List.mem_cons, List.not_mem_nil, or_false, addP_int, addP_str, addP_tup, addP_lst, intP_int, intP0_int, ordP_int, eqP_int, eqP_str, eqP_bl, eqP_non, ixP_str, ixP_lst, ixP_tup, ixP_scr, slcP_str, slcP_tup, slcP_lst, wiSeq_eq, walkP_tup, walkP_str, walkP_lst, walkP_scr, wRevA, revP_str, revP_tup, revP_lst, eqNilT_tup, addBP_bl, addBP_int, addBP_str, addBP_tup, addBP_lst, subBP_bl, subBP_int, strCP_int, strCP_str, wiZip, zipsP]; exact q)
        | _ => first | cases hb; done | (replace q : Q (.bl (isSeg (.tup [a, _]))) S0 := q; rw [seg_nb (fun k e => by cases e)] at q; simp only [startP, List.map_cons, List.map_nil, List.length_cons, List.length_nil, Nat.reduceAdd, Nat.reduceSub, List.reduceReplicate, List.cons_append, List.nil_append, List.append_nil, wSeq, wAsg, wgN, wgNil, wgCons, wgTup, wDrop, wRet, wRetN, wNext, wBrk, wCont, wIfS, wV, nth, stV, wC, wOp, wUn, wBool, wChain, wTru, truP, wAnd, wOr, wNot, wIfE, wAndV, wOrV, wNotV, wNil, wCons, wTup, wLst, wLstM, wCB, wPar, wPar3, wAug, wFor, wiRng1, wiRng2, seqL, seqO, rows, subP, fdivP, modP, powP, mulP, CDiv, CPow, CMul, neP, ltP, leP, gtP, geP, isNon, isP, isNotP, lenO, lenP, absP, min2P, max2P, listP, tupleP, allP, sumP, intCP, isinP, tysOf, seqK, keyOf, dgetP, wNoPart, wPart, slcMP, wSl, wRevL, tyM, wBm, appendP, popAtP, joinP, wDnewM, wPairs, wCall, wCallK, wFrz, wDput, dputP, eqNilP, List.isEmpty_nil, List.isEmpty_cons, Bool.not_true, Bool.not_false, Bool.true_eq_false, Bool.false_eq_true, and_true, true_and, ↓reduceIte, Int.reduceToNat, Int.reducePow, Int.reduceNeg, Int.reduceAdd, Int.reduceSub, Int.reduceMul, Nat.reduceMul, Nat.reduceLT, Nat.reduceLeDiff, isB, String.reduceBEq, Bool.or_true, Bool.or_false, Bool.and_true, Bool.and_false, Bool.true_and, Bool.false_and, Bool.false_or, Bool.true_or, Int.cast_ofNat_Int, Int.reduceBEq, Int.reduceBNe, BEq.rfl, wYes, wCut, pow_ok9, pow_ok18, pow_ok30, line_eq, put_same, put_put, List.mem_cons, List.not_mem_nil, or_false, addP_int, addP_str, addP_tup, addP_lst, intP_int, intP0_int, ordP_int, eqP_int, eqP_str, eqP_bl, eqP_non, ixP_str, ixP_lst, ixP_tup, ixP_scr, slcP_str, slcP_tup, slcP_lst, wiSeq_eq, walkP_tup, walkP_str, walkP_lst, walkP_scr, wRevA, revP_str, revP_tup, revP_lst, eqNilT_tup, addBP_bl, addBP_int, addBP_str, addBP_tup, addBP_lst, subBP_bl, subBP_int, strCP_int, strCP_str, wiZip, zipsP]; exact q)
  · exact h.elim
theorem ok_law_is_segment (T : Tx K mg base) : FnG P w K mg base 3 T.f__law_is_segment T.d__law_is_segment ["_law_given"] (pure1 SegX fun x => .bl (isSeg x)) := by
  refine okG T.F__law_is_segment sc_law_is_segment pure1_len fun cdv A outer s H EX F0 xs S0 Q E hG hr hp tk h => ?_
  unfold pure1 at h
  split at h
  · rename_i x
    obtain ⟨h, q⟩ := h
    refine ⟨_, (wss_cons (ws_if (WW.wt (ww_or (wt_not (wt_tru (we_callB cw_isi T.m_isinstance (wa_cons (we_var 0) (wa_cons (we_bty (n := "tuple") T.m_tuple) wa_nil))))) (ww_or (wt_cmp (ow_ne hr.units) (we_callB cw_len T.m_len (wa_cons (we_var 0) wa_nil)) we_int) (ww_or1 (wt_not (wt_tru (we_callB cw_isi T.m_isinstance (wa_cons (we_ix (we_var 0) we_int) (wa_cons (we_bty (n := "bool") T.m_bool) wa_nil)))))))))
  (wss_one (ws_ret we_bl))
  wss_nil)
  (wss_cons (ws_set 1 sc_law_is_segment.nd (we_ix (we_var 0) we_int))
  (wss_cons (ws_if (WW.wt (ww_or (wt_not (wt_tru (we_callB cw_isi T.m_isinstance (wa_cons (we_var 1) (wa_cons (we_bty (n := "tuple") T.m_tuple) wa_nil))))) (ww_or (wt_cmp (ow_eqNilT hr.units) (we_var 1) (we_tup wa_nil)) (ww_or1 (wt_cmp (ow_neNil hr.units) (we_lc (mk := false) rfl sc_law_is_segment.nd (wi_seq (we_var 1)) (own := [("_law_sale", 3)]) (blkOk_by (N := N_law_is_segment) (sc := defScope s_law_is_segment) (by decide +kernel)) (fun _ _ _ _ _ => (wg_name 3 sc_law_is_segment.nd)) (by decide) (fun _ _ _ _ _ => (wts_one (wt_not (wt_tru (we_call (ok_law_is_sale T) hG (hr.mono (by decide)) T.g__law_is_sale T.F__law_is_sale.kp T.b__law_is_sale dflt0 tk0 (wa_cons (we_var 3) wa_nil)))))) (fun _ _ _ _ _ => (we_var 3))) (we_lst wa_nil))))))
  (wss_one (ws_ret we_bl))
  wss_nil)
  (wss_cons (ws_for hp rfl (wi_rng1 T.m_range (wa_cons (we_op ow_sub (we_callB cw_len T.m_len (wa_cons (we_var 1) wa_nil)) we_int) wa_nil)) (wg_name 2 sc_law_is_segment.nd)
  (wss_one (ws_if (WW.wt (ww_or (wt_cmp ow_ge (we_ix (we_ix (we_var 1) (we_var 2)) we_int) (we_ix (we_ix (we_var 1) (we_op ow_add (we_var 2) we_int)) we_int)) (ww_or1 (wt_cmp (ow_ne hr.units) (we_ix (we_ix (we_var 1) (we_var 2)) we_int) (we_ix (we_ix (we_var 1) (we_op ow_add (we_var 2) we_int)) we_int)))))
  (wss_one (ws_ret we_bl))
  wss_nil)))
  (wss_one (ws_ret we_bl)))))), ?_⟩
    cases h with
    | oth hp hn => cases x <;> first | cases hp; done | (exact absurd rfl (hn _)) | (simp only [startP, List.map_cons, List.map_nil, List.length_cons, List.length_nil, Nat.reduceAdd, Nat.reduceSub, List.reduceReplicate, List.cons_append, List.nil_append, List.append_nil, wSeq, wAsg, wgN, wgNil, wgCons, wgTup, wDrop, wRet, wRetN, wNext, wBrk, wCont, wIfS, wV, nth, stV, wC, wOp, wUn, wBool, wChain, wTru, truP, wAnd, wOr, wNot, wIfE, wAndV, wOrV, wNotV, wNil, wCons, wTup, wLst, wLstM, wCB, wPar, wPar3, wAug, wFor, wiRng1, wiRng2, seqL, seqO, rows, subP, fdivP, modP, powP, mulP, CDiv, CPow, CMul, neP, ltP, leP, gtP, geP, isNon, isP, isNotP, lenO, lenP, absP, min2P, max2P, listP, tupleP, allP, sumP, intCP, isinP, tysOf, seqK, keyOf, dgetP, wNoPart, wPart, slcMP, wSl, wRevL, tyM, wBm, appendP, popAtP, joinP, wDnewM, wPairs, wCall, wCallK, wFrz, wDput, dputP, eqNilP, List.isEmpty_nil, List.isEmpty_cons, Bool.not_true, Bool.not_false, Bool.true_eq_false, Bool.false_eq_true, and_true, true_and, ↓reduceIte, Int.reduceToNat, Int.reducePow, Int.reduceNeg, Int.reduceAdd, Int.reduceSub, Int.reduceMul, Nat.reduceMul, Nat.reduceLT, Nat.reduceLeDiff, isB, String.reduceBEq, Bool.or_true, Bool.or_false, Bool.and_true, Bool.and_false, Bool.true_and, Bool.false_and, Bool.false_or, Bool.true_or, Int.cast_ofNat_Int, Int.reduceBEq, Int.reduceBNe, BEq.rfl, wYes, wCut, pow_ok9, pow_ok18, pow_ok30, line_eq, put_same, put_put, List.mem_cons, List.not_mem_nil, or_false, addP_int, addP_str, addP_tup, addP_lst, intP_int, intP0_int, ordP_int, eqP_int, eqP_str, eqP_bl, eqP_non, ixP_str, ixP_lst, ixP_tup, ixP_scr, slcP_str, slcP_tup, slcP_lst, wiSeq_eq, walkP_tup, walkP_str, walkP_lst, walkP_scr, wRevA, revP_str, revP_tup, revP_lst, eqNilT_tup, addBP_bl, addBP_int, addBP_str, addBP_tup, addBP_lst, subBP_bl, subBP_int, strCP_int, strCP_str, wiZip, zipsP, N_law_is_segment, kind_tuple, tyN]; exact q)
    | @tup xs hx hr2 =>
      rcases two_or (xs := xs) with hl | ⟨a, b, rfl⟩
      · have e0 : ((xs.length : Int) == 2) = false := beq_eq_false_iff_ne.mpr (by omega)
        simp only [startP, List.map_cons, List.map_nil, List.length_cons, List.length_nil, Nat.reduceAdd, Nat.reduceSub, List.reduceReplicate, List.cons_append, List.nil_append, List.append_nil, wSeq, wAsg, wgN, wgNil, wgCons, wgTup, wDrop, wRet, wRetN, wNext, wBrk, wCont, wIfS, wV, nth, stV, wC, wOp, wUn, wBool, wChain, wTru, truP, wAnd, wOr, wNot, wIfE, wAndV, wOrV, wNotV, wNil, wCons, wTup, wLst, wLstM, wCB, wPar, wPar3, wAug, wFor, wiRng1, wiRng2, seqL, seqO, rows, subP, fdivP, modP, powP, mulP, CDiv, CPow, CMul, neP, ltP, leP, gtP, geP, isNon, isP, isNotP, lenO, lenP, absP, min2P, max2P, listP, tupleP, allP, sumP, intCP, isinP, tysOf, seqK, keyOf, dgetP, wNoPart, wPart, slcMP, wSl, wRevL, tyM, wBm, appendP, popAtP, joinP, wDnewM, wPairs, wCall, wCallK, wFrz, wDput, dputP, eqNilP, List.isEmpty_nil, List.isEmpty_cons, Bool.not_true, Bool.not_false, Bool.true_eq_false, Bool.false_eq_true, and_true, true_and, ↓reduceIte, Int.reduceToNat, Int.reducePow, Int.reduceNeg, Int.reduceAdd, Int.reduceSub, Int.reduceMul, Nat.reduceMul, Nat.reduceLT, Nat.reduceLeDiff, isB, String.reduceBEq, Bool.or_true, Bool.or_false, Bool.and_true, Bool.and_false, Bool.true_and, Bool.false_and, Bool.false_or, Bool.true_or, Int.cast_ofNat_Int, Int.reduceBEq, Int.reduceBNe, BEq.rfl, wYes, wCut, pow_ok9, pow_ok18, pow_ok30, line_eq, put_same, put_put, List.mem_cons, List.not_mem_nil, or_false, addP_int, addP_str, addP_tup, addP_lst, intP_int, intP0_int, ordP_int, eqP_int, eqP_str, eqP_bl, eqP_non, ixP_str, ixP_lst, ixP_tup, ixP_scr, slcP_str, slcP_tup, slcP_lst, wiSeq_eq, walkP_tup, walkP_str, walkP_lst, walkP_scr, wRevA, revP_str, revP_tup, revP_lst, eqNilT_tup, addBP_bl, addBP_int, addBP_str, addBP_tup, addBP_lst, subBP_bl, subBP_int, strCP_int, strCP_str, wiZip, zipsP, N_law_is_segment, kind_tuple, tyN, e0]
        replace q : Q (.bl (isSeg (.tup xs))) S0 := q
        rwa [not_two hl] at q
      · have ha := hx a (by simp)
        have hb := hx b (by simp)
        have i0 : atI [a, b] 0 = some a := rfl
        have i1 : atI [a, b] 1 = some b := rfl
        simp only [startP, List.map_cons, List.map_nil, List.length_cons, List.length_nil, Nat.reduceAdd, Nat.reduceSub, List.reduceReplicate, List.cons_append, List.nil_append, List.append_nil, wSeq, wAsg, wgN, wgNil, wgCons, wgTup, wDrop, wRet, wRetN, wNext, wBrk, wCont, wIfS, wV, nth, stV, wC, wOp, wUn, wBool, wChain, wTru, truP, wAnd, wOr, wNot, wIfE, wAndV, wOrV, wNotV, wNil, wCons, wTup, wLst, wLstM, wCB, wPar, wPar3, wAug, wFor, wiRng1, wiRng2, seqL, seqO, rows, subP, fdivP, modP, powP, mulP, CDiv, CPow, CMul, neP, ltP, leP, gtP, geP, isNon, isP, isNotP, lenO, lenP, absP, min2P, max2P, listP, tupleP, allP, sumP, intCP, isinP, tysOf, seqK, keyOf, dgetP, wNoPart, wPart, slcMP, wSl, wRevL, tyM, wBm, appendP, popAtP, joinP, wDnewM, wPairs, wCall, wCallK, wFrz, wDput, dputP, eqNilP, List.isEmpty_nil, List.isEmpty_cons, Bool.not_true, Bool.not_false, Bool.true_eq_false, Bool.false_eq_true, and_true, true_and, ↓reduceIte, Int.reduceToNat, Int.reducePow, Int.reduceNeg, Int.reduceAdd, Int.reduceSub, Int.reduceMul, Nat.reduceMul, Nat.reduceLT, Nat.reduceLeDiff, isB, String.reduceBEq, Bool.or_true, Bool.or_false, Bool.and_true, Bool.and_false, Bool.true_and, Bool.false_and, Bool.false_or, Bool.true_or, Int.cast_ofNat_Int, Int.reduceBEq, Int.reduceBNe, BEq.rfl, wYes, wCut, pow_ok9, pow_ok18, pow_ok30, line_eq, put_same, put_put, List.mem_cons, List.not_mem_nil, or_false, addP_int, addP_str, addP_tup, addP_lst, intP_int, intP0_int, ordP_int, eqP_int, eqP_str, eqP_bl, eqP_non, ixP_str, ixP_lst, ixP_tup, ixP_scr, slcP_str, slcP_tup, slcP_lst, wiSeq_eq, walkP_tup, walkP_str, walkP_lst, walkP_scr, wRevA, revP_str, revP_tup, revP_lst, eqNilT_tup, addBP_bl, addBP_int, addBP_str, addBP_tup, addBP_lst, subBP_bl, subBP_int, strCP_int, strCP_str, wiZip, zipsP, N_law_is_segment, kind_tuple, kind_bool, tyN, i0, i1, wLc]
        cases b with
        | bl bb =>
          cases a with
          | tup rr =>
            obtain ⟨hrr, hrl⟩ := hr2 rr (by simp)
            replace q : Q (.bl (!rr.isEmpty && rr.all isSal && linked rr)) S0 := q
            have hrl2 : rr.length ≤ sizeLine := Nat.le_trans hrl (by decide)
            cases e0 : rr.isEmpty with
            | true => simp only [e0, startP, List.map_cons, List.map_nil, List.length_cons, List.length_nil, Nat.reduceAdd, Nat.reduceSub, List.reduceReplicate, List.cons_append, List.nil_append, List.append_nil, wSeq, wAsg, wgN, wgNil, wgCons, wgTup, wDrop, wRet, wRetN, wNext, wBrk, wCont, wIfS, wV, nth, stV, wC, wOp, wUn, wBool, wChain, wTru, truP, wAnd, wOr, wNot, wIfE, wAndV, wOrV, wNotV, wNil, wCons, wTup, wLst, wLstM, wCB, wPar, wPar3, wAug, wFor, wiRng1, wiRng2, seqL, seqO, rows, subP, fdivP, modP, powP, mulP, CDiv, CPow, CMul, neP, ltP, leP, gtP, geP, isNon, isP, isNotP, lenO, lenP, absP, min2P, max2P, listP, tupleP, allP, sumP, intCP, isinP, tysOf, seqK, keyOf, dgetP, wNoPart, wPart, slcMP, wSl, wRevL, tyM, wBm, appendP, popAtP, joinP, wDnewM, wPairs, wCall, wCallK, wFrz, wDput, dputP, eqNilP, List.isEmpty_nil, List.isEmpty_cons, Bool.not_true, Bool.not_false, Bool.true_eq_false, Bool.false_eq_true, and_true, true_and, ↓reduceIte, Int.reduceToNat, Int.reducePow, Int.reduceNeg, Int.reduceAdd, Int.reduceSub, Int.reduceMul, Nat.reduceMul, Nat.reduceLT, Nat.reduceLeDiff, isB, String.reduceBEq, Bool.or_true, Bool.or_false, Bool.and_true, Bool.and_false, Bool.true_and, Bool.false_and, Bool.false_or, Bool.true_or, Int.cast_ofNat_Int, Int.reduceBEq, Int.reduceBNe, BEq.rfl, wYes, wCut, pow_ok9, pow_ok18, pow_ok30, line_eq, put_same, put_put, List.mem_cons, List.not_mem_nil, or_false, addP_int, addP_str, addP_tup, addP_lst, intP_int, intP0_int, ordP_int, eqP_int, eqP_str, eqP_bl, eqP_non, ixP_str, ixP_lst, ixP_tup, ixP_scr, slcP_str, slcP_tup, slcP_lst, wiSeq_eq, walkP_tup, walkP_str, walkP_lst, walkP_scr, wRevA, revP_str, revP_tup, revP_lst, eqNilT_tup, addBP_bl, addBP_int, addBP_str, addBP_tup, addBP_lst, subBP_bl, subBP_int, strCP_int, strCP_str, wiZip, zipsP] at q ⊢; exact q
            | false =>
            simp only [e0, startP, List.map_cons, List.map_nil, List.length_cons, List.length_nil, Nat.reduceAdd, Nat.reduceSub, List.reduceReplicate, List.cons_append, List.nil_append, List.append_nil, wSeq, wAsg, wgN, wgNil, wgCons, wgTup, wDrop, wRet, wRetN, wNext, wBrk, wCont, wIfS, wV, nth, stV, wC, wOp, wUn, wBool, wChain, wTru, truP, wAnd, wOr, wNot, wIfE, wAndV, wOrV, wNotV, wNil, wCons, wTup, wLst, wLstM, wCB, wPar, wPar3, wAug, wFor, wiRng1, wiRng2, seqL, seqO, rows, subP, fdivP, modP, powP, mulP, CDiv, CPow, CMul, neP, ltP, leP, gtP, geP, isNon, isP, isNotP, lenO, lenP, absP, min2P, max2P, listP, tupleP, allP, sumP, intCP, isinP, tysOf, seqK, keyOf, dgetP, wNoPart, wPart, slcMP, wSl, wRevL, tyM, wBm, appendP, popAtP, joinP, wDnewM, wPairs, wCall, wCallK, wFrz, wDput, dputP, eqNilP, List.isEmpty_nil, List.isEmpty_cons, Bool.not_true, Bool.not_false, Bool.true_eq_false, Bool.false_eq_true, and_true, true_and, ↓reduceIte, Int.reduceToNat, Int.reducePow, Int.reduceNeg, Int.reduceAdd, Int.reduceSub, Int.reduceMul, Nat.reduceMul, Nat.reduceLT, Nat.reduceLeDiff, isB, String.reduceBEq, Bool.or_true, Bool.or_false, Bool.and_true, Bool.and_false, Bool.true_and, Bool.false_and, Bool.false_or, Bool.true_or, Int.cast_ofNat_Int, Int.reduceBEq, Int.reduceBNe, BEq.rfl, wYes, wCut, pow_ok9, pow_ok18, pow_ok30, line_eq, put_same, put_put, List.mem_cons, List.not_mem_nil, or_false, addP_int, addP_str, addP_tup, addP_lst, intP_int, intP0_int, ordP_int, eqP_int, eqP_str, eqP_bl, eqP_non, ixP_str, ixP_lst, ixP_tup, ixP_scr, slcP_str, slcP_tup, slcP_lst, wiSeq_eq, walkP_tup, walkP_str, walkP_lst, walkP_scr, wRevA, revP_str, revP_tup, revP_lst, eqNilT_tup, addBP_bl, addBP_int, addBP_str, addBP_tup, addBP_lst, subBP_bl, subBP_int, strCP_int, strCP_str, wiZip, zipsP] at q ⊢
            intro D hD
            refine lc_pureF (fun x => if isSal x = true then none else some x) hrl2 hD (fun x hx S' R1 R0 _ k1 k0 => ?_) (fun _ _ => trivial) ?_
            · have hx3 := hrr x hx
              simp only [startP, List.map_cons, List.map_nil, List.length_cons, List.length_nil, Nat.reduceAdd, Nat.reduceSub, List.reduceReplicate, List.cons_append, List.nil_append, List.append_nil, wSeq, wAsg, wgN, wgNil, wgCons, wgTup, wDrop, wRet, wRetN, wNext, wBrk, wCont, wIfS, wV, nth, stV, wC, wOp, wUn, wBool, wChain, wTru, truP, wAnd, wOr, wNot, wIfE, wAndV, wOrV, wNotV, wNil, wCons, wTup, wLst, wLstM, wCB, wPar, wPar3, wAug, wFor, wiRng1, wiRng2, seqL, seqO, rows, subP, fdivP, modP, powP, mulP, CDiv, CPow, CMul, neP, ltP, leP, gtP, geP, isNon, isP, isNotP, lenO, lenP, absP, min2P, max2P, listP, tupleP, allP, sumP, intCP, isinP, tysOf, seqK, keyOf, dgetP, wNoPart, wPart, slcMP, wSl, wRevL, tyM, wBm, appendP, popAtP, joinP, wDnewM, wPairs, wCall, wCallK, wFrz, wDput, dputP, eqNilP, List.isEmpty_nil, List.isEmpty_cons, Bool.not_true, Bool.not_false, Bool.true_eq_false, Bool.false_eq_true, and_true, true_and, ↓reduceIte, Int.reduceToNat, Int.reducePow, Int.reduceNeg, Int.reduceAdd, Int.reduceSub, Int.reduceMul, Nat.reduceMul, Nat.reduceLT, Nat.reduceLeDiff, isB, String.reduceBEq, Bool.or_true, Bool.or_false, Bool.and_true, Bool.and_false, Bool.true_and, Bool.false_and, Bool.false_or, Bool.true_or, Int.cast_ofNat_Int, Int.reduceBEq, Int.reduceBNe, BEq.rfl, wYes, wCut, pow_ok9, pow_ok18, pow_ok30, line_eq, put_same, put_put, List.mem_cons, List.not_mem_nil, or_false, addP_int, addP_str, addP_tup, addP_lst, intP_int, intP0_int, ordP_int, eqP_int, eqP_str, eqP_bl, eqP_non, ixP_str, ixP_lst, ixP_tup, ixP_scr, slcP_str, slcP_tup, slcP_lst, wiSeq_eq, walkP_tup, walkP_str, walkP_lst, walkP_scr, wRevA, revP_str, revP_tup, revP_lst, eqNilT_tup, addBP_bl, addBP_int, addBP_str, addBP_tup, addBP_lst, subBP_bl, subBP_int, strCP_int, strCP_str, wiZip, zipsP, wipeP, pure1, hx3]
              cases z : isSal x
              · exact k1 _ (if_neg (by simp [z]))
              · exact k0 (if_pos z)
            · simp only [none_bad, startP, List.map_cons, List.map_nil, List.length_cons, List.length_nil, Nat.reduceAdd, Nat.reduceSub, List.reduceReplicate, List.cons_append, List.nil_append, List.append_nil, wSeq, wAsg, wgN, wgNil, wgCons, wgTup, wDrop, wRet, wRetN, wNext, wBrk, wCont, wIfS, wV, nth, stV, wC, wOp, wUn, wBool, wChain, wTru, truP, wAnd, wOr, wNot, wIfE, wAndV, wOrV, wNotV, wNil, wCons, wTup, wLst, wLstM, wCB, wPar, wPar3, wAug, wFor, wiRng1, wiRng2, seqL, seqO, rows, subP, fdivP, modP, powP, mulP, CDiv, CPow, CMul, neP, ltP, leP, gtP, geP, isNon, isP, isNotP, lenO, lenP, absP, min2P, max2P, listP, tupleP, allP, sumP, intCP, isinP, tysOf, seqK, keyOf, dgetP, wNoPart, wPart, slcMP, wSl, wRevL, tyM, wBm, appendP, popAtP, joinP, wDnewM, wPairs, wCall, wCallK, wFrz, wDput, dputP, eqNilP, List.isEmpty_nil, List.isEmpty_cons, Bool.not_true, Bool.not_false, Bool.true_eq_false, Bool.false_eq_true, and_true, true_and, ↓reduceIte, Int.reduceToNat, Int.reducePow, Int.reduceNeg, Int.reduceAdd, Int.reduceSub, Int.reduceMul, Nat.reduceMul, Nat.reduceLT, Nat.reduceLeDiff, isB, String.reduceBEq, Bool.or_true, Bool.or_false, Bool.and_true, Bool.and_false, Bool.true_and, Bool.false_and, Bool.false_or, Bool.true_or, Int.cast_ofNat_Int, Int.reduceBEq, Int.reduceBNe, BEq.rfl, wYes, wCut, pow_ok9, pow_ok18, pow_ok30, line_eq, put_same, put_put, List.mem_cons, List.not_mem_nil, or_false, addP_int, addP_str, addP_tup, addP_lst, intP_int, intP0_int, ordP_int, eqP_int, eqP_str, eqP_bl, eqP_non, ixP_str, ixP_lst, ixP_tup, ixP_scr, slcP_str, slcP_tup, slcP_lst, wiSeq_eq, walkP_tup, walkP_str, walkP_lst, walkP_scr, wRevA, revP_str, revP_tup, revP_lst, eqNilT_tup, addBP_bl, addBP_int, addBP_str, addBP_tup, addBP_lst, subBP_bl, subBP_int, strCP_int, strCP_str, wiZip, zipsP]
              cases e1 : rr.all isSal with
              | false => simp only [e1, startP, List.map_cons, List.map_nil, List.length_cons, List.length_nil, Nat.reduceAdd, Nat.reduceSub, List.reduceReplicate, List.cons_append, List.nil_append, List.append_nil, wSeq, wAsg, wgN, wgNil, wgCons, wgTup, wDrop, wRet, wRetN, wNext, wBrk, wCont, wIfS, wV, nth, stV, wC, wOp, wUn, wBool, wChain, wTru, truP, wAnd, wOr, wNot, wIfE, wAndV, wOrV, wNotV, wNil, wCons, wTup, wLst, wLstM, wCB, wPar, wPar3, wAug, wFor, wiRng1, wiRng2, seqL, seqO, rows, subP, fdivP, modP, powP, mulP, CDiv, CPow, CMul, neP, ltP, leP, gtP, geP, isNon, isP, isNotP, lenO, lenP, absP, min2P, max2P, listP, tupleP, allP, sumP, intCP, isinP, tysOf, seqK, keyOf, dgetP, wNoPart, wPart, slcMP, wSl, wRevL, tyM, wBm, appendP, popAtP, joinP, wDnewM, wPairs, wCall, wCallK, wFrz, wDput, dputP, eqNilP, List.isEmpty_nil, List.isEmpty_cons, Bool.not_true, Bool.not_false, Bool.true_eq_false, Bool.false_eq_true, and_true, true_and, ↓reduceIte, Int.reduceToNat, Int.reducePow, Int.reduceNeg, Int.reduceAdd, Int.reduceSub, Int.reduceMul, Nat.reduceMul, Nat.reduceLT, Nat.reduceLeDiff, isB, String.reduceBEq, Bool.or_true, Bool.or_false, Bool.and_true, Bool.and_false, Bool.true_and, Bool.false_and, Bool.false_or, Bool.true_or, Int.cast_ofNat_Int, Int.reduceBEq, Int.reduceBNe, BEq.rfl, wYes, wCut, pow_ok9, pow_ok18, pow_ok30, line_eq, put_same, put_put, List.mem_cons, List.not_mem_nil, or_false, addP_int, addP_str, addP_tup, addP_lst, intP_int, intP0_int, ordP_int, eqP_int, eqP_str, eqP_bl, eqP_non, ixP_str, ixP_lst, ixP_tup, ixP_scr, slcP_str, slcP_tup, slcP_lst, wiSeq_eq, walkP_tup, walkP_str, walkP_lst, walkP_scr, wRevA, revP_str, revP_tup, revP_lst, eqNilT_tup, addBP_bl, addBP_int, addBP_str, addBP_tup, addBP_lst, subBP_bl, subBP_int, strCP_int, strCP_str, wiZip, zipsP] at q ⊢; exact q
              | true =>
              simp only [e1, startP, List.map_cons, List.map_nil, List.length_cons, List.length_nil, Nat.reduceAdd, Nat.reduceSub, List.reduceReplicate, List.cons_append, List.nil_append, List.append_nil, wSeq, wAsg, wgN, wgNil, wgCons, wgTup, wDrop, wRet, wRetN, wNext, wBrk, wCont, wIfS, wV, nth, stV, wC, wOp, wUn, wBool, wChain, wTru, truP, wAnd, wOr, wNot, wIfE, wAndV, wOrV, wNotV, wNil, wCons, wTup, wLst, wLstM, wCB, wPar, wPar3, wAug, wFor, wiRng1, wiRng2, seqL, seqO, rows, subP, fdivP, modP, powP, mulP, CDiv, CPow, CMul, neP, ltP, leP, gtP, geP, isNon, isP, isNotP, lenO, lenP, absP, min2P, max2P, listP, tupleP, allP, sumP, intCP, isinP, tysOf, seqK, keyOf, dgetP, wNoPart, wPart, slcMP, wSl, wRevL, tyM, wBm, appendP, popAtP, joinP, wDnewM, wPairs, wCall, wCallK, wFrz, wDput, dputP, eqNilP, List.isEmpty_nil, List.isEmpty_cons, Bool.not_true, Bool.not_false, Bool.true_eq_false, Bool.false_eq_true, and_true, true_and, ↓reduceIte, Int.reduceToNat, Int.reducePow, Int.reduceNeg, Int.reduceAdd, Int.reduceSub, Int.reduceMul, Nat.reduceMul, Nat.reduceLT, Nat.reduceLeDiff, isB, String.reduceBEq, Bool.or_true, Bool.or_false, Bool.and_true, Bool.and_false, Bool.true_and, Bool.false_and, Bool.false_or, Bool.true_or, Int.cast_ofNat_Int, Int.reduceBEq, Int.reduceBNe, BEq.rfl, wYes, wCut, pow_ok9, pow_ok18, pow_ok30, line_eq, put_same, put_put, List.mem_cons, List.not_mem_nil, or_false, addP_int, addP_str, addP_tup, addP_lst, intP_int, intP0_int, ordP_int, eqP_int, eqP_str, eqP_bl, eqP_non, ixP_str, ixP_lst, ixP_tup, ixP_scr, slcP_str, slcP_tup, slcP_lst, wiSeq_eq, walkP_tup, walkP_str, walkP_lst, walkP_scr, wRevA, revP_str, revP_tup, revP_lst, eqNilT_tup, addBP_bl, addBP_int, addBP_str, addBP_tup, addBP_lst, subBP_bl, subBP_int, strCP_int, strCP_str, wiZip, zipsP] at q ⊢
              have hs : ∀ r ∈ rr, isSal r = true := List.all_eq_true.mp e1
              have hpos : 0 < rr.length := by
                cases rr with
                | nil => cases e0
                | cons r0 rs => rw [List.length_cons]; omega
              have hrl3 : rr.length ≤ 200000 := hrl
              refine ⟨by omega, by omega, ?_⟩
              refine for_inv (fun done ρ S => (∀ (i : Nat) (u v : PV), i < done.length → rr[i]? = some u → rr[i + 1]? = some v → lnk u v = true) ∧ ∃ t : Option PV, ρ = [some (.tup [.tup rr, .bl bb]), some (.tup rr), t, none] ∧ S = S0) ⟨fun i u v hi => absurd hi (Nat.not_lt_zero _), none, rfl, rfl⟩ ?_ ?_
              · rintro ρ S ⟨hk, t, rfl, rfl⟩
                rw [rng_len] at hk
                have e2 : linked rr = true := linked_of fun i u v hu hv => hk i u v (by have := (List.getElem?_eq_some_iff.mp hv).1; omega) hu hv
                rw [e2] at q
                exact ⟨trivial, q⟩
              · rintro done x rest ρ S ed ⟨hk, t, rfl, rfl⟩
                obtain ⟨rfl, hd⟩ := rng_at ed
                have h1 : done.length < rr.length := by omega
                have h2 : done.length + 1 < rr.length := by omega
                have g1 : rr[done.length]? = some rr[done.length] := List.getElem?_eq_getElem h1
                have g2 : rr[done.length + 1]? = some rr[done.length + 1] := List.getElem?_eq_getElem h2
                obtain ⟨n, s, y, d, e, f, g, k, eu⟩ := sal_shape (hs _ (List.getElem_mem h1))
                obtain ⟨n2, s2, y2, d2, e2, f2, g2', k2, ev⟩ := sal_shape (hs _ (List.getElem_mem h2))
                rw [eu] at g1
                rw [ev] at g2
                have a1 := atI_nat g1
                have a2 : atI rr ((done.length : Int) + 1) = some _ := atI_nat g2
                refine ⟨trivial, ?_⟩
                simp only [startP, List.map_cons, List.map_nil, List.length_cons, List.length_nil, Nat.reduceAdd, Nat.reduceSub, List.reduceReplicate, List.cons_append, List.nil_append, List.append_nil, wSeq, wAsg, wgN, wgNil, wgCons, wgTup, wDrop, wRet, wRetN, wNext, wBrk, wCont, wIfS, wV, nth, stV, wC, wOp, wUn, wBool, wChain, wTru, truP, wAnd, wOr, wNot, wIfE, wAndV, wOrV, wNotV, wNil, wCons, wTup, wLst, wLstM, wCB, wPar, wPar3, wAug, wFor, wiRng1, wiRng2, seqL, seqO, rows, subP, fdivP, modP, powP, mulP, CDiv, CPow, CMul, neP, ltP, leP, gtP, geP, isNon, isP, isNotP, lenO, lenP, absP, min2P, max2P, listP, tupleP, allP, sumP, intCP, isinP, tysOf, seqK, keyOf, dgetP, wNoPart, wPart, slcMP, wSl, wRevL, tyM, wBm, appendP, popAtP, joinP, wDnewM, wPairs, wCall, wCallK, wFrz, wDput, dputP, eqNilP, List.isEmpty_nil, List.isEmpty_cons, Bool.not_true, Bool.not_false, Bool.true_eq_false, Bool.false_eq_true, and_true, true_and, ↓reduceIte, Int.reduceToNat, Int.reducePow, Int.reduceNeg, Int.reduceAdd, Int.reduceSub, Int.reduceMul, Nat.reduceMul, Nat.reduceLT, Nat.reduceLeDiff, isB, String.reduceBEq, Bool.or_true, Bool.or_false, Bool.and_true, Bool.and_false, Bool.true_and, Bool.false_and, Bool.false_or, Bool.true_or, Int.cast_ofNat_Int, Int.reduceBEq, Int.reduceBNe, BEq.rfl, wYes, wCut, pow_ok9, pow_ok18, pow_ok30, line_eq, put_same, put_put, List.mem_cons, List.not_mem_nil, or_false, addP_int, addP_str, addP_tup, addP_lst, intP_int, intP0_int, ordP_int, eqP_int, eqP_str, eqP_bl, eqP_non, ixP_str, ixP_lst, ixP_tup, ixP_scr, slcP_str, slcP_tup, slcP_lst, wiSeq_eq, walkP_tup, walkP_str, walkP_lst, walkP_scr, wRevA, revP_str, revP_tup, revP_lst, eqNilT_tup, addBP_bl, addBP_int, addBP_str, addBP_tup, addBP_lst, subBP_bl, subBP_int, strCP_int, strCP_str, wiZip, zipsP, a1, a2, atI_zero, atI_one, atI_two]
                have nxt : (lnk (.tup [.int n, .str s, .str y, d, e, f, g, k]) (.tup [.int n2, .str s2, .str y2, d2, e2, f2, g2', k2]) = true) → ∃ dd, rngP 0 ((rr.length : Int) - 1).toNat = dd ++ rest ∧ (∀ (i : Nat) (u v : PV), i < dd.length → rr[i]? = some u → rr[i + 1]? = some v → lnk u v = true) := fun hl => by
                  refine ⟨done ++ [.int (done.length : Nat)], by rw [ed, List.append_assoc]; rfl, fun i u v hi hu hv => ?_⟩
                  rw [List.length_append] at hi
                  by_cases z : i < done.length
                  · exact hk i u v z hu hv
                  · have : i = done.length := by
                      have : i < done.length + 1 := hi
                      omega
                    subst this
                    rw [g1] at hu
                    rw [g2] at hv
                    cases hu
                    cases hv
                    exact hl
                have bad : lnk (.tup [.int n, .str s, .str y, d, e, f, g, k]) (.tup [.int n2, .str s2, .str y2, d2, e2, f2, g2', k2]) = false → Q (.bl false) S := fun hl => by
                  rw [linked_no g1 g2 hl] at q
                  exact q
                rw [lnk_sal] at nxt bad
                cases z1 : decide (n2 ≤ n) with
                | true => exact bad (by rw [decide_eq_false (by have := of_decide_eq_true z1; omega), Bool.false_and])
                | false =>
                  have z2 : decide (n < n2) = true := decide_eq_true (by have := of_decide_eq_false z1; omega)
                  rw [z2, Bool.true_and] at nxt bad
                  cases z3 : y == s2 with
                  | false => exact bad z3
                  | true =>
                    obtain ⟨dd, k1, k2⟩ := nxt z3
                    exact ⟨dd, k1, k2, _, rfl⟩
          | _ => first | cases ha; done | (simp only [startP, List.map_cons, List.map_nil, List.length_cons, List.length_nil, Nat.reduceAdd, Nat.reduceSub, List.reduceReplicate, List.cons_append, List.nil_append, List.append_nil, wSeq, wAsg, wgN, wgNil, wgCons, wgTup, wDrop, wRet, wRetN, wNext, wBrk, wCont, wIfS, wV, nth, stV, wC, wOp, wUn, wBool, wChain, wTru, truP, wAnd, wOr, wNot, wIfE, wAndV, wOrV, wNotV, wNil, wCons, wTup, wLst, wLstM, wCB, wPar, wPar3, wAug, wFor, wiRng1, wiRng2, seqL, seqO, rows, subP, fdivP, modP, powP, mulP, CDiv, CPow, CMul, neP, ltP, leP, gtP, geP, isNon, isP, isNotP, lenO, lenP, absP, min2P, max2P, listP, tupleP, allP, sumP, intCP, isinP, tysOf, seqK, keyOf, dgetP, wNoPart, wPart, slcMP, wSl, wRevL, tyM, wBm, appendP, popAtP, joinP, wDnewM, wPairs, wCall, wCallK, wFrz, wDput, dputP, eqNilP, List.isEmpty_nil, List.isEmpty_cons, Bool.not_true, Bool.not_false, Bool.true_eq_false, Bool.false_eq_true, and_true, true_and, ↓reduceIte, Int.reduceToNat, Int.reducePow, Int.reduceNeg, Int.reduceAdd, Int.reduceSub, Int.reduceMul, Nat.reduceMul, Nat.reduceLT, Nat.reduceLeDiff, isB, String.reduceBEq, Bool.or_true, Bool.or_false, Bool.and_true, Bool.and_false, Bool.true_and, Bool.false_and, Bool.false_or, Bool.true_or, Int.cast_ofNat_Int, Int.reduceBEq, Int.reduceBNe, BEq.rfl, wYes, wCut, pow_ok9, pow_ok18, pow_ok30, line_eq, put_same, put_put, List.mem_cons, List.not_mem_nil, or_false, addP_int, addP_str, addP_tup, addP_lst, intP_int, intP0_int, ordP_int, eqP_int, eqP_str, eqP_bl, eqP_non, ixP_str, ixP_lst, ixP_tup, ixP_scr, slcP_str, slcP_tup, slcP_lst, wiSeq_eq, walkP_tup, walkP_str, walkP_lst, walkP_scr, wRevA, revP_str, revP_tup, revP_lst, eqNilT_tup, addBP_bl, addBP_int, addBP_str, addBP_tup, addBP_lst, subBP_bl, subBP_int, strCP_int, strCP_str, wiZip, zipsP]; exact q)
        | _ => first | cases hb; done | (replace q : Q (.bl (isSeg (.tup [a, _]))) S0 := q; rw [seg_nb (fun k e => by cases e)] at q; simp only [startP, List.map_cons, List.map_nil, List.length_cons, List.length_nil, Nat.reduceAdd, Nat.reduceSub, List.reduceReplicate, List.cons_append, List.nil_append, List.append_nil, wSeq, wAsg, wgN, wgNil, wgCons, wgTup, wDrop, wRet, wRetN, wNext, wBrk, wCont, wIfS, wV, nth, stV, wC, wOp, wUn, wBool, wChain, wTru, truP, wAnd, wOr, wNot, wIfE, wAndV, wOrV, wNotV, wNil, wCons, wTup, wLst, wLstM, wCB, wPar, wPar3, wAug, wFor, wiRng1, wiRng2, seqL, seqO, rows, subP, fdivP, modP, powP, mulP, CDiv, CPow, CMul, neP, ltP, leP, gtP, geP, isNon, isP, isNotP, lenO, lenP, absP, min2P, max2P, listP, tupleP, allP, sumP, intCP, isinP, tysOf, seqK, keyOf, dgetP, wNoPart, wPart, slcMP, wSl, wRevL, tyM, wBm, appendP, popAtP, joinP, wDnewM, wPairs, wCall, wCallK, wFrz, wDput, dputP, eqNilP, List.isEmpty_nil, List.isEmpty_cons, Bool.not_true, Bool.not_false, Bool.true_eq_false, Bool.false_eq_true, and_true, true_and, ↓reduceIte, Int.reduceToNat, Int.reducePow, Int.reduceNeg, Int.reduceAdd, Int.reduceSub, Int.reduceMul, Nat.reduceMul, Nat.reduceLT, Nat.reduceLeDiff, isB, String.reduceBEq, Bool.or_true, Bool.or_false, Bool.and_true, Bool.and_false, Bool.true_and, Bool.false_and, Bool.false_or, Bool.true_or, Int.cast_ofNat_Int, Int.reduceBEq, Int.reduceBNe, BEq.rfl, wYes, wCut, pow_ok9, pow_ok18, pow_ok30, line_eq, put_same, put_put, List.mem_cons, List.not_mem_nil, or_false, addP_int, addP_str, addP_tup, addP_lst, intP_int, intP0_int, ordP_int, eqP_int, eqP_str, eqP_bl, eqP_non, ixP_str, ixP_lst, ixP_tup, ixP_scr, slcP_str, slcP_tup, slcP_lst, wiSeq_eq, walkP_tup, walkP_str, walkP_lst, walkP_scr, wRevA, revP_str, revP_tup, revP_lst, eqNilT_tup, addBP_bl, addBP_int, addBP_str, addBP_tup, addBP_lst, subBP_bl, subBP_int, strCP_int, strCP_str, wiZip, zipsP]; exact q)
  · exact h.elim

theorem ok_bent_k (T : Tx K mg base) : ∀ k, FnG P w K mg base (2 + k) T.f__law_bent T.d__law_bent ["_law_state", "_law_thing"] (SpBentR k) := by
  intro k
  induction k with
  | zero => exact ⟨fun xs S Q E h => by cases h; omega, fun A o s H a us vs Q E g r e0 b v h => by
    obtain ⟨_, _, _, _, _, _, _, h, _⟩ := h
    cases h
    omega⟩
  | succ k ih =>
    refine okG T.F__law_bent sc_law_bent (fun xs S Q E h => by cases h; rfl) fun cdv A outer s H EX F0 xs S0 Q E hG hr hp tk h => ?_
    cases h with
    | @mk p x n B _ _ _ e hx hB hd hk hw hn q =>
    replace hr : Room (2 + k) _ := hr
    refine ⟨_, (wss_cut (ws_if (WW.wt (ww_and (wt_tru (we_callB cw_isi T.m_isinstance (wa_cons (we_var 1) (wa_cons (we_bty (n := "tuple") T.m_tuple) wa_nil)))) (ww_and (wt_cmp (ow_neNilT hr.units) (we_var 1) (we_tup wa_nil)) (ww_and1 (wt_cmp ow_gt (we_call (ok_law_take T) hG (hr.mono (by omega)) T.g__law_take T.F__law_take.kp T.b__law_take dflt0 tk0 (wa_cons (we_var 0) (wa_cons we_int wa_nil))) we_int)))))
  (wss_cut (ws_set 2 sc_law_bent.nd (we_call (ok_law_take T) hG (hr.mono (by omega)) T.g__law_take T.F__law_take.kp T.b__law_take dflt0 tk0 (wa_cons (we_var 0) (wa_cons (we_callB cw_len T.m_len (wa_cons (we_var 1) wa_nil)) wa_nil))))
  (wss_one (ws_ret (we_op ow_addB (we_op ow_addB (we_sl sw_slc (we_var 1) wo_none (wo_some (we_var 2))) (we_tup (wa_cons (we_call ih hG (hr.mono (by omega)) T.g__law_bent T.F__law_bent.kp T.b__law_bent dflt0 tk0 (wa_cons (we_var 0) (wa_cons (we_ix (we_var 1) (we_var 2)) wa_nil))) wa_nil))) (we_sl sw_slc (we_var 1) (wo_some (we_op ow_addB (we_var 2) we_int)) wo_none)))))
  wss_nil)
  (wss_cut (ws_set 3 sc_law_bent.nd (we_lst (wa_cons we_non (wa_cons we_bl (wa_cons we_bl (wa_cons we_int (wa_cons we_int (wa_cons (we_un un_negW we_int) (wa_cons we_str (wa_cons we_str (wa_cons we_str (wa_cons we_str (wa_cons we_str (wa_cons (we_tup wa_nil) (wa_cons (we_lst wa_nil) (wa_cons we_dnew (wa_cons (we_op ow_pow we_int we_int) (wa_cons (we_op ow_addB (we_op ow_pow we_int we_int) we_int) wa_nil))))))))))))))))))
  (wss_cut (ws_if (wt_tru (we_callB cw_isi T.m_isinstance (wa_cons (we_var 1) (wa_cons (we_bty (n := "tuple") T.m_tuple) wa_nil))))
  (wss_cut (ws_set 2 sc_law_bent.nd (we_call (ok_law_take T) hG (hr.mono (by omega)) T.g__law_take T.F__law_take.kp T.b__law_take dflt0 tk0 (wa_cons (we_var 0) (wa_cons (we_op ow_addB (we_callB cw_len T.m_len (wa_cons (we_var 1) wa_nil)) we_int) wa_nil))))
  (wss_cut (ws_set 3 sc_law_bent.nd (we_lst (wa_cons (we_callTy (cw_list (mk := false)) T.m_list (wa_cons (we_var 1) wa_nil)) (wa_cons (we_op ow_addB (we_var 1) (we_tup (wa_cons we_non wa_nil))) (wa_cons (we_op ow_addB (we_sl sw_slc (we_var 1) wo_none (wo_some (we_var 2))) (we_sl sw_slc (we_var 1) (wo_some (we_op ow_addB (we_var 2) we_int)) wo_none)) (wa_cons (we_revA (we_var 1)) (wa_cons (we_op ow_addB (we_sl sw_slc (we_var 1) (wo_some (we_var 2)) wo_none) (we_sl sw_slc (we_var 1) wo_none (wo_some (we_var 2)))) wa_nil)))))))
  (wss_one (ws_set 3 sc_law_bent.nd (we_op ow_addB (we_var 3) (we_lst (wa_cons (we_op ow_addB (we_var 1) (we_sl sw_slc (we_var 1) (wo_some (we_un un_negW we_int)) wo_none)) (wa_cons (we_sl sw_slc (we_var 1) (wo_some we_int) wo_none) (wa_cons (we_sl sw_slc (we_var 1) wo_none (wo_some we_int)) (wa_cons (we_tup (wa_cons (we_var 1) wa_nil)) (wa_cons we_non wa_nil)))))))))))
  (wss_one (ws_if (WW.wt (ww_and (wt_tru (we_callB cw_isi T.m_isinstance (wa_cons (we_var 1) (wa_cons (we_bty (n := "int") T.m_int) wa_nil)))) (ww_and1 (wt_cmp (ow_eq hr.units) (we_call (ok_law_take T) hG (hr.mono (by omega)) T.g__law_take T.F__law_take.kp T.b__law_take dflt0 tk0 (wa_cons (we_var 0) (wa_cons we_int wa_nil))) we_int))))
  (wss_one (ws_set 3 sc_law_bent.nd (we_lst (wa_cons (we_op ow_addB (we_var 1) we_int) (wa_cons (we_op ow_subB (we_var 1) we_int) (wa_cons (we_op ow_addB (we_var 1) (we_op ow_pow we_int we_int)) (wa_cons (we_callTy cw_str T.m_str (wa_cons (we_callTy cw_int T.m_int (wa_cons (we_var 1) wa_nil)) wa_nil)) (wa_cons (we_lst (wa_cons (we_var 1) wa_nil)) (wa_cons (we_not (we_var 1)) wa_nil)))))))))
  (wss_one (ws_if (WW.wt (ww_and (wt_tru (we_callB cw_isi T.m_isinstance (wa_cons (we_var 1) (wa_cons (we_bty (n := "str") T.m_str) wa_nil)))) (ww_and1 (wt_cmp (ow_eq hr.units) (we_call (ok_law_take T) hG (hr.mono (by omega)) T.g__law_take T.F__law_take.kp T.b__law_take dflt0 tk0 (wa_cons (we_var 0) (wa_cons we_int wa_nil))) we_int))))
  (wss_one (ws_set 3 sc_law_bent.nd (we_lst (wa_cons (we_op ow_addB (we_var 1) we_str) (wa_cons (we_sl sw_slc (we_var 1) (wo_some we_int) wo_none) (wa_cons (we_op ow_addB (we_sl sw_slc (we_var 1) wo_none (wo_some (we_un un_negW we_int))) we_str) (wa_cons (we_op ow_addB (we_sl sw_slc (we_var 1) wo_none (wo_some (we_un un_negW we_int))) we_str) (wa_cons (we_tup (wa_cons (we_var 1) wa_nil)) (wa_cons (we_revA (we_var 1)) wa_nil)))))))))
  wss_nil)))))
  (wss_one (ws_ret (we_call (ok_law_pick T) hG (hr.mono (by omega)) T.g__law_pick T.F__law_pick.kp T.b__law_pick dflt0 tk0 (wa_cons (we_var 0) (wa_cons (we_var 3) wa_nil)))))))), ?_⟩
    have hpl := hx.plain
    refine cut_intro (fun ρ S => ∃ m, m ≤ n + 1 ∧ ρ = [some (.ref p), some x, none, none] ∧ S = put S0 p (drw p m)) ?_ ?_
    · have e0 : put S0 p (drw p n) = S0 := by
        funext b
        by_cases z : b = p
        · rw [z, put_same, e]
        · rw [put_ne z]
      cases x with
      | tup xs =>
        simp only [startP, List.map_cons, List.map_nil, List.length_cons, List.length_nil, Nat.reduceAdd, Nat.reduceSub, List.reduceReplicate, List.cons_append, List.nil_append, List.append_nil, nth, stV, truP, seqL, seqO, rows, subP, fdivP, modP, powP, mulP, CDiv, CPow, CMul, neP, ltP, leP, gtP, geP, isNon, isP, isNotP, lenO, lenP, absP, min2P, max2P, listP, tupleP, allP, sumP, intCP, isinP, tysOf, seqK, keyOf, dgetP, slcMP, tyM, appendP, popAtP, joinP, wPairs, dputP, eqNilP, List.isEmpty_nil, List.isEmpty_cons, Bool.not_true, Bool.not_false, Bool.true_eq_false, Bool.false_eq_true, and_true, true_and, ↓reduceIte, Int.reduceToNat, Int.reducePow, Int.reduceNeg, Int.reduceAdd, Int.reduceSub, Int.reduceMul, Nat.reduceMul, Nat.reduceLT, Nat.reduceLeDiff, isB, String.reduceBEq, Bool.or_true, Bool.or_false, Bool.and_true, Bool.and_false, Bool.true_and, Bool.false_and, Bool.false_or, Bool.true_or, Int.cast_ofNat_Int, Int.reduceBEq, Int.reduceBNe, BEq.rfl, pow_ok9, pow_ok18, pow_ok30, line_eq, put_same, put_put, List.mem_cons, List.not_mem_nil, or_false, addP_int, addP_str, addP_tup, addP_lst, intP_int, intP0_int, ordP_int, eqP_int, eqP_str, eqP_bl, eqP_non, ixP_str, ixP_lst, ixP_tup, ixP_scr, slcP_str, slcP_tup, slcP_lst, wiSeq_eq, walkP_tup, walkP_str, walkP_lst, walkP_scr, revP_str, revP_tup, revP_lst, eqNilT_tup, addBP_bl, addBP_int, addBP_str, addBP_tup, addBP_lst, subBP_bl, subBP_int, strCP_int, strCP_str, zipsP, ↓wV_ap, ↓wC_ap, ↓wOp_ap, ↓wUn_ap, ↓wBool_ap, ↓wChain_ap, ↓wTru_ap, ↓wAnd_ap, ↓wOr_ap, ↓wNot_ap, ↓wIfE_ap, ↓wAndV_ap, ↓wOrV_ap, ↓wNotV_ap, ↓wNil_ap, ↓wCons_ap, ↓wTup_ap, ↓wLst_ap, ↓wLstM_ap, ↓wCB_ap, ↓wgN_ap, ↓wgNil_ap, ↓wgCons_ap, ↓wgTup_ap, ↓wNext_ap, ↓wSeq_ap, ↓wAsg_ap, ↓wDrop_ap, ↓wRet_ap, ↓wRetN_ap, ↓wBrk_ap, ↓wCont_ap, ↓wIfS_ap, ↓wNever_ap, ↓wPar_ap, ↓wPar3_ap, ↓wAug_ap, ↓wYes_ap, ↓wCall_ap, ↓wCallK_ap, ↓wiRng1_ap, ↓wiRng2_ap, ↓wRepLit_ap, ↓wNoPart_ap, ↓wPart_ap, ↓wSl_ap, ↓wRevL_ap, ↓wBm_ap, ↓wDnewM_ap, ↓wDput_ap, ↓wFrz_ap, ↓wiZip_ap, ↓wRevA_ap, ↓wRaise1_ap, ↓wRaise0_ap, ↓wXf_ap, ↓wThunk_ap, ↓wDispM_ap, ↓wTryK_ap, ↓wLamC_ap, N_law_bent, tyN, kind_tuple]
        cases z0 : xs.isEmpty with
        | true =>
          simp only [startP, List.map_cons, List.map_nil, List.length_cons, List.length_nil, Nat.reduceAdd, Nat.reduceSub, List.reduceReplicate, List.cons_append, List.nil_append, List.append_nil, nth, stV, truP, seqL, seqO, rows, subP, fdivP, modP, powP, mulP, CDiv, CPow, CMul, neP, ltP, leP, gtP, geP, isNon, isP, isNotP, lenO, lenP, absP, min2P, max2P, listP, tupleP, allP, sumP, intCP, isinP, tysOf, seqK, keyOf, dgetP, slcMP, tyM, appendP, popAtP, joinP, wPairs, dputP, eqNilP, List.isEmpty_nil, List.isEmpty_cons, Bool.not_true, Bool.not_false, Bool.true_eq_false, Bool.false_eq_true, and_true, true_and, ↓reduceIte, Int.reduceToNat, Int.reducePow, Int.reduceNeg, Int.reduceAdd, Int.reduceSub, Int.reduceMul, Nat.reduceMul, Nat.reduceLT, Nat.reduceLeDiff, isB, String.reduceBEq, Bool.or_true, Bool.or_false, Bool.and_true, Bool.and_false, Bool.true_and, Bool.false_and, Bool.false_or, Bool.true_or, Int.cast_ofNat_Int, Int.reduceBEq, Int.reduceBNe, BEq.rfl, pow_ok9, pow_ok18, pow_ok30, line_eq, put_same, put_put, List.mem_cons, List.not_mem_nil, or_false, addP_int, addP_str, addP_tup, addP_lst, intP_int, intP0_int, ordP_int, eqP_int, eqP_str, eqP_bl, eqP_non, ixP_str, ixP_lst, ixP_tup, ixP_scr, slcP_str, slcP_tup, slcP_lst, wiSeq_eq, walkP_tup, walkP_str, walkP_lst, walkP_scr, revP_str, revP_tup, revP_lst, eqNilT_tup, addBP_bl, addBP_int, addBP_str, addBP_tup, addBP_lst, subBP_bl, subBP_int, strCP_int, strCP_str, zipsP, ↓wV_ap, ↓wC_ap, ↓wOp_ap, ↓wUn_ap, ↓wBool_ap, ↓wChain_ap, ↓wTru_ap, ↓wAnd_ap, ↓wOr_ap, ↓wNot_ap, ↓wIfE_ap, ↓wAndV_ap, ↓wOrV_ap, ↓wNotV_ap, ↓wNil_ap, ↓wCons_ap, ↓wTup_ap, ↓wLst_ap, ↓wLstM_ap, ↓wCB_ap, ↓wgN_ap, ↓wgNil_ap, ↓wgCons_ap, ↓wgTup_ap, ↓wNext_ap, ↓wSeq_ap, ↓wAsg_ap, ↓wDrop_ap, ↓wRet_ap, ↓wRetN_ap, ↓wBrk_ap, ↓wCont_ap, ↓wIfS_ap, ↓wNever_ap, ↓wPar_ap, ↓wPar3_ap, ↓wAug_ap, ↓wYes_ap, ↓wCall_ap, ↓wCallK_ap, ↓wiRng1_ap, ↓wiRng2_ap, ↓wRepLit_ap, ↓wNoPart_ap, ↓wPart_ap, ↓wSl_ap, ↓wRevL_ap, ↓wBm_ap, ↓wDnewM_ap, ↓wDput_ap, ↓wFrz_ap, ↓wiZip_ap, ↓wRevA_ap, ↓wRaise1_ap, ↓wRaise0_ap, ↓wXf_ap, ↓wThunk_ap, ↓wDispM_ap, ↓wTryK_ap, ↓wLamC_ap]
          exact ⟨n, by omega, e0.symm⟩
        | false =>
          simp only [startP, List.map_cons, List.map_nil, List.length_cons, List.length_nil, Nat.reduceAdd, Nat.reduceSub, List.reduceReplicate, List.cons_append, List.nil_append, List.append_nil, nth, stV, truP, seqL, seqO, rows, subP, fdivP, modP, powP, mulP, CDiv, CPow, CMul, neP, ltP, leP, gtP, geP, isNon, isP, isNotP, lenO, lenP, absP, min2P, max2P, listP, tupleP, allP, sumP, intCP, isinP, tysOf, seqK, keyOf, dgetP, slcMP, tyM, appendP, popAtP, joinP, wPairs, dputP, eqNilP, List.isEmpty_nil, List.isEmpty_cons, Bool.not_true, Bool.not_false, Bool.true_eq_false, Bool.false_eq_true, and_true, true_and, ↓reduceIte, Int.reduceToNat, Int.reducePow, Int.reduceNeg, Int.reduceAdd, Int.reduceSub, Int.reduceMul, Nat.reduceMul, Nat.reduceLT, Nat.reduceLeDiff, isB, String.reduceBEq, Bool.or_true, Bool.or_false, Bool.and_true, Bool.and_false, Bool.true_and, Bool.false_and, Bool.false_or, Bool.true_or, Int.cast_ofNat_Int, Int.reduceBEq, Int.reduceBNe, BEq.rfl, pow_ok9, pow_ok18, pow_ok30, line_eq, put_same, put_put, List.mem_cons, List.not_mem_nil, or_false, addP_int, addP_str, addP_tup, addP_lst, intP_int, intP0_int, ordP_int, eqP_int, eqP_str, eqP_bl, eqP_non, ixP_str, ixP_lst, ixP_tup, ixP_scr, slcP_str, slcP_tup, slcP_lst, wiSeq_eq, walkP_tup, walkP_str, walkP_lst, walkP_scr, revP_str, revP_tup, revP_lst, eqNilT_tup, addBP_bl, addBP_int, addBP_str, addBP_tup, addBP_lst, subBP_bl, subBP_int, strCP_int, strCP_str, zipsP, ↓wV_ap, ↓wC_ap, ↓wOp_ap, ↓wUn_ap, ↓wBool_ap, ↓wChain_ap, ↓wTru_ap, ↓wAnd_ap, ↓wOr_ap, ↓wNot_ap, ↓wIfE_ap, ↓wAndV_ap, ↓wOrV_ap, ↓wNotV_ap, ↓wNil_ap, ↓wCons_ap, ↓wTup_ap, ↓wLst_ap, ↓wLstM_ap, ↓wCB_ap, ↓wgN_ap, ↓wgNil_ap, ↓wgCons_ap, ↓wgTup_ap, ↓wNext_ap, ↓wSeq_ap, ↓wAsg_ap, ↓wDrop_ap, ↓wRet_ap, ↓wRetN_ap, ↓wBrk_ap, ↓wCont_ap, ↓wIfS_ap, ↓wNever_ap, ↓wPar_ap, ↓wPar3_ap, ↓wAug_ap, ↓wYes_ap, ↓wCall_ap, ↓wCallK_ap, ↓wiRng1_ap, ↓wiRng2_ap, ↓wRepLit_ap, ↓wNoPart_ap, ↓wPart_ap, ↓wSl_ap, ↓wRevL_ap, ↓wBm_ap, ↓wDnewM_ap, ↓wDput_ap, ↓wFrz_ap, ↓wiZip_ap, ↓wRevA_ap, ↓wRaise1_ap, ↓wRaise0_ap, ↓wXf_ap, ↓wThunk_ap, ↓wDispM_ap, ↓wTryK_ap, ↓wLamC_ap]
          refine .mk e (by decide) (by decide) (by omega) fun r a1 b1 => ?_
          simp only [startP, List.map_cons, List.map_nil, List.length_cons, List.length_nil, Nat.reduceAdd, Nat.reduceSub, List.reduceReplicate, List.cons_append, List.nil_append, List.append_nil, nth, stV, truP, seqL, seqO, rows, subP, fdivP, modP, powP, mulP, CDiv, CPow, CMul, neP, ltP, leP, gtP, geP, isNon, isP, isNotP, lenO, lenP, absP, min2P, max2P, listP, tupleP, allP, sumP, intCP, isinP, tysOf, seqK, keyOf, dgetP, slcMP, tyM, appendP, popAtP, joinP, wPairs, dputP, eqNilP, List.isEmpty_nil, List.isEmpty_cons, Bool.not_true, Bool.not_false, Bool.true_eq_false, Bool.false_eq_true, and_true, true_and, ↓reduceIte, Int.reduceToNat, Int.reducePow, Int.reduceNeg, Int.reduceAdd, Int.reduceSub, Int.reduceMul, Nat.reduceMul, Nat.reduceLT, Nat.reduceLeDiff, isB, String.reduceBEq, Bool.or_true, Bool.or_false, Bool.and_true, Bool.and_false, Bool.true_and, Bool.false_and, Bool.false_or, Bool.true_or, Int.cast_ofNat_Int, Int.reduceBEq, Int.reduceBNe, BEq.rfl, pow_ok9, pow_ok18, pow_ok30, line_eq, put_same, put_put, List.mem_cons, List.not_mem_nil, or_false, addP_int, addP_str, addP_tup, addP_lst, intP_int, intP0_int, ordP_int, eqP_int, eqP_str, eqP_bl, eqP_non, ixP_str, ixP_lst, ixP_tup, ixP_scr, slcP_str, slcP_tup, slcP_lst, wiSeq_eq, walkP_tup, walkP_str, walkP_lst, walkP_scr, revP_str, revP_tup, revP_lst, eqNilT_tup, addBP_bl, addBP_int, addBP_str, addBP_tup, addBP_lst, subBP_bl, subBP_int, strCP_int, strCP_str, zipsP, ↓wV_ap, ↓wC_ap, ↓wOp_ap, ↓wUn_ap, ↓wBool_ap, ↓wChain_ap, ↓wTru_ap, ↓wAnd_ap, ↓wOr_ap, ↓wNot_ap, ↓wIfE_ap, ↓wAndV_ap, ↓wOrV_ap, ↓wNotV_ap, ↓wNil_ap, ↓wCons_ap, ↓wTup_ap, ↓wLst_ap, ↓wLstM_ap, ↓wCB_ap, ↓wgN_ap, ↓wgNil_ap, ↓wgCons_ap, ↓wgTup_ap, ↓wNext_ap, ↓wSeq_ap, ↓wAsg_ap, ↓wDrop_ap, ↓wRet_ap, ↓wRetN_ap, ↓wBrk_ap, ↓wCont_ap, ↓wIfS_ap, ↓wNever_ap, ↓wPar_ap, ↓wPar3_ap, ↓wAug_ap, ↓wYes_ap, ↓wCall_ap, ↓wCallK_ap, ↓wiRng1_ap, ↓wiRng2_ap, ↓wRepLit_ap, ↓wNoPart_ap, ↓wPart_ap, ↓wSl_ap, ↓wRevL_ap, ↓wBm_ap, ↓wDnewM_ap, ↓wDput_ap, ↓wFrz_ap, ↓wiZip_ap, ↓wRevA_ap, ↓wRaise1_ap, ↓wRaise0_ap, ↓wXf_ap, ↓wThunk_ap, ↓wDispM_ap, ↓wTryK_ap, ↓wLamC_ap]
          cases z1 : decide (0 < r) with
          | false => exact ⟨n + 1, by omega, rfl⟩
          | true =>
            have hxs : ∀ y ∈ xs, Good B y := by cases hx with | tup h => exact h
            have hdx : dps xs < k := by simp only [dp] at hd; omega
            have hwx : wts xs ≤ 60000 := by simp only [wt] at hw; exact hw
            have hlen := wts_len xs
            have hdp : dp (.tup xs) = dps xs + 1 := by simp only [dp]
            have hpos : 0 < xs.length := by
              cases xs with
              | nil => cases z0
              | cons a b => rw [List.length_cons]; omega
            refine cut_intro (fun ρ S => ∃ at_ : Int, 0 ≤ at_ ∧ at_ < xs.length ∧ ρ = [some (.ref p), some (.tup xs), some (.int at_), none] ∧ S = put S0 p (drw p (n + 2))) ?_ ?_
            · simp only [startP, List.map_cons, List.map_nil, List.length_cons, List.length_nil, Nat.reduceAdd, Nat.reduceSub, List.reduceReplicate, List.cons_append, List.nil_append, List.append_nil, nth, stV, truP, seqL, seqO, rows, subP, fdivP, modP, powP, mulP, CDiv, CPow, CMul, neP, ltP, leP, gtP, geP, isNon, isP, isNotP, lenO, lenP, absP, min2P, max2P, listP, tupleP, allP, sumP, intCP, isinP, tysOf, seqK, keyOf, dgetP, slcMP, tyM, appendP, popAtP, joinP, wPairs, dputP, eqNilP, List.isEmpty_nil, List.isEmpty_cons, Bool.not_true, Bool.not_false, Bool.true_eq_false, Bool.false_eq_true, and_true, true_and, ↓reduceIte, Int.reduceToNat, Int.reducePow, Int.reduceNeg, Int.reduceAdd, Int.reduceSub, Int.reduceMul, Nat.reduceMul, Nat.reduceLT, Nat.reduceLeDiff, isB, String.reduceBEq, Bool.or_true, Bool.or_false, Bool.and_true, Bool.and_false, Bool.true_and, Bool.false_and, Bool.false_or, Bool.true_or, Int.cast_ofNat_Int, Int.reduceBEq, Int.reduceBNe, BEq.rfl, pow_ok9, pow_ok18, pow_ok30, line_eq, put_same, put_put, List.mem_cons, List.not_mem_nil, or_false, addP_int, addP_str, addP_tup, addP_lst, intP_int, intP0_int, ordP_int, eqP_int, eqP_str, eqP_bl, eqP_non, ixP_str, ixP_lst, ixP_tup, ixP_scr, slcP_str, slcP_tup, slcP_lst, wiSeq_eq, walkP_tup, walkP_str, walkP_lst, walkP_scr, revP_str, revP_tup, revP_lst, eqNilT_tup, addBP_bl, addBP_int, addBP_str, addBP_tup, addBP_lst, subBP_bl, subBP_int, strCP_int, strCP_str, zipsP, ↓wV_ap, ↓wC_ap, ↓wOp_ap, ↓wUn_ap, ↓wBool_ap, ↓wChain_ap, ↓wTru_ap, ↓wAnd_ap, ↓wOr_ap, ↓wNot_ap, ↓wIfE_ap, ↓wAndV_ap, ↓wOrV_ap, ↓wNotV_ap, ↓wNil_ap, ↓wCons_ap, ↓wTup_ap, ↓wLst_ap, ↓wLstM_ap, ↓wCB_ap, ↓wgN_ap, ↓wgNil_ap, ↓wgCons_ap, ↓wgTup_ap, ↓wNext_ap, ↓wSeq_ap, ↓wAsg_ap, ↓wDrop_ap, ↓wRet_ap, ↓wRetN_ap, ↓wBrk_ap, ↓wCont_ap, ↓wIfS_ap, ↓wNever_ap, ↓wPar_ap, ↓wPar3_ap, ↓wAug_ap, ↓wYes_ap, ↓wCall_ap, ↓wCallK_ap, ↓wiRng1_ap, ↓wiRng2_ap, ↓wRepLit_ap, ↓wNoPart_ap, ↓wPart_ap, ↓wSl_ap, ↓wRevL_ap, ↓wBm_ap, ↓wDnewM_ap, ↓wDput_ap, ↓wFrz_ap, ↓wiZip_ap, ↓wRevA_ap, ↓wRaise1_ap, ↓wRaise0_ap, ↓wXf_ap, ↓wThunk_ap, ↓wDispM_ap, ↓wTryK_ap, ↓wLamC_ap]
              exact .mk put_same (by omega) (by omega) (by omega) fun a c1 c2 => ⟨a, c1, c2, by trivial, by rw [put_put]⟩
            rintro ρ S ⟨at_, c1, c2, rfl, rfl⟩
            obtain ⟨j, rfl⟩ := Int.eq_ofNat_of_zero_le c1
            have hj : j < xs.length := by omega
            have gx : xs[j]? = some xs[j] := List.getElem?_eq_getElem hj
            have mx := List.mem_of_getElem? gx
            have wm := wt_mem mx
            have a1 := atI_nat gx
            simp only [startP, List.map_cons, List.map_nil, List.length_cons, List.length_nil, Nat.reduceAdd, Nat.reduceSub, List.reduceReplicate, List.cons_append, List.nil_append, List.append_nil, nth, stV, truP, seqL, seqO, rows, subP, fdivP, modP, powP, mulP, CDiv, CPow, CMul, neP, ltP, leP, gtP, geP, isNon, isP, isNotP, lenO, lenP, absP, min2P, max2P, listP, tupleP, allP, sumP, intCP, isinP, tysOf, seqK, keyOf, dgetP, slcMP, tyM, appendP, popAtP, joinP, wPairs, dputP, eqNilP, List.isEmpty_nil, List.isEmpty_cons, Bool.not_true, Bool.not_false, Bool.true_eq_false, Bool.false_eq_true, and_true, true_and, ↓reduceIte, Int.reduceToNat, Int.reducePow, Int.reduceNeg, Int.reduceAdd, Int.reduceSub, Int.reduceMul, Nat.reduceMul, Nat.reduceLT, Nat.reduceLeDiff, isB, String.reduceBEq, Bool.or_true, Bool.or_false, Bool.and_true, Bool.and_false, Bool.true_and, Bool.false_and, Bool.false_or, Bool.true_or, Int.cast_ofNat_Int, Int.reduceBEq, Int.reduceBNe, BEq.rfl, pow_ok9, pow_ok18, pow_ok30, line_eq, put_same, put_put, List.mem_cons, List.not_mem_nil, or_false, addP_int, addP_str, addP_tup, addP_lst, intP_int, intP0_int, ordP_int, eqP_int, eqP_str, eqP_bl, eqP_non, ixP_str, ixP_lst, ixP_tup, ixP_scr, slcP_str, slcP_tup, slcP_lst, wiSeq_eq, walkP_tup, walkP_str, walkP_lst, walkP_scr, revP_str, revP_tup, revP_lst, eqNilT_tup, addBP_bl, addBP_int, addBP_str, addBP_tup, addBP_lst, subBP_bl, subBP_int, strCP_int, strCP_str, zipsP, ↓wV_ap, ↓wC_ap, ↓wOp_ap, ↓wUn_ap, ↓wBool_ap, ↓wChain_ap, ↓wTru_ap, ↓wAnd_ap, ↓wOr_ap, ↓wNot_ap, ↓wIfE_ap, ↓wAndV_ap, ↓wOrV_ap, ↓wNotV_ap, ↓wNil_ap, ↓wCons_ap, ↓wTup_ap, ↓wLst_ap, ↓wLstM_ap, ↓wCB_ap, ↓wgN_ap, ↓wgNil_ap, ↓wgCons_ap, ↓wgTup_ap, ↓wNext_ap, ↓wSeq_ap, ↓wAsg_ap, ↓wDrop_ap, ↓wRet_ap, ↓wRetN_ap, ↓wBrk_ap, ↓wCont_ap, ↓wIfS_ap, ↓wNever_ap, ↓wPar_ap, ↓wPar3_ap, ↓wAug_ap, ↓wYes_ap, ↓wCall_ap, ↓wCallK_ap, ↓wiRng1_ap, ↓wiRng2_ap, ↓wRepLit_ap, ↓wNoPart_ap, ↓wPart_ap, ↓wSl_ap, ↓wRevL_ap, ↓wBm_ap, ↓wDnewM_ap, ↓wDput_ap, ↓wFrz_ap, ↓wiZip_ap, ↓wRevA_ap, ↓wRaise1_ap, ↓wRaise0_ap, ↓wXf_ap, ↓wThunk_ap, ↓wDispM_ap, ↓wTryK_ap, ↓wLamC_ap, a1]
            refine .mk (n := n + 2) (B := B) put_same (hxs _ mx) hB (by omega) (by omega) (by omega) (by omega) fun y m hb hm => ?_
            have cl : ∀ lo hi, (cutP xs lo hi).length ≤ xs.length := fun lo hi => cut_len
            have c3 := cl none (some (j : Int))
            have c4 := cl (some ((j : Int) + 1)) none
            simp only [startP, List.map_cons, List.map_nil, List.length_cons, List.length_nil, Nat.reduceAdd, Nat.reduceSub, List.reduceReplicate, List.cons_append, List.nil_append, List.append_nil, nth, stV, truP, seqL, seqO, rows, subP, fdivP, modP, powP, mulP, CDiv, CPow, CMul, neP, ltP, leP, gtP, geP, isNon, isP, isNotP, lenO, lenP, absP, min2P, max2P, listP, tupleP, allP, sumP, intCP, isinP, tysOf, seqK, keyOf, dgetP, slcMP, tyM, appendP, popAtP, joinP, wPairs, dputP, eqNilP, List.isEmpty_nil, List.isEmpty_cons, Bool.not_true, Bool.not_false, Bool.true_eq_false, Bool.false_eq_true, and_true, true_and, ↓reduceIte, Int.reduceToNat, Int.reducePow, Int.reduceNeg, Int.reduceAdd, Int.reduceSub, Int.reduceMul, Nat.reduceMul, Nat.reduceLT, Nat.reduceLeDiff, isB, String.reduceBEq, Bool.or_true, Bool.or_false, Bool.and_true, Bool.and_false, Bool.true_and, Bool.false_and, Bool.false_or, Bool.true_or, Int.cast_ofNat_Int, Int.reduceBEq, Int.reduceBNe, BEq.rfl, pow_ok9, pow_ok18, pow_ok30, line_eq, put_same, put_put, List.mem_cons, List.not_mem_nil, or_false, addP_int, addP_str, addP_tup, addP_lst, intP_int, intP0_int, ordP_int, eqP_int, eqP_str, eqP_bl, eqP_non, ixP_str, ixP_lst, ixP_tup, ixP_scr, slcP_str, slcP_tup, slcP_lst, wiSeq_eq, walkP_tup, walkP_str, walkP_lst, walkP_scr, revP_str, revP_tup, revP_lst, eqNilT_tup, addBP_bl, addBP_int, addBP_str, addBP_tup, addBP_lst, subBP_bl, subBP_int, strCP_int, strCP_str, zipsP, ↓wV_ap, ↓wC_ap, ↓wOp_ap, ↓wUn_ap, ↓wBool_ap, ↓wChain_ap, ↓wTru_ap, ↓wAnd_ap, ↓wOr_ap, ↓wNot_ap, ↓wIfE_ap, ↓wAndV_ap, ↓wOrV_ap, ↓wNotV_ap, ↓wNil_ap, ↓wCons_ap, ↓wTup_ap, ↓wLst_ap, ↓wLstM_ap, ↓wCB_ap, ↓wgN_ap, ↓wgNil_ap, ↓wgCons_ap, ↓wgTup_ap, ↓wNext_ap, ↓wSeq_ap, ↓wAsg_ap, ↓wDrop_ap, ↓wRet_ap, ↓wRetN_ap, ↓wBrk_ap, ↓wCont_ap, ↓wIfS_ap, ↓wNever_ap, ↓wPar_ap, ↓wPar3_ap, ↓wAug_ap, ↓wYes_ap, ↓wCall_ap, ↓wCallK_ap, ↓wiRng1_ap, ↓wiRng2_ap, ↓wRepLit_ap, ↓wNoPart_ap, ↓wPart_ap, ↓wSl_ap, ↓wRevL_ap, ↓wBm_ap, ↓wDnewM_ap, ↓wDput_ap, ↓wFrz_ap, ↓wiZip_ap, ↓wRevA_ap, ↓wRaise1_ap, ↓wRaise0_ap, ↓wXf_ap, ↓wThunk_ap, ↓wDispM_ap, ↓wTryK_ap, ↓wLamC_ap]
            refine ⟨by omega, by rw [List.length_append]; simp only [List.length_cons, List.length_nil]; omega, q _ m (bent_in hxs gx hb) ?_⟩
            simp only [dp]
            omega
      | _ => first | cases hpl; done | (simp only [startP, List.map_cons, List.map_nil, List.length_cons, List.length_nil, Nat.reduceAdd, Nat.reduceSub, List.reduceReplicate, List.cons_append, List.nil_append, List.append_nil, nth, stV, truP, seqL, seqO, rows, subP, fdivP, modP, powP, mulP, CDiv, CPow, CMul, neP, ltP, leP, gtP, geP, isNon, isP, isNotP, lenO, lenP, absP, min2P, max2P, listP, tupleP, allP, sumP, intCP, isinP, tysOf, seqK, keyOf, dgetP, slcMP, tyM, appendP, popAtP, joinP, wPairs, dputP, eqNilP, List.isEmpty_nil, List.isEmpty_cons, Bool.not_true, Bool.not_false, Bool.true_eq_false, Bool.false_eq_true, and_true, true_and, ↓reduceIte, Int.reduceToNat, Int.reducePow, Int.reduceNeg, Int.reduceAdd, Int.reduceSub, Int.reduceMul, Nat.reduceMul, Nat.reduceLT, Nat.reduceLeDiff, isB, String.reduceBEq, Bool.or_true, Bool.or_false, Bool.and_true, Bool.and_false, Bool.true_and, Bool.false_and, Bool.false_or, Bool.true_or, Int.cast_ofNat_Int, Int.reduceBEq, Int.reduceBNe, BEq.rfl, pow_ok9, pow_ok18, pow_ok30, line_eq, put_same, put_put, List.mem_cons, List.not_mem_nil, or_false, addP_int, addP_str, addP_tup, addP_lst, intP_int, intP0_int, ordP_int, eqP_int, eqP_str, eqP_bl, eqP_non, ixP_str, ixP_lst, ixP_tup, ixP_scr, slcP_str, slcP_tup, slcP_lst, wiSeq_eq, walkP_tup, walkP_str, walkP_lst, walkP_scr, revP_str, revP_tup, revP_lst, eqNilT_tup, addBP_bl, addBP_int, addBP_str, addBP_tup, addBP_lst, subBP_bl, subBP_int, strCP_int, strCP_str, zipsP, ↓wV_ap, ↓wC_ap, ↓wOp_ap, ↓wUn_ap, ↓wBool_ap, ↓wChain_ap, ↓wTru_ap, ↓wAnd_ap, ↓wOr_ap, ↓wNot_ap, ↓wIfE_ap, ↓wAndV_ap, ↓wOrV_ap, ↓wNotV_ap, ↓wNil_ap, ↓wCons_ap, ↓wTup_ap, ↓wLst_ap, ↓wLstM_ap, ↓wCB_ap, ↓wgN_ap, ↓wgNil_ap, ↓wgCons_ap, ↓wgTup_ap, ↓wNext_ap, ↓wSeq_ap, ↓wAsg_ap, ↓wDrop_ap, ↓wRet_ap, ↓wRetN_ap, ↓wBrk_ap, ↓wCont_ap, ↓wIfS_ap, ↓wNever_ap, ↓wPar_ap, ↓wPar3_ap, ↓wAug_ap, ↓wYes_ap, ↓wCall_ap, ↓wCallK_ap, ↓wiRng1_ap, ↓wiRng2_ap, ↓wRepLit_ap, ↓wNoPart_ap, ↓wPart_ap, ↓wSl_ap, ↓wRevL_ap, ↓wBm_ap, ↓wDnewM_ap, ↓wDput_ap, ↓wFrz_ap, ↓wiZip_ap, ↓wRevA_ap, ↓wRaise1_ap, ↓wRaise0_ap, ↓wXf_ap, ↓wThunk_ap, ↓wDispM_ap, ↓wTryK_ap, ↓wLamC_ap, N_law_bent, tyN, kind_tuple]; exact ⟨n, by omega, e0.symm⟩)
    rintro ρ S ⟨m, hm, rfl, rfl⟩
    refine cut_intro (fun ρ S => ρ = [some (.ref p), some x, none, some (.lst oddsR)] ∧ S = put S0 p (drw p m)) ?_ ?_
    · simp only [startP, List.map_cons, List.map_nil, List.length_cons, List.length_nil, Nat.reduceAdd, Nat.reduceSub, List.reduceReplicate, List.cons_append, List.nil_append, List.append_nil, nth, stV, truP, seqL, seqO, rows, subP, fdivP, modP, powP, mulP, CDiv, CPow, CMul, neP, ltP, leP, gtP, geP, isNon, isP, isNotP, lenO, lenP, absP, min2P, max2P, listP, tupleP, allP, sumP, intCP, isinP, tysOf, seqK, keyOf, dgetP, slcMP, tyM, appendP, popAtP, joinP, wPairs, dputP, eqNilP, List.isEmpty_nil, List.isEmpty_cons, Bool.not_true, Bool.not_false, Bool.true_eq_false, Bool.false_eq_true, and_true, true_and, ↓reduceIte, Int.reduceToNat, Int.reducePow, Int.reduceNeg, Int.reduceAdd, Int.reduceSub, Int.reduceMul, Nat.reduceMul, Nat.reduceLT, Nat.reduceLeDiff, isB, String.reduceBEq, Bool.or_true, Bool.or_false, Bool.and_true, Bool.and_false, Bool.true_and, Bool.false_and, Bool.false_or, Bool.true_or, Int.cast_ofNat_Int, Int.reduceBEq, Int.reduceBNe, BEq.rfl, pow_ok9, pow_ok18, pow_ok30, line_eq, put_same, put_put, List.mem_cons, List.not_mem_nil, or_false, addP_int, addP_str, addP_tup, addP_lst, intP_int, intP0_int, ordP_int, eqP_int, eqP_str, eqP_bl, eqP_non, ixP_str, ixP_lst, ixP_tup, ixP_scr, slcP_str, slcP_tup, slcP_lst, wiSeq_eq, walkP_tup, walkP_str, walkP_lst, walkP_scr, revP_str, revP_tup, revP_lst, eqNilT_tup, addBP_bl, addBP_int, addBP_str, addBP_tup, addBP_lst, subBP_bl, subBP_int, strCP_int, strCP_str, zipsP, ↓wV_ap, ↓wC_ap, ↓wOp_ap, ↓wUn_ap, ↓wBool_ap, ↓wChain_ap, ↓wTru_ap, ↓wAnd_ap, ↓wOr_ap, ↓wNot_ap, ↓wIfE_ap, ↓wAndV_ap, ↓wOrV_ap, ↓wNotV_ap, ↓wNil_ap, ↓wCons_ap, ↓wTup_ap, ↓wLst_ap, ↓wLstM_ap, ↓wCB_ap, ↓wgN_ap, ↓wgNil_ap, ↓wgCons_ap, ↓wgTup_ap, ↓wNext_ap, ↓wSeq_ap, ↓wAsg_ap, ↓wDrop_ap, ↓wRet_ap, ↓wRetN_ap, ↓wBrk_ap, ↓wCont_ap, ↓wIfS_ap, ↓wNever_ap, ↓wPar_ap, ↓wPar3_ap, ↓wAug_ap, ↓wYes_ap, ↓wCall_ap, ↓wCallK_ap, ↓wiRng1_ap, ↓wiRng2_ap, ↓wRepLit_ap, ↓wNoPart_ap, ↓wPart_ap, ↓wSl_ap, ↓wRevL_ap, ↓wBm_ap, ↓wDnewM_ap, ↓wDput_ap, ↓wFrz_ap, ↓wiZip_ap, ↓wRevA_ap, ↓wRaise1_ap, ↓wRaise0_ap, ↓wXf_ap, ↓wThunk_ap, ↓wDispM_ap, ↓wTryK_ap, ↓wLamC_ap]
      first | exact ⟨rfl, trivial⟩ | rfl | trivial
    rintro ρ S ⟨rfl, rfl⟩
    refine cut_intro (fun ρ S => ∃ (ls : List PV) (m2 : Nat) (t : Option PV), ls ≠ [] ∧ ls.length ≤ 20 ∧ (∀ y ∈ ls, Bent B (dp x) (wt x) y) ∧ m2 ≤ m + 1 ∧ ρ = [some (.ref p), some x, t, some (.lst ls)] ∧ S = put S0 p (drw p m2)) ?_ ?_
    · cases x with
      | tup xs =>
        have hxs : ∀ y ∈ xs, Good B y := by cases hx with | tup h => exact h
        have hwx : wts xs ≤ 60000 := by simp only [wt] at hw; exact hw
        have hlen := wts_len xs
        have hdp : dp (.tup xs) = dps xs + 1 := by simp only [dp]
        have hwp : wt (.tup xs) = wts xs := by simp only [wt]
        simp only [startP, List.map_cons, List.map_nil, List.length_cons, List.length_nil, Nat.reduceAdd, Nat.reduceSub, List.reduceReplicate, List.cons_append, List.nil_append, List.append_nil, nth, stV, truP, seqL, seqO, rows, subP, fdivP, modP, powP, mulP, CDiv, CPow, CMul, neP, ltP, leP, gtP, geP, isNon, isP, isNotP, lenO, lenP, absP, min2P, max2P, listP, tupleP, allP, sumP, intCP, isinP, tysOf, seqK, keyOf, dgetP, slcMP, tyM, appendP, popAtP, joinP, wPairs, dputP, eqNilP, List.isEmpty_nil, List.isEmpty_cons, Bool.not_true, Bool.not_false, Bool.true_eq_false, Bool.false_eq_true, and_true, true_and, ↓reduceIte, Int.reduceToNat, Int.reducePow, Int.reduceNeg, Int.reduceAdd, Int.reduceSub, Int.reduceMul, Nat.reduceMul, Nat.reduceLT, Nat.reduceLeDiff, isB, String.reduceBEq, Bool.or_true, Bool.or_false, Bool.and_true, Bool.and_false, Bool.true_and, Bool.false_and, Bool.false_or, Bool.true_or, Int.cast_ofNat_Int, Int.reduceBEq, Int.reduceBNe, BEq.rfl, pow_ok9, pow_ok18, pow_ok30, line_eq, put_same, put_put, List.mem_cons, List.not_mem_nil, or_false, addP_int, addP_str, addP_tup, addP_lst, intP_int, intP0_int, ordP_int, eqP_int, eqP_str, eqP_bl, eqP_non, ixP_str, ixP_lst, ixP_tup, ixP_scr, slcP_str, slcP_tup, slcP_lst, wiSeq_eq, walkP_tup, walkP_str, walkP_lst, walkP_scr, revP_str, revP_tup, revP_lst, eqNilT_tup, addBP_bl, addBP_int, addBP_str, addBP_tup, addBP_lst, subBP_bl, subBP_int, strCP_int, strCP_str, zipsP, ↓wV_ap, ↓wC_ap, ↓wOp_ap, ↓wUn_ap, ↓wBool_ap, ↓wChain_ap, ↓wTru_ap, ↓wAnd_ap, ↓wOr_ap, ↓wNot_ap, ↓wIfE_ap, ↓wAndV_ap, ↓wOrV_ap, ↓wNotV_ap, ↓wNil_ap, ↓wCons_ap, ↓wTup_ap, ↓wLst_ap, ↓wLstM_ap, ↓wCB_ap, ↓wgN_ap, ↓wgNil_ap, ↓wgCons_ap, ↓wgTup_ap, ↓wNext_ap, ↓wSeq_ap, ↓wAsg_ap, ↓wDrop_ap, ↓wRet_ap, ↓wRetN_ap, ↓wBrk_ap, ↓wCont_ap, ↓wIfS_ap, ↓wNever_ap, ↓wPar_ap, ↓wPar3_ap, ↓wAug_ap, ↓wYes_ap, ↓wCall_ap, ↓wCallK_ap, ↓wiRng1_ap, ↓wiRng2_ap, ↓wRepLit_ap, ↓wNoPart_ap, ↓wPart_ap, ↓wSl_ap, ↓wRevL_ap, ↓wBm_ap, ↓wDnewM_ap, ↓wDput_ap, ↓wFrz_ap, ↓wiZip_ap, ↓wRevA_ap, ↓wRaise1_ap, ↓wRaise0_ap, ↓wXf_ap, ↓wThunk_ap, ↓wDispM_ap, ↓wTryK_ap, ↓wLamC_ap, tyN, kind_tuple]
        refine cut_intro (fun ρ S => ∃ at_ : Int, ρ = [some (.ref p), some (.tup xs), some (.int at_), some (.lst oddsR)] ∧ S = put S0 p (drw p (m + 1))) ?_ ?_
        · simp only [startP, List.map_cons, List.map_nil, List.length_cons, List.length_nil, Nat.reduceAdd, Nat.reduceSub, List.reduceReplicate, List.cons_append, List.nil_append, List.append_nil, nth, stV, truP, seqL, seqO, rows, subP, fdivP, modP, powP, mulP, CDiv, CPow, CMul, neP, ltP, leP, gtP, geP, isNon, isP, isNotP, lenO, lenP, absP, min2P, max2P, listP, tupleP, allP, sumP, intCP, isinP, tysOf, seqK, keyOf, dgetP, slcMP, tyM, appendP, popAtP, joinP, wPairs, dputP, eqNilP, List.isEmpty_nil, List.isEmpty_cons, Bool.not_true, Bool.not_false, Bool.true_eq_false, Bool.false_eq_true, and_true, true_and, ↓reduceIte, Int.reduceToNat, Int.reducePow, Int.reduceNeg, Int.reduceAdd, Int.reduceSub, Int.reduceMul, Nat.reduceMul, Nat.reduceLT, Nat.reduceLeDiff, isB, String.reduceBEq, Bool.or_true, Bool.or_false, Bool.and_true, Bool.and_false, Bool.true_and, Bool.false_and, Bool.false_or, Bool.true_or, Int.cast_ofNat_Int, Int.reduceBEq, Int.reduceBNe, BEq.rfl, pow_ok9, pow_ok18, pow_ok30, line_eq, put_same, put_put, List.mem_cons, List.not_mem_nil, or_false, addP_int, addP_str, addP_tup, addP_lst, intP_int, intP0_int, ordP_int, eqP_int, eqP_str, eqP_bl, eqP_non, ixP_str, ixP_lst, ixP_tup, ixP_scr, slcP_str, slcP_tup, slcP_lst, wiSeq_eq, walkP_tup, walkP_str, walkP_lst, walkP_scr, revP_str, revP_tup, revP_lst, eqNilT_tup, addBP_bl, addBP_int, addBP_str, addBP_tup, addBP_lst, subBP_bl, subBP_int, strCP_int, strCP_str, zipsP, ↓wV_ap, ↓wC_ap, ↓wOp_ap, ↓wUn_ap, ↓wBool_ap, ↓wChain_ap, ↓wTru_ap, ↓wAnd_ap, ↓wOr_ap, ↓wNot_ap, ↓wIfE_ap, ↓wAndV_ap, ↓wOrV_ap, ↓wNotV_ap, ↓wNil_ap, ↓wCons_ap, ↓wTup_ap, ↓wLst_ap, ↓wLstM_ap, ↓wCB_ap, ↓wgN_ap, ↓wgNil_ap, ↓wgCons_ap, ↓wgTup_ap, ↓wNext_ap, ↓wSeq_ap, ↓wAsg_ap, ↓wDrop_ap, ↓wRet_ap, ↓wRetN_ap, ↓wBrk_ap, ↓wCont_ap, ↓wIfS_ap, ↓wNever_ap, ↓wPar_ap, ↓wPar3_ap, ↓wAug_ap, ↓wYes_ap, ↓wCall_ap, ↓wCallK_ap, ↓wiRng1_ap, ↓wiRng2_ap, ↓wRepLit_ap, ↓wNoPart_ap, ↓wPart_ap, ↓wSl_ap, ↓wRevL_ap, ↓wBm_ap, ↓wDnewM_ap, ↓wDput_ap, ↓wFrz_ap, ↓wiZip_ap, ↓wRevA_ap, ↓wRaise1_ap, ↓wRaise0_ap, ↓wXf_ap, ↓wThunk_ap, ↓wDispM_ap, ↓wTryK_ap, ↓wLamC_ap]
          exact .mk put_same (by omega) (by omega) (by omega) fun a c1 c2 => ⟨a, by trivial, by rw [put_put]⟩
        rintro ρ S ⟨at_, rfl, rfl⟩
        refine cut_intro (fun ρ S => ∃ ls : List PV, ls ≠ [] ∧ ls.length ≤ 5 ∧ (∀ y ∈ ls, Bent B (dp (.tup xs)) (wt (.tup xs)) y) ∧ ρ = [some (.ref p), some (.tup xs), some (.int at_), some (.lst ls)] ∧ S = put S0 p (drw p (m + 1))) ?_ ?_
        · have k1 := cut_good (lo := none) (hi := some at_) hxs
          have k2 := cut_good (lo := some (at_ + 1)) (hi := none) hxs
          have k3 := cut_good (lo := some at_) (hi := none) hxs
          have l1 : (cutP xs none (some at_)).length ≤ xs.length := cut_len
          have l2 : (cutP xs (some (at_ + 1)) none).length ≤ xs.length := cut_len
          have l3 : (cutP xs (some at_) none).length ≤ xs.length := cut_len
          have n1 : ∀ x ∈ [PV.non], Good B x := fun x h => by rw [List.mem_singleton.mp h]; exact .non
          have w0 : wts [PV.non] = 1 := by simp [wts, wt]
          have d0 : dps [PV.non] = 0 := by simp [dps, dp]
          have rv := wts_rev xs
          simp only [startP, List.map_cons, List.map_nil, List.length_cons, List.length_nil, Nat.reduceAdd, Nat.reduceSub, List.reduceReplicate, List.cons_append, List.nil_append, List.append_nil, nth, stV, truP, seqL, seqO, rows, subP, fdivP, modP, powP, mulP, CDiv, CPow, CMul, neP, ltP, leP, gtP, geP, isNon, isP, isNotP, lenO, lenP, absP, min2P, max2P, listP, tupleP, allP, sumP, intCP, isinP, tysOf, seqK, keyOf, dgetP, slcMP, tyM, appendP, popAtP, joinP, wPairs, dputP, eqNilP, List.isEmpty_nil, List.isEmpty_cons, Bool.not_true, Bool.not_false, Bool.true_eq_false, Bool.false_eq_true, and_true, true_and, ↓reduceIte, Int.reduceToNat, Int.reducePow, Int.reduceNeg, Int.reduceAdd, Int.reduceSub, Int.reduceMul, Nat.reduceMul, Nat.reduceLT, Nat.reduceLeDiff, isB, String.reduceBEq, Bool.or_true, Bool.or_false, Bool.and_true, Bool.and_false, Bool.true_and, Bool.false_and, Bool.false_or, Bool.true_or, Int.cast_ofNat_Int, Int.reduceBEq, Int.reduceBNe, BEq.rfl, pow_ok9, pow_ok18, pow_ok30, line_eq, put_same, put_put, List.mem_cons, List.not_mem_nil, or_false, addP_int, addP_str, addP_tup, addP_lst, intP_int, intP0_int, ordP_int, eqP_int, eqP_str, eqP_bl, eqP_non, ixP_str, ixP_lst, ixP_tup, ixP_scr, slcP_str, slcP_tup, slcP_lst, wiSeq_eq, walkP_tup, walkP_str, walkP_lst, walkP_scr, revP_str, revP_tup, revP_lst, eqNilT_tup, addBP_bl, addBP_int, addBP_str, addBP_tup, addBP_lst, subBP_bl, subBP_int, strCP_int, strCP_str, zipsP, ↓wV_ap, ↓wC_ap, ↓wOp_ap, ↓wUn_ap, ↓wBool_ap, ↓wChain_ap, ↓wTru_ap, ↓wAnd_ap, ↓wOr_ap, ↓wNot_ap, ↓wIfE_ap, ↓wAndV_ap, ↓wOrV_ap, ↓wNotV_ap, ↓wNil_ap, ↓wCons_ap, ↓wTup_ap, ↓wLst_ap, ↓wLstM_ap, ↓wCB_ap, ↓wgN_ap, ↓wgNil_ap, ↓wgCons_ap, ↓wgTup_ap, ↓wNext_ap, ↓wSeq_ap, ↓wAsg_ap, ↓wDrop_ap, ↓wRet_ap, ↓wRetN_ap, ↓wBrk_ap, ↓wCont_ap, ↓wIfS_ap, ↓wNever_ap, ↓wPar_ap, ↓wPar3_ap, ↓wAug_ap, ↓wYes_ap, ↓wCall_ap, ↓wCallK_ap, ↓wiRng1_ap, ↓wiRng2_ap, ↓wRepLit_ap, ↓wNoPart_ap, ↓wPart_ap, ↓wSl_ap, ↓wRevL_ap, ↓wBm_ap, ↓wDnewM_ap, ↓wDput_ap, ↓wFrz_ap, ↓wiZip_ap, ↓wRevA_ap, ↓wRaise1_ap, ↓wRaise0_ap, ↓wXf_ap, ↓wThunk_ap, ↓wDispM_ap, ↓wTryK_ap, ↓wLamC_ap]
          refine ⟨by omega, by omega, by omega, _, by simp, by simp, ?_, rfl⟩
          intro y hy
          simp only [List.mem_cons, List.not_mem_nil, or_false] at hy
          rcases hy with rfl | rfl | rfl | rfl | rfl
          · exact bent_lst hxs (by omega) (by omega)
          · exact bent_tup (app_good hxs n1) (by rw [dps_app]; omega) (by rw [wts_app]; omega)
          · exact bent_tup (app_good k1.1 k2.1) (by rw [dps_app]; omega) (by rw [wts_app]; omega)
          · exact bent_tup (fun x h => hxs x (List.mem_reverse.mp h)) (by omega) (by omega)
          · exact bent_tup (app_good k3.1 k1.1) (by rw [dps_app]; omega) (by rw [wts_app]; omega)
        rintro ρ S ⟨ls, l0, l5, lb, rfl, rfl⟩
        have k1 := cut_good (lo := some (-1)) (hi := none) hxs
        have k2 := cut_good (lo := some 1) (hi := none) hxs
        have k3 := cut_good (lo := none) (hi := some 1) hxs
        have l1 : (cutP xs (some (-1)) none).length ≤ xs.length := cut_len
        have one : ∀ x ∈ [PV.tup xs], Good B x := fun x h => by rw [List.mem_singleton.mp h]; exact hx
        have w0 : wts [PV.tup xs] = wts xs + 1 := by simp [wts, wt]
        have d0 : dps [PV.tup xs] = dps xs + 1 := by simp [dps, dp]
        simp only [startP, List.map_cons, List.map_nil, List.length_cons, List.length_nil, Nat.reduceAdd, Nat.reduceSub, List.reduceReplicate, List.cons_append, List.nil_append, List.append_nil, nth, stV, truP, seqL, seqO, rows, subP, fdivP, modP, powP, mulP, CDiv, CPow, CMul, neP, ltP, leP, gtP, geP, isNon, isP, isNotP, lenO, lenP, absP, min2P, max2P, listP, tupleP, allP, sumP, intCP, isinP, tysOf, seqK, keyOf, dgetP, slcMP, tyM, appendP, popAtP, joinP, wPairs, dputP, eqNilP, List.isEmpty_nil, List.isEmpty_cons, Bool.not_true, Bool.not_false, Bool.true_eq_false, Bool.false_eq_true, and_true, true_and, ↓reduceIte, Int.reduceToNat, Int.reducePow, Int.reduceNeg, Int.reduceAdd, Int.reduceSub, Int.reduceMul, Nat.reduceMul, Nat.reduceLT, Nat.reduceLeDiff, isB, String.reduceBEq, Bool.or_true, Bool.or_false, Bool.and_true, Bool.and_false, Bool.true_and, Bool.false_and, Bool.false_or, Bool.true_or, Int.cast_ofNat_Int, Int.reduceBEq, Int.reduceBNe, BEq.rfl, pow_ok9, pow_ok18, pow_ok30, line_eq, put_same, put_put, List.mem_cons, List.not_mem_nil, or_false, addP_int, addP_str, addP_tup, addP_lst, intP_int, intP0_int, ordP_int, eqP_int, eqP_str, eqP_bl, eqP_non, ixP_str, ixP_lst, ixP_tup, ixP_scr, slcP_str, slcP_tup, slcP_lst, wiSeq_eq, walkP_tup, walkP_str, walkP_lst, walkP_scr, revP_str, revP_tup, revP_lst, eqNilT_tup, addBP_bl, addBP_int, addBP_str, addBP_tup, addBP_lst, subBP_bl, subBP_int, strCP_int, strCP_str, zipsP, ↓wV_ap, ↓wC_ap, ↓wOp_ap, ↓wUn_ap, ↓wBool_ap, ↓wChain_ap, ↓wTru_ap, ↓wAnd_ap, ↓wOr_ap, ↓wNot_ap, ↓wIfE_ap, ↓wAndV_ap, ↓wOrV_ap, ↓wNotV_ap, ↓wNil_ap, ↓wCons_ap, ↓wTup_ap, ↓wLst_ap, ↓wLstM_ap, ↓wCB_ap, ↓wgN_ap, ↓wgNil_ap, ↓wgCons_ap, ↓wgTup_ap, ↓wNext_ap, ↓wSeq_ap, ↓wAsg_ap, ↓wDrop_ap, ↓wRet_ap, ↓wRetN_ap, ↓wBrk_ap, ↓wCont_ap, ↓wIfS_ap, ↓wNever_ap, ↓wPar_ap, ↓wPar3_ap, ↓wAug_ap, ↓wYes_ap, ↓wCall_ap, ↓wCallK_ap, ↓wiRng1_ap, ↓wiRng2_ap, ↓wRepLit_ap, ↓wNoPart_ap, ↓wPart_ap, ↓wSl_ap, ↓wRevL_ap, ↓wBm_ap, ↓wDnewM_ap, ↓wDput_ap, ↓wFrz_ap, ↓wiZip_ap, ↓wRevA_ap, ↓wRaise1_ap, ↓wRaise0_ap, ↓wXf_ap, ↓wThunk_ap, ↓wDispM_ap, ↓wTryK_ap, ↓wLamC_ap]
        refine ⟨by omega, by omega, _, m + 1, some (.int at_), by simp, by rw [List.length_append]; simp only [List.length_cons, List.length_nil]; omega, ?_, Nat.le_refl _, rfl, rfl⟩
        intro y hy
        rcases List.mem_append.mp hy with hy | hy
        · exact lb y hy
        simp only [List.mem_cons, List.not_mem_nil, or_false] at hy
        rcases hy with rfl | rfl | rfl | rfl | rfl
        · exact bent_tup (app_good hxs k1.1) (by rw [dps_app]; omega) (by rw [wts_app]; omega)
        · exact bent_tup k2.1 (by omega) (by omega)
        · exact bent_tup k3.1 (by omega) (by omega)
        · exact bent_tup one (by omega) (by omega)
        · exact bent_atom .non (by simp [dp]) (by simp [wt])
      | non => simp only [startP, List.map_cons, List.map_nil, List.length_cons, List.length_nil, Nat.reduceAdd, Nat.reduceSub, List.reduceReplicate, List.cons_append, List.nil_append, List.append_nil, nth, stV, truP, seqL, seqO, rows, subP, fdivP, modP, powP, mulP, CDiv, CPow, CMul, neP, ltP, leP, gtP, geP, isNon, isP, isNotP, lenO, lenP, absP, min2P, max2P, listP, tupleP, allP, sumP, intCP, isinP, tysOf, seqK, keyOf, dgetP, slcMP, tyM, appendP, popAtP, joinP, wPairs, dputP, eqNilP, List.isEmpty_nil, List.isEmpty_cons, Bool.not_true, Bool.not_false, Bool.true_eq_false, Bool.false_eq_true, and_true, true_and, ↓reduceIte, Int.reduceToNat, Int.reducePow, Int.reduceNeg, Int.reduceAdd, Int.reduceSub, Int.reduceMul, Nat.reduceMul, Nat.reduceLT, Nat.reduceLeDiff, isB, String.reduceBEq, Bool.or_true, Bool.or_false, Bool.and_true, Bool.and_false, Bool.true_and, Bool.false_and, Bool.false_or, Bool.true_or, Int.cast_ofNat_Int, Int.reduceBEq, Int.reduceBNe, BEq.rfl, pow_ok9, pow_ok18, pow_ok30, line_eq, put_same, put_put, List.mem_cons, List.not_mem_nil, or_false, addP_int, addP_str, addP_tup, addP_lst, intP_int, intP0_int, ordP_int, eqP_int, eqP_str, eqP_bl, eqP_non, ixP_str, ixP_lst, ixP_tup, ixP_scr, slcP_str, slcP_tup, slcP_lst, wiSeq_eq, walkP_tup, walkP_str, walkP_lst, walkP_scr, revP_str, revP_tup, revP_lst, eqNilT_tup, addBP_bl, addBP_int, addBP_str, addBP_tup, addBP_lst, subBP_bl, subBP_int, strCP_int, strCP_str, zipsP, ↓wV_ap, ↓wC_ap, ↓wOp_ap, ↓wUn_ap, ↓wBool_ap, ↓wChain_ap, ↓wTru_ap, ↓wAnd_ap, ↓wOr_ap, ↓wNot_ap, ↓wIfE_ap, ↓wAndV_ap, ↓wOrV_ap, ↓wNotV_ap, ↓wNil_ap, ↓wCons_ap, ↓wTup_ap, ↓wLst_ap, ↓wLstM_ap, ↓wCB_ap, ↓wgN_ap, ↓wgNil_ap, ↓wgCons_ap, ↓wgTup_ap, ↓wNext_ap, ↓wSeq_ap, ↓wAsg_ap, ↓wDrop_ap, ↓wRet_ap, ↓wRetN_ap, ↓wBrk_ap, ↓wCont_ap, ↓wIfS_ap, ↓wNever_ap, ↓wPar_ap, ↓wPar3_ap, ↓wAug_ap, ↓wYes_ap, ↓wCall_ap, ↓wCallK_ap, ↓wiRng1_ap, ↓wiRng2_ap, ↓wRepLit_ap, ↓wNoPart_ap, ↓wPart_ap, ↓wSl_ap, ↓wRevL_ap, ↓wBm_ap, ↓wDnewM_ap, ↓wDput_ap, ↓wFrz_ap, ↓wiZip_ap, ↓wRevA_ap, ↓wRaise1_ap, ↓wRaise0_ap, ↓wXf_ap, ↓wThunk_ap, ↓wDispM_ap, ↓wTryK_ap, ↓wLamC_ap, tyN, kind_tuple, kind_int, kind_str]; exact ⟨oddsR, m, none, fun z => (nomatch z), by decide, oddsR_ok, by omega, rfl, rfl⟩
      | lst xs => simp only [startP, List.map_cons, List.map_nil, List.length_cons, List.length_nil, Nat.reduceAdd, Nat.reduceSub, List.reduceReplicate, List.cons_append, List.nil_append, List.append_nil, nth, stV, truP, seqL, seqO, rows, subP, fdivP, modP, powP, mulP, CDiv, CPow, CMul, neP, ltP, leP, gtP, geP, isNon, isP, isNotP, lenO, lenP, absP, min2P, max2P, listP, tupleP, allP, sumP, intCP, isinP, tysOf, seqK, keyOf, dgetP, slcMP, tyM, appendP, popAtP, joinP, wPairs, dputP, eqNilP, List.isEmpty_nil, List.isEmpty_cons, Bool.not_true, Bool.not_false, Bool.true_eq_false, Bool.false_eq_true, and_true, true_and, ↓reduceIte, Int.reduceToNat, Int.reducePow, Int.reduceNeg, Int.reduceAdd, Int.reduceSub, Int.reduceMul, Nat.reduceMul, Nat.reduceLT, Nat.reduceLeDiff, isB, String.reduceBEq, Bool.or_true, Bool.or_false, Bool.and_true, Bool.and_false, Bool.true_and, Bool.false_and, Bool.false_or, Bool.true_or, Int.cast_ofNat_Int, Int.reduceBEq, Int.reduceBNe, BEq.rfl, pow_ok9, pow_ok18, pow_ok30, line_eq, put_same, put_put, List.mem_cons, List.not_mem_nil, or_false, addP_int, addP_str, addP_tup, addP_lst, intP_int, intP0_int, ordP_int, eqP_int, eqP_str, eqP_bl, eqP_non, ixP_str, ixP_lst, ixP_tup, ixP_scr, slcP_str, slcP_tup, slcP_lst, wiSeq_eq, walkP_tup, walkP_str, walkP_lst, walkP_scr, revP_str, revP_tup, revP_lst, eqNilT_tup, addBP_bl, addBP_int, addBP_str, addBP_tup, addBP_lst, subBP_bl, subBP_int, strCP_int, strCP_str, zipsP, ↓wV_ap, ↓wC_ap, ↓wOp_ap, ↓wUn_ap, ↓wBool_ap, ↓wChain_ap, ↓wTru_ap, ↓wAnd_ap, ↓wOr_ap, ↓wNot_ap, ↓wIfE_ap, ↓wAndV_ap, ↓wOrV_ap, ↓wNotV_ap, ↓wNil_ap, ↓wCons_ap, ↓wTup_ap, ↓wLst_ap, ↓wLstM_ap, ↓wCB_ap, ↓wgN_ap, ↓wgNil_ap, ↓wgCons_ap, ↓wgTup_ap, ↓wNext_ap, ↓wSeq_ap, ↓wAsg_ap, ↓wDrop_ap, ↓wRet_ap, ↓wRetN_ap, ↓wBrk_ap, ↓wCont_ap, ↓wIfS_ap, ↓wNever_ap, ↓wPar_ap, ↓wPar3_ap, ↓wAug_ap, ↓wYes_ap, ↓wCall_ap, ↓wCallK_ap, ↓wiRng1_ap, ↓wiRng2_ap, ↓wRepLit_ap, ↓wNoPart_ap, ↓wPart_ap, ↓wSl_ap, ↓wRevL_ap, ↓wBm_ap, ↓wDnewM_ap, ↓wDput_ap, ↓wFrz_ap, ↓wiZip_ap, ↓wRevA_ap, ↓wRaise1_ap, ↓wRaise0_ap, ↓wXf_ap, ↓wThunk_ap, ↓wDispM_ap, ↓wTryK_ap, ↓wLamC_ap, tyN, kind_tuple, kind_int, kind_str]; exact ⟨oddsR, m, none, fun z => (nomatch z), by decide, oddsR_ok, by omega, rfl, rfl⟩
      | dic xs => simp only [startP, List.map_cons, List.map_nil, List.length_cons, List.length_nil, Nat.reduceAdd, Nat.reduceSub, List.reduceReplicate, List.cons_append, List.nil_append, List.append_nil, nth, stV, truP, seqL, seqO, rows, subP, fdivP, modP, powP, mulP, CDiv, CPow, CMul, neP, ltP, leP, gtP, geP, isNon, isP, isNotP, lenO, lenP, absP, min2P, max2P, listP, tupleP, allP, sumP, intCP, isinP, tysOf, seqK, keyOf, dgetP, slcMP, tyM, appendP, popAtP, joinP, wPairs, dputP, eqNilP, List.isEmpty_nil, List.isEmpty_cons, Bool.not_true, Bool.not_false, Bool.true_eq_false, Bool.false_eq_true, and_true, true_and, ↓reduceIte, Int.reduceToNat, Int.reducePow, Int.reduceNeg, Int.reduceAdd, Int.reduceSub, Int.reduceMul, Nat.reduceMul, Nat.reduceLT, Nat.reduceLeDiff, isB, String.reduceBEq, Bool.or_true, Bool.or_false, Bool.and_true, Bool.and_false, Bool.true_and, Bool.false_and, Bool.false_or, Bool.true_or, Int.cast_ofNat_Int, Int.reduceBEq, Int.reduceBNe, BEq.rfl, pow_ok9, pow_ok18, pow_ok30, line_eq, put_same, put_put, List.mem_cons, List.not_mem_nil, or_false, addP_int, addP_str, addP_tup, addP_lst, intP_int, intP0_int, ordP_int, eqP_int, eqP_str, eqP_bl, eqP_non, ixP_str, ixP_lst, ixP_tup, ixP_scr, slcP_str, slcP_tup, slcP_lst, wiSeq_eq, walkP_tup, walkP_str, walkP_lst, walkP_scr, revP_str, revP_tup, revP_lst, eqNilT_tup, addBP_bl, addBP_int, addBP_str, addBP_tup, addBP_lst, subBP_bl, subBP_int, strCP_int, strCP_str, zipsP, ↓wV_ap, ↓wC_ap, ↓wOp_ap, ↓wUn_ap, ↓wBool_ap, ↓wChain_ap, ↓wTru_ap, ↓wAnd_ap, ↓wOr_ap, ↓wNot_ap, ↓wIfE_ap, ↓wAndV_ap, ↓wOrV_ap, ↓wNotV_ap, ↓wNil_ap, ↓wCons_ap, ↓wTup_ap, ↓wLst_ap, ↓wLstM_ap, ↓wCB_ap, ↓wgN_ap, ↓wgNil_ap, ↓wgCons_ap, ↓wgTup_ap, ↓wNext_ap, ↓wSeq_ap, ↓wAsg_ap, ↓wDrop_ap, ↓wRet_ap, ↓wRetN_ap, ↓wBrk_ap, ↓wCont_ap, ↓wIfS_ap, ↓wNever_ap, ↓wPar_ap, ↓wPar3_ap, ↓wAug_ap, ↓wYes_ap, ↓wCall_ap, ↓wCallK_ap, ↓wiRng1_ap, ↓wiRng2_ap, ↓wRepLit_ap, ↓wNoPart_ap, ↓wPart_ap, ↓wSl_ap, ↓wRevL_ap, ↓wBm_ap, ↓wDnewM_ap, ↓wDput_ap, ↓wFrz_ap, ↓wiZip_ap, ↓wRevA_ap, ↓wRaise1_ap, ↓wRaise0_ap, ↓wXf_ap, ↓wThunk_ap, ↓wDispM_ap, ↓wTryK_ap, ↓wLamC_ap, tyN, kind_tuple, kind_int, kind_str]; exact ⟨oddsR, m, none, fun z => (nomatch z), by decide, oddsR_ok, by omega, rfl, rfl⟩
      | int i =>
        have hi : i.natAbs ≤ B := by cases hx with | int h => exact h
        simp only [startP, List.map_cons, List.map_nil, List.length_cons, List.length_nil, Nat.reduceAdd, Nat.reduceSub, List.reduceReplicate, List.cons_append, List.nil_append, List.append_nil, nth, stV, truP, seqL, seqO, rows, subP, fdivP, modP, powP, mulP, CDiv, CPow, CMul, neP, ltP, leP, gtP, geP, isNon, isP, isNotP, lenO, lenP, absP, min2P, max2P, listP, tupleP, allP, sumP, intCP, isinP, tysOf, seqK, keyOf, dgetP, slcMP, tyM, appendP, popAtP, joinP, wPairs, dputP, eqNilP, List.isEmpty_nil, List.isEmpty_cons, Bool.not_true, Bool.not_false, Bool.true_eq_false, Bool.false_eq_true, and_true, true_and, ↓reduceIte, Int.reduceToNat, Int.reducePow, Int.reduceNeg, Int.reduceAdd, Int.reduceSub, Int.reduceMul, Nat.reduceMul, Nat.reduceLT, Nat.reduceLeDiff, isB, String.reduceBEq, Bool.or_true, Bool.or_false, Bool.and_true, Bool.and_false, Bool.true_and, Bool.false_and, Bool.false_or, Bool.true_or, Int.cast_ofNat_Int, Int.reduceBEq, Int.reduceBNe, BEq.rfl, pow_ok9, pow_ok18, pow_ok30, line_eq, put_same, put_put, List.mem_cons, List.not_mem_nil, or_false, addP_int, addP_str, addP_tup, addP_lst, intP_int, intP0_int, ordP_int, eqP_int, eqP_str, eqP_bl, eqP_non, ixP_str, ixP_lst, ixP_tup, ixP_scr, slcP_str, slcP_tup, slcP_lst, wiSeq_eq, walkP_tup, walkP_str, walkP_lst, walkP_scr, revP_str, revP_tup, revP_lst, eqNilT_tup, addBP_bl, addBP_int, addBP_str, addBP_tup, addBP_lst, subBP_bl, subBP_int, strCP_int, strCP_str, zipsP, ↓wV_ap, ↓wC_ap, ↓wOp_ap, ↓wUn_ap, ↓wBool_ap, ↓wChain_ap, ↓wTru_ap, ↓wAnd_ap, ↓wOr_ap, ↓wNot_ap, ↓wIfE_ap, ↓wAndV_ap, ↓wOrV_ap, ↓wNotV_ap, ↓wNil_ap, ↓wCons_ap, ↓wTup_ap, ↓wLst_ap, ↓wLstM_ap, ↓wCB_ap, ↓wgN_ap, ↓wgNil_ap, ↓wgCons_ap, ↓wgTup_ap, ↓wNext_ap, ↓wSeq_ap, ↓wAsg_ap, ↓wDrop_ap, ↓wRet_ap, ↓wRetN_ap, ↓wBrk_ap, ↓wCont_ap, ↓wIfS_ap, ↓wNever_ap, ↓wPar_ap, ↓wPar3_ap, ↓wAug_ap, ↓wYes_ap, ↓wCall_ap, ↓wCallK_ap, ↓wiRng1_ap, ↓wiRng2_ap, ↓wRepLit_ap, ↓wNoPart_ap, ↓wPart_ap, ↓wSl_ap, ↓wRevL_ap, ↓wBm_ap, ↓wDnewM_ap, ↓wDput_ap, ↓wFrz_ap, ↓wiZip_ap, ↓wRevA_ap, ↓wRaise1_ap, ↓wRaise0_ap, ↓wXf_ap, ↓wThunk_ap, ↓wDispM_ap, ↓wTryK_ap, ↓wLamC_ap, tyN, kind_tuple, kind_int, kind_str]
        refine .mk put_same (by decide) (by decide) (by omega) fun r a1 b1 => ?_
        simp only [startP, List.map_cons, List.map_nil, List.length_cons, List.length_nil, Nat.reduceAdd, Nat.reduceSub, List.reduceReplicate, List.cons_append, List.nil_append, List.append_nil, nth, stV, truP, seqL, seqO, rows, subP, fdivP, modP, powP, mulP, CDiv, CPow, CMul, neP, ltP, leP, gtP, geP, isNon, isP, isNotP, lenO, lenP, absP, min2P, max2P, listP, tupleP, allP, sumP, intCP, isinP, tysOf, seqK, keyOf, dgetP, slcMP, tyM, appendP, popAtP, joinP, wPairs, dputP, eqNilP, List.isEmpty_nil, List.isEmpty_cons, Bool.not_true, Bool.not_false, Bool.true_eq_false, Bool.false_eq_true, and_true, true_and, ↓reduceIte, Int.reduceToNat, Int.reducePow, Int.reduceNeg, Int.reduceAdd, Int.reduceSub, Int.reduceMul, Nat.reduceMul, Nat.reduceLT, Nat.reduceLeDiff, isB, String.reduceBEq, Bool.or_true, Bool.or_false, Bool.and_true, Bool.and_false, Bool.true_and, Bool.false_and, Bool.false_or, Bool.true_or, Int.cast_ofNat_Int, Int.reduceBEq, Int.reduceBNe, BEq.rfl, pow_ok9, pow_ok18, pow_ok30, line_eq, put_same, put_put, List.mem_cons, List.not_mem_nil, or_false, addP_int, addP_str, addP_tup, addP_lst, intP_int, intP0_int, ordP_int, eqP_int, eqP_str, eqP_bl, eqP_non, ixP_str, ixP_lst, ixP_tup, ixP_scr, slcP_str, slcP_tup, slcP_lst, wiSeq_eq, walkP_tup, walkP_str, walkP_lst, walkP_scr, revP_str, revP_tup, revP_lst, eqNilT_tup, addBP_bl, addBP_int, addBP_str, addBP_tup, addBP_lst, subBP_bl, subBP_int, strCP_int, strCP_str, zipsP, ↓wV_ap, ↓wC_ap, ↓wOp_ap, ↓wUn_ap, ↓wBool_ap, ↓wChain_ap, ↓wTru_ap, ↓wAnd_ap, ↓wOr_ap, ↓wNot_ap, ↓wIfE_ap, ↓wAndV_ap, ↓wOrV_ap, ↓wNotV_ap, ↓wNil_ap, ↓wCons_ap, ↓wTup_ap, ↓wLst_ap, ↓wLstM_ap, ↓wCB_ap, ↓wgN_ap, ↓wgNil_ap, ↓wgCons_ap, ↓wgTup_ap, ↓wNext_ap, ↓wSeq_ap, ↓wAsg_ap, ↓wDrop_ap, ↓wRet_ap, ↓wRetN_ap, ↓wBrk_ap, ↓wCont_ap, ↓wIfS_ap, ↓wNever_ap, ↓wPar_ap, ↓wPar3_ap, ↓wAug_ap, ↓wYes_ap, ↓wCall_ap, ↓wCallK_ap, ↓wiRng1_ap, ↓wiRng2_ap, ↓wRepLit_ap, ↓wNoPart_ap, ↓wPart_ap, ↓wSl_ap, ↓wRevL_ap, ↓wBm_ap, ↓wDnewM_ap, ↓wDput_ap, ↓wFrz_ap, ↓wiZip_ap, ↓wRevA_ap, ↓wRaise1_ap, ↓wRaise0_ap, ↓wXf_ap, ↓wThunk_ap, ↓wDispM_ap, ↓wTryK_ap, ↓wLamC_ap]
        cases z : r == 0 with
        | false => exact ⟨oddsR, m + 1, none, fun z => (nomatch z), by decide, oddsR_ok, Nat.le_refl _, rfl, rfl⟩
        | true =>
          refine ⟨log_ok hi hB, _, m + 1, none, by simp, by simp, fun y hy => ?_, Nat.le_refl _, rfl, rfl⟩
          simp only [List.mem_cons, List.not_mem_nil, or_false] at hy
          rcases hy with rfl | rfl | rfl | rfl | rfl | rfl
          · exact bent_int (by omega)
          · exact bent_int (by omega)
          · exact bent_int (by omega)
          · exact bent_str (int_okS (Nat.le_trans hi (Nat.le_trans hB (by decide)))) (by omega)
          · exact bent_lst (one_good hx) (by simp [dps, dp]) (by simp [wts, wt])
          · exact bent_atom .bl (by simp [dp]) (by simp [wt])
      | bl i =>
        simp only [startP, List.map_cons, List.map_nil, List.length_cons, List.length_nil, Nat.reduceAdd, Nat.reduceSub, List.reduceReplicate, List.cons_append, List.nil_append, List.append_nil, nth, stV, truP, seqL, seqO, rows, subP, fdivP, modP, powP, mulP, CDiv, CPow, CMul, neP, ltP, leP, gtP, geP, isNon, isP, isNotP, lenO, lenP, absP, min2P, max2P, listP, tupleP, allP, sumP, intCP, isinP, tysOf, seqK, keyOf, dgetP, slcMP, tyM, appendP, popAtP, joinP, wPairs, dputP, eqNilP, List.isEmpty_nil, List.isEmpty_cons, Bool.not_true, Bool.not_false, Bool.true_eq_false, Bool.false_eq_true, and_true, true_and, ↓reduceIte, Int.reduceToNat, Int.reducePow, Int.reduceNeg, Int.reduceAdd, Int.reduceSub, Int.reduceMul, Nat.reduceMul, Nat.reduceLT, Nat.reduceLeDiff, isB, String.reduceBEq, Bool.or_true, Bool.or_false, Bool.and_true, Bool.and_false, Bool.true_and, Bool.false_and, Bool.false_or, Bool.true_or, Int.cast_ofNat_Int, Int.reduceBEq, Int.reduceBNe, BEq.rfl, pow_ok9, pow_ok18, pow_ok30, line_eq, put_same, put_put, List.mem_cons, List.not_mem_nil, or_false, addP_int, addP_str, addP_tup, addP_lst, intP_int, intP0_int, ordP_int, eqP_int, eqP_str, eqP_bl, eqP_non, ixP_str, ixP_lst, ixP_tup, ixP_scr, slcP_str, slcP_tup, slcP_lst, wiSeq_eq, walkP_tup, walkP_str, walkP_lst, walkP_scr, revP_str, revP_tup, revP_lst, eqNilT_tup, addBP_bl, addBP_int, addBP_str, addBP_tup, addBP_lst, subBP_bl, subBP_int, strCP_int, strCP_str, zipsP, ↓wV_ap, ↓wC_ap, ↓wOp_ap, ↓wUn_ap, ↓wBool_ap, ↓wChain_ap, ↓wTru_ap, ↓wAnd_ap, ↓wOr_ap, ↓wNot_ap, ↓wIfE_ap, ↓wAndV_ap, ↓wOrV_ap, ↓wNotV_ap, ↓wNil_ap, ↓wCons_ap, ↓wTup_ap, ↓wLst_ap, ↓wLstM_ap, ↓wCB_ap, ↓wgN_ap, ↓wgNil_ap, ↓wgCons_ap, ↓wgTup_ap, ↓wNext_ap, ↓wSeq_ap, ↓wAsg_ap, ↓wDrop_ap, ↓wRet_ap, ↓wRetN_ap, ↓wBrk_ap, ↓wCont_ap, ↓wIfS_ap, ↓wNever_ap, ↓wPar_ap, ↓wPar3_ap, ↓wAug_ap, ↓wYes_ap, ↓wCall_ap, ↓wCallK_ap, ↓wiRng1_ap, ↓wiRng2_ap, ↓wRepLit_ap, ↓wNoPart_ap, ↓wPart_ap, ↓wSl_ap, ↓wRevL_ap, ↓wBm_ap, ↓wDnewM_ap, ↓wDput_ap, ↓wFrz_ap, ↓wiZip_ap, ↓wRevA_ap, ↓wRaise1_ap, ↓wRaise0_ap, ↓wXf_ap, ↓wThunk_ap, ↓wDispM_ap, ↓wTryK_ap, ↓wLamC_ap, tyN, kind_tuple, kind_int, kind_str]
        refine .mk put_same (by decide) (by decide) (by omega) fun r a1 b1 => ?_
        simp only [startP, List.map_cons, List.map_nil, List.length_cons, List.length_nil, Nat.reduceAdd, Nat.reduceSub, List.reduceReplicate, List.cons_append, List.nil_append, List.append_nil, nth, stV, truP, seqL, seqO, rows, subP, fdivP, modP, powP, mulP, CDiv, CPow, CMul, neP, ltP, leP, gtP, geP, isNon, isP, isNotP, lenO, lenP, absP, min2P, max2P, listP, tupleP, allP, sumP, intCP, isinP, tysOf, seqK, keyOf, dgetP, slcMP, tyM, appendP, popAtP, joinP, wPairs, dputP, eqNilP, List.isEmpty_nil, List.isEmpty_cons, Bool.not_true, Bool.not_false, Bool.true_eq_false, Bool.false_eq_true, and_true, true_and, ↓reduceIte, Int.reduceToNat, Int.reducePow, Int.reduceNeg, Int.reduceAdd, Int.reduceSub, Int.reduceMul, Nat.reduceMul, Nat.reduceLT, Nat.reduceLeDiff, isB, String.reduceBEq, Bool.or_true, Bool.or_false, Bool.and_true, Bool.and_false, Bool.true_and, Bool.false_and, Bool.false_or, Bool.true_or, Int.cast_ofNat_Int, Int.reduceBEq, Int.reduceBNe, BEq.rfl, pow_ok9, pow_ok18, pow_ok30, line_eq, put_same, put_put, List.mem_cons, List.not_mem_nil, or_false, addP_int, addP_str, addP_tup, addP_lst, intP_int, intP0_int, ordP_int, eqP_int, eqP_str, eqP_bl, eqP_non, ixP_str, ixP_lst, ixP_tup, ixP_scr, slcP_str, slcP_tup, slcP_lst, wiSeq_eq, walkP_tup, walkP_str, walkP_lst, walkP_scr, revP_str, revP_tup, revP_lst, eqNilT_tup, addBP_bl, addBP_int, addBP_str, addBP_tup, addBP_lst, subBP_bl, subBP_int, strCP_int, strCP_str, zipsP, ↓wV_ap, ↓wC_ap, ↓wOp_ap, ↓wUn_ap, ↓wBool_ap, ↓wChain_ap, ↓wTru_ap, ↓wAnd_ap, ↓wOr_ap, ↓wNot_ap, ↓wIfE_ap, ↓wAndV_ap, ↓wOrV_ap, ↓wNotV_ap, ↓wNil_ap, ↓wCons_ap, ↓wTup_ap, ↓wLst_ap, ↓wLstM_ap, ↓wCB_ap, ↓wgN_ap, ↓wgNil_ap, ↓wgCons_ap, ↓wgTup_ap, ↓wNext_ap, ↓wSeq_ap, ↓wAsg_ap, ↓wDrop_ap, ↓wRet_ap, ↓wRetN_ap, ↓wBrk_ap, ↓wCont_ap, ↓wIfS_ap, ↓wNever_ap, ↓wPar_ap, ↓wPar3_ap, ↓wAug_ap, ↓wYes_ap, ↓wCall_ap, ↓wCallK_ap, ↓wiRng1_ap, ↓wiRng2_ap, ↓wRepLit_ap, ↓wNoPart_ap, ↓wPart_ap, ↓wSl_ap, ↓wRevL_ap, ↓wBm_ap, ↓wDnewM_ap, ↓wDput_ap, ↓wFrz_ap, ↓wiZip_ap, ↓wRevA_ap, ↓wRaise1_ap, ↓wRaise0_ap, ↓wXf_ap, ↓wThunk_ap, ↓wDispM_ap, ↓wTryK_ap, ↓wLamC_ap]
        cases z : r == 0 with
        | false => exact ⟨oddsR, m + 1, none, fun z => (nomatch z), by decide, oddsR_ok, Nat.le_refl _, rfl, rfl⟩
        | true =>
          have hb : 0 ≤ (if i = true then (1 : Int) else 0) ∧ (if i = true then (1 : Int) else 0) ≤ 1 := by cases i <;> simp
          generalize (if i = true then (1 : Int) else 0) = bi at hb ⊢
          refine ⟨log_ok (B := 1) (by omega) (by decide), _, m + 1, none, by simp, by simp, fun y hy => ?_, Nat.le_refl _, rfl, rfl⟩
          simp only [List.mem_cons, List.not_mem_nil, or_false] at hy
          rcases hy with rfl | rfl | rfl | rfl | rfl | rfl
          · exact bent_int (by omega)
          · exact bent_int (by omega)
          · exact bent_int (by omega)
          · exact bent_str (int_okS (Nat.le_trans (m := 1) (by omega) (by decide))) (by omega)
          · exact bent_lst (one_good hx) (by simp [dps, dp]) (by simp [wts, wt])
          · exact bent_atom .bl (by simp [dp]) (by simp [wt])
      | str i =>
        have hi : okS i.length i := by cases hx with | str h => exact ⟨Nat.le_refl _, h⟩
        have hl : i.length ≤ 60000 := by simp only [wt] at hw; exact hw
        have s1 := hi.slice none (some (-1))
        have hwi : wt (.str i) = i.length := by simp only [wt]
        have lz : (Str.ofString "Z").length = 1 := by decide +kernel
        have ld : (Str.ofString "-").length = 1 := by decide +kernel
        have la : (Str.ofString "a").length = 1 := by decide +kernel
        have oz : okS 1 (Str.ofString "Z") := .lit (by decide +kernel)
        have od : okS 1 (Str.ofString "-") := .lit (by decide +kernel)
        have oa : okS 1 (Str.ofString "a") := .lit (by decide +kernel)
        have h1 := s1.1
        simp only [startP, List.map_cons, List.map_nil, List.length_cons, List.length_nil, Nat.reduceAdd, Nat.reduceSub, List.reduceReplicate, List.cons_append, List.nil_append, List.append_nil, nth, stV, truP, seqL, seqO, rows, subP, fdivP, modP, powP, mulP, CDiv, CPow, CMul, neP, ltP, leP, gtP, geP, isNon, isP, isNotP, lenO, lenP, absP, min2P, max2P, listP, tupleP, allP, sumP, intCP, isinP, tysOf, seqK, keyOf, dgetP, slcMP, tyM, appendP, popAtP, joinP, wPairs, dputP, eqNilP, List.isEmpty_nil, List.isEmpty_cons, Bool.not_true, Bool.not_false, Bool.true_eq_false, Bool.false_eq_true, and_true, true_and, ↓reduceIte, Int.reduceToNat, Int.reducePow, Int.reduceNeg, Int.reduceAdd, Int.reduceSub, Int.reduceMul, Nat.reduceMul, Nat.reduceLT, Nat.reduceLeDiff, isB, String.reduceBEq, Bool.or_true, Bool.or_false, Bool.and_true, Bool.and_false, Bool.true_and, Bool.false_and, Bool.false_or, Bool.true_or, Int.cast_ofNat_Int, Int.reduceBEq, Int.reduceBNe, BEq.rfl, pow_ok9, pow_ok18, pow_ok30, line_eq, put_same, put_put, List.mem_cons, List.not_mem_nil, or_false, addP_int, addP_str, addP_tup, addP_lst, intP_int, intP0_int, ordP_int, eqP_int, eqP_str, eqP_bl, eqP_non, ixP_str, ixP_lst, ixP_tup, ixP_scr, slcP_str, slcP_tup, slcP_lst, wiSeq_eq, walkP_tup, walkP_str, walkP_lst, walkP_scr, revP_str, revP_tup, revP_lst, eqNilT_tup, addBP_bl, addBP_int, addBP_str, addBP_tup, addBP_lst, subBP_bl, subBP_int, strCP_int, strCP_str, zipsP, ↓wV_ap, ↓wC_ap, ↓wOp_ap, ↓wUn_ap, ↓wBool_ap, ↓wChain_ap, ↓wTru_ap, ↓wAnd_ap, ↓wOr_ap, ↓wNot_ap, ↓wIfE_ap, ↓wAndV_ap, ↓wOrV_ap, ↓wNotV_ap, ↓wNil_ap, ↓wCons_ap, ↓wTup_ap, ↓wLst_ap, ↓wLstM_ap, ↓wCB_ap, ↓wgN_ap, ↓wgNil_ap, ↓wgCons_ap, ↓wgTup_ap, ↓wNext_ap, ↓wSeq_ap, ↓wAsg_ap, ↓wDrop_ap, ↓wRet_ap, ↓wRetN_ap, ↓wBrk_ap, ↓wCont_ap, ↓wIfS_ap, ↓wNever_ap, ↓wPar_ap, ↓wPar3_ap, ↓wAug_ap, ↓wYes_ap, ↓wCall_ap, ↓wCallK_ap, ↓wiRng1_ap, ↓wiRng2_ap, ↓wRepLit_ap, ↓wNoPart_ap, ↓wPart_ap, ↓wSl_ap, ↓wRevL_ap, ↓wBm_ap, ↓wDnewM_ap, ↓wDput_ap, ↓wFrz_ap, ↓wiZip_ap, ↓wRevA_ap, ↓wRaise1_ap, ↓wRaise0_ap, ↓wXf_ap, ↓wThunk_ap, ↓wDispM_ap, ↓wTryK_ap, ↓wLamC_ap, tyN, kind_tuple, kind_int, kind_str]
        refine .mk put_same (by decide) (by decide) (by omega) fun r a1 b1 => ?_
        simp only [startP, List.map_cons, List.map_nil, List.length_cons, List.length_nil, Nat.reduceAdd, Nat.reduceSub, List.reduceReplicate, List.cons_append, List.nil_append, List.append_nil, nth, stV, truP, seqL, seqO, rows, subP, fdivP, modP, powP, mulP, CDiv, CPow, CMul, neP, ltP, leP, gtP, geP, isNon, isP, isNotP, lenO, lenP, absP, min2P, max2P, listP, tupleP, allP, sumP, intCP, isinP, tysOf, seqK, keyOf, dgetP, slcMP, tyM, appendP, popAtP, joinP, wPairs, dputP, eqNilP, List.isEmpty_nil, List.isEmpty_cons, Bool.not_true, Bool.not_false, Bool.true_eq_false, Bool.false_eq_true, and_true, true_and, ↓reduceIte, Int.reduceToNat, Int.reducePow, Int.reduceNeg, Int.reduceAdd, Int.reduceSub, Int.reduceMul, Nat.reduceMul, Nat.reduceLT, Nat.reduceLeDiff, isB, String.reduceBEq, Bool.or_true, Bool.or_false, Bool.and_true, Bool.and_false, Bool.true_and, Bool.false_and, Bool.false_or, Bool.true_or, Int.cast_ofNat_Int, Int.reduceBEq, Int.reduceBNe, BEq.rfl, pow_ok9, pow_ok18, pow_ok30, line_eq, put_same, put_put, List.mem_cons, List.not_mem_nil, or_false, addP_int, addP_str, addP_tup, addP_lst, intP_int, intP0_int, ordP_int, eqP_int, eqP_str, eqP_bl, eqP_non, ixP_str, ixP_lst, ixP_tup, ixP_scr, slcP_str, slcP_tup, slcP_lst, wiSeq_eq, walkP_tup, walkP_str, walkP_lst, walkP_scr, revP_str, revP_tup, revP_lst, eqNilT_tup, addBP_bl, addBP_int, addBP_str, addBP_tup, addBP_lst, subBP_bl, subBP_int, strCP_int, strCP_str, zipsP, ↓wV_ap, ↓wC_ap, ↓wOp_ap, ↓wUn_ap, ↓wBool_ap, ↓wChain_ap, ↓wTru_ap, ↓wAnd_ap, ↓wOr_ap, ↓wNot_ap, ↓wIfE_ap, ↓wAndV_ap, ↓wOrV_ap, ↓wNotV_ap, ↓wNil_ap, ↓wCons_ap, ↓wTup_ap, ↓wLst_ap, ↓wLstM_ap, ↓wCB_ap, ↓wgN_ap, ↓wgNil_ap, ↓wgCons_ap, ↓wgTup_ap, ↓wNext_ap, ↓wSeq_ap, ↓wAsg_ap, ↓wDrop_ap, ↓wRet_ap, ↓wRetN_ap, ↓wBrk_ap, ↓wCont_ap, ↓wIfS_ap, ↓wNever_ap, ↓wPar_ap, ↓wPar3_ap, ↓wAug_ap, ↓wYes_ap, ↓wCall_ap, ↓wCallK_ap, ↓wiRng1_ap, ↓wiRng2_ap, ↓wRepLit_ap, ↓wNoPart_ap, ↓wPart_ap, ↓wSl_ap, ↓wRevL_ap, ↓wBm_ap, ↓wDnewM_ap, ↓wDput_ap, ↓wFrz_ap, ↓wiZip_ap, ↓wRevA_ap, ↓wRaise1_ap, ↓wRaise0_ap, ↓wXf_ap, ↓wThunk_ap, ↓wDispM_ap, ↓wTryK_ap, ↓wLamC_ap]
        cases z : r == 0 with
        | false => exact ⟨oddsR, m + 1, none, fun z => (nomatch z), by decide, oddsR_ok, Nat.le_refl _, rfl, rfl⟩
        | true =>
          refine ⟨by omega, by omega, by omega, by omega, by omega, by omega, by omega, _, m + 1, none, by simp, by simp, fun y hy => ?_, Nat.le_refl _, rfl, rfl⟩
          simp only [List.mem_cons, List.not_mem_nil, or_false] at hy
          rcases hy with rfl | rfl | rfl | rfl | rfl | rfl
          · exact bent_str (hi.app oa) (by omega)
          · exact bent_str (hi.slice _ _) (by omega)
          · exact bent_str (s1.app oz) (by omega)
          · exact bent_str (s1.app od) (by omega)
          · exact bent_tup (one_good hx) (by simp [dps]) (by simp [wts]; omega)
          · exact bent_str hi.rev (by omega)
      | _ => cases hpl
    rintro ρ S ⟨ls, m2, t, l1, l2, l3, hm2, rfl, rfl⟩
    simp only [startP, List.map_cons, List.map_nil, List.length_cons, List.length_nil, Nat.reduceAdd, Nat.reduceSub, List.reduceReplicate, List.cons_append, List.nil_append, List.append_nil, nth, stV, truP, seqL, seqO, rows, subP, fdivP, modP, powP, mulP, CDiv, CPow, CMul, neP, ltP, leP, gtP, geP, isNon, isP, isNotP, lenO, lenP, absP, min2P, max2P, listP, tupleP, allP, sumP, intCP, isinP, tysOf, seqK, keyOf, dgetP, slcMP, tyM, appendP, popAtP, joinP, wPairs, dputP, eqNilP, List.isEmpty_nil, List.isEmpty_cons, Bool.not_true, Bool.not_false, Bool.true_eq_false, Bool.false_eq_true, and_true, true_and, ↓reduceIte, Int.reduceToNat, Int.reducePow, Int.reduceNeg, Int.reduceAdd, Int.reduceSub, Int.reduceMul, Nat.reduceMul, Nat.reduceLT, Nat.reduceLeDiff, isB, String.reduceBEq, Bool.or_true, Bool.or_false, Bool.and_true, Bool.and_false, Bool.true_and, Bool.false_and, Bool.false_or, Bool.true_or, Int.cast_ofNat_Int, Int.reduceBEq, Int.reduceBNe, BEq.rfl, pow_ok9, pow_ok18, pow_ok30, line_eq, put_same, put_put, List.mem_cons, List.not_mem_nil, or_false, addP_int, addP_str, addP_tup, addP_lst, intP_int, intP0_int, ordP_int, eqP_int, eqP_str, eqP_bl, eqP_non, ixP_str, ixP_lst, ixP_tup, ixP_scr, slcP_str, slcP_tup, slcP_lst, wiSeq_eq, walkP_tup, walkP_str, walkP_lst, walkP_scr, revP_str, revP_tup, revP_lst, eqNilT_tup, addBP_bl, addBP_int, addBP_str, addBP_tup, addBP_lst, subBP_bl, subBP_int, strCP_int, strCP_str, zipsP, ↓wV_ap, ↓wC_ap, ↓wOp_ap, ↓wUn_ap, ↓wBool_ap, ↓wChain_ap, ↓wTru_ap, ↓wAnd_ap, ↓wOr_ap, ↓wNot_ap, ↓wIfE_ap, ↓wAndV_ap, ↓wOrV_ap, ↓wNotV_ap, ↓wNil_ap, ↓wCons_ap, ↓wTup_ap, ↓wLst_ap, ↓wLstM_ap, ↓wCB_ap, ↓wgN_ap, ↓wgNil_ap, ↓wgCons_ap, ↓wgTup_ap, ↓wNext_ap, ↓wSeq_ap, ↓wAsg_ap, ↓wDrop_ap, ↓wRet_ap, ↓wRetN_ap, ↓wBrk_ap, ↓wCont_ap, ↓wIfS_ap, ↓wNever_ap, ↓wPar_ap, ↓wPar3_ap, ↓wAug_ap, ↓wYes_ap, ↓wCall_ap, ↓wCallK_ap, ↓wiRng1_ap, ↓wiRng2_ap, ↓wRepLit_ap, ↓wNoPart_ap, ↓wPart_ap, ↓wSl_ap, ↓wRevL_ap, ↓wBm_ap, ↓wDnewM_ap, ↓wDput_ap, ↓wFrz_ap, ↓wiZip_ap, ↓wRevA_ap, ↓wRaise1_ap, ↓wRaise0_ap, ↓wXf_ap, ↓wThunk_ap, ↓wDispM_ap, ↓wTryK_ap, ↓wLamC_ap]
    refine .mk put_same rfl l1 (by omega) (by omega) fun y hy => ?_
    rw [put_put]
    exact q y _ (l3 y hy) (by omega)
theorem ok_law_bent (T : Tx K mg base) : FnG P w K mg base 19 T.f__law_bent T.d__law_bent ["_law_state", "_law_thing"] (SpBentR 14) := (ok_bent_k T 14).mono (by decide)

/-! ### drawn segments -/
theorem ok_law_segment (T : Tx K mg base) : FnG P w K mg base 5 T.f__law_segment T.d__law_segment ["_law_state", "_law_names_here", "_law_most"] SpSegm := by
  refine okG T.F__law_segment sc_law_segment (fun xs S Q E h => by cases h; rfl) fun cdv A outer s H EX F0 xs S0 Q E hG hr hp tk h => ?_
  cases h with
  | @mk p ws k n _ _ _ e hw h2 hw20 h0 hk hn q =>
  refine ⟨_, (wss_cut (ws_set 3 sc_law_segment.nd (we_lst (wa_cons (we_call (ok_law_take T) hG (hr.mono (by decide)) T.g__law_take T.F__law_take.kp T.b__law_take dflt0 tk0 (wa_cons (we_var 0) (wa_cons we_int wa_nil))) (wa_cons (we_call (ok_law_take T) hG (hr.mono (by decide)) T.g__law_take T.F__law_take.kp T.b__law_take dflt0 tk0 (wa_cons (we_var 0) (wa_cons we_int wa_nil))) (wa_cons (we_call (ok_law_take T) hG (hr.mono (by decide)) T.g__law_take T.F__law_take.kp T.b__law_take dflt0 tk0 (wa_cons (we_var 0) (wa_cons we_int wa_nil))) (wa_cons (we_op ow_sub (we_op ow_pow we_int we_int) (we_call (ok_law_take T) hG (hr.mono (by decide)) T.g__law_take T.F__law_take.kp T.b__law_take dflt0 tk0 (wa_cons (we_var 0) (wa_cons we_int wa_nil)))) wa_nil))))))
  (wss_one (ws_ret (we_tup (wa_cons (we_callTy cw_tuple T.m_tuple (wa_cons (we_call (ok_law_sales T) hG (hr.mono (by decide)) T.g__law_sales T.F__law_sales.kp T.b__law_sales dflt0 tk0 (wa_cons (we_var 0) (wa_cons (we_var 1) (wa_cons (we_op ow_add we_int (we_call (ok_law_take T) hG (hr.mono (by decide)) T.g__law_take T.F__law_take.kp T.b__law_take dflt0 tk0 (wa_cons (we_var 0) (wa_cons (we_var 2) wa_nil)))) (wa_cons (we_var 3) wa_nil))))) wa_nil)) (wa_cons (we_cmp (ow_eq hr.units) (we_call (ok_law_take T) hG (hr.mono (by decide)) T.g__law_take T.F__law_take.kp T.b__law_take dflt0 tk0 (wa_cons (we_var 0) (wa_cons we_int wa_nil))) we_int) wa_nil)))))), ?_⟩
  refine cut_intro (fun ρ S => ∃ ts : List PV, ts ≠ [] ∧ ts.length ≤ 4 ∧ (∀ t ∈ ts, TimeOk t) ∧ ρ = [some (.ref p), some (.lst (ws.map .str)), some (.int k), some (.lst ts)] ∧ S = put S0 p (drw p (n + 4))) ?_ ?_
  · simp only [startP, List.map_cons, List.map_nil, List.length_cons, List.length_nil, Nat.reduceAdd, Nat.reduceSub, List.reduceReplicate, List.cons_append, List.nil_append, List.append_nil, nth, stV, truP, seqL, seqO, rows, subP, fdivP, modP, powP, mulP, CDiv, CPow, CMul, neP, ltP, leP, gtP, geP, isNon, isP, isNotP, lenO, lenP, absP, min2P, max2P, listP, tupleP, allP, sumP, intCP, isinP, tysOf, seqK, keyOf, dgetP, slcMP, tyM, appendP, popAtP, joinP, wPairs, dputP, eqNilP, List.isEmpty_nil, List.isEmpty_cons, Bool.not_true, Bool.not_false, Bool.true_eq_false, Bool.false_eq_true, and_true, true_and, ↓reduceIte, Int.reduceToNat, Int.reducePow, Int.reduceNeg, Int.reduceAdd, Int.reduceSub, Int.reduceMul, Nat.reduceMul, Nat.reduceLT, Nat.reduceLeDiff, isB, String.reduceBEq, Bool.or_true, Bool.or_false, Bool.and_true, Bool.and_false, Bool.true_and, Bool.false_and, Bool.false_or, Bool.true_or, Int.cast_ofNat_Int, Int.reduceBEq, Int.reduceBNe, BEq.rfl, pow_ok9, pow_ok18, pow_ok30, line_eq, put_same, put_put, List.mem_cons, List.not_mem_nil, or_false, addP_int, addP_str, addP_tup, addP_lst, intP_int, intP0_int, ordP_int, eqP_int, eqP_str, eqP_bl, eqP_non, ixP_str, ixP_lst, ixP_tup, ixP_scr, slcP_str, slcP_tup, slcP_lst, wiSeq_eq, walkP_tup, walkP_str, walkP_lst, walkP_scr, revP_str, revP_tup, revP_lst, eqNilT_tup, addBP_bl, addBP_int, addBP_str, addBP_tup, addBP_lst, subBP_bl, subBP_int, strCP_int, strCP_str, zipsP, ↓wV_ap, ↓wC_ap, ↓wOp_ap, ↓wUn_ap, ↓wBool_ap, ↓wChain_ap, ↓wTru_ap, ↓wAnd_ap, ↓wOr_ap, ↓wNot_ap, ↓wIfE_ap, ↓wAndV_ap, ↓wOrV_ap, ↓wNotV_ap, ↓wNil_ap, ↓wCons_ap, ↓wTup_ap, ↓wLst_ap, ↓wLstM_ap, ↓wCB_ap, ↓wgN_ap, ↓wgNil_ap, ↓wgCons_ap, ↓wgTup_ap, ↓wNext_ap, ↓wSeq_ap, ↓wAsg_ap, ↓wDrop_ap, ↓wRet_ap, ↓wRetN_ap, ↓wBrk_ap, ↓wCont_ap, ↓wIfS_ap, ↓wNever_ap, ↓wPar_ap, ↓wPar3_ap, ↓wAug_ap, ↓wYes_ap, ↓wCall_ap, ↓wCallK_ap, ↓wiRng1_ap, ↓wiRng2_ap, ↓wRepLit_ap, ↓wNoPart_ap, ↓wPart_ap, ↓wSl_ap, ↓wRevL_ap, ↓wBm_ap, ↓wDnewM_ap, ↓wDput_ap, ↓wFrz_ap, ↓wiZip_ap, ↓wRevA_ap, ↓wRaise1_ap, ↓wRaise0_ap, ↓wXf_ap, ↓wThunk_ap, ↓wDispM_ap, ↓wTryK_ap, ↓wLamC_ap, N_law_segment]
    refine .mk e (by decide) (by decide) (by omega) fun r1 a1 b1 => ?_
    try simp only [startP, List.map_cons, List.map_nil, List.length_cons, List.length_nil, Nat.reduceAdd, Nat.reduceSub, List.reduceReplicate, List.cons_append, List.nil_append, List.append_nil, nth, stV, truP, seqL, seqO, rows, subP, fdivP, modP, powP, mulP, CDiv, CPow, CMul, neP, ltP, leP, gtP, geP, isNon, isP, isNotP, lenO, lenP, absP, min2P, max2P, listP, tupleP, allP, sumP, intCP, isinP, tysOf, seqK, keyOf, dgetP, slcMP, tyM, appendP, popAtP, joinP, wPairs, dputP, eqNilP, List.isEmpty_nil, List.isEmpty_cons, Bool.not_true, Bool.not_false, Bool.true_eq_false, Bool.false_eq_true, and_true, true_and, ↓reduceIte, Int.reduceToNat, Int.reducePow, Int.reduceNeg, Int.reduceAdd, Int.reduceSub, Int.reduceMul, Nat.reduceMul, Nat.reduceLT, Nat.reduceLeDiff, isB, String.reduceBEq, Bool.or_true, Bool.or_false, Bool.and_true, Bool.and_false, Bool.true_and, Bool.false_and, Bool.false_or, Bool.true_or, Int.cast_ofNat_Int, Int.reduceBEq, Int.reduceBNe, BEq.rfl, pow_ok9, pow_ok18, pow_ok30, line_eq, put_same, put_put, List.mem_cons, List.not_mem_nil, or_false, addP_int, addP_str, addP_tup, addP_lst, intP_int, intP0_int, ordP_int, eqP_int, eqP_str, eqP_bl, eqP_non, ixP_str, ixP_lst, ixP_tup, ixP_scr, slcP_str, slcP_tup, slcP_lst, wiSeq_eq, walkP_tup, walkP_str, walkP_lst, walkP_scr, revP_str, revP_tup, revP_lst, eqNilT_tup, addBP_bl, addBP_int, addBP_str, addBP_tup, addBP_lst, subBP_bl, subBP_int, strCP_int, strCP_str, zipsP, ↓wV_ap, ↓wC_ap, ↓wOp_ap, ↓wUn_ap, ↓wBool_ap, ↓wChain_ap, ↓wTru_ap, ↓wAnd_ap, ↓wOr_ap, ↓wNot_ap, ↓wIfE_ap, ↓wAndV_ap, ↓wOrV_ap, ↓wNotV_ap, ↓wNil_ap, ↓wCons_ap, ↓wTup_ap, ↓wLst_ap, ↓wLstM_ap, ↓wCB_ap, ↓wgN_ap, ↓wgNil_ap, ↓wgCons_ap, ↓wgTup_ap, ↓wNext_ap, ↓wSeq_ap, ↓wAsg_ap, ↓wDrop_ap, ↓wRet_ap, ↓wRetN_ap, ↓wBrk_ap, ↓wCont_ap, ↓wIfS_ap, ↓wNever_ap, ↓wPar_ap, ↓wPar3_ap, ↓wAug_ap, ↓wYes_ap, ↓wCall_ap, ↓wCallK_ap, ↓wiRng1_ap, ↓wiRng2_ap, ↓wRepLit_ap, ↓wNoPart_ap, ↓wPart_ap, ↓wSl_ap, ↓wRevL_ap, ↓wBm_ap, ↓wDnewM_ap, ↓wDput_ap, ↓wFrz_ap, ↓wiZip_ap, ↓wRevA_ap, ↓wRaise1_ap, ↓wRaise0_ap, ↓wXf_ap, ↓wThunk_ap, ↓wDispM_ap, ↓wTryK_ap, ↓wLamC_ap]
    refine .mk put_same (by decide) (by decide) (by omega) fun r2 a2 b2 => ?_
    try simp only [startP, List.map_cons, List.map_nil, List.length_cons, List.length_nil, Nat.reduceAdd, Nat.reduceSub, List.reduceReplicate, List.cons_append, List.nil_append, List.append_nil, nth, stV, truP, seqL, seqO, rows, subP, fdivP, modP, powP, mulP, CDiv, CPow, CMul, neP, ltP, leP, gtP, geP, isNon, isP, isNotP, lenO, lenP, absP, min2P, max2P, listP, tupleP, allP, sumP, intCP, isinP, tysOf, seqK, keyOf, dgetP, slcMP, tyM, appendP, popAtP, joinP, wPairs, dputP, eqNilP, List.isEmpty_nil, List.isEmpty_cons, Bool.not_true, Bool.not_false, Bool.true_eq_false, Bool.false_eq_true, and_true, true_and, ↓reduceIte, Int.reduceToNat, Int.reducePow, Int.reduceNeg, Int.reduceAdd, Int.reduceSub, Int.reduceMul, Nat.reduceMul, Nat.reduceLT, Nat.reduceLeDiff, isB, String.reduceBEq, Bool.or_true, Bool.or_false, Bool.and_true, Bool.and_false, Bool.true_and, Bool.false_and, Bool.false_or, Bool.true_or, Int.cast_ofNat_Int, Int.reduceBEq, Int.reduceBNe, BEq.rfl, pow_ok9, pow_ok18, pow_ok30, line_eq, put_same, put_put, List.mem_cons, List.not_mem_nil, or_false, addP_int, addP_str, addP_tup, addP_lst, intP_int, intP0_int, ordP_int, eqP_int, eqP_str, eqP_bl, eqP_non, ixP_str, ixP_lst, ixP_tup, ixP_scr, slcP_str, slcP_tup, slcP_lst, wiSeq_eq, walkP_tup, walkP_str, walkP_lst, walkP_scr, revP_str, revP_tup, revP_lst, eqNilT_tup, addBP_bl, addBP_int, addBP_str, addBP_tup, addBP_lst, subBP_bl, subBP_int, strCP_int, strCP_str, zipsP, ↓wV_ap, ↓wC_ap, ↓wOp_ap, ↓wUn_ap, ↓wBool_ap, ↓wChain_ap, ↓wTru_ap, ↓wAnd_ap, ↓wOr_ap, ↓wNot_ap, ↓wIfE_ap, ↓wAndV_ap, ↓wOrV_ap, ↓wNotV_ap, ↓wNil_ap, ↓wCons_ap, ↓wTup_ap, ↓wLst_ap, ↓wLstM_ap, ↓wCB_ap, ↓wgN_ap, ↓wgNil_ap, ↓wgCons_ap, ↓wgTup_ap, ↓wNext_ap, ↓wSeq_ap, ↓wAsg_ap, ↓wDrop_ap, ↓wRet_ap, ↓wRetN_ap, ↓wBrk_ap, ↓wCont_ap, ↓wIfS_ap, ↓wNever_ap, ↓wPar_ap, ↓wPar3_ap, ↓wAug_ap, ↓wYes_ap, ↓wCall_ap, ↓wCallK_ap, ↓wiRng1_ap, ↓wiRng2_ap, ↓wRepLit_ap, ↓wNoPart_ap, ↓wPart_ap, ↓wSl_ap, ↓wRevL_ap, ↓wBm_ap, ↓wDnewM_ap, ↓wDput_ap, ↓wFrz_ap, ↓wiZip_ap, ↓wRevA_ap, ↓wRaise1_ap, ↓wRaise0_ap, ↓wXf_ap, ↓wThunk_ap, ↓wDispM_ap, ↓wTryK_ap, ↓wLamC_ap]
    refine .mk put_same (by decide) (by decide) (by omega) fun r3 a3 b3 => ?_
    try simp only [startP, List.map_cons, List.map_nil, List.length_cons, List.length_nil, Nat.reduceAdd, Nat.reduceSub, List.reduceReplicate, List.cons_append, List.nil_append, List.append_nil, nth, stV, truP, seqL, seqO, rows, subP, fdivP, modP, powP, mulP, CDiv, CPow, CMul, neP, ltP, leP, gtP, geP, isNon, isP, isNotP, lenO, lenP, absP, min2P, max2P, listP, tupleP, allP, sumP, intCP, isinP, tysOf, seqK, keyOf, dgetP, slcMP, tyM, appendP, popAtP, joinP, wPairs, dputP, eqNilP, List.isEmpty_nil, List.isEmpty_cons, Bool.not_true, Bool.not_false, Bool.true_eq_false, Bool.false_eq_true, and_true, true_and, ↓reduceIte, Int.reduceToNat, Int.reducePow, Int.reduceNeg, Int.reduceAdd, Int.reduceSub, Int.reduceMul, Nat.reduceMul, Nat.reduceLT, Nat.reduceLeDiff, isB, String.reduceBEq, Bool.or_true, Bool.or_false, Bool.and_true, Bool.and_false, Bool.true_and, Bool.false_and, Bool.false_or, Bool.true_or, Int.cast_ofNat_Int, Int.reduceBEq, Int.reduceBNe, BEq.rfl, pow_ok9, pow_ok18, pow_ok30, line_eq, put_same, put_put, List.mem_cons, List.not_mem_nil, or_false, addP_int, addP_str, addP_tup, addP_lst, intP_int, intP0_int, ordP_int, eqP_int, eqP_str, eqP_bl, eqP_non, ixP_str, ixP_lst, ixP_tup, ixP_scr, slcP_str, slcP_tup, slcP_lst, wiSeq_eq, walkP_tup, walkP_str, walkP_lst, walkP_scr, revP_str, revP_tup, revP_lst, eqNilT_tup, addBP_bl, addBP_int, addBP_str, addBP_tup, addBP_lst, subBP_bl, subBP_int, strCP_int, strCP_str, zipsP, ↓wV_ap, ↓wC_ap, ↓wOp_ap, ↓wUn_ap, ↓wBool_ap, ↓wChain_ap, ↓wTru_ap, ↓wAnd_ap, ↓wOr_ap, ↓wNot_ap, ↓wIfE_ap, ↓wAndV_ap, ↓wOrV_ap, ↓wNotV_ap, ↓wNil_ap, ↓wCons_ap, ↓wTup_ap, ↓wLst_ap, ↓wLstM_ap, ↓wCB_ap, ↓wgN_ap, ↓wgNil_ap, ↓wgCons_ap, ↓wgTup_ap, ↓wNext_ap, ↓wSeq_ap, ↓wAsg_ap, ↓wDrop_ap, ↓wRet_ap, ↓wRetN_ap, ↓wBrk_ap, ↓wCont_ap, ↓wIfS_ap, ↓wNever_ap, ↓wPar_ap, ↓wPar3_ap, ↓wAug_ap, ↓wYes_ap, ↓wCall_ap, ↓wCallK_ap, ↓wiRng1_ap, ↓wiRng2_ap, ↓wRepLit_ap, ↓wNoPart_ap, ↓wPart_ap, ↓wSl_ap, ↓wRevL_ap, ↓wBm_ap, ↓wDnewM_ap, ↓wDput_ap, ↓wFrz_ap, ↓wiZip_ap, ↓wRevA_ap, ↓wRaise1_ap, ↓wRaise0_ap, ↓wXf_ap, ↓wThunk_ap, ↓wDispM_ap, ↓wTryK_ap, ↓wLamC_ap]
    refine .mk put_same (by decide) (by decide) (by omega) fun r4 a4 b4 => ?_
    try simp only [startP, List.map_cons, List.map_nil, List.length_cons, List.length_nil, Nat.reduceAdd, Nat.reduceSub, List.reduceReplicate, List.cons_append, List.nil_append, List.append_nil, nth, stV, truP, seqL, seqO, rows, subP, fdivP, modP, powP, mulP, CDiv, CPow, CMul, neP, ltP, leP, gtP, geP, isNon, isP, isNotP, lenO, lenP, absP, min2P, max2P, listP, tupleP, allP, sumP, intCP, isinP, tysOf, seqK, keyOf, dgetP, slcMP, tyM, appendP, popAtP, joinP, wPairs, dputP, eqNilP, List.isEmpty_nil, List.isEmpty_cons, Bool.not_true, Bool.not_false, Bool.true_eq_false, Bool.false_eq_true, and_true, true_and, ↓reduceIte, Int.reduceToNat, Int.reducePow, Int.reduceNeg, Int.reduceAdd, Int.reduceSub, Int.reduceMul, Nat.reduceMul, Nat.reduceLT, Nat.reduceLeDiff, isB, String.reduceBEq, Bool.or_true, Bool.or_false, Bool.and_true, Bool.and_false, Bool.true_and, Bool.false_and, Bool.false_or, Bool.true_or, Int.cast_ofNat_Int, Int.reduceBEq, Int.reduceBNe, BEq.rfl, pow_ok9, pow_ok18, pow_ok30, line_eq, put_same, put_put, List.mem_cons, List.not_mem_nil, or_false, addP_int, addP_str, addP_tup, addP_lst, intP_int, intP0_int, ordP_int, eqP_int, eqP_str, eqP_bl, eqP_non, ixP_str, ixP_lst, ixP_tup, ixP_scr, slcP_str, slcP_tup, slcP_lst, wiSeq_eq, walkP_tup, walkP_str, walkP_lst, walkP_scr, revP_str, revP_tup, revP_lst, eqNilT_tup, addBP_bl, addBP_int, addBP_str, addBP_tup, addBP_lst, subBP_bl, subBP_int, strCP_int, strCP_str, zipsP, ↓wV_ap, ↓wC_ap, ↓wOp_ap, ↓wUn_ap, ↓wBool_ap, ↓wChain_ap, ↓wTru_ap, ↓wAnd_ap, ↓wOr_ap, ↓wNot_ap, ↓wIfE_ap, ↓wAndV_ap, ↓wOrV_ap, ↓wNotV_ap, ↓wNil_ap, ↓wCons_ap, ↓wTup_ap, ↓wLst_ap, ↓wLstM_ap, ↓wCB_ap, ↓wgN_ap, ↓wgNil_ap, ↓wgCons_ap, ↓wgTup_ap, ↓wNext_ap, ↓wSeq_ap, ↓wAsg_ap, ↓wDrop_ap, ↓wRet_ap, ↓wRetN_ap, ↓wBrk_ap, ↓wCont_ap, ↓wIfS_ap, ↓wNever_ap, ↓wPar_ap, ↓wPar3_ap, ↓wAug_ap, ↓wYes_ap, ↓wCall_ap, ↓wCallK_ap, ↓wiRng1_ap, ↓wiRng2_ap, ↓wRepLit_ap, ↓wNoPart_ap, ↓wPart_ap, ↓wSl_ap, ↓wRevL_ap, ↓wBm_ap, ↓wDnewM_ap, ↓wDput_ap, ↓wFrz_ap, ↓wiZip_ap, ↓wRevA_ap, ↓wRaise1_ap, ↓wRaise0_ap, ↓wXf_ap, ↓wThunk_ap, ↓wDispM_ap, ↓wTryK_ap, ↓wLamC_ap]
    refine ⟨[.int r1, .int r2, .int r3, .int (1000000000 - r4)], by simp, by simp, ?_, by first | rfl | exact ⟨rfl, rfl⟩⟩
    intro t ht
    simp only [List.mem_cons, List.not_mem_nil, or_false] at ht
    rcases ht with rfl | rfl | rfl | rfl <;> exact ⟨_, rfl, by omega, by omega⟩
  rintro ρ S ⟨ts, t1, t2, t3, rfl, rfl⟩
  simp only [startP, List.map_cons, List.map_nil, List.length_cons, List.length_nil, Nat.reduceAdd, Nat.reduceSub, List.reduceReplicate, List.cons_append, List.nil_append, List.append_nil, nth, stV, truP, seqL, seqO, rows, subP, fdivP, modP, powP, mulP, CDiv, CPow, CMul, neP, ltP, leP, gtP, geP, isNon, isP, isNotP, lenO, lenP, absP, min2P, max2P, listP, tupleP, allP, sumP, intCP, isinP, tysOf, seqK, keyOf, dgetP, slcMP, tyM, appendP, popAtP, joinP, wPairs, dputP, eqNilP, List.isEmpty_nil, List.isEmpty_cons, Bool.not_true, Bool.not_false, Bool.true_eq_false, Bool.false_eq_true, and_true, true_and, ↓reduceIte, Int.reduceToNat, Int.reducePow, Int.reduceNeg, Int.reduceAdd, Int.reduceSub, Int.reduceMul, Nat.reduceMul, Nat.reduceLT, Nat.reduceLeDiff, isB, String.reduceBEq, Bool.or_true, Bool.or_false, Bool.and_true, Bool.and_false, Bool.true_and, Bool.false_and, Bool.false_or, Bool.true_or, Int.cast_ofNat_Int, Int.reduceBEq, Int.reduceBNe, BEq.rfl, pow_ok9, pow_ok18, pow_ok30, line_eq, put_same, put_put, List.mem_cons, List.not_mem_nil, or_false, addP_int, addP_str, addP_tup, addP_lst, intP_int, intP0_int, ordP_int, eqP_int, eqP_str, eqP_bl, eqP_non, ixP_str, ixP_lst, ixP_tup, ixP_scr, slcP_str, slcP_tup, slcP_lst, wiSeq_eq, walkP_tup, walkP_str, walkP_lst, walkP_scr, revP_str, revP_tup, revP_lst, eqNilT_tup, addBP_bl, addBP_int, addBP_str, addBP_tup, addBP_lst, subBP_bl, subBP_int, strCP_int, strCP_str, zipsP, ↓wV_ap, ↓wC_ap, ↓wOp_ap, ↓wUn_ap, ↓wBool_ap, ↓wChain_ap, ↓wTru_ap, ↓wAnd_ap, ↓wOr_ap, ↓wNot_ap, ↓wIfE_ap, ↓wAndV_ap, ↓wOrV_ap, ↓wNotV_ap, ↓wNil_ap, ↓wCons_ap, ↓wTup_ap, ↓wLst_ap, ↓wLstM_ap, ↓wCB_ap, ↓wgN_ap, ↓wgNil_ap, ↓wgCons_ap, ↓wgTup_ap, ↓wNext_ap, ↓wSeq_ap, ↓wAsg_ap, ↓wDrop_ap, ↓wRet_ap, ↓wRetN_ap, ↓wBrk_ap, ↓wCont_ap, ↓wIfS_ap, ↓wNever_ap, ↓wPar_ap, ↓wPar3_ap, ↓wAug_ap, ↓wYes_ap, ↓wCall_ap, ↓wCallK_ap, ↓wiRng1_ap, ↓wiRng2_ap, ↓wRepLit_ap, ↓wNoPart_ap, ↓wPart_ap, ↓wSl_ap, ↓wRevL_ap, ↓wBm_ap, ↓wDnewM_ap, ↓wDput_ap, ↓wFrz_ap, ↓wiZip_ap, ↓wRevA_ap, ↓wRaise1_ap, ↓wRaise0_ap, ↓wXf_ap, ↓wThunk_ap, ↓wDispM_ap, ↓wTryK_ap, ↓wLamC_ap]
  refine .mk put_same (by omega) (by omega) (by omega) fun r a b => ?_
  simp only [startP, List.map_cons, List.map_nil, List.length_cons, List.length_nil, Nat.reduceAdd, Nat.reduceSub, List.reduceReplicate, List.cons_append, List.nil_append, List.append_nil, nth, stV, truP, seqL, seqO, rows, subP, fdivP, modP, powP, mulP, CDiv, CPow, CMul, neP, ltP, leP, gtP, geP, isNon, isP, isNotP, lenO, lenP, absP, min2P, max2P, listP, tupleP, allP, sumP, intCP, isinP, tysOf, seqK, keyOf, dgetP, slcMP, tyM, appendP, popAtP, joinP, wPairs, dputP, eqNilP, List.isEmpty_nil, List.isEmpty_cons, Bool.not_true, Bool.not_false, Bool.true_eq_false, Bool.false_eq_true, and_true, true_and, ↓reduceIte, Int.reduceToNat, Int.reducePow, Int.reduceNeg, Int.reduceAdd, Int.reduceSub, Int.reduceMul, Nat.reduceMul, Nat.reduceLT, Nat.reduceLeDiff, isB, String.reduceBEq, Bool.or_true, Bool.or_false, Bool.and_true, Bool.and_false, Bool.true_and, Bool.false_and, Bool.false_or, Bool.true_or, Int.cast_ofNat_Int, Int.reduceBEq, Int.reduceBNe, BEq.rfl, pow_ok9, pow_ok18, pow_ok30, line_eq, put_same, put_put, List.mem_cons, List.not_mem_nil, or_false, addP_int, addP_str, addP_tup, addP_lst, intP_int, intP0_int, ordP_int, eqP_int, eqP_str, eqP_bl, eqP_non, ixP_str, ixP_lst, ixP_tup, ixP_scr, slcP_str, slcP_tup, slcP_lst, wiSeq_eq, walkP_tup, walkP_str, walkP_lst, walkP_scr, revP_str, revP_tup, revP_lst, eqNilT_tup, addBP_bl, addBP_int, addBP_str, addBP_tup, addBP_lst, subBP_bl, subBP_int, strCP_int, strCP_str, zipsP, ↓wV_ap, ↓wC_ap, ↓wOp_ap, ↓wUn_ap, ↓wBool_ap, ↓wChain_ap, ↓wTru_ap, ↓wAnd_ap, ↓wOr_ap, ↓wNot_ap, ↓wIfE_ap, ↓wAndV_ap, ↓wOrV_ap, ↓wNotV_ap, ↓wNil_ap, ↓wCons_ap, ↓wTup_ap, ↓wLst_ap, ↓wLstM_ap, ↓wCB_ap, ↓wgN_ap, ↓wgNil_ap, ↓wgCons_ap, ↓wgTup_ap, ↓wNext_ap, ↓wSeq_ap, ↓wAsg_ap, ↓wDrop_ap, ↓wRet_ap, ↓wRetN_ap, ↓wBrk_ap, ↓wCont_ap, ↓wIfS_ap, ↓wNever_ap, ↓wPar_ap, ↓wPar3_ap, ↓wAug_ap, ↓wYes_ap, ↓wCall_ap, ↓wCallK_ap, ↓wiRng1_ap, ↓wiRng2_ap, ↓wRepLit_ap, ↓wNoPart_ap, ↓wPart_ap, ↓wSl_ap, ↓wRevL_ap, ↓wBm_ap, ↓wDnewM_ap, ↓wDput_ap, ↓wFrz_ap, ↓wiZip_ap, ↓wRevA_ap, ↓wRaise1_ap, ↓wRaise0_ap, ↓wXf_ap, ↓wThunk_ap, ↓wDispM_ap, ↓wTryK_ap, ↓wLamC_ap]
  refine .mk (n := n + 5) put_same hw h2 hw20 (by omega) (by omega) t1 (by omega) (by omega) fun rs m num sl k1 k2 k3 k4 => ?_
  simp only [startP, List.map_cons, List.map_nil, List.length_cons, List.length_nil, Nat.reduceAdd, Nat.reduceSub, List.reduceReplicate, List.cons_append, List.nil_append, List.append_nil, nth, stV, truP, seqL, seqO, rows, subP, fdivP, modP, powP, mulP, CDiv, CPow, CMul, neP, ltP, leP, gtP, geP, isNon, isP, isNotP, lenO, lenP, absP, min2P, max2P, listP, tupleP, allP, sumP, intCP, isinP, tysOf, seqK, keyOf, dgetP, slcMP, tyM, appendP, popAtP, joinP, wPairs, dputP, eqNilP, List.isEmpty_nil, List.isEmpty_cons, Bool.not_true, Bool.not_false, Bool.true_eq_false, Bool.false_eq_true, and_true, true_and, ↓reduceIte, Int.reduceToNat, Int.reducePow, Int.reduceNeg, Int.reduceAdd, Int.reduceSub, Int.reduceMul, Nat.reduceMul, Nat.reduceLT, Nat.reduceLeDiff, isB, String.reduceBEq, Bool.or_true, Bool.or_false, Bool.and_true, Bool.and_false, Bool.true_and, Bool.false_and, Bool.false_or, Bool.true_or, Int.cast_ofNat_Int, Int.reduceBEq, Int.reduceBNe, BEq.rfl, pow_ok9, pow_ok18, pow_ok30, line_eq, put_same, put_put, List.mem_cons, List.not_mem_nil, or_false, addP_int, addP_str, addP_tup, addP_lst, intP_int, intP0_int, ordP_int, eqP_int, eqP_str, eqP_bl, eqP_non, ixP_str, ixP_lst, ixP_tup, ixP_scr, slcP_str, slcP_tup, slcP_lst, wiSeq_eq, walkP_tup, walkP_str, walkP_lst, walkP_scr, revP_str, revP_tup, revP_lst, eqNilT_tup, addBP_bl, addBP_int, addBP_str, addBP_tup, addBP_lst, subBP_bl, subBP_int, strCP_int, strCP_str, zipsP, ↓wV_ap, ↓wC_ap, ↓wOp_ap, ↓wUn_ap, ↓wBool_ap, ↓wChain_ap, ↓wTru_ap, ↓wAnd_ap, ↓wOr_ap, ↓wNot_ap, ↓wIfE_ap, ↓wAndV_ap, ↓wOrV_ap, ↓wNotV_ap, ↓wNil_ap, ↓wCons_ap, ↓wTup_ap, ↓wLst_ap, ↓wLstM_ap, ↓wCB_ap, ↓wgN_ap, ↓wgNil_ap, ↓wgCons_ap, ↓wgTup_ap, ↓wNext_ap, ↓wSeq_ap, ↓wAsg_ap, ↓wDrop_ap, ↓wRet_ap, ↓wRetN_ap, ↓wBrk_ap, ↓wCont_ap, ↓wIfS_ap, ↓wNever_ap, ↓wPar_ap, ↓wPar3_ap, ↓wAug_ap, ↓wYes_ap, ↓wCall_ap, ↓wCallK_ap, ↓wiRng1_ap, ↓wiRng2_ap, ↓wRepLit_ap, ↓wNoPart_ap, ↓wPart_ap, ↓wSl_ap, ↓wRevL_ap, ↓wBm_ap, ↓wDnewM_ap, ↓wDput_ap, ↓wFrz_ap, ↓wiZip_ap, ↓wRevA_ap, ↓wRaise1_ap, ↓wRaise0_ap, ↓wXf_ap, ↓wThunk_ap, ↓wDispM_ap, ↓wTryK_ap, ↓wLamC_ap]
  refine .mk put_same (by decide) (by decide) (by omega) fun r2 a2 b2 => ?_
  simp only [startP, List.map_cons, List.map_nil, List.length_cons, List.length_nil, Nat.reduceAdd, Nat.reduceSub, List.reduceReplicate, List.cons_append, List.nil_append, List.append_nil, nth, stV, truP, seqL, seqO, rows, subP, fdivP, modP, powP, mulP, CDiv, CPow, CMul, neP, ltP, leP, gtP, geP, isNon, isP, isNotP, lenO, lenP, absP, min2P, max2P, listP, tupleP, allP, sumP, intCP, isinP, tysOf, seqK, keyOf, dgetP, slcMP, tyM, appendP, popAtP, joinP, wPairs, dputP, eqNilP, List.isEmpty_nil, List.isEmpty_cons, Bool.not_true, Bool.not_false, Bool.true_eq_false, Bool.false_eq_true, and_true, true_and, ↓reduceIte, Int.reduceToNat, Int.reducePow, Int.reduceNeg, Int.reduceAdd, Int.reduceSub, Int.reduceMul, Nat.reduceMul, Nat.reduceLT, Nat.reduceLeDiff, isB, String.reduceBEq, Bool.or_true, Bool.or_false, Bool.and_true, Bool.and_false, Bool.true_and, Bool.false_and, Bool.false_or, Bool.true_or, Int.cast_ofNat_Int, Int.reduceBEq, Int.reduceBNe, BEq.rfl, pow_ok9, pow_ok18, pow_ok30, line_eq, put_same, put_put, List.mem_cons, List.not_mem_nil, or_false, addP_int, addP_str, addP_tup, addP_lst, intP_int, intP0_int, ordP_int, eqP_int, eqP_str, eqP_bl, eqP_non, ixP_str, ixP_lst, ixP_tup, ixP_scr, slcP_str, slcP_tup, slcP_lst, wiSeq_eq, walkP_tup, walkP_str, walkP_lst, walkP_scr, revP_str, revP_tup, revP_lst, eqNilT_tup, addBP_bl, addBP_int, addBP_str, addBP_tup, addBP_lst, subBP_bl, subBP_int, strCP_int, strCP_str, zipsP, ↓wV_ap, ↓wC_ap, ↓wOp_ap, ↓wUn_ap, ↓wBool_ap, ↓wChain_ap, ↓wTru_ap, ↓wAnd_ap, ↓wOr_ap, ↓wNot_ap, ↓wIfE_ap, ↓wAndV_ap, ↓wOrV_ap, ↓wNotV_ap, ↓wNil_ap, ↓wCons_ap, ↓wTup_ap, ↓wLst_ap, ↓wLstM_ap, ↓wCB_ap, ↓wgN_ap, ↓wgNil_ap, ↓wgCons_ap, ↓wgTup_ap, ↓wNext_ap, ↓wSeq_ap, ↓wAsg_ap, ↓wDrop_ap, ↓wRet_ap, ↓wRetN_ap, ↓wBrk_ap, ↓wCont_ap, ↓wIfS_ap, ↓wNever_ap, ↓wPar_ap, ↓wPar3_ap, ↓wAug_ap, ↓wYes_ap, ↓wCall_ap, ↓wCallK_ap, ↓wiRng1_ap, ↓wiRng2_ap, ↓wRepLit_ap, ↓wNoPart_ap, ↓wPart_ap, ↓wSl_ap, ↓wRevL_ap, ↓wBm_ap, ↓wDnewM_ap, ↓wDput_ap, ↓wFrz_ap, ↓wiZip_ap, ↓wRevA_ap, ↓wRaise1_ap, ↓wRaise0_ap, ↓wXf_ap, ↓wThunk_ap, ↓wDispM_ap, ↓wTryK_ap, ↓wLamC_ap]
  exact q rs _ (m + 1) num sl ts (by omega) (by omega) k2 t3 (by omega) (by omega)

/-! ### the law -/
def sp_law : PSp := fun xs S Q E => ∃ ns : List Int, xs = [.scr (ns.map PV.int)] ∧ ns.length ≤ 63 ∧ ∀ S', Q (.bl true) S'
theorem fine_bl {b : Bool} : FineR (.bl b) := (fit_bl (a := 0) (b := 0)).fine (by decide) (by decide)
theorem shw_true : (shw (.bl true) == "True") = true := by decide +kernel
/-- how large a value is after so many bends -/
structure Sized (j : Nat) (x : PV) : Prop where
  good : Good (1000000000 + 1000000001 * j) x
  dp : dp x ≤ 3 + j
  wt : wt x ≤ 7571 * 2 ^ j + 300 * (2 ^ j - 1)
theorem ok_law (T : Tx K mg base) : FnG P w K mg base 20 T.f_law T.d_law ["_law_script"] sp_law := by
  refine okG T.F_law sc_law (fun xs S Q E h => by obtain ⟨_, rfl, _⟩ := h; rfl) fun cdv A outer s H EX F0 xs S0 Q E hG hr hp tk h => ?_
  obtain ⟨ns, rfl, hns, q⟩ := h
  refine ⟨_, (wss_cut (ws_set 1 sc_law.nd (we_call (ok_law_begun T) hG (hr.mono (by decide)) T.g__law_begun T.F__law_begun.kp T.b__law_begun dflt0 tk0 (wa_cons (we_var 0) wa_nil)))
  (wss_cut (ws_for hp rfl (wi_rng1 T.m_range (wa_cons we_int wa_nil)) (wg_name 2 sc_law.nd)
  (wss_cut (ws_set 3 sc_law.nd (we_call (ok_law_names T) hG (hr.mono (by decide)) T.g__law_names T.F__law_names.kp T.b__law_names dflt0 tk0 (wa_cons (we_var 1) (wa_cons (we_op ow_add we_int (we_call (ok_law_take T) hG (hr.mono (by decide)) T.g__law_take T.F__law_take.kp T.b__law_take dflt0 tk0 (wa_cons (we_var 1) (wa_cons we_int wa_nil)))) wa_nil))))
  (wss_cut (ws_set 4 sc_law.nd (we_call (ok_law_segment T) hG (hr.mono (by decide)) T.g__law_segment T.F__law_segment.kp T.b__law_segment dflt0 tk0 (wa_cons (we_var 1) (wa_cons (we_var 3) (wa_cons we_int wa_nil)))))
  (wss_cut (ws_if (wt_cmp (ow_ne hr.units) (we_callB (cw_repr hG (hu80 hr) T.noSys) T.m_repr (wa_cons (we_call (ok_is_segment T) hG (hr.mono (by decide)) T.g_is_segment T.F_is_segment.kp T.b_is_segment dflt0 tk0 (wa_cons (we_var 4) wa_nil)) wa_nil)) we_str)
  (wss_one (ws_ret we_bl))
  wss_nil)
  (wss_one (ws_for hp rfl (wi_rng1 T.m_range (wa_cons we_int wa_nil)) (wg_name 5 sc_law.nd)
  (wss_cut (ws_set 6 sc_law.nd (we_var 4))
  (wss_cut (ws_for hp rfl (wi_rng1 T.m_range (wa_cons (we_op ow_add we_int (we_call (ok_law_take T) hG (hr.mono (by decide)) T.g__law_take T.F__law_take.kp T.b__law_take dflt0 tk0 (wa_cons (we_var 1) (wa_cons we_int wa_nil)))) wa_nil)) (wg_name 7 sc_law.nd)
  (wss_one (ws_set 6 sc_law.nd (we_call (ok_law_bent T) hG (hr.mono (by decide)) T.g__law_bent T.F__law_bent.kp T.b__law_bent dflt0 tk0 (wa_cons (we_var 1) (wa_cons (we_var 6) wa_nil))))))
  (wss_cut (ws_par (i := 8) (j := 9) rfl sc_law.nd (wa_cons (we_callB (cw_repr hG (hu80 hr) T.noSys) T.m_repr (wa_cons (we_var 6) wa_nil)) (wa_cons (we_callB (cw_repr hG (hu80 hr) T.noSys) T.m_repr (wa_cons (we_call (ok_law_is_segment T) hG (hr.mono (by decide)) T.g__law_is_segment T.F__law_is_segment.kp T.b__law_is_segment dflt0 tk0 (wa_cons (we_var 6) wa_nil)) wa_nil)) wa_nil)))
  (wss_one (ws_if (WW.wt (ww_or (wt_cmp (ow_ne hr.units) (we_callB (cw_repr hG (hu80 hr) T.noSys) T.m_repr (wa_cons (we_call (ok_is_segment T) hG (hr.mono (by decide)) T.g_is_segment T.F_is_segment.kp T.b_is_segment dflt0 tk0 (wa_cons (we_var 6) wa_nil)) wa_nil)) (we_var 9)) (ww_or (wt_cmp (ow_ne hr.units) (we_callB (cw_repr hG (hu80 hr) T.noSys) T.m_repr (wa_cons (we_callK0 (ok_is_segment T) hG (hr.mono (by decide)) T.g_is_segment T.F_is_segment.kp T.kb_is_segment_value tk0 (wk_cons (we_var 6) wk_nil)) wa_nil)) (we_var 9)) (ww_or1 (wt_cmp (ow_ne hr.units) (we_callB (cw_repr hG (hu80 hr) T.noSys) T.m_repr (wa_cons (we_var 6) wa_nil)) (we_var 8))))))
  (wss_one (ws_ret we_bl))
  wss_nil)))))))))))
  (wss_one (ws_ret we_bl)))), ?_⟩
  refine cut_intro (fun ρ S => ∃ p : Addr, ρ = [some (.scr (ns.map .int)), some (.ref p), none, none, none, none, none, none, none, none] ∧ S = put S0 p (drw p 0)) ?_ ?_
  · simp only [startP, List.map_cons, List.map_nil, List.length_cons, List.length_nil, Nat.reduceAdd, Nat.reduceSub, List.reduceReplicate, List.cons_append, List.nil_append, List.append_nil, nth, stV, truP, seqL, seqO, rows, subP, fdivP, modP, powP, mulP, CDiv, CPow, CMul, neP, ltP, leP, gtP, geP, isNon, isP, isNotP, lenO, lenP, absP, min2P, max2P, listP, tupleP, allP, sumP, intCP, isinP, tysOf, seqK, keyOf, dgetP, slcMP, tyM, appendP, popAtP, joinP, wPairs, dputP, eqNilP, List.isEmpty_nil, List.isEmpty_cons, Bool.not_true, Bool.not_false, Bool.true_eq_false, Bool.false_eq_true, and_true, true_and, ↓reduceIte, Int.reduceToNat, Int.reducePow, Int.reduceNeg, Int.reduceAdd, Int.reduceSub, Int.reduceMul, Nat.reduceMul, Nat.reduceLT, Nat.reduceLeDiff, isB, String.reduceBEq, Bool.or_true, Bool.or_false, Bool.and_true, Bool.and_false, Bool.true_and, Bool.false_and, Bool.false_or, Bool.true_or, Int.cast_ofNat_Int, Int.reduceBEq, Int.reduceBNe, BEq.rfl, pow_ok9, pow_ok18, pow_ok30, line_eq, put_same, put_put, List.mem_cons, List.not_mem_nil, or_false, addP_int, addP_str, addP_tup, addP_lst, intP_int, intP0_int, ordP_int, eqP_int, eqP_str, eqP_bl, eqP_non, ixP_str, ixP_lst, ixP_tup, ixP_scr, slcP_str, slcP_tup, slcP_lst, wiSeq_eq, walkP_tup, walkP_str, walkP_lst, walkP_scr, revP_str, revP_tup, revP_lst, eqNilT_tup, addBP_bl, addBP_int, addBP_str, addBP_tup, addBP_lst, subBP_bl, subBP_int, strCP_int, strCP_str, zipsP, ↓wV_ap, ↓wC_ap, ↓wOp_ap, ↓wUn_ap, ↓wBool_ap, ↓wChain_ap, ↓wTru_ap, ↓wAnd_ap, ↓wOr_ap, ↓wNot_ap, ↓wIfE_ap, ↓wAndV_ap, ↓wOrV_ap, ↓wNotV_ap, ↓wNil_ap, ↓wCons_ap, ↓wTup_ap, ↓wLst_ap, ↓wLstM_ap, ↓wCB_ap, ↓wgN_ap, ↓wgNil_ap, ↓wgCons_ap, ↓wgTup_ap, ↓wNext_ap, ↓wSeq_ap, ↓wAsg_ap, ↓wDrop_ap, ↓wRet_ap, ↓wRetN_ap, ↓wBrk_ap, ↓wCont_ap, ↓wIfS_ap, ↓wNever_ap, ↓wPar_ap, ↓wPar3_ap, ↓wAug_ap, ↓wYes_ap, ↓wCall_ap, ↓wCallK_ap, ↓wiRng1_ap, ↓wiRng2_ap, ↓wRepLit_ap, ↓wNoPart_ap, ↓wPart_ap, ↓wSl_ap, ↓wRevL_ap, ↓wBm_ap, ↓wDnewM_ap, ↓wDput_ap, ↓wFrz_ap, ↓wiZip_ap, ↓wRevA_ap, ↓wRaise1_ap, ↓wRaise0_ap, ↓wXf_ap, ↓wThunk_ap, ↓wDispM_ap, ↓wTryK_ap, ↓wLamC_ap, N_law]
    exact .mk hns fun p hp => ⟨p, rfl, rfl⟩
  rintro ρ S ⟨p, rfl, rfl⟩
  refine cut_intro (fun ρ S => True) ?_ ?_
  · simp only [wFor, wiRng1_ap, wCons_ap, wNil_ap, wC_ap]
    refine ⟨by decide, by decide, ?_⟩
    refine for_inv (fun done ρ S => ∃ (m : Nat) (a b c d e f g h : Option PV), m ≤ 1000 * done.length ∧ ρ = [some (.scr (ns.map .int)), some (.ref p), a, b, c, d, e, f, g, h] ∧ S = put S0 p (drw p m))
      ⟨0, none, none, none, none, none, none, none, none, Nat.le_refl 0, rfl, rfl⟩ (fun _ _ _ => ⟨trivial, trivial⟩) ?_
    rintro done x rest ρ S ed ⟨m, a, b, c, d, e, f, g, h, hm, rfl, rfl⟩
    have hdl : done.length < 4 := by
      have := congrArg List.length ed
      rw [rng_len, List.length_append, List.length_cons] at this
      omega
    refine ⟨trivial, ?_⟩
    -- the names
    refine cut_intro (fun ρ S => ∃ (ws : List Str) (m1 : Nat), ws.Nodup ∧ 2 ≤ ws.length ∧ ws.length ≤ 5 ∧ (∀ w ∈ ws, NameOk w) ∧ m1 ≤ m + 61 ∧ ρ = [some (.scr (ns.map .int)), some (.ref p), some x, some (.lst (ws.map .str)), c, d, e, f, g, h] ∧ S = put S0 p (drw p m1)) ?_ ?_
    · simp only [startP, List.map_cons, List.map_nil, List.length_cons, List.length_nil, Nat.reduceAdd, Nat.reduceSub, List.reduceReplicate, List.cons_append, List.nil_append, List.append_nil, nth, stV, truP, seqL, seqO, rows, subP, fdivP, modP, powP, mulP, CDiv, CPow, CMul, neP, ltP, leP, gtP, geP, isNon, isP, isNotP, lenO, lenP, absP, min2P, max2P, listP, tupleP, allP, sumP, intCP, isinP, tysOf, seqK, keyOf, dgetP, slcMP, tyM, appendP, popAtP, joinP, wPairs, dputP, eqNilP, List.isEmpty_nil, List.isEmpty_cons, Bool.not_true, Bool.not_false, Bool.true_eq_false, Bool.false_eq_true, and_true, true_and, ↓reduceIte, Int.reduceToNat, Int.reducePow, Int.reduceNeg, Int.reduceAdd, Int.reduceSub, Int.reduceMul, Nat.reduceMul, Nat.reduceLT, Nat.reduceLeDiff, isB, String.reduceBEq, Bool.or_true, Bool.or_false, Bool.and_true, Bool.and_false, Bool.true_and, Bool.false_and, Bool.false_or, Bool.true_or, Int.cast_ofNat_Int, Int.reduceBEq, Int.reduceBNe, BEq.rfl, pow_ok9, pow_ok18, pow_ok30, line_eq, put_same, put_put, List.mem_cons, List.not_mem_nil, or_false, addP_int, addP_str, addP_tup, addP_lst, intP_int, intP0_int, ordP_int, eqP_int, eqP_str, eqP_bl, eqP_non, ixP_str, ixP_lst, ixP_tup, ixP_scr, slcP_str, slcP_tup, slcP_lst, wiSeq_eq, walkP_tup, walkP_str, walkP_lst, walkP_scr, revP_str, revP_tup, revP_lst, eqNilT_tup, addBP_bl, addBP_int, addBP_str, addBP_tup, addBP_lst, subBP_bl, subBP_int, strCP_int, strCP_str, zipsP, ↓wV_ap, ↓wC_ap, ↓wOp_ap, ↓wUn_ap, ↓wBool_ap, ↓wChain_ap, ↓wTru_ap, ↓wAnd_ap, ↓wOr_ap, ↓wNot_ap, ↓wIfE_ap, ↓wAndV_ap, ↓wOrV_ap, ↓wNotV_ap, ↓wNil_ap, ↓wCons_ap, ↓wTup_ap, ↓wLst_ap, ↓wLstM_ap, ↓wCB_ap, ↓wgN_ap, ↓wgNil_ap, ↓wgCons_ap, ↓wgTup_ap, ↓wNext_ap, ↓wSeq_ap, ↓wAsg_ap, ↓wDrop_ap, ↓wRet_ap, ↓wRetN_ap, ↓wBrk_ap, ↓wCont_ap, ↓wIfS_ap, ↓wNever_ap, ↓wPar_ap, ↓wPar3_ap, ↓wAug_ap, ↓wYes_ap, ↓wCall_ap, ↓wCallK_ap, ↓wiRng1_ap, ↓wiRng2_ap, ↓wRepLit_ap, ↓wNoPart_ap, ↓wPart_ap, ↓wSl_ap, ↓wRevL_ap, ↓wBm_ap, ↓wDnewM_ap, ↓wDput_ap, ↓wFrz_ap, ↓wiZip_ap, ↓wRevA_ap, ↓wRaise1_ap, ↓wRaise0_ap, ↓wXf_ap, ↓wThunk_ap, ↓wDispM_ap, ↓wTryK_ap, ↓wLamC_ap]
      refine .mk (n := m) put_same (by decide) (by decide) (by omega) fun r a1 b1 => ?_
      simp only [startP, List.map_cons, List.map_nil, List.length_cons, List.length_nil, Nat.reduceAdd, Nat.reduceSub, List.reduceReplicate, List.cons_append, List.nil_append, List.append_nil, nth, stV, truP, seqL, seqO, rows, subP, fdivP, modP, powP, mulP, CDiv, CPow, CMul, neP, ltP, leP, gtP, geP, isNon, isP, isNotP, lenO, lenP, absP, min2P, max2P, listP, tupleP, allP, sumP, intCP, isinP, tysOf, seqK, keyOf, dgetP, slcMP, tyM, appendP, popAtP, joinP, wPairs, dputP, eqNilP, List.isEmpty_nil, List.isEmpty_cons, Bool.not_true, Bool.not_false, Bool.true_eq_false, Bool.false_eq_true, and_true, true_and, ↓reduceIte, Int.reduceToNat, Int.reducePow, Int.reduceNeg, Int.reduceAdd, Int.reduceSub, Int.reduceMul, Nat.reduceMul, Nat.reduceLT, Nat.reduceLeDiff, isB, String.reduceBEq, Bool.or_true, Bool.or_false, Bool.and_true, Bool.and_false, Bool.true_and, Bool.false_and, Bool.false_or, Bool.true_or, Int.cast_ofNat_Int, Int.reduceBEq, Int.reduceBNe, BEq.rfl, pow_ok9, pow_ok18, pow_ok30, line_eq, put_same, put_put, List.mem_cons, List.not_mem_nil, or_false, addP_int, addP_str, addP_tup, addP_lst, intP_int, intP0_int, ordP_int, eqP_int, eqP_str, eqP_bl, eqP_non, ixP_str, ixP_lst, ixP_tup, ixP_scr, slcP_str, slcP_tup, slcP_lst, wiSeq_eq, walkP_tup, walkP_str, walkP_lst, walkP_scr, revP_str, revP_tup, revP_lst, eqNilT_tup, addBP_bl, addBP_int, addBP_str, addBP_tup, addBP_lst, subBP_bl, subBP_int, strCP_int, strCP_str, zipsP, ↓wV_ap, ↓wC_ap, ↓wOp_ap, ↓wUn_ap, ↓wBool_ap, ↓wChain_ap, ↓wTru_ap, ↓wAnd_ap, ↓wOr_ap, ↓wNot_ap, ↓wIfE_ap, ↓wAndV_ap, ↓wOrV_ap, ↓wNotV_ap, ↓wNil_ap, ↓wCons_ap, ↓wTup_ap, ↓wLst_ap, ↓wLstM_ap, ↓wCB_ap, ↓wgN_ap, ↓wgNil_ap, ↓wgCons_ap, ↓wgTup_ap, ↓wNext_ap, ↓wSeq_ap, ↓wAsg_ap, ↓wDrop_ap, ↓wRet_ap, ↓wRetN_ap, ↓wBrk_ap, ↓wCont_ap, ↓wIfS_ap, ↓wNever_ap, ↓wPar_ap, ↓wPar3_ap, ↓wAug_ap, ↓wYes_ap, ↓wCall_ap, ↓wCallK_ap, ↓wiRng1_ap, ↓wiRng2_ap, ↓wRepLit_ap, ↓wNoPart_ap, ↓wPart_ap, ↓wSl_ap, ↓wRevL_ap, ↓wBm_ap, ↓wDnewM_ap, ↓wDput_ap, ↓wFrz_ap, ↓wiZip_ap, ↓wRevA_ap, ↓wRaise1_ap, ↓wRaise0_ap, ↓wXf_ap, ↓wThunk_ap, ↓wDispM_ap, ↓wTryK_ap, ↓wLamC_ap]
      refine .mk (n := m + 1) put_same (by omega) (by omega) (by omega) fun ws m1 k1 k2 k3 k4 => ?_
      simp only [startP, List.map_cons, List.map_nil, List.length_cons, List.length_nil, Nat.reduceAdd, Nat.reduceSub, List.reduceReplicate, List.cons_append, List.nil_append, List.append_nil, nth, stV, truP, seqL, seqO, rows, subP, fdivP, modP, powP, mulP, CDiv, CPow, CMul, neP, ltP, leP, gtP, geP, isNon, isP, isNotP, lenO, lenP, absP, min2P, max2P, listP, tupleP, allP, sumP, intCP, isinP, tysOf, seqK, keyOf, dgetP, slcMP, tyM, appendP, popAtP, joinP, wPairs, dputP, eqNilP, List.isEmpty_nil, List.isEmpty_cons, Bool.not_true, Bool.not_false, Bool.true_eq_false, Bool.false_eq_true, and_true, true_and, ↓reduceIte, Int.reduceToNat, Int.reducePow, Int.reduceNeg, Int.reduceAdd, Int.reduceSub, Int.reduceMul, Nat.reduceMul, Nat.reduceLT, Nat.reduceLeDiff, isB, String.reduceBEq, Bool.or_true, Bool.or_false, Bool.and_true, Bool.and_false, Bool.true_and, Bool.false_and, Bool.false_or, Bool.true_or, Int.cast_ofNat_Int, Int.reduceBEq, Int.reduceBNe, BEq.rfl, pow_ok9, pow_ok18, pow_ok30, line_eq, put_same, put_put, List.mem_cons, List.not_mem_nil, or_false, addP_int, addP_str, addP_tup, addP_lst, intP_int, intP0_int, ordP_int, eqP_int, eqP_str, eqP_bl, eqP_non, ixP_str, ixP_lst, ixP_tup, ixP_scr, slcP_str, slcP_tup, slcP_lst, wiSeq_eq, walkP_tup, walkP_str, walkP_lst, walkP_scr, revP_str, revP_tup, revP_lst, eqNilT_tup, addBP_bl, addBP_int, addBP_str, addBP_tup, addBP_lst, subBP_bl, subBP_int, strCP_int, strCP_str, zipsP, ↓wV_ap, ↓wC_ap, ↓wOp_ap, ↓wUn_ap, ↓wBool_ap, ↓wChain_ap, ↓wTru_ap, ↓wAnd_ap, ↓wOr_ap, ↓wNot_ap, ↓wIfE_ap, ↓wAndV_ap, ↓wOrV_ap, ↓wNotV_ap, ↓wNil_ap, ↓wCons_ap, ↓wTup_ap, ↓wLst_ap, ↓wLstM_ap, ↓wCB_ap, ↓wgN_ap, ↓wgNil_ap, ↓wgCons_ap, ↓wgTup_ap, ↓wNext_ap, ↓wSeq_ap, ↓wAsg_ap, ↓wDrop_ap, ↓wRet_ap, ↓wRetN_ap, ↓wBrk_ap, ↓wCont_ap, ↓wIfS_ap, ↓wNever_ap, ↓wPar_ap, ↓wPar3_ap, ↓wAug_ap, ↓wYes_ap, ↓wCall_ap, ↓wCallK_ap, ↓wiRng1_ap, ↓wiRng2_ap, ↓wRepLit_ap, ↓wNoPart_ap, ↓wPart_ap, ↓wSl_ap, ↓wRevL_ap, ↓wBm_ap, ↓wDnewM_ap, ↓wDput_ap, ↓wFrz_ap, ↓wiZip_ap, ↓wRevA_ap, ↓wRaise1_ap, ↓wRaise0_ap, ↓wXf_ap, ↓wThunk_ap, ↓wDispM_ap, ↓wTryK_ap, ↓wLamC_ap]
      exact ⟨ws, m1, k2, by omega, by omega, k3, by omega, rfl, rfl⟩
    rintro ρ S ⟨ws, m1, w1, w2, w3, w4, hm1, rfl, rfl⟩
    -- the segment
    refine cut_intro (fun ρ S => ∃ (y : PV) (m2 : Nat), isSeg y = true ∧ Sized 0 y ∧ m2 ≤ m1 + 200 ∧ ρ = [some (.scr (ns.map .int)), some (.ref p), some x, some (.lst (ws.map .str)), some y, d, e, f, g, h] ∧ S = put S0 p (drw p m2)) ?_ ?_
    · simp only [startP, List.map_cons, List.map_nil, List.length_cons, List.length_nil, Nat.reduceAdd, Nat.reduceSub, List.reduceReplicate, List.cons_append, List.nil_append, List.append_nil, nth, stV, truP, seqL, seqO, rows, subP, fdivP, modP, powP, mulP, CDiv, CPow, CMul, neP, ltP, leP, gtP, geP, isNon, isP, isNotP, lenO, lenP, absP, min2P, max2P, listP, tupleP, allP, sumP, intCP, isinP, tysOf, seqK, keyOf, dgetP, slcMP, tyM, appendP, popAtP, joinP, wPairs, dputP, eqNilP, List.isEmpty_nil, List.isEmpty_cons, Bool.not_true, Bool.not_false, Bool.true_eq_false, Bool.false_eq_true, and_true, true_and, ↓reduceIte, Int.reduceToNat, Int.reducePow, Int.reduceNeg, Int.reduceAdd, Int.reduceSub, Int.reduceMul, Nat.reduceMul, Nat.reduceLT, Nat.reduceLeDiff, isB, String.reduceBEq, Bool.or_true, Bool.or_false, Bool.and_true, Bool.and_false, Bool.true_and, Bool.false_and, Bool.false_or, Bool.true_or, Int.cast_ofNat_Int, Int.reduceBEq, Int.reduceBNe, BEq.rfl, pow_ok9, pow_ok18, pow_ok30, line_eq, put_same, put_put, List.mem_cons, List.not_mem_nil, or_false, addP_int, addP_str, addP_tup, addP_lst, intP_int, intP0_int, ordP_int, eqP_int, eqP_str, eqP_bl, eqP_non, ixP_str, ixP_lst, ixP_tup, ixP_scr, slcP_str, slcP_tup, slcP_lst, wiSeq_eq, walkP_tup, walkP_str, walkP_lst, walkP_scr, revP_str, revP_tup, revP_lst, eqNilT_tup, addBP_bl, addBP_int, addBP_str, addBP_tup, addBP_lst, subBP_bl, subBP_int, strCP_int, strCP_str, zipsP, ↓wV_ap, ↓wC_ap, ↓wOp_ap, ↓wUn_ap, ↓wBool_ap, ↓wChain_ap, ↓wTru_ap, ↓wAnd_ap, ↓wOr_ap, ↓wNot_ap, ↓wIfE_ap, ↓wAndV_ap, ↓wOrV_ap, ↓wNotV_ap, ↓wNil_ap, ↓wCons_ap, ↓wTup_ap, ↓wLst_ap, ↓wLstM_ap, ↓wCB_ap, ↓wgN_ap, ↓wgNil_ap, ↓wgCons_ap, ↓wgTup_ap, ↓wNext_ap, ↓wSeq_ap, ↓wAsg_ap, ↓wDrop_ap, ↓wRet_ap, ↓wRetN_ap, ↓wBrk_ap, ↓wCont_ap, ↓wIfS_ap, ↓wNever_ap, ↓wPar_ap, ↓wPar3_ap, ↓wAug_ap, ↓wYes_ap, ↓wCall_ap, ↓wCallK_ap, ↓wiRng1_ap, ↓wiRng2_ap, ↓wRepLit_ap, ↓wNoPart_ap, ↓wPart_ap, ↓wSl_ap, ↓wRevL_ap, ↓wBm_ap, ↓wDnewM_ap, ↓wDput_ap, ↓wFrz_ap, ↓wiZip_ap, ↓wRevA_ap, ↓wRaise1_ap, ↓wRaise0_ap, ↓wXf_ap, ↓wThunk_ap, ↓wDispM_ap, ↓wTryK_ap, ↓wLamC_ap]
      refine .mk (n := m1) put_same w1 w2 (by omega) (by decide) (by decide) (by omega) fun rs b m2 num sl ts k1 k2 k3 k4 k5 k6 => ?_
      simp only [startP, List.map_cons, List.map_nil, List.length_cons, List.length_nil, Nat.reduceAdd, Nat.reduceSub, List.reduceReplicate, List.cons_append, List.nil_append, List.append_nil, nth, stV, truP, seqL, seqO, rows, subP, fdivP, modP, powP, mulP, CDiv, CPow, CMul, neP, ltP, leP, gtP, geP, isNon, isP, isNotP, lenO, lenP, absP, min2P, max2P, listP, tupleP, allP, sumP, intCP, isinP, tysOf, seqK, keyOf, dgetP, slcMP, tyM, appendP, popAtP, joinP, wPairs, dputP, eqNilP, List.isEmpty_nil, List.isEmpty_cons, Bool.not_true, Bool.not_false, Bool.true_eq_false, Bool.false_eq_true, and_true, true_and, ↓reduceIte, Int.reduceToNat, Int.reducePow, Int.reduceNeg, Int.reduceAdd, Int.reduceSub, Int.reduceMul, Nat.reduceMul, Nat.reduceLT, Nat.reduceLeDiff, isB, String.reduceBEq, Bool.or_true, Bool.or_false, Bool.and_true, Bool.and_false, Bool.true_and, Bool.false_and, Bool.false_or, Bool.true_or, Int.cast_ofNat_Int, Int.reduceBEq, Int.reduceBNe, BEq.rfl, pow_ok9, pow_ok18, pow_ok30, line_eq, put_same, put_put, List.mem_cons, List.not_mem_nil, or_false, addP_int, addP_str, addP_tup, addP_lst, intP_int, intP0_int, ordP_int, eqP_int, eqP_str, eqP_bl, eqP_non, ixP_str, ixP_lst, ixP_tup, ixP_scr, slcP_str, slcP_tup, slcP_lst, wiSeq_eq, walkP_tup, walkP_str, walkP_lst, walkP_scr, revP_str, revP_tup, revP_lst, eqNilT_tup, addBP_bl, addBP_int, addBP_str, addBP_tup, addBP_lst, subBP_bl, subBP_int, strCP_int, strCP_str, zipsP, ↓wV_ap, ↓wC_ap, ↓wOp_ap, ↓wUn_ap, ↓wBool_ap, ↓wChain_ap, ↓wTru_ap, ↓wAnd_ap, ↓wOr_ap, ↓wNot_ap, ↓wIfE_ap, ↓wAndV_ap, ↓wOrV_ap, ↓wNotV_ap, ↓wNil_ap, ↓wCons_ap, ↓wTup_ap, ↓wLst_ap, ↓wLstM_ap, ↓wCB_ap, ↓wgN_ap, ↓wgNil_ap, ↓wgCons_ap, ↓wgTup_ap, ↓wNext_ap, ↓wSeq_ap, ↓wAsg_ap, ↓wDrop_ap, ↓wRet_ap, ↓wRetN_ap, ↓wBrk_ap, ↓wCont_ap, ↓wIfS_ap, ↓wNever_ap, ↓wPar_ap, ↓wPar3_ap, ↓wAug_ap, ↓wYes_ap, ↓wCall_ap, ↓wCallK_ap, ↓wiRng1_ap, ↓wiRng2_ap, ↓wRepLit_ap, ↓wNoPart_ap, ↓wPart_ap, ↓wSl_ap, ↓wRevL_ap, ↓wBm_ap, ↓wDnewM_ap, ↓wDput_ap, ↓wFrz_ap, ↓wiZip_ap, ↓wRevA_ap, ↓wRaise1_ap, ↓wRaise0_ap, ↓wXf_ap, ↓wThunk_ap, ↓wDispM_ap, ↓wTryK_ap, ↓wLamC_ap]
      have k2' : rs.length ≤ 9 := k2
      obtain ⟨g1, g2, g3⟩ := seg_good (b := b) w4 k4 (fun r hr => ⟨(k3.all r hr).1, by have := (k3.all r hr).2; omega⟩)
      have k6' : m2 ≤ m1 + 7 + 20 * 9 := k6
      exact ⟨_, m2, seg_is w4 k4 k3 (by omega), ⟨g1, g2, by omega⟩, by omega, rfl, rfl⟩
    rintro ρ S ⟨y0, m2, hs, z0, hm2, rfl, rfl⟩
    have B0 : (1000000000 + 1000000001 * 0 : Nat) ≤ 10 ^ 20 := by decide
    have wt0 := z0.wt
    have dp0 := z0.dp
    have sx0 := z0.good.segX B0 (by omega)
    -- it is one
    refine cut_intro (fun ρ S => ρ = [some (.scr (ns.map .int)), some (.ref p), some x, some (.lst (ws.map .str)), some y0, d, e, f, g, h] ∧ S = put S0 p (drw p m2)) ?_ ?_
    · simp only [startP, List.map_cons, List.map_nil, List.length_cons, List.length_nil, Nat.reduceAdd, Nat.reduceSub, List.reduceReplicate, List.cons_append, List.nil_append, List.append_nil, nth, stV, truP, seqL, seqO, rows, subP, fdivP, modP, powP, mulP, CDiv, CPow, CMul, neP, ltP, leP, gtP, geP, isNon, isP, isNotP, lenO, lenP, absP, min2P, max2P, listP, tupleP, allP, sumP, intCP, isinP, tysOf, seqK, keyOf, dgetP, slcMP, tyM, appendP, popAtP, joinP, wPairs, dputP, eqNilP, List.isEmpty_nil, List.isEmpty_cons, Bool.not_true, Bool.not_false, Bool.true_eq_false, Bool.false_eq_true, and_true, true_and, ↓reduceIte, Int.reduceToNat, Int.reducePow, Int.reduceNeg, Int.reduceAdd, Int.reduceSub, Int.reduceMul, Nat.reduceMul, Nat.reduceLT, Nat.reduceLeDiff, isB, String.reduceBEq, Bool.or_true, Bool.or_false, Bool.and_true, Bool.and_false, Bool.true_and, Bool.false_and, Bool.false_or, Bool.true_or, Int.cast_ofNat_Int, Int.reduceBEq, Int.reduceBNe, BEq.rfl, pow_ok9, pow_ok18, pow_ok30, line_eq, put_same, put_put, List.mem_cons, List.not_mem_nil, or_false, addP_int, addP_str, addP_tup, addP_lst, intP_int, intP0_int, ordP_int, eqP_int, eqP_str, eqP_bl, eqP_non, ixP_str, ixP_lst, ixP_tup, ixP_scr, slcP_str, slcP_tup, slcP_lst, wiSeq_eq, walkP_tup, walkP_str, walkP_lst, walkP_scr, revP_str, revP_tup, revP_lst, eqNilT_tup, addBP_bl, addBP_int, addBP_str, addBP_tup, addBP_lst, subBP_bl, subBP_int, strCP_int, strCP_str, zipsP, ↓wV_ap, ↓wC_ap, ↓wOp_ap, ↓wUn_ap, ↓wBool_ap, ↓wChain_ap, ↓wTru_ap, ↓wAnd_ap, ↓wOr_ap, ↓wNot_ap, ↓wIfE_ap, ↓wAndV_ap, ↓wOrV_ap, ↓wNotV_ap, ↓wNil_ap, ↓wCons_ap, ↓wTup_ap, ↓wLst_ap, ↓wLstM_ap, ↓wCB_ap, ↓wgN_ap, ↓wgNil_ap, ↓wgCons_ap, ↓wgTup_ap, ↓wNext_ap, ↓wSeq_ap, ↓wAsg_ap, ↓wDrop_ap, ↓wRet_ap, ↓wRetN_ap, ↓wBrk_ap, ↓wCont_ap, ↓wIfS_ap, ↓wNever_ap, ↓wPar_ap, ↓wPar3_ap, ↓wAug_ap, ↓wYes_ap, ↓wCall_ap, ↓wCallK_ap, ↓wiRng1_ap, ↓wiRng2_ap, ↓wRepLit_ap, ↓wNoPart_ap, ↓wPart_ap, ↓wSl_ap, ↓wRevL_ap, ↓wBm_ap, ↓wDnewM_ap, ↓wDput_ap, ↓wFrz_ap, ↓wiZip_ap, ↓wRevA_ap, ↓wRaise1_ap, ↓wRaise0_ap, ↓wXf_ap, ↓wThunk_ap, ↓wDispM_ap, ↓wTryK_ap, ↓wLamC_ap, pure1, reprP, hs, neP, eqP_str, shw_true, ↓reduceIte]
      exact ⟨sx0, fine_bl⟩
    rintro ρ S ⟨rfl, rfl⟩
    -- six changes
    simp only [wFor, wiRng1_ap, wCons_ap, wNil_ap, wC_ap]
    refine ⟨by decide, by decide, ?_⟩
    refine for_inv (fun done2 ρ S => ∃ (m3 : Nat) (d e f g h : Option PV), m3 ≤ m2 + 61 * done2.length ∧ ρ = [some (.scr (ns.map .int)), some (.ref p), some x, some (.lst (ws.map .str)), some y0, d, e, f, g, h] ∧ S = put S0 p (drw p m3)) ⟨m2, d, e, f, g, h, Nat.le_refl _, rfl, rfl⟩ ?_ ?_
    · rintro ρ S ⟨m3, d, e, f, g, h, hm3, rfl, rfl⟩
      refine ⟨trivial, done ++ [x], by show rngP 0 (Int.toNat 4) = _; rw [ed, List.append_assoc]; rfl, m3, some x, _, _, d, e, f, g, h, ?_, rfl, rfl⟩
      rw [rng_len] at hm3
      rw [List.length_append]
      show m3 ≤ 1000 * (done.length + 1)
      have : (6 : Int).toNat = 6 := rfl
      omega
    rintro done2 x2 rest2 ρ S ed2 ⟨m3, d, e, f, g, h, hm3, rfl, rfl⟩
    have hd2 : done2.length < 6 := by
      have := congrArg List.length ed2
      rw [rng_len, List.length_append, List.length_cons] at this
      have h6 : (6 : Int).toNat = 6 := rfl
      omega
    refine ⟨trivial, ?_⟩
    refine cut_intro (fun ρ S => ρ = [some (.scr (ns.map .int)), some (.ref p), some x, some (.lst (ws.map .str)), some y0, some x2, some y0, f, g, h] ∧ S = put S0 p (drw p m3)) ?_ ?_
    · simp only [startP, List.map_cons, List.map_nil, List.length_cons, List.length_nil, Nat.reduceAdd, Nat.reduceSub, List.reduceReplicate, List.cons_append, List.nil_append, List.append_nil, nth, stV, truP, seqL, seqO, rows, subP, fdivP, modP, powP, mulP, CDiv, CPow, CMul, neP, ltP, leP, gtP, geP, isNon, isP, isNotP, lenO, lenP, absP, min2P, max2P, listP, tupleP, allP, sumP, intCP, isinP, tysOf, seqK, keyOf, dgetP, slcMP, tyM, appendP, popAtP, joinP, wPairs, dputP, eqNilP, List.isEmpty_nil, List.isEmpty_cons, Bool.not_true, Bool.not_false, Bool.true_eq_false, Bool.false_eq_true, and_true, true_and, ↓reduceIte, Int.reduceToNat, Int.reducePow, Int.reduceNeg, Int.reduceAdd, Int.reduceSub, Int.reduceMul, Nat.reduceMul, Nat.reduceLT, Nat.reduceLeDiff, isB, String.reduceBEq, Bool.or_true, Bool.or_false, Bool.and_true, Bool.and_false, Bool.true_and, Bool.false_and, Bool.false_or, Bool.true_or, Int.cast_ofNat_Int, Int.reduceBEq, Int.reduceBNe, BEq.rfl, pow_ok9, pow_ok18, pow_ok30, line_eq, put_same, put_put, List.mem_cons, List.not_mem_nil, or_false, addP_int, addP_str, addP_tup, addP_lst, intP_int, intP0_int, ordP_int, eqP_int, eqP_str, eqP_bl, eqP_non, ixP_str, ixP_lst, ixP_tup, ixP_scr, slcP_str, slcP_tup, slcP_lst, wiSeq_eq, walkP_tup, walkP_str, walkP_lst, walkP_scr, revP_str, revP_tup, revP_lst, eqNilT_tup, addBP_bl, addBP_int, addBP_str, addBP_tup, addBP_lst, subBP_bl, subBP_int, strCP_int, strCP_str, zipsP, ↓wV_ap, ↓wC_ap, ↓wOp_ap, ↓wUn_ap, ↓wBool_ap, ↓wChain_ap, ↓wTru_ap, ↓wAnd_ap, ↓wOr_ap, ↓wNot_ap, ↓wIfE_ap, ↓wAndV_ap, ↓wOrV_ap, ↓wNotV_ap, ↓wNil_ap, ↓wCons_ap, ↓wTup_ap, ↓wLst_ap, ↓wLstM_ap, ↓wCB_ap, ↓wgN_ap, ↓wgNil_ap, ↓wgCons_ap, ↓wgTup_ap, ↓wNext_ap, ↓wSeq_ap, ↓wAsg_ap, ↓wDrop_ap, ↓wRet_ap, ↓wRetN_ap, ↓wBrk_ap, ↓wCont_ap, ↓wIfS_ap, ↓wNever_ap, ↓wPar_ap, ↓wPar3_ap, ↓wAug_ap, ↓wYes_ap, ↓wCall_ap, ↓wCallK_ap, ↓wiRng1_ap, ↓wiRng2_ap, ↓wRepLit_ap, ↓wNoPart_ap, ↓wPart_ap, ↓wSl_ap, ↓wRevL_ap, ↓wBm_ap, ↓wDnewM_ap, ↓wDput_ap, ↓wFrz_ap, ↓wiZip_ap, ↓wRevA_ap, ↓wRaise1_ap, ↓wRaise0_ap, ↓wXf_ap, ↓wThunk_ap, ↓wDispM_ap, ↓wTryK_ap, ↓wLamC_ap]
    rintro ρ S ⟨rfl, rfl⟩
    -- the bends
    refine cut_intro (fun ρ S => ∃ (y : PV) (m4 : Nat) (f : Option PV), Sized 3 y ∧ m4 ≤ m3 + 61 ∧ ρ = [some (.scr (ns.map .int)), some (.ref p), some x, some (.lst (ws.map .str)), some y0, some x2, some y, f, g, h] ∧ S = put S0 p (drw p m4)) ?_ ?_
    · simp only [wFor, wiRng1_ap, wCons_ap, wNil_ap, wC_ap, wOp_ap, wCall_ap, wV_ap, nth, List.append_nil]
      refine .mk (n := m3) put_same (by decide) (by decide) (by omega) fun j j0 j2 => ?_
      simp only [addP_int]
      refine ⟨by omega, by omega, for_inv (fun done3 ρ S => ∃ (y : PV) (m4 : Nat) (f : Option PV), Sized done3.length y ∧ m4 ≤ m3 + 1 + 20 * done3.length ∧ ρ = [some (.scr (ns.map .int)), some (.ref p), some x, some (.lst (ws.map .str)), some y0, some x2, some y, f, g, h] ∧ S = put S0 p (drw p m4)) ⟨y0, m3 + 1, f, z0, Nat.le_refl _, rfl, by rw [put_put]⟩ ?_ ?_⟩
      · rintro ρ S ⟨y, m4, f, hy, hm4, rfl, rfl⟩
        rw [rng_len] at hy hm4
        have hj : (1 + j).toNat ≤ 3 := by omega
        refine ⟨trivial, y, m4, f, ?_, by omega, rfl, rfl⟩
        have h1 := hy.dp
        have h2 := hy.wt
        have hj' : (1 + j).toNat = 1 ∨ (1 + j).toNat = 2 ∨ (1 + j).toNat = 3 := by omega
        rcases hj' with e | e | e <;> rw [e] at hy h1 h2 <;> exact ⟨hy.good.mono (by omega), by omega, by omega⟩
      · rintro done3 x3 rest3 ρ S ed3 ⟨y, m4, f, hy, hm4, rfl, rfl⟩
        have hd3 : done3.length < 3 := by
          have := congrArg List.length ed3
          rw [rng_len, List.length_append, List.length_cons] at this
          omega
        refine ⟨trivial, ?_⟩
        have h1 := hy.dp
        have h2 := hy.wt
        have hw3 : wt y ≤ 31184 := by
          have hj' : done3.length = 0 ∨ done3.length = 1 ∨ done3.length = 2 := by omega
          rcases hj' with e | e | e <;> rw [e] at h2 <;> omega
        simp only [startP, List.map_cons, List.map_nil, List.length_cons, List.length_nil, Nat.reduceAdd, Nat.reduceSub, List.reduceReplicate, List.cons_append, List.nil_append, List.append_nil, nth, stV, truP, seqL, seqO, rows, subP, fdivP, modP, powP, mulP, CDiv, CPow, CMul, neP, ltP, leP, gtP, geP, isNon, isP, isNotP, lenO, lenP, absP, min2P, max2P, listP, tupleP, allP, sumP, intCP, isinP, tysOf, seqK, keyOf, dgetP, slcMP, tyM, appendP, popAtP, joinP, wPairs, dputP, eqNilP, List.isEmpty_nil, List.isEmpty_cons, Bool.not_true, Bool.not_false, Bool.true_eq_false, Bool.false_eq_true, and_true, true_and, ↓reduceIte, Int.reduceToNat, Int.reducePow, Int.reduceNeg, Int.reduceAdd, Int.reduceSub, Int.reduceMul, Nat.reduceMul, Nat.reduceLT, Nat.reduceLeDiff, isB, String.reduceBEq, Bool.or_true, Bool.or_false, Bool.and_true, Bool.and_false, Bool.true_and, Bool.false_and, Bool.false_or, Bool.true_or, Int.cast_ofNat_Int, Int.reduceBEq, Int.reduceBNe, BEq.rfl, pow_ok9, pow_ok18, pow_ok30, line_eq, put_same, put_put, List.mem_cons, List.not_mem_nil, or_false, addP_int, addP_str, addP_tup, addP_lst, intP_int, intP0_int, ordP_int, eqP_int, eqP_str, eqP_bl, eqP_non, ixP_str, ixP_lst, ixP_tup, ixP_scr, slcP_str, slcP_tup, slcP_lst, wiSeq_eq, walkP_tup, walkP_str, walkP_lst, walkP_scr, revP_str, revP_tup, revP_lst, eqNilT_tup, addBP_bl, addBP_int, addBP_str, addBP_tup, addBP_lst, subBP_bl, subBP_int, strCP_int, strCP_str, zipsP, ↓wV_ap, ↓wC_ap, ↓wOp_ap, ↓wUn_ap, ↓wBool_ap, ↓wChain_ap, ↓wTru_ap, ↓wAnd_ap, ↓wOr_ap, ↓wNot_ap, ↓wIfE_ap, ↓wAndV_ap, ↓wOrV_ap, ↓wNotV_ap, ↓wNil_ap, ↓wCons_ap, ↓wTup_ap, ↓wLst_ap, ↓wLstM_ap, ↓wCB_ap, ↓wgN_ap, ↓wgNil_ap, ↓wgCons_ap, ↓wgTup_ap, ↓wNext_ap, ↓wSeq_ap, ↓wAsg_ap, ↓wDrop_ap, ↓wRet_ap, ↓wRetN_ap, ↓wBrk_ap, ↓wCont_ap, ↓wIfS_ap, ↓wNever_ap, ↓wPar_ap, ↓wPar3_ap, ↓wAug_ap, ↓wYes_ap, ↓wCall_ap, ↓wCallK_ap, ↓wiRng1_ap, ↓wiRng2_ap, ↓wRepLit_ap, ↓wNoPart_ap, ↓wPart_ap, ↓wSl_ap, ↓wRevL_ap, ↓wBm_ap, ↓wDnewM_ap, ↓wDput_ap, ↓wFrz_ap, ↓wiZip_ap, ↓wRevA_ap, ↓wRaise1_ap, ↓wRaise0_ap, ↓wXf_ap, ↓wThunk_ap, ↓wDispM_ap, ↓wTryK_ap, ↓wLamC_ap]
        refine .mk (n := m4) (B := 1000000000 + 1000000001 * done3.length) put_same hy.good (Nat.le_trans (m := 4000000002) (by omega) (by decide)) (by omega) (by decide) (by omega) (by omega) fun y2 m5 hb hm5 => ?_
        simp only [startP, List.map_cons, List.map_nil, List.length_cons, List.length_nil, Nat.reduceAdd, Nat.reduceSub, List.reduceReplicate, List.cons_append, List.nil_append, List.append_nil, nth, stV, truP, seqL, seqO, rows, subP, fdivP, modP, powP, mulP, CDiv, CPow, CMul, neP, ltP, leP, gtP, geP, isNon, isP, isNotP, lenO, lenP, absP, min2P, max2P, listP, tupleP, allP, sumP, intCP, isinP, tysOf, seqK, keyOf, dgetP, slcMP, tyM, appendP, popAtP, joinP, wPairs, dputP, eqNilP, List.isEmpty_nil, List.isEmpty_cons, Bool.not_true, Bool.not_false, Bool.true_eq_false, Bool.false_eq_true, and_true, true_and, ↓reduceIte, Int.reduceToNat, Int.reducePow, Int.reduceNeg, Int.reduceAdd, Int.reduceSub, Int.reduceMul, Nat.reduceMul, Nat.reduceLT, Nat.reduceLeDiff, isB, String.reduceBEq, Bool.or_true, Bool.or_false, Bool.and_true, Bool.and_false, Bool.true_and, Bool.false_and, Bool.false_or, Bool.true_or, Int.cast_ofNat_Int, Int.reduceBEq, Int.reduceBNe, BEq.rfl, pow_ok9, pow_ok18, pow_ok30, line_eq, put_same, put_put, List.mem_cons, List.not_mem_nil, or_false, addP_int, addP_str, addP_tup, addP_lst, intP_int, intP0_int, ordP_int, eqP_int, eqP_str, eqP_bl, eqP_non, ixP_str, ixP_lst, ixP_tup, ixP_scr, slcP_str, slcP_tup, slcP_lst, wiSeq_eq, walkP_tup, walkP_str, walkP_lst, walkP_scr, revP_str, revP_tup, revP_lst, eqNilT_tup, addBP_bl, addBP_int, addBP_str, addBP_tup, addBP_lst, subBP_bl, subBP_int, strCP_int, strCP_str, zipsP, ↓wV_ap, ↓wC_ap, ↓wOp_ap, ↓wUn_ap, ↓wBool_ap, ↓wChain_ap, ↓wTru_ap, ↓wAnd_ap, ↓wOr_ap, ↓wNot_ap, ↓wIfE_ap, ↓wAndV_ap, ↓wOrV_ap, ↓wNotV_ap, ↓wNil_ap, ↓wCons_ap, ↓wTup_ap, ↓wLst_ap, ↓wLstM_ap, ↓wCB_ap, ↓wgN_ap, ↓wgNil_ap, ↓wgCons_ap, ↓wgTup_ap, ↓wNext_ap, ↓wSeq_ap, ↓wAsg_ap, ↓wDrop_ap, ↓wRet_ap, ↓wRetN_ap, ↓wBrk_ap, ↓wCont_ap, ↓wIfS_ap, ↓wNever_ap, ↓wPar_ap, ↓wPar3_ap, ↓wAug_ap, ↓wYes_ap, ↓wCall_ap, ↓wCallK_ap, ↓wiRng1_ap, ↓wiRng2_ap, ↓wRepLit_ap, ↓wNoPart_ap, ↓wPart_ap, ↓wSl_ap, ↓wRevL_ap, ↓wBm_ap, ↓wDnewM_ap, ↓wDput_ap, ↓wFrz_ap, ↓wiZip_ap, ↓wRevA_ap, ↓wRaise1_ap, ↓wRaise0_ap, ↓wXf_ap, ↓wThunk_ap, ↓wDispM_ap, ↓wTryK_ap, ↓wLamC_ap]
        have b1 := hb.dp
        have b2 := hb.wt
        refine ⟨done3 ++ [x3], by rw [ed3, List.append_assoc]; rfl, y2, m5, some x3, ?_, ?_, rfl, rfl⟩
        · rw [List.length_append]
          show Sized (done3.length + 1) y2
          refine ⟨hb.good.mono (by omega), by omega, ?_⟩
          rw [Nat.pow_succ]
          have hp : 1 ≤ 2 ^ done3.length := Nat.one_le_two_pow
          generalize 2 ^ done3.length = z at *
          omega
        · rw [List.length_append]
          show m5 ≤ m3 + 1 + 20 * (done3.length + 1)
          omega
    rintro ρ S ⟨y, m4, f, hy, hm4, rfl, rfl⟩
    have h1 := hy.dp
    have h2 : wt y ≤ 62668 := hy.wt
    have fy : FineR y := hy.good.fine (Nat.lt_of_le_of_lt (m := 4000000003) (by decide) (by decide)) (by omega) (by omega)
    have sy := hy.good.segX (Nat.le_trans (m := 4000000003) (by decide) (by decide)) (by omega)
    refine cut_intro (fun ρ S => ρ = [some (.scr (ns.map .int)), some (.ref p), some x, some (.lst (ws.map .str)), some y0, some x2, some y, f, some (.str (shw y)), some (.str (shw (.bl (isSeg y))))] ∧ S = put S0 p (drw p m4)) ?_ ?_
    · simp only [startP, List.map_cons, List.map_nil, List.length_cons, List.length_nil, Nat.reduceAdd, Nat.reduceSub, List.reduceReplicate, List.cons_append, List.nil_append, List.append_nil, nth, stV, truP, seqL, seqO, rows, subP, fdivP, modP, powP, mulP, CDiv, CPow, CMul, neP, ltP, leP, gtP, geP, isNon, isP, isNotP, lenO, lenP, absP, min2P, max2P, listP, tupleP, allP, sumP, intCP, isinP, tysOf, seqK, keyOf, dgetP, slcMP, tyM, appendP, popAtP, joinP, wPairs, dputP, eqNilP, List.isEmpty_nil, List.isEmpty_cons, Bool.not_true, Bool.not_false, Bool.true_eq_false, Bool.false_eq_true, and_true, true_and, ↓reduceIte, Int.reduceToNat, Int.reducePow, Int.reduceNeg, Int.reduceAdd, Int.reduceSub, Int.reduceMul, Nat.reduceMul, Nat.reduceLT, Nat.reduceLeDiff, isB, String.reduceBEq, Bool.or_true, Bool.or_false, Bool.and_true, Bool.and_false, Bool.true_and, Bool.false_and, Bool.false_or, Bool.true_or, Int.cast_ofNat_Int, Int.reduceBEq, Int.reduceBNe, BEq.rfl, pow_ok9, pow_ok18, pow_ok30, line_eq, put_same, put_put, List.mem_cons, List.not_mem_nil, or_false, addP_int, addP_str, addP_tup, addP_lst, intP_int, intP0_int, ordP_int, eqP_int, eqP_str, eqP_bl, eqP_non, ixP_str, ixP_lst, ixP_tup, ixP_scr, slcP_str, slcP_tup, slcP_lst, wiSeq_eq, walkP_tup, walkP_str, walkP_lst, walkP_scr, revP_str, revP_tup, revP_lst, eqNilT_tup, addBP_bl, addBP_int, addBP_str, addBP_tup, addBP_lst, subBP_bl, subBP_int, strCP_int, strCP_str, zipsP, ↓wV_ap, ↓wC_ap, ↓wOp_ap, ↓wUn_ap, ↓wBool_ap, ↓wChain_ap, ↓wTru_ap, ↓wAnd_ap, ↓wOr_ap, ↓wNot_ap, ↓wIfE_ap, ↓wAndV_ap, ↓wOrV_ap, ↓wNotV_ap, ↓wNil_ap, ↓wCons_ap, ↓wTup_ap, ↓wLst_ap, ↓wLstM_ap, ↓wCB_ap, ↓wgN_ap, ↓wgNil_ap, ↓wgCons_ap, ↓wgTup_ap, ↓wNext_ap, ↓wSeq_ap, ↓wAsg_ap, ↓wDrop_ap, ↓wRet_ap, ↓wRetN_ap, ↓wBrk_ap, ↓wCont_ap, ↓wIfS_ap, ↓wNever_ap, ↓wPar_ap, ↓wPar3_ap, ↓wAug_ap, ↓wYes_ap, ↓wCall_ap, ↓wCallK_ap, ↓wiRng1_ap, ↓wiRng2_ap, ↓wRepLit_ap, ↓wNoPart_ap, ↓wPart_ap, ↓wSl_ap, ↓wRevL_ap, ↓wBm_ap, ↓wDnewM_ap, ↓wDput_ap, ↓wFrz_ap, ↓wiZip_ap, ↓wRevA_ap, ↓wRaise1_ap, ↓wRaise0_ap, ↓wXf_ap, ↓wThunk_ap, ↓wDispM_ap, ↓wTryK_ap, ↓wLamC_ap, pure1, reprP]
      exact ⟨fy, sy, fine_bl⟩
    rintro ρ S ⟨rfl, rfl⟩
    simp only [startP, List.map_cons, List.map_nil, List.length_cons, List.length_nil, Nat.reduceAdd, Nat.reduceSub, List.reduceReplicate, List.cons_append, List.nil_append, List.append_nil, nth, stV, truP, seqL, seqO, rows, subP, fdivP, modP, powP, mulP, CDiv, CPow, CMul, neP, ltP, leP, gtP, geP, isNon, isP, isNotP, lenO, lenP, absP, min2P, max2P, listP, tupleP, allP, sumP, intCP, isinP, tysOf, seqK, keyOf, dgetP, slcMP, tyM, appendP, popAtP, joinP, wPairs, dputP, eqNilP, List.isEmpty_nil, List.isEmpty_cons, Bool.not_true, Bool.not_false, Bool.true_eq_false, Bool.false_eq_true, and_true, true_and, ↓reduceIte, Int.reduceToNat, Int.reducePow, Int.reduceNeg, Int.reduceAdd, Int.reduceSub, Int.reduceMul, Nat.reduceMul, Nat.reduceLT, Nat.reduceLeDiff, isB, String.reduceBEq, Bool.or_true, Bool.or_false, Bool.and_true, Bool.and_false, Bool.true_and, Bool.false_and, Bool.false_or, Bool.true_or, Int.cast_ofNat_Int, Int.reduceBEq, Int.reduceBNe, BEq.rfl, pow_ok9, pow_ok18, pow_ok30, line_eq, put_same, put_put, List.mem_cons, List.not_mem_nil, or_false, addP_int, addP_str, addP_tup, addP_lst, intP_int, intP0_int, ordP_int, eqP_int, eqP_str, eqP_bl, eqP_non, ixP_str, ixP_lst, ixP_tup, ixP_scr, slcP_str, slcP_tup, slcP_lst, wiSeq_eq, walkP_tup, walkP_str, walkP_lst, walkP_scr, revP_str, revP_tup, revP_lst, eqNilT_tup, addBP_bl, addBP_int, addBP_str, addBP_tup, addBP_lst, subBP_bl, subBP_int, strCP_int, strCP_str, zipsP, ↓wV_ap, ↓wC_ap, ↓wOp_ap, ↓wUn_ap, ↓wBool_ap, ↓wChain_ap, ↓wTru_ap, ↓wAnd_ap, ↓wOr_ap, ↓wNot_ap, ↓wIfE_ap, ↓wAndV_ap, ↓wOrV_ap, ↓wNotV_ap, ↓wNil_ap, ↓wCons_ap, ↓wTup_ap, ↓wLst_ap, ↓wLstM_ap, ↓wCB_ap, ↓wgN_ap, ↓wgNil_ap, ↓wgCons_ap, ↓wgTup_ap, ↓wNext_ap, ↓wSeq_ap, ↓wAsg_ap, ↓wDrop_ap, ↓wRet_ap, ↓wRetN_ap, ↓wBrk_ap, ↓wCont_ap, ↓wIfS_ap, ↓wNever_ap, ↓wPar_ap, ↓wPar3_ap, ↓wAug_ap, ↓wYes_ap, ↓wCall_ap, ↓wCallK_ap, ↓wiRng1_ap, ↓wiRng2_ap, ↓wRepLit_ap, ↓wNoPart_ap, ↓wPart_ap, ↓wSl_ap, ↓wRevL_ap, ↓wBm_ap, ↓wDnewM_ap, ↓wDput_ap, ↓wFrz_ap, ↓wiZip_ap, ↓wRevA_ap, ↓wRaise1_ap, ↓wRaise0_ap, ↓wXf_ap, ↓wThunk_ap, ↓wDispM_ap, ↓wTryK_ap, ↓wLamC_ap, pure1, reprP, BEq.rfl, Bool.not_true]
    refine ⟨sy, fine_bl, sy, fine_bl, fy, done2 ++ [x2], by show rngP 0 (Int.toNat 6) = _; rw [ed2, List.append_assoc]; rfl, m4, some x2, some y, f, _, _, ?_, rfl, rfl⟩
    rw [List.length_append]
    show m4 ≤ m2 + 61 * (done2.length + 1)
    omega
  rintro ρ S -
  simp only [startP, List.map_cons, List.map_nil, List.length_cons, List.length_nil, Nat.reduceAdd, Nat.reduceSub, List.reduceReplicate, List.cons_append, List.nil_append, List.append_nil, nth, stV, truP, seqL, seqO, rows, subP, fdivP, modP, powP, mulP, CDiv, CPow, CMul, neP, ltP, leP, gtP, geP, isNon, isP, isNotP, lenO, lenP, absP, min2P, max2P, listP, tupleP, allP, sumP, intCP, isinP, tysOf, seqK, keyOf, dgetP, slcMP, tyM, appendP, popAtP, joinP, wPairs, dputP, eqNilP, List.isEmpty_nil, List.isEmpty_cons, Bool.not_true, Bool.not_false, Bool.true_eq_false, Bool.false_eq_true, and_true, true_and, ↓reduceIte, Int.reduceToNat, Int.reducePow, Int.reduceNeg, Int.reduceAdd, Int.reduceSub, Int.reduceMul, Nat.reduceMul, Nat.reduceLT, Nat.reduceLeDiff, isB, String.reduceBEq, Bool.or_true, Bool.or_false, Bool.and_true, Bool.and_false, Bool.true_and, Bool.false_and, Bool.false_or, Bool.true_or, Int.cast_ofNat_Int, Int.reduceBEq, Int.reduceBNe, BEq.rfl, pow_ok9, pow_ok18, pow_ok30, line_eq, put_same, put_put, List.mem_cons, List.not_mem_nil, or_false, addP_int, addP_str, addP_tup, addP_lst, intP_int, intP0_int, ordP_int, eqP_int, eqP_str, eqP_bl, eqP_non, ixP_str, ixP_lst, ixP_tup, ixP_scr, slcP_str, slcP_tup, slcP_lst, wiSeq_eq, walkP_tup, walkP_str, walkP_lst, walkP_scr, revP_str, revP_tup, revP_lst, eqNilT_tup, addBP_bl, addBP_int, addBP_str, addBP_tup, addBP_lst, subBP_bl, subBP_int, strCP_int, strCP_str, zipsP, ↓wV_ap, ↓wC_ap, ↓wOp_ap, ↓wUn_ap, ↓wBool_ap, ↓wChain_ap, ↓wTru_ap, ↓wAnd_ap, ↓wOr_ap, ↓wNot_ap, ↓wIfE_ap, ↓wAndV_ap, ↓wOrV_ap, ↓wNotV_ap, ↓wNil_ap, ↓wCons_ap, ↓wTup_ap, ↓wLst_ap, ↓wLstM_ap, ↓wCB_ap, ↓wgN_ap, ↓wgNil_ap, ↓wgCons_ap, ↓wgTup_ap, ↓wNext_ap, ↓wSeq_ap, ↓wAsg_ap, ↓wDrop_ap, ↓wRet_ap, ↓wRetN_ap, ↓wBrk_ap, ↓wCont_ap, ↓wIfS_ap, ↓wNever_ap, ↓wPar_ap, ↓wPar3_ap, ↓wAug_ap, ↓wYes_ap, ↓wCall_ap, ↓wCallK_ap, ↓wiRng1_ap, ↓wiRng2_ap, ↓wRepLit_ap, ↓wNoPart_ap, ↓wPart_ap, ↓wSl_ap, ↓wRevL_ap, ↓wBm_ap, ↓wDnewM_ap, ↓wDput_ap, ↓wFrz_ap, ↓wiZip_ap, ↓wRevA_ap, ↓wRaise1_ap, ↓wRaise0_ap, ↓wXf_ap, ↓wThunk_ap, ↓wDispM_ap, ↓wTryK_ap, ↓wLamC_ap]
  exact q _

end
theorem all_mk {l : PySem.W.OpenLaw} {w : World} {K : PySem.W.Frag} {h : Heap} {mg : Str → Option Value} {fa : Addr} {q0 : Program} (X : K.In h) (G : h.Ns mainGlobals mg) (hfa : mg "law" = some (.ref fa)) (OT : OwnTabs q0 K mg h)
    {f_is_number : Addr} {od_is_number an_is_number : Option Addr} {sl_is_number : Array (Option Value)} {oc_is_number kV_is_number dc_is_number pm_is_number cd_is_number ct_is_number : Value} {f_is_name : Addr} {od_is_name an_is_name : Option Addr} {sl_is_name : Array (Option Value)} {oc_is_name kV_is_name dc_is_name pm_is_name cd_is_name ct_is_name : Value} {f_is_amount : Addr} {od_is_amount an_is_amount : Option Addr} {sl_is_amount : Array (Option Value)} {oc_is_amount kV_is_amount dc_is_amount pm_is_amount cd_is_amount ct_is_amount : Value} {f_is_sale : Addr} {od_is_sale an_is_sale : Option Addr} {sl_is_sale : Array (Option Value)} {oc_is_sale kV_is_sale dc_is_sale pm_is_sale cd_is_sale ct_is_sale : Value} {f_is_segment : Addr} {od_is_segment an_is_segment : Option Addr} {sl_is_segment : Array (Option Value)} {oc_is_segment kV_is_segment dc_is_segment pm_is_segment cd_is_segment ct_is_segment : Value} {f_law_begun : Addr} {od_law_begun an_law_begun : Option Addr} {sl_law_begun : Array (Option Value)} {oc_law_begun kV_law_begun dc_law_begun pm_law_begun cd_law_begun ct_law_begun : Value} {f_law_take : Addr} {od_law_take an_law_take : Option Addr} {sl_law_take : Array (Option Value)} {oc_law_take kV_law_take dc_law_take pm_law_take cd_law_take ct_law_take : Value} {f_law_pick : Addr} {od_law_pick an_law_pick : Option Addr} {sl_law_pick : Array (Option Value)} {oc_law_pick kV_law_pick dc_law_pick pm_law_pick cd_law_pick ct_law_pick : Value} {f_law_names : Addr} {od_law_names an_law_names : Option Addr} {sl_law_names : Array (Option Value)} {oc_law_names kV_law_names dc_law_names pm_law_names cd_law_names ct_law_names : Value} {f_law_amount : Addr} {od_law_amount an_law_amount : Option Addr} {sl_law_amount : Array (Option Value)} {oc_law_amount kV_law_amount dc_law_amount pm_law_amount cd_law_amount ct_law_amount : Value} {f_law_sales : Addr} {od_law_sales an_law_sales : Option Addr} {sl_law_sales : Array (Option Value)} {oc_law_sales kV_law_sales dc_law_sales pm_law_sales cd_law_sales ct_law_sales : Value} {f_law_segment : Addr} {od_law_segment an_law_segment : Option Addr} {sl_law_segment : Array (Option Value)} {oc_law_segment kV_law_segment dc_law_segment pm_law_segment cd_law_segment ct_law_segment : Value} {f_law_is_count : Addr} {od_law_is_count an_law_is_count : Option Addr} {sl_law_is_count : Array (Option Value)} {oc_law_is_count kV_law_is_count dc_law_is_count pm_law_is_count cd_law_is_count ct_law_is_count : Value} {f_law_is_name : Addr} {od_law_is_name an_law_is_name : Option Addr} {sl_law_is_name : Array (Option Value)} {oc_law_is_name kV_law_is_name dc_law_is_name pm_law_is_name cd_law_is_name ct_law_is_name : Value} {f_law_is_sale : Addr} {od_law_is_sale an_law_is_sale : Option Addr} {sl_law_is_sale : Array (Option Value)} {oc_law_is_sale kV_law_is_sale dc_law_is_sale pm_law_is_sale cd_law_is_sale ct_law_is_sale : Value} {f_law_is_segment : Addr} {od_law_is_segment an_law_is_segment : Option Addr} {sl_law_is_segment : Array (Option Value)} {oc_law_is_segment kV_law_is_segment dc_law_is_segment pm_law_is_segment cd_law_is_segment ct_law_is_segment : Value} {f_law_bent : Addr} {od_law_bent an_law_bent : Option Addr} {sl_law_bent : Array (Option Value)} {oc_law_bent kV_law_bent dc_law_bent pm_law_bent cd_law_bent ct_law_bent : Value} {f_law : Addr} {od_law an_law : Option Addr} {sl_law : Array (Option Value)} {oc_law kV_law dc_law pm_law cd_law ct_law : Value} {t_LETTERS : Tok} {t_LONGEST_NAME : Tok} {C_Accounts : Addr}  {t_Accounts_MOST : Tok}
        (z_is_number : PySem.W.nsIn K mainGlobals "is_number" = some (some (.ref f_is_number)))
    (l_is_number : K.lookup f_is_number = some ⟨oc_is_number, od_is_number, .func (PySem.W.fnOf "is_number" "is_number" (defArgs s_is_number) (defBody s_is_number) (defScope s_is_number) .none kV_is_number dc_is_number pm_is_number an_is_number cd_is_number ct_is_number), sl_is_number⟩) (c_is_number : PySem.W.codeIn K cd_is_number "is_number" = true) (k_is_number : PySem.W.keepIn K (.ref f_is_number) = true)
    (z_is_name : PySem.W.nsIn K mainGlobals "is_name" = some (some (.ref f_is_name)))
    (l_is_name : K.lookup f_is_name = some ⟨oc_is_name, od_is_name, .func (PySem.W.fnOf "is_name" "is_name" (defArgs s_is_name) (defBody s_is_name) (defScope s_is_name) .none kV_is_name dc_is_name pm_is_name an_is_name cd_is_name ct_is_name), sl_is_name⟩) (c_is_name : PySem.W.codeIn K cd_is_name "is_name" = true) (k_is_name : PySem.W.keepIn K (.ref f_is_name) = true)
    (z_is_amount : PySem.W.nsIn K mainGlobals "is_amount" = some (some (.ref f_is_amount)))
    (l_is_amount : K.lookup f_is_amount = some ⟨oc_is_amount, od_is_amount, .func (PySem.W.fnOf "is_amount" "is_amount" (defArgs s_is_amount) (defBody s_is_amount) (defScope s_is_amount) .none kV_is_amount dc_is_amount pm_is_amount an_is_amount cd_is_amount ct_is_amount), sl_is_amount⟩) (c_is_amount : PySem.W.codeIn K cd_is_amount "is_amount" = true) (k_is_amount : PySem.W.keepIn K (.ref f_is_amount) = true)
    (z_is_sale : PySem.W.nsIn K mainGlobals "is_sale" = some (some (.ref f_is_sale)))
    (l_is_sale : K.lookup f_is_sale = some ⟨oc_is_sale, od_is_sale, .func (PySem.W.fnOf "is_sale" "is_sale" (defArgs s_is_sale) (defBody s_is_sale) (defScope s_is_sale) .none kV_is_sale dc_is_sale pm_is_sale an_is_sale cd_is_sale ct_is_sale), sl_is_sale⟩) (c_is_sale : PySem.W.codeIn K cd_is_sale "is_sale" = true) (k_is_sale : PySem.W.keepIn K (.ref f_is_sale) = true)
    (z_is_segment : PySem.W.nsIn K mainGlobals "is_segment" = some (some (.ref f_is_segment)))
    (l_is_segment : K.lookup f_is_segment = some ⟨oc_is_segment, od_is_segment, .func (PySem.W.fnOf "is_segment" "is_segment" (defArgs s_is_segment) (defBody s_is_segment) (defScope s_is_segment) .none kV_is_segment dc_is_segment pm_is_segment an_is_segment cd_is_segment ct_is_segment), sl_is_segment⟩) (c_is_segment : PySem.W.codeIn K cd_is_segment "is_segment" = true) (k_is_segment : PySem.W.keepIn K (.ref f_is_segment) = true)
    (z__law_begun : PySem.W.nsIn K mainGlobals "_law_begun" = some (some (.ref f_law_begun)))
    (l_law_begun : K.lookup f_law_begun = some ⟨oc_law_begun, od_law_begun, .func (PySem.W.fnOf "_law_begun" "_law_begun" (defArgs s_law_begun) (defBody s_law_begun) (defScope s_law_begun) .none kV_law_begun dc_law_begun pm_law_begun an_law_begun cd_law_begun ct_law_begun), sl_law_begun⟩) (c_law_begun : PySem.W.codeIn K cd_law_begun "_law_begun" = true) (k_law_begun : PySem.W.keepIn K (.ref f_law_begun) = true)
    (z__law_take : PySem.W.nsIn K mainGlobals "_law_take" = some (some (.ref f_law_take)))
    (l_law_take : K.lookup f_law_take = some ⟨oc_law_take, od_law_take, .func (PySem.W.fnOf "_law_take" "_law_take" (defArgs s_law_take) (defBody s_law_take) (defScope s_law_take) .none kV_law_take dc_law_take pm_law_take an_law_take cd_law_take ct_law_take), sl_law_take⟩) (c_law_take : PySem.W.codeIn K cd_law_take "_law_take" = true) (k_law_take : PySem.W.keepIn K (.ref f_law_take) = true)
    (z__law_pick : PySem.W.nsIn K mainGlobals "_law_pick" = some (some (.ref f_law_pick)))
    (l_law_pick : K.lookup f_law_pick = some ⟨oc_law_pick, od_law_pick, .func (PySem.W.fnOf "_law_pick" "_law_pick" (defArgs s_law_pick) (defBody s_law_pick) (defScope s_law_pick) .none kV_law_pick dc_law_pick pm_law_pick an_law_pick cd_law_pick ct_law_pick), sl_law_pick⟩) (c_law_pick : PySem.W.codeIn K cd_law_pick "_law_pick" = true) (k_law_pick : PySem.W.keepIn K (.ref f_law_pick) = true)
    (z__law_names : PySem.W.nsIn K mainGlobals "_law_names" = some (some (.ref f_law_names)))
    (l_law_names : K.lookup f_law_names = some ⟨oc_law_names, od_law_names, .func (PySem.W.fnOf "_law_names" "_law_names" (defArgs s_law_names) (defBody s_law_names) (defScope s_law_names) .none kV_law_names dc_law_names pm_law_names an_law_names cd_law_names ct_law_names), sl_law_names⟩) (c_law_names : PySem.W.codeIn K cd_law_names "_law_names" = true) (k_law_names : PySem.W.keepIn K (.ref f_law_names) = true)
    (z__law_amount : PySem.W.nsIn K mainGlobals "_law_amount" = some (some (.ref f_law_amount)))
    (l_law_amount : K.lookup f_law_amount = some ⟨oc_law_amount, od_law_amount, .func (PySem.W.fnOf "_law_amount" "_law_amount" (defArgs s_law_amount) (defBody s_law_amount) (defScope s_law_amount) .none kV_law_amount dc_law_amount pm_law_amount an_law_amount cd_law_amount ct_law_amount), sl_law_amount⟩) (c_law_amount : PySem.W.codeIn K cd_law_amount "_law_amount" = true) (k_law_amount : PySem.W.keepIn K (.ref f_law_amount) = true)
    (z__law_sales : PySem.W.nsIn K mainGlobals "_law_sales" = some (some (.ref f_law_sales)))
    (l_law_sales : K.lookup f_law_sales = some ⟨oc_law_sales, od_law_sales, .func (PySem.W.fnOf "_law_sales" "_law_sales" (defArgs s_law_sales) (defBody s_law_sales) (defScope s_law_sales) .none kV_law_sales dc_law_sales pm_law_sales an_law_sales cd_law_sales ct_law_sales), sl_law_sales⟩) (c_law_sales : PySem.W.codeIn K cd_law_sales "_law_sales" = true) (k_law_sales : PySem.W.keepIn K (.ref f_law_sales) = true)
    (z__law_segment : PySem.W.nsIn K mainGlobals "_law_segment" = some (some (.ref f_law_segment)))
    (l_law_segment : K.lookup f_law_segment = some ⟨oc_law_segment, od_law_segment, .func (PySem.W.fnOf "_law_segment" "_law_segment" (defArgs s_law_segment) (defBody s_law_segment) (defScope s_law_segment) .none kV_law_segment dc_law_segment pm_law_segment an_law_segment cd_law_segment ct_law_segment), sl_law_segment⟩) (c_law_segment : PySem.W.codeIn K cd_law_segment "_law_segment" = true) (k_law_segment : PySem.W.keepIn K (.ref f_law_segment) = true)
    (z__law_is_count : PySem.W.nsIn K mainGlobals "_law_is_count" = some (some (.ref f_law_is_count)))
    (l_law_is_count : K.lookup f_law_is_count = some ⟨oc_law_is_count, od_law_is_count, .func (PySem.W.fnOf "_law_is_count" "_law_is_count" (defArgs s_law_is_count) (defBody s_law_is_count) (defScope s_law_is_count) .none kV_law_is_count dc_law_is_count pm_law_is_count an_law_is_count cd_law_is_count ct_law_is_count), sl_law_is_count⟩) (c_law_is_count : PySem.W.codeIn K cd_law_is_count "_law_is_count" = true) (k_law_is_count : PySem.W.keepIn K (.ref f_law_is_count) = true)
    (z__law_is_name : PySem.W.nsIn K mainGlobals "_law_is_name" = some (some (.ref f_law_is_name)))
    (l_law_is_name : K.lookup f_law_is_name = some ⟨oc_law_is_name, od_law_is_name, .func (PySem.W.fnOf "_law_is_name" "_law_is_name" (defArgs s_law_is_name) (defBody s_law_is_name) (defScope s_law_is_name) .none kV_law_is_name dc_law_is_name pm_law_is_name an_law_is_name cd_law_is_name ct_law_is_name), sl_law_is_name⟩) (c_law_is_name : PySem.W.codeIn K cd_law_is_name "_law_is_name" = true) (k_law_is_name : PySem.W.keepIn K (.ref f_law_is_name) = true)
    (z__law_is_sale : PySem.W.nsIn K mainGlobals "_law_is_sale" = some (some (.ref f_law_is_sale)))
    (l_law_is_sale : K.lookup f_law_is_sale = some ⟨oc_law_is_sale, od_law_is_sale, .func (PySem.W.fnOf "_law_is_sale" "_law_is_sale" (defArgs s_law_is_sale) (defBody s_law_is_sale) (defScope s_law_is_sale) .none kV_law_is_sale dc_law_is_sale pm_law_is_sale an_law_is_sale cd_law_is_sale ct_law_is_sale), sl_law_is_sale⟩) (c_law_is_sale : PySem.W.codeIn K cd_law_is_sale "_law_is_sale" = true) (k_law_is_sale : PySem.W.keepIn K (.ref f_law_is_sale) = true)
    (z__law_is_segment : PySem.W.nsIn K mainGlobals "_law_is_segment" = some (some (.ref f_law_is_segment)))
    (l_law_is_segment : K.lookup f_law_is_segment = some ⟨oc_law_is_segment, od_law_is_segment, .func (PySem.W.fnOf "_law_is_segment" "_law_is_segment" (defArgs s_law_is_segment) (defBody s_law_is_segment) (defScope s_law_is_segment) .none kV_law_is_segment dc_law_is_segment pm_law_is_segment an_law_is_segment cd_law_is_segment ct_law_is_segment), sl_law_is_segment⟩) (c_law_is_segment : PySem.W.codeIn K cd_law_is_segment "_law_is_segment" = true) (k_law_is_segment : PySem.W.keepIn K (.ref f_law_is_segment) = true)
    (z__law_bent : PySem.W.nsIn K mainGlobals "_law_bent" = some (some (.ref f_law_bent)))
    (l_law_bent : K.lookup f_law_bent = some ⟨oc_law_bent, od_law_bent, .func (PySem.W.fnOf "_law_bent" "_law_bent" (defArgs s_law_bent) (defBody s_law_bent) (defScope s_law_bent) .none kV_law_bent dc_law_bent pm_law_bent an_law_bent cd_law_bent ct_law_bent), sl_law_bent⟩) (c_law_bent : PySem.W.codeIn K cd_law_bent "_law_bent" = true) (k_law_bent : PySem.W.keepIn K (.ref f_law_bent) = true)
    (z_law : PySem.W.nsIn K mainGlobals "law" = some (some (.ref f_law)))
    (l_law : K.lookup f_law = some ⟨oc_law, od_law, .func (PySem.W.fnOf "law" "law" (defArgs s_law) (defBody s_law) (defScope s_law) .none kV_law dc_law pm_law an_law cd_law ct_law), sl_law⟩) (c_law : PySem.W.codeIn K cd_law "law" = true) (k_law : PySem.W.keepIn K (.ref f_law) = true)
    (z_abs : PySem.W.nsIn K mainGlobals "abs" = some none)
    (z_all : PySem.W.nsIn K mainGlobals "all" = some none)
    (z_bool : PySem.W.nsIn K mainGlobals "bool" = some none)
    (z_int : PySem.W.nsIn K mainGlobals "int" = some none)
    (z_isinstance : PySem.W.nsIn K mainGlobals "isinstance" = some none)
    (z_len : PySem.W.nsIn K mainGlobals "len" = some none)
    (z_list : PySem.W.nsIn K mainGlobals "list" = some none)
    (z_range : PySem.W.nsIn K mainGlobals "range" = some none)
    (z_repr : PySem.W.nsIn K mainGlobals "repr" = some none)
    (z_str : PySem.W.nsIn K mainGlobals "str" = some none)
    (z_tuple : PySem.W.nsIn K mainGlobals "tuple" = some none)
    (z_zip : PySem.W.nsIn K mainGlobals "zip" = some none)
    (z_LETTERS : PySem.W.nsIn K mainGlobals "LETTERS" = some (some (.str "abcdefghijklmnopqrstuvwxyz" t_LETTERS)))
    (z_LONGEST_NAME : PySem.W.nsIn K mainGlobals "LONGEST_NAME" = some (some (.int 8 t_LONGEST_NAME)))
    (z_Accounts : PySem.W.nsIn K mainGlobals "Accounts" = some (some (.ref C_Accounts)))
    (rd_Accounts : PySem.W.readsIn K C_Accounts (.type "type") = true) (ga_Accounts : PySem.W.specialIn K (.ref C_Accounts) "__getattribute__" = some (some (.builtin "type.__getattribute__")))
    (cv_Accounts_MOST : PySem.W.findCls K (.ref C_Accounts) (.type "type") "MOST" = some (.val (.int 1000000000 t_Accounts_MOST))) :
    ∃ (fd : FuncData) (cs : Tbs), (∀ p ∈ cs, h.get? p.2.1 = some { cls := .none, data := .fields #[] }) ∧ (∀ p ∈ cs, K.lookup p.2.1 = none) ∧ (∀ p ∈ cs, PySem.W.CodeHd h p.1 p.2.1) ∧ (∀ (s : Shared) (v : Value), BindsTo s fd ⟨[v], []⟩ [("_law_script", v)]) ∧
      ∀ base : Heap, K.In base → base.Ns mainGlobals mg → NoSys base → (∀ p ∈ cs, LamX.TabB base mg p.1 p.2.1) → letI := tbsOf cs; FnG l.prog w K mg base 20 fa fd ["_law_script"] sp_law := by
  obtain rfl : f_law = fa := (Value.ref.inj (Option.some.inj (hfa.symm.trans (PySem.W.mg_of X G z_law)))).symm
  let T : ∀ base : Heap, NoSys base → letI := tbsOf []; Tx K mg base := fun base B => letI := tbsOf []; { f_is_number := f_is_number, d_is_number := PySem.W.fnOf "is_number" "is_number" (defArgs s_is_number) (defBody s_is_number) (defScope s_is_number) .none kV_is_number dc_is_number pm_is_number an_is_number cd_is_number ct_is_number, F_is_number := fun_mk l_is_number c_is_number k_is_number, b_is_number := (fun_mk (st := s_is_number) l_is_number c_is_number k_is_number).binds (ps := ["value"]) fun _ _ _ _ _ _ us hl => match us, hl with | [_], _ => rfl, g_is_number := PySem.W.mg_of X G z_is_number, f_is_name := f_is_name, d_is_name := PySem.W.fnOf "is_name" "is_name" (defArgs s_is_name) (defBody s_is_name) (defScope s_is_name) .none kV_is_name dc_is_name pm_is_name an_is_name cd_is_name ct_is_name, F_is_name := fun_mk l_is_name c_is_name k_is_name, b_is_name := (fun_mk (st := s_is_name) l_is_name c_is_name k_is_name).binds (ps := ["value"]) fun _ _ _ _ _ _ us hl => match us, hl with | [_], _ => rfl, g_is_name := PySem.W.mg_of X G z_is_name, f_is_amount := f_is_amount, d_is_amount := PySem.W.fnOf "is_amount" "is_amount" (defArgs s_is_amount) (defBody s_is_amount) (defScope s_is_amount) .none kV_is_amount dc_is_amount pm_is_amount an_is_amount cd_is_amount ct_is_amount, F_is_amount := fun_mk l_is_amount c_is_amount k_is_amount, b_is_amount := (fun_mk (st := s_is_amount) l_is_amount c_is_amount k_is_amount).binds (ps := ["value"]) fun _ _ _ _ _ _ us hl => match us, hl with | [_], _ => rfl, g_is_amount := PySem.W.mg_of X G z_is_amount, f_is_sale := f_is_sale, d_is_sale := PySem.W.fnOf "is_sale" "is_sale" (defArgs s_is_sale) (defBody s_is_sale) (defScope s_is_sale) .none kV_is_sale dc_is_sale pm_is_sale an_is_sale cd_is_sale ct_is_sale, F_is_sale := fun_mk l_is_sale c_is_sale k_is_sale, b_is_sale := (fun_mk (st := s_is_sale) l_is_sale c_is_sale k_is_sale).binds (ps := ["value"]) fun _ _ _ _ _ _ us hl => match us, hl with | [_], _ => rfl, g_is_sale := PySem.W.mg_of X G z_is_sale, f_is_segment := f_is_segment, d_is_segment := PySem.W.fnOf "is_segment" "is_segment" (defArgs s_is_segment) (defBody s_is_segment) (defScope s_is_segment) .none kV_is_segment dc_is_segment pm_is_segment an_is_segment cd_is_segment ct_is_segment, F_is_segment := fun_mk l_is_segment c_is_segment k_is_segment, b_is_segment := (fun_mk (st := s_is_segment) l_is_segment c_is_segment k_is_segment).binds (ps := ["value"]) fun _ _ _ _ _ _ us hl => match us, hl with | [_], _ => rfl, g_is_segment := PySem.W.mg_of X G z_is_segment, f__law_begun := f_law_begun, d__law_begun := PySem.W.fnOf "_law_begun" "_law_begun" (defArgs s_law_begun) (defBody s_law_begun) (defScope s_law_begun) .none kV_law_begun dc_law_begun pm_law_begun an_law_begun cd_law_begun ct_law_begun, F__law_begun := fun_mk l_law_begun c_law_begun k_law_begun, b__law_begun := (fun_mk (st := s_law_begun) l_law_begun c_law_begun k_law_begun).binds (ps := ["_law_script"]) fun _ _ _ _ _ _ us hl => match us, hl with | [_], _ => rfl, g__law_begun := PySem.W.mg_of X G z__law_begun, f__law_take := f_law_take, d__law_take := PySem.W.fnOf "_law_take" "_law_take" (defArgs s_law_take) (defBody s_law_take) (defScope s_law_take) .none kV_law_take dc_law_take pm_law_take an_law_take cd_law_take ct_law_take, F__law_take := fun_mk l_law_take c_law_take k_law_take, b__law_take := (fun_mk (st := s_law_take) l_law_take c_law_take k_law_take).binds (ps := ["_law_state", "_law_size"]) fun _ _ _ _ _ _ us hl => match us, hl with | [_, _], _ => rfl, g__law_take := PySem.W.mg_of X G z__law_take, f__law_pick := f_law_pick, d__law_pick := PySem.W.fnOf "_law_pick" "_law_pick" (defArgs s_law_pick) (defBody s_law_pick) (defScope s_law_pick) .none kV_law_pick dc_law_pick pm_law_pick an_law_pick cd_law_pick ct_law_pick, F__law_pick := fun_mk l_law_pick c_law_pick k_law_pick, b__law_pick := (fun_mk (st := s_law_pick) l_law_pick c_law_pick k_law_pick).binds (ps := ["_law_state", "_law_some"]) fun _ _ _ _ _ _ us hl => match us, hl with | [_, _], _ => rfl, g__law_pick := PySem.W.mg_of X G z__law_pick, f__law_names := f_law_names, d__law_names := PySem.W.fnOf "_law_names" "_law_names" (defArgs s_law_names) (defBody s_law_names) (defScope s_law_names) .none kV_law_names dc_law_names pm_law_names an_law_names cd_law_names ct_law_names, F__law_names := fun_mk l_law_names c_law_names k_law_names, b__law_names := (fun_mk (st := s_law_names) l_law_names c_law_names k_law_names).binds (ps := ["_law_state", "_law_many"]) fun _ _ _ _ _ _ us hl => match us, hl with | [_, _], _ => rfl, g__law_names := PySem.W.mg_of X G z__law_names, f__law_amount := f_law_amount, d__law_amount := PySem.W.fnOf "_law_amount" "_law_amount" (defArgs s_law_amount) (defBody s_law_amount) (defScope s_law_amount) .none kV_law_amount dc_law_amount pm_law_amount an_law_amount cd_law_amount ct_law_amount, F__law_amount := fun_mk l_law_amount c_law_amount k_law_amount, b__law_amount := (fun_mk (st := s_law_amount) l_law_amount c_law_amount k_law_amount).binds (ps := ["_law_state"]) fun _ _ _ _ _ _ us hl => match us, hl with | [_], _ => rfl, g__law_amount := PySem.W.mg_of X G z__law_amount, f__law_sales := f_law_sales, d__law_sales := PySem.W.fnOf "_law_sales" "_law_sales" (defArgs s_law_sales) (defBody s_law_sales) (defScope s_law_sales) .none kV_law_sales dc_law_sales pm_law_sales an_law_sales cd_law_sales ct_law_sales, F__law_sales := fun_mk l_law_sales c_law_sales k_law_sales, b__law_sales := (fun_mk (st := s_law_sales) l_law_sales c_law_sales k_law_sales).binds (ps := ["_law_state", "_law_names_here", "_law_many", "_law_times"]) fun _ _ _ _ _ _ us hl => match us, hl with | [_, _, _, _], _ => rfl, g__law_sales := PySem.W.mg_of X G z__law_sales, f__law_segment := f_law_segment, d__law_segment := PySem.W.fnOf "_law_segment" "_law_segment" (defArgs s_law_segment) (defBody s_law_segment) (defScope s_law_segment) .none kV_law_segment dc_law_segment pm_law_segment an_law_segment cd_law_segment ct_law_segment, F__law_segment := fun_mk l_law_segment c_law_segment k_law_segment, b__law_segment := (fun_mk (st := s_law_segment) l_law_segment c_law_segment k_law_segment).binds (ps := ["_law_state", "_law_names_here", "_law_most"]) fun _ _ _ _ _ _ us hl => match us, hl with | [_, _, _], _ => rfl, g__law_segment := PySem.W.mg_of X G z__law_segment, f__law_is_count := f_law_is_count, d__law_is_count := PySem.W.fnOf "_law_is_count" "_law_is_count" (defArgs s_law_is_count) (defBody s_law_is_count) (defScope s_law_is_count) .none kV_law_is_count dc_law_is_count pm_law_is_count an_law_is_count cd_law_is_count ct_law_is_count, F__law_is_count := fun_mk l_law_is_count c_law_is_count k_law_is_count, b__law_is_count := (fun_mk (st := s_law_is_count) l_law_is_count c_law_is_count k_law_is_count).binds (ps := ["_law_given", "_law_least", "_law_most"]) fun _ _ _ _ _ _ us hl => match us, hl with | [_, _, _], _ => rfl, g__law_is_count := PySem.W.mg_of X G z__law_is_count, f__law_is_name := f_law_is_name, d__law_is_name := PySem.W.fnOf "_law_is_name" "_law_is_name" (defArgs s_law_is_name) (defBody s_law_is_name) (defScope s_law_is_name) .none kV_law_is_name dc_law_is_name pm_law_is_name an_law_is_name cd_law_is_name ct_law_is_name, F__law_is_name := fun_mk l_law_is_name c_law_is_name k_law_is_name, b__law_is_name := (fun_mk (st := s_law_is_name) l_law_is_name c_law_is_name k_law_is_name).binds (ps := ["_law_given"]) fun _ _ _ _ _ _ us hl => match us, hl with | [_], _ => rfl, g__law_is_name := PySem.W.mg_of X G z__law_is_name, f__law_is_sale := f_law_is_sale, d__law_is_sale := PySem.W.fnOf "_law_is_sale" "_law_is_sale" (defArgs s_law_is_sale) (defBody s_law_is_sale) (defScope s_law_is_sale) .none kV_law_is_sale dc_law_is_sale pm_law_is_sale an_law_is_sale cd_law_is_sale ct_law_is_sale, F__law_is_sale := fun_mk l_law_is_sale c_law_is_sale k_law_is_sale, b__law_is_sale := (fun_mk (st := s_law_is_sale) l_law_is_sale c_law_is_sale k_law_is_sale).binds (ps := ["_law_given"]) fun _ _ _ _ _ _ us hl => match us, hl with | [_], _ => rfl, g__law_is_sale := PySem.W.mg_of X G z__law_is_sale, f__law_is_segment := f_law_is_segment, d__law_is_segment := PySem.W.fnOf "_law_is_segment" "_law_is_segment" (defArgs s_law_is_segment) (defBody s_law_is_segment) (defScope s_law_is_segment) .none kV_law_is_segment dc_law_is_segment pm_law_is_segment an_law_is_segment cd_law_is_segment ct_law_is_segment, F__law_is_segment := fun_mk l_law_is_segment c_law_is_segment k_law_is_segment, b__law_is_segment := (fun_mk (st := s_law_is_segment) l_law_is_segment c_law_is_segment k_law_is_segment).binds (ps := ["_law_given"]) fun _ _ _ _ _ _ us hl => match us, hl with | [_], _ => rfl, g__law_is_segment := PySem.W.mg_of X G z__law_is_segment, f__law_bent := f_law_bent, d__law_bent := PySem.W.fnOf "_law_bent" "_law_bent" (defArgs s_law_bent) (defBody s_law_bent) (defScope s_law_bent) .none kV_law_bent dc_law_bent pm_law_bent an_law_bent cd_law_bent ct_law_bent, F__law_bent := fun_mk l_law_bent c_law_bent k_law_bent, b__law_bent := (fun_mk (st := s_law_bent) l_law_bent c_law_bent k_law_bent).binds (ps := ["_law_state", "_law_thing"]) fun _ _ _ _ _ _ us hl => match us, hl with | [_, _], _ => rfl, g__law_bent := PySem.W.mg_of X G z__law_bent, f_law := f_law, d_law := PySem.W.fnOf "law" "law" (defArgs s_law) (defBody s_law) (defScope s_law) .none kV_law dc_law pm_law an_law cd_law ct_law, F_law := fun_mk l_law c_law k_law, b_law := (fun_mk (st := s_law) l_law c_law k_law).binds (ps := ["_law_script"]) fun _ _ _ _ _ _ us hl => match us, hl with | [_], _ => rfl, g_law := PySem.W.mg_of X G z_law, m_abs := PySem.W.mg_none_of X G z_abs, m_all := PySem.W.mg_none_of X G z_all, m_bool := PySem.W.mg_none_of X G z_bool, m_int := PySem.W.mg_none_of X G z_int, m_isinstance := PySem.W.mg_none_of X G z_isinstance, m_len := PySem.W.mg_none_of X G z_len, m_list := PySem.W.mg_none_of X G z_list, m_range := PySem.W.mg_none_of X G z_range, m_repr := PySem.W.mg_none_of X G z_repr, m_str := PySem.W.mg_none_of X G z_str, m_tuple := PySem.W.mg_none_of X G z_tuple, m_zip := PySem.W.mg_none_of X G z_zip, t_LETTERS := t_LETTERS, g_LETTERS := PySem.W.mg_of X G z_LETTERS, t_LONGEST_NAME := t_LONGEST_NAME, g_LONGEST_NAME := PySem.W.mg_of X G z_LONGEST_NAME, C_Accounts := C_Accounts, mc_Accounts := .type "type", g_Accounts := PySem.W.mg_of X G z_Accounts, r_Accounts := ⟨rd_Accounts, ga_Accounts⟩, t_Accounts_MOST := t_Accounts_MOST, c_Accounts_MOST := ⟨cv_Accounts_MOST, ⟨_, rfl⟩⟩, kb_is_segment_value := ⟨fun s us ws _ h1 h2 => match us, h1, ws, h2 with | [], _, [_], _ => .of_eq rfl, fun _ _ r1 r2 q1 q2 => ⟨_, r1.append r2, q1.app q2⟩⟩, noSys := B }
  refine ⟨PySem.W.fnOf "law" "law" (defArgs s_law) (defBody s_law) (defScope s_law) .none kV_law dc_law pm_law an_law cd_law ct_law, [], fun p hp => (nomatch hp), fun p hp => (nomatch hp), fun p hp => (nomatch hp), fun s v => .of_eq rfl, fun base _ _ B TB => ?_⟩
  letI := tbsOf []
  exact ok_law (T base B)
end L2.Pv
open PySem PySem.W PyProof.Rows
set_option maxHeartbeats 0 in
theorem PySem.Challenge.cw_regretmart_k12_segments_recognized_holds : PySem.Challenge.rw_regretmart_k12_segments_recognized.Holds := by
  w_on; o_law; k_head; (case hw => w_witness2)
  k_fill
  refine L2.Pv.walk_ofG (l := PySem.Challenge.rw_regretmart_k12_segments_recognized) (n := 63) (k := 20) (x := "_law_script") (sp := L2.Pv.sp_law) (by decide +kernel) rfl (by decide) rfl ⟨rfl, by decide, by decide⟩ (fun w h Y => PySem.W.kIn_of Y) ?F (fun ns hl _ => ⟨ns, rfl, hl, fun _ => rfl⟩)
  case F =>
    intro w mg fa h KX G hmg OT
    refine' L2.Pv.all_mk KX G hmg OT ?z_is_number ?l_is_number ?c_is_number ?k_is_number ?z_is_name ?l_is_name ?c_is_name ?k_is_name ?z_is_amount ?l_is_amount ?c_is_amount ?k_is_amount ?z_is_sale ?l_is_sale ?c_is_sale ?k_is_sale ?z_is_segment ?l_is_segment ?c_is_segment ?k_is_segment ?z__law_begun ?l_law_begun ?c_law_begun ?k_law_begun ?z__law_take ?l_law_take ?c_law_take ?k_law_take ?z__law_pick ?l_law_pick ?c_law_pick ?k_law_pick ?z__law_names ?l_law_names ?c_law_names ?k_law_names ?z__law_amount ?l_law_amount ?c_law_amount ?k_law_amount ?z__law_sales ?l_law_sales ?c_law_sales ?k_law_sales ?z__law_segment ?l_law_segment ?c_law_segment ?k_law_segment ?z__law_is_count ?l_law_is_count ?c_law_is_count ?k_law_is_count ?z__law_is_name ?l_law_is_name ?c_law_is_name ?k_law_is_name ?z__law_is_sale ?l_law_is_sale ?c_law_is_sale ?k_law_is_sale ?z__law_is_segment ?l_law_is_segment ?c_law_is_segment ?k_law_is_segment ?z__law_bent ?l_law_bent ?c_law_bent ?k_law_bent ?z_law ?l_law ?c_law ?k_law ?z_abs ?z_all ?z_bool ?z_int ?z_isinstance ?z_len ?z_list ?z_range ?z_repr ?z_str ?z_tuple ?z_zip ?z_LETTERS ?z_LONGEST_NAME ?z_Accounts ?rd_Accounts ?ga_Accounts ?cv_Accounts_MOST
    (case z_is_number => k_is); (case l_is_number => k_is); (case c_is_number => k_is); (case k_is_number => k_is); (case z_is_name => k_is); (case l_is_name => k_is); (case c_is_name => k_is); (case k_is_name => k_is); (case z_is_amount => k_is); (case l_is_amount => k_is); (case c_is_amount => k_is); (case k_is_amount => k_is); (case z_is_sale => k_is); (case l_is_sale => k_is); (case c_is_sale => k_is); (case k_is_sale => k_is); (case z_is_segment => k_is); (case l_is_segment => k_is); (case c_is_segment => k_is); (case k_is_segment => k_is); (case z__law_begun => k_is); (case l_law_begun => k_is); (case c_law_begun => k_is); (case k_law_begun => k_is); (case z__law_take => k_is); (case l_law_take => k_is); (case c_law_take => k_is); (case k_law_take => k_is); (case z__law_pick => k_is); (case l_law_pick => k_is); (case c_law_pick => k_is); (case k_law_pick => k_is); (case z__law_names => k_is); (case l_law_names => k_is); (case c_law_names => k_is); (case k_law_names => k_is); (case z__law_amount => k_is); (case l_law_amount => k_is); (case c_law_amount => k_is); (case k_law_amount => k_is); (case z__law_sales => k_is); (case l_law_sales => k_is); (case c_law_sales => k_is); (case k_law_sales => k_is); (case z__law_segment => k_is); (case l_law_segment => k_is); (case c_law_segment => k_is); (case k_law_segment => k_is); (case z__law_is_count => k_is); (case l_law_is_count => k_is); (case c_law_is_count => k_is); (case k_law_is_count => k_is); (case z__law_is_name => k_is); (case l_law_is_name => k_is); (case c_law_is_name => k_is); (case k_law_is_name => k_is); (case z__law_is_sale => k_is); (case l_law_is_sale => k_is); (case c_law_is_sale => k_is); (case k_law_is_sale => k_is); (case z__law_is_segment => k_is); (case l_law_is_segment => k_is); (case c_law_is_segment => k_is); (case k_law_is_segment => k_is); (case z__law_bent => k_is); (case l_law_bent => k_is); (case c_law_bent => k_is); (case k_law_bent => k_is); (case z_law => k_is); (case l_law => k_is); (case c_law => k_is); (case k_law => k_is); (case z_abs => k_is); (case z_all => k_is); (case z_bool => k_is); (case z_int => k_is); (case z_isinstance => k_is); (case z_len => k_is); (case z_list => k_is); (case z_range => k_is); (case z_repr => k_is); (case z_str => k_is); (case z_tuple => k_is); (case z_zip => k_is); (case z_LETTERS => k_is); (case z_LONGEST_NAME => k_is); (case z_Accounts => k_is); (case rd_Accounts => k_is); (case ga_Accounts => k_is); (case cv_Accounts_MOST => k_is)
