import PyProof.Rows.All
import Wide.All
import OpenK.AllK
import Wide.FinOn
import HandS.ForMost
import HandS.ForExc
import HandS.Wide
import HandS.WideBits
import HandS.IsInst
import HandS.Small
import HandS.TryMany
import HandS.ExcIs
import HandS.ExcField
import HandS.HeadHook1
import HandS.Ends
import KE.OsGo
import KE.OsRunLaw
import PySem.Challenge.RW_nearwish_k52_halvings
set_option Elab.async false
set_option linter.all false
set_option maxRecDepth 100000
set_option maxHeartbeats 4000000
set_option exponentiation.threshold 3000
/-! FV: values as data over the hand layer. Frozen data, owned lists; expressions and statements as functions of environments. -/
namespace FV
open PySem PySem.Spec PyProof.Rows L2

/-- data -/
inductive D where
  | non | bl (b : Bool) | int (i : Int) | str (x : Str)
  | lst (xs : List D) | tup (xs : List D) | dic (kvs : List (Key × D))
  | ins (c : Str) (fs : List (Str × D)) | scr (ns : List Int) | ty (n : String) | cls (c : Str)

/-! ### the frozen heap grows -/
inductive Sub : HO → HO → Prop
  | rfl {o : HO} : Sub o o
  | lock {od : Obj} {k : List (Key × V)} : Sub (.dK k) (.frz od (.dK k))
  | unlock {od : Obj} {k : List (Key × V)} : Sub (.frz od (.dK k)) (.dK k)
  | relock {od od' : Obj} {k : List (Key × V)} : Sub (.frz od (.dK k)) (.frz od' (.dK k))
theorem Sub.trans {a b c : HO} (h : Sub a b) (k : Sub b c) : Sub a c := by
  cases h with
  | rfl => exact k
  | lock => cases k with
    | rfl => exact .lock
    | unlock => exact .rfl
    | relock => exact .lock
  | unlock => cases k with
    | rfl => exact .unlock
    | lock => exact .relock
  | relock => cases k with
    | rfl => exact .relock
    | unlock => exact .unlock
    | relock => exact .relock
def Ext (B B' : Hp) : Prop := ∀ b o, B b = some o → ∃ o', B' b = some o' ∧ Sub o o'
theorem Ext.refl (B : Hp) : Ext B B := fun _ o h => ⟨o, h, .rfl⟩
theorem Ext.trans {B B1 B2 : Hp} (e : Ext B B1) (f : Ext B1 B2) : Ext B B2 := fun b o h => by
  obtain ⟨o1, h1, s1⟩ := e b o h
  obtain ⟨o2, h2, s2⟩ := f b o1 h1
  exact ⟨o2, h2, s1.trans s2⟩
theorem Ext.new {B : Hp} {p : Addr} {o : HO} (h : B p = none) : Ext B (upd B p o) := fun b u e => ⟨u, by rw [upd_ne (ne_of_none e h)]; exact e, .rfl⟩
theorem Ext.lst {B B' : Hp} (e : Ext B B') {a : Addr} {xs : List V} (h : B a = some (.lst xs)) : B' a = some (.lst xs) := by
  obtain ⟨o, h1, s⟩ := e a _ h
  cases s
  exact h1
theorem Ext.tup {B B' : Hp} (e : Ext B B') {a : Addr} {xs : List V} (h : B a = some (.tup xs)) : B' a = some (.tup xs) := by
  obtain ⟨o, h1, s⟩ := e a _ h
  cases s
  exact h1
theorem Ext.ins {B B' : Hp} (e : Ext B B') {a C dx : Addr} {vs : List (Str × V)} (h : B a = some (.ins C dx vs)) : B' a = some (.ins C dx vs) := by
  obtain ⟨o, h1, s⟩ := e a _ h
  cases s
  exact h1
theorem Ext.xd {B B' : Hp} (e : Ext B B') {a : Addr} {vs : List (Str × V)} (h : B a = some (.xd vs)) : B' a = some (.xd vs) := by
  obtain ⟨o, h1, s⟩ := e a _ h
  cases s
  exact h1
theorem Ext.rdk {B B' : Hp} (e : Ext B B') {a : Addr} {kvs : List (Key × V)} (h : Rd B a (.dK kvs)) : Rd B' a (.dK kvs) := by
  rcases h with h | ⟨od, h⟩
  · obtain ⟨o, h1, s⟩ := e a _ h
    cases s with
    | rfl => exact .inl h1
    | lock => exact .inr ⟨_, h1⟩
  · obtain ⟨o, h1, s⟩ := e a _ h
    cases s with
    | rfl => exact .inr ⟨_, h1⟩
    | unlock => exact .inl h1
    | relock => exact .inr ⟨_, h1⟩
theorem Ext.sql {K : PySem.W.Frag} {B B' : Hp} (e : Ext B B') {a : Addr} {xs : List V} (h : SqL K B a xs) : SqL K B' a xs := by
  rcases h with (h | ⟨od, h⟩) | h
  · exact .inl (.inl (e.lst h))
  · obtain ⟨o, h1, s⟩ := e a _ h
    cases s
    exact .inl (.inr ⟨_, h1⟩)
  · exact .inr h
theorem Ext.none_of {B B' : Hp} (e : Ext B B') {a : Addr} (h : B' a = none) : B a = none := by
  cases q : B a with
  | none => rfl
  | some o =>
    obtain ⟨o', h1, _⟩ := e a o q
    rw [h] at h1; cases h1

/-! ### what a value stands for in the frozen heap -/
section
variable (K : PySem.W.Frag) (mg : Str → Option Value) (B : Hp)
mutual
inductive Rep : V → D → Prop
  | non : Rep .non .non
  | bl (b : Bool) : Rep (.bl b) (.bl b)
  | int (i : Int) : Rep (.int i) (.int i)
  | str (x : Str) : Rep (.str x) (.str x)
  | lst {a : Addr} {xs : List V} {ds : List D} : B a = some (.lst xs) → RepL xs ds → Rep (V.ref a) (.lst ds)
  | tup {a : Addr} {xs : List V} {ds : List D} : B a = some (.tup xs) → RepL xs ds → Rep (V.ref a) (.tup ds)
  | dic {a : Addr} {kvs : List (Key × V)} {kds : List (Key × D)} : Rd B a (.dK kvs) → kvs.map (·.1) = kds.map (·.1) → RepL (kvs.map (·.2)) (kds.map (·.2)) → Rep (V.ref a) (.dic kds)
  | ins {a C dx : Addr} {c : Str} {vs : List (Str × V)} {fs : List (Str × D)} : mg c = some (Value.ref C) → B a = some (.ins C dx vs) → RepF vs fs → Rep (V.ref a) (.ins c fs)
  | scr {a : Addr} {ns : List Int} : SqL K B a (ns.map V.int) → Rep (V.ref a) (.scr ns)
  | ty (n : String) : Rep (.ty n) (.ty n)
  | cls {c : Str} {C : Addr} : mg c = some (Value.ref C) → Rep (V.ref C) (.cls c)
inductive RepL : List V → List D → Prop
  | nil : RepL [] []
  | cons {v : V} {vs : List V} {d : D} {ds : List D} : Rep v d → RepL vs ds → RepL (v :: vs) (d :: ds)
inductive RepF : List (Str × V) → List (Str × D) → Prop
  | nil {vs : List (Str × V)} : RepF vs []
  | cons {vs : List (Str × V)} {f : Str} {v : V} {d : D} {fs : List (Str × D)} : vs.lookup f = some v → Rep v d → RepF vs fs → RepF vs ((f, d) :: fs)
end
end
section
variable {K : PySem.W.Frag} {mg : Str → Option Value} {B B' : Hp}
theorem Rep.mono (e : Ext B B') {v : V} {d : D} (h : Rep K mg B v d) : Rep K mg B' v d :=
  Rep.rec (motive_1 := fun v d _ => Rep K mg B' v d) (motive_2 := fun xs ds _ => RepL K mg B' xs ds) (motive_3 := fun vs fs _ => RepF K mg B' vs fs)
    .non .bl .int .str (fun h _ q => .lst (e.lst h) q) (fun h _ q => .tup (e.tup h) q) (fun h k _ q => .dic (e.rdk h) k q) (fun m h _ q => .ins m (e.ins h) q) (fun h => .scr (e.sql h)) .ty (fun h => .cls h)
    .nil (fun _ _ p q => .cons p q) .nil (fun l _ _ p q => .cons l p q) h
theorem RepL.mono (e : Ext B B') : ∀ {xs : List V} {ds : List D}, RepL K mg B xs ds → RepL K mg B' xs ds
  | _, _, .nil => .nil
  | _, _, .cons p q => .cons (p.mono e) (RepL.mono e q)
theorem RepF.mono (e : Ext B B') : ∀ {vs : List (Str × V)} {fs : List (Str × D)}, RepF K mg B vs fs → RepF K mg B' vs fs
  | _, _, .nil => .nil
  | _, _, .cons l p q => .cons l (p.mono e) (RepF.mono e q)
theorem RepL.length : ∀ {xs : List V} {ds : List D}, RepL K mg B xs ds → xs.length = ds.length
  | _, _, .nil => rfl
  | _, _, .cons _ q => by rw [List.length_cons, List.length_cons, RepL.length q]
theorem RepL.get : ∀ {xs : List V} {ds : List D} {i : Nat} {d : D}, RepL K mg B xs ds → ds[i]? = some d → ∃ v, xs[i]? = some v ∧ Rep K mg B v d
  | _, _, _, _, .nil, h => by simp at h
  | _, _, 0, d, .cons p q, h => by simp at h; subst h; exact ⟨_, rfl, p⟩
  | _, _, i + 1, d, .cons p q, h => by
    obtain ⟨v, h1, h2⟩ := RepL.get (i := i) (d := d) q (by simpa using h)
    exact ⟨v, by simpa using h1, h2⟩
theorem RepL.getV : ∀ {xs : List V} {ds : List D} {i : Nat} {v : V}, RepL K mg B xs ds → xs[i]? = some v → ∃ d, ds[i]? = some d ∧ Rep K mg B v d
  | _, _, _, _, .nil, h => by simp at h
  | _, _, 0, d, .cons p q, h => by simp at h; subst h; exact ⟨_, rfl, p⟩
  | _, _, i + 1, d, .cons p q, h => by
    obtain ⟨v, h1, h2⟩ := RepL.getV (i := i) (v := d) q (by simpa using h)
    exact ⟨v, by simpa using h1, h2⟩
theorem RepL.set {v : V} {d : D} (r : Rep K mg B v d) : ∀ {xs : List V} {ds : List D} (i : Nat), RepL K mg B xs ds → RepL K mg B (xs.set i v) (ds.set i d)
  | _, _, _, .nil => .nil
  | _, _, 0, .cons _ q => .cons r q
  | _, _, i + 1, .cons p q => .cons p (RepL.set r i q)
theorem RepL.append : ∀ {xs ys : List V} {ds es : List D}, RepL K mg B xs ds → RepL K mg B ys es → RepL K mg B (xs ++ ys) (ds ++ es)
  | _, _, _, _, .nil, s => s
  | _, _, _, _, .cons p q, s => .cons p (RepL.append q s)
theorem RepL.take : ∀ {xs : List V} {ds : List D} (n : Nat), RepL K mg B xs ds → RepL K mg B (xs.take n) (ds.take n)
  | _, _, 0, _ => .nil
  | _, _, _ + 1, .nil => .nil
  | _, _, n + 1, .cons p q => .cons p (RepL.take n q)
theorem RepL.drop : ∀ {xs : List V} {ds : List D} (n : Nat), RepL K mg B xs ds → RepL K mg B (xs.drop n) (ds.drop n)
  | _, _, 0, r => r
  | _, _, _ + 1, .nil => .nil
  | _, _, n + 1, .cons p q => RepL.drop n q
theorem RepL.reverse {xs : List V} {ds : List D} (h : RepL K mg B xs ds) : RepL K mg B xs.reverse ds.reverse := by
  induction xs generalizing ds with
  | nil => cases h; exact .nil
  | cons x xs ih =>
    cases h with
    | cons p q =>
      rw [List.reverse_cons, List.reverse_cons]
      exact (ih q).append (.cons p .nil)
theorem RepL.map {α : Type} {f : α → V} {g : α → D} (h : ∀ x, Rep K mg B (f x) (g x)) : ∀ xs : List α, RepL K mg B (xs.map f) (xs.map g)
  | [] => .nil
  | x :: r => .cons (h x) (RepL.map h r)
theorem RepF.get : ∀ {vs : List (Str × V)} {fs : List (Str × D)} {f : Str} {d : D}, RepF K mg B vs fs → fs.lookup f = some d → ∃ v, vs.lookup f = some v ∧ Rep K mg B v d
  | _, _, _, _, .nil, h => by simp at h
  | _, _, f, d, .cons (f := g) l p q, h => by
    rw [List.lookup_cons] at h
    by_cases e : f == g
    · rw [e] at h
      cases h
      have e' : f = g := by simpa using e
      subst e'
      exact ⟨_, l, p⟩
    · rw [Bool.not_eq_true _ |>.mp e] at h
      exact RepF.get q h
/-- of paired fields -/
theorem RepF.of : ∀ {vs : List (Str × V)} {fs : List (Str × D)}, (∀ f d, fs.lookup f = some d → ∃ v, vs.lookup f = some v ∧ Rep K mg B v d) → (fs.map (·.1)).Nodup → RepF K mg B vs fs
  | _, [], _, _ => .nil
  | vs, (f, d) :: fs, h, nd => by
    obtain ⟨v, l, r⟩ := h f d (by rw [List.lookup_cons, beq_self_eq_true])
    rw [List.map_cons, List.nodup_cons] at nd
    refine .cons l r (RepF.of (fun g e k => h g e ?_) nd.2)
    rw [List.lookup_cons]
    by_cases q : g == f
    · have q' : g = f := by simpa using q
      subst q'
      exfalso
      apply nd.1
      clear h nd l r
      induction fs with
      | nil => simp at k
      | cons p ps ih =>
        obtain ⟨f', d'⟩ := p
        rw [List.lookup_cons] at k
        by_cases z : g == f'
        · have z' : g = f' := by simpa using z
          subst z'
          exact List.mem_cons_self
        · rw [Bool.not_eq_true _ |>.mp z] at k
          exact List.mem_cons_of_mem _ (ih k)
    · rw [Bool.not_eq_true _ |>.mp q]
      exact k
end

/-- the slots as they stood, and what is known of caught exceptions -/
structure Gs where
  st : L2.St := []
  gh : List (Addr × List (Str × V) × List (Str × D)) := []
/-! ### environments -/
/-- a name's value: unknown; data; a list (dict, object) that this name alone holds -/
inductive Sl where
  | no | fz (d : D) | ow (d : D)
abbrev En := List Sl
/-- a run's end -/
inductive R (α : Type) where
  | ok (a : α) (ρ : En)
  | exc (c : Str) (fs : List (Str × D)) (ρ : En)
  | bad
@[reducible] def R.bind {α β : Type} (r : R α) (f : α → En → R β) : R β := match r with
  | .ok a ρ => f a ρ
  | .exc c fs ρ => .exc c fs ρ
  | .bad => .bad
theorem R.bind_ok {α β : Type} {a : α} {ρ : En} {f : α → En → R β} : (R.ok a ρ).bind f = f a ρ := rfl
theorem R.bind_exc {α β : Type} {c : Str} {fs : List (Str × D)} {ρ : En} {f : α → En → R β} : (R.exc c fs ρ : R α).bind f = .exc c fs ρ := rfl
theorem R.bind_bad {α β : Type} {f : α → En → R β} : (R.bad : R α).bind f = .bad := rfl
abbrev FX := En → R Sl
/-- a statement's end -/
inductive Fl where
  | nx | rt (v : Sl) | bk | ct
abbrev FY := En → R Fl

section
variable (K : PySem.W.Frag) (mg : Str → Option Value)
/-- the owned thing at a: its parts are frozen -/
def OwnD (B H : Hp) (a : Addr) : D → Prop
  | .lst ds => ∃ xs, H a = some (.lst xs) ∧ RepL K mg B xs ds
  | .dic kds => ∃ kvs, H a = some (.dK kvs) ∧ kvs.map (·.1) = kds.map (·.1) ∧ RepL K mg B (kvs.map (·.2)) (kds.map (·.2))
  | .ins c fs => ∃ C dx vs, mg c = some (Value.ref C) ∧ H a = some (.ins C dx vs) ∧ vs.map (·.1) = fs.map (·.1) ∧ (fs.map (·.1)).Nodup ∧ RepL K mg B (vs.map (·.2)) (fs.map (·.2))
  | _ => False
/-- a slot's value -/
def SlOk (F B H : Hp) (σ : L2.St) (i : Nat) : Sl → Prop
  | .no => True
  | .fz d => ∃ v, σ[i]? = some (some v) ∧ Rep K mg B v d
  | .ow d => ∃ a, σ[i]? = some (some (V.ref a)) ∧ F a = none ∧ B a = none ∧ OwnD K mg B H a d
structure Sat (PN : List Nat) (σ0 : Gs) (F B H : Hp) (σ : L2.St) (ρ : En) : Prop where
  len : ρ.length ≤ σ.length
  pin : ∀ i ∈ PN, σ[i]? = σ0.st[i]?
  gh : ∀ p ∈ σ0.gh, B p.1 = some (.xd p.2.1) ∧ RepF K mg B p.2.1 p.2.2
  bh : ∀ b o, B b = some o → H b = some o
  fh : ∀ b o, F b = some o → H b = some o ∧ B b = none
  sl : ∀ (i : Nat) (s : Sl), ρ[i]? = some s → SlOk K mg F B H σ i s
  dj : ∀ (i j : Nat) (a : Addr) (d d' : D), ρ[i]? = some (Sl.ow d) → ρ[j]? = some (Sl.ow d') → σ[i]? = some (some (V.ref a)) → σ[j]? = some (some (V.ref a)) → i = j
/-- an expression's value -/
def VOk (F B H : Hp) (σ : L2.St) (ρ : En) (v : V) : Sl → Prop
  | .no => False
  | .fz d => Rep K mg B v d
  | .ow d => ∃ a, v = V.ref a ∧ F a = none ∧ B a = none ∧ OwnD K mg B H a d ∧ ∀ (i : Nat) (d' : D), ρ[i]? = some (Sl.ow d') → σ[i]? ≠ some (some (V.ref a))
/-- an exception -/
def ExcOk (B : Hp) (c : Str) (fs : List (Str × D)) (cls : Value) (od : Option Addr) : Prop :=
  ∃ C, mg c = some (Value.ref C) ∧ cls = Value.ref C ∧ match fs with
    | [] => od = none
    | fs => ∃ dd vs, od = some dd ∧ B dd = some (.xd vs) ∧ RepF K mg B vs fs
end
end FV

namespace FV
open PySem PySem.Spec PyProof.Rows L2

section
variable {K : PySem.W.Frag} {mg : Str → Option Value} {PN : List Nat} {σ0 : Gs} {σ : L2.St} {F B B' H : Hp} {ρ : En} {a p : Addr} {d : D} {v : V} {i : Nat} {s : Sl}

/-! ### moves of environments -/
theorem OwnD.mono (e : Ext B B') (h : OwnD K mg B H a d) : OwnD K mg B' H a d := by
  cases d with
  | lst ds => obtain ⟨xs, h1, h2⟩ := h; exact ⟨xs, h1, h2.mono e⟩
  | dic kds => obtain ⟨kvs, h1, h2, h3⟩ := h; exact ⟨kvs, h1, h2, h3.mono e⟩
  | ins c fs => obtain ⟨C, dx, vs, h1, h2, h3, h4, h5⟩ := h; exact ⟨C, dx, vs, h1, h2, h3, h4, h5.mono e⟩
  | _ => exact h
theorem OwnD.at (h : OwnD K mg B H a d) {H' : Hp} (e : H' a = H a) : OwnD K mg B H' a d := by
  cases d with
  | lst ds => obtain ⟨xs, h1, h2⟩ := h; exact ⟨xs, e.trans h1, h2⟩
  | dic kds => obtain ⟨kvs, h1, h2, h3⟩ := h; exact ⟨kvs, e.trans h1, h2, h3⟩
  | ins c fs => obtain ⟨C, dx, vs, h1, h2, h3, h4, h5⟩ := h; exact ⟨C, dx, vs, h1, e.trans h2, h3, h4, h5⟩
  | _ => exact h
theorem OwnD.there (h : OwnD K mg B H a d) : ∃ o, H a = some o := by
  cases d with
  | lst ds => obtain ⟨xs, h1, h2⟩ := h; exact ⟨_, h1⟩
  | dic kds => obtain ⟨kvs, h1, h2, h3⟩ := h; exact ⟨_, h1⟩
  | ins c fs => obtain ⟨C, dx, vs, h1, h2, h3, h4, h5⟩ := h; exact ⟨_, h2⟩
  | _ => exact h.elim
theorem lookup_paired {vs : List (Str × V)} {fs : List (Str × D)} (e : vs.map (·.1) = fs.map (·.1)) (r : RepL K mg B (vs.map (·.2)) (fs.map (·.2))) {f : Str} {d : D} (h : fs.lookup f = some d) : ∃ v, vs.lookup f = some v ∧ Rep K mg B v d := by
  induction vs generalizing fs with
  | nil =>
    cases fs with
    | nil => simp at h
    | cons q fs => simp at e
  | cons p vs ih =>
    cases fs with
    | nil => simp at e
    | cons q fs =>
      obtain ⟨g, v⟩ := p
      obtain ⟨g', d'⟩ := q
      simp only [List.map_cons, List.cons.injEq] at e
      obtain ⟨e1, e2⟩ := e
      subst e1
      cases r with
      | cons r1 r2 =>
        rw [List.lookup_cons] at h ⊢
        by_cases z : f == g
        · rw [z] at h ⊢
          cases h
          exact ⟨v, rfl, r1⟩
        · rw [Bool.not_eq_true _ |>.mp z] at h ⊢
          exact ih e2 r2 h
/-- the owned thing, frozen -/
theorem OwnD.rep {o : HO} (h : OwnD K mg B H a d) (n : B a = none) (ho : H a = some o) : Rep K mg (upd B a o) (.ref a) d := by
  have e : Ext B (upd B a o) := Ext.new n
  cases d with
  | lst ds => obtain ⟨xs, h1, h2⟩ := h; rw [ho] at h1; cases h1; exact .lst upd_same (h2.mono e)
  | dic kds => obtain ⟨kvs, h1, h2, h3⟩ := h; rw [ho] at h1; cases h1; exact .dic (.inl upd_same) h2 (h3.mono e)
  | ins c fs =>
    obtain ⟨C, dx, vs, h1, h2, h3, h4, h5⟩ := h; rw [ho] at h2; cases h2
    exact .ins h1 upd_same (RepF.of (fun f d hd => lookup_paired h3 (h5.mono e) hd) h4)
  | _ => exact h.elim

theorem SlOk.mono (e : Ext B B') (n : ∀ a d, s = .ow d → σ[i]? = some (some (V.ref a)) → B' a = none) (h : SlOk K mg F B H σ i s) : SlOk K mg F B' H σ i s := by
  cases s with
  | no => trivial
  | fz d => obtain ⟨v, h1, h2⟩ := h; exact ⟨v, h1, h2.mono e⟩
  | ow d => obtain ⟨a, h1, h2, h3, h4⟩ := h; exact ⟨a, h1, h2, n a d rfl h1, h4.mono e⟩

/-- a slot's value is forgotten -/
theorem Sat.no (S : Sat K mg PN σ0 F B H σ ρ) (i : Nat) : Sat K mg PN σ0 F B H σ (ρ.set i .no) where
  len := by rw [List.length_set]; exact S.len
  pin := S.pin
  gh := S.gh
  bh := S.bh
  fh := S.fh
  sl := fun j s h => by
    by_cases e : i = j
    · subst e
      rw [List.getElem?_set_self'] at h
      cases q : ρ[i]? with
      | none => rw [q] at h; cases h
      | some t => rw [q] at h; cases h; trivial
    · rw [List.getElem?_set_ne e] at h
      exact S.sl j s h
  dj := fun j k a d d' h1 h2 => by
    have f : ∀ (m : Nat) (e : D), (ρ.set i .no)[m]? = some (Sl.ow e) → ρ[m]? = some (Sl.ow e) := fun m e h => by
      by_cases q : i = m
      · subst q
        rw [List.getElem?_set_self'] at h
        cases q : ρ[i]? with
        | none => rw [q] at h; cases h
        | some t => rw [q] at h; cases h
      · rw [List.getElem?_set_ne q] at h
        exact h
    exact S.dj j k a d d' (f _ _ h1) (f _ _ h2)
/-- a slot stands for frozen data -/
theorem Sat.fz (S : Sat K mg PN σ0 F B H σ ρ) (h : σ[i]? = some (some v)) (r : Rep K mg B v d) : Sat K mg PN σ0 F B H σ (ρ.set i (.fz d)) where
  len := by rw [List.length_set]; exact S.len
  pin := S.pin
  gh := S.gh
  bh := S.bh
  fh := S.fh
  sl := fun j s h' => by
    by_cases e : i = j
    · subst e
      rw [List.getElem?_set_self'] at h'
      cases q : ρ[i]? with
      | none => rw [q] at h'; cases h'
      | some t => rw [q] at h'; cases h'; exact ⟨v, h, r⟩
    · rw [List.getElem?_set_ne e] at h'
      exact S.sl j s h'
  dj := fun j k a d1 d' h1 h2 => by
    have f : ∀ (m : Nat) (e : D), (ρ.set i (.fz d))[m]? = some (Sl.ow e) → ρ[m]? = some (Sl.ow e) := fun m e h => by
      by_cases q : i = m
      · subst q
        rw [List.getElem?_set_self'] at h
        cases q : ρ[i]? with
        | none => rw [q] at h; cases h
        | some t => rw [q] at h; cases h
      · rw [List.getElem?_set_ne q] at h
        exact h
    exact S.dj j k a d1 d' (f _ _ h1) (f _ _ h2)
/-- a new object -/
theorem Sat.alloc {o : HO} (S : Sat K mg PN σ0 F B H σ ρ) (n : H p = none) : Sat K mg PN σ0 F B (upd H p o) σ ρ where
  len := S.len
  pin := S.pin
  gh := S.gh
  bh := fun b u h => by rw [upd_ne (ne_of_none (S.bh b u h) n)]; exact S.bh b u h
  fh := fun b u h => ⟨by rw [upd_ne (ne_of_none (S.fh b u h).1 n)]; exact (S.fh b u h).1, (S.fh b u h).2⟩
  sl := fun i s h => by
    have q := S.sl i s h
    cases s with
    | no => trivial
    | fz d => exact q
    | ow d =>
      obtain ⟨a, h1, h2, h3, h4⟩ := q
      obtain ⟨u, hu⟩ := h4.there
      exact ⟨a, h1, h2, h3, h4.at (upd_ne (ne_of_none hu n))⟩
  dj := S.dj
theorem Sat.bn (S : Sat K mg PN σ0 F B H σ ρ) (n : H p = none) : B p = none := by
  cases q : B p with
  | none => rfl
  | some o => rw [S.bh p o q] at n; cases n
theorem Sat.fn (S : Sat K mg PN σ0 F B H σ ρ) (n : H p = none) : F p = none := by
  cases q : F p with
  | none => rfl
  | some o => rw [(S.fh p o q).1] at n; cases n
theorem Sat.apart (S : Sat K mg PN σ0 F B H σ ρ) (n : H p = none) : ∀ (i : Nat) (d : D), ρ[i]? = some (Sl.ow d) → σ[i]? ≠ some (some (V.ref p)) := fun i d h e => by
  obtain ⟨a, h1, _, _, h4⟩ := S.sl i _ h
  rw [e] at h1; cases h1
  obtain ⟨u, hu⟩ := h4.there
  rw [hu] at n; cases n
/-- a new object joins the frozen heap -/
theorem Sat.join {o : HO} (S : Sat K mg PN σ0 F B H σ ρ) (f : F p = none) (n : B p = none) (ap : ∀ (i : Nat) (d : D), ρ[i]? = some (Sl.ow d) → σ[i]? ≠ some (some (V.ref p))) (ho : H p = some o) : Sat K mg PN σ0 F (upd B p o) H σ ρ where
  len := S.len
  pin := S.pin
  gh := fun q hq => ⟨(Ext.new n).xd (S.gh q hq).1, (S.gh q hq).2.mono (Ext.new n)⟩
  bh := fun b u h => by
    by_cases e : b = p
    · subst e; rw [upd_same] at h; cases h; exact ho
    · rw [upd_ne e] at h; exact S.bh b u h
  fh := fun b u h => ⟨(S.fh b u h).1, by rw [upd_ne (ne_of_none h f)]; exact (S.fh b u h).2⟩
  sl := fun i s h => (S.sl i s h).mono (Ext.new n) fun a d e h1 => by
    subst e
    obtain ⟨a', h1', _, h3, _⟩ := S.sl i _ h
    rw [h1] at h1'; cases h1'
    rw [upd_ne (fun z => ap i d h (by rw [← z]; exact h1))]
    exact h3
  dj := S.dj
/-- a held thing is frozen -/
theorem Sat.freeze (S : Sat K mg PN σ0 F B H σ ρ) (h : VOk K mg F B H σ ρ v (.ow d)) : ∃ B', Ext B B' ∧ Sat K mg PN σ0 F B' H σ ρ ∧ Rep K mg B' v d := by
  obtain ⟨a, rfl, h1, h2, h3, h4⟩ := h
  obtain ⟨o, ho⟩ := h3.there
  exact ⟨upd B a o, Ext.new h2, S.join h1 h2 h4 ho, h3.rep h2 ho⟩
/-- .. the thing of a slot -/
theorem Sat.take (S : Sat K mg PN σ0 F B H σ ρ) (h : ρ[i]? = some (Sl.ow d)) : ∃ v, σ[i]? = some (some v) ∧ Sat K mg PN σ0 F B H σ (ρ.set i .no) ∧ VOk K mg F B H σ (ρ.set i .no) v (.ow d) := by
  obtain ⟨a, h1, h2, h3, h4⟩ := S.sl i _ h
  refine ⟨.ref a, h1, S.no i, a, rfl, h2, h3, h4, fun j d' hj e => ?_⟩
  by_cases q : i = j
  · subst q
    rw [List.getElem?_set_self'] at hj
    cases q : ρ[i]? with
    | none => rw [q] at hj; cases hj
    | some t => rw [q] at hj; cases hj
  · rw [List.getElem?_set_ne q] at hj
    exact q (S.dj i j a d d' h hj h1 e)
theorem set_set_no (ρ : En) (i : Nat) (s : Sl) : (ρ.set i .no).set i s = ρ.set i s := List.set_set ..
theorem Sat.freezeAt (S : Sat K mg PN σ0 F B H σ ρ) (h : ρ[i]? = some (Sl.ow d)) : ∃ v B', σ[i]? = some (some v) ∧ Ext B B' ∧ Sat K mg PN σ0 F B' H σ (ρ.set i (.fz d)) ∧ Rep K mg B' v d := by
  obtain ⟨v, h1, S1, V1⟩ := S.take h
  obtain ⟨B', e, S2, r⟩ := S1.freeze V1
  refine ⟨v, B', h1, e, ?_, r⟩
  have := S2.fz h1 r
  rwa [set_set_no] at this
/-- a name is stored -/
theorem Sat.store (S : Sat K mg PN σ0 F B H σ ρ) (hp : i ∉ PN) (r : VOk K mg F B H σ ρ v s) : Sat K mg PN σ0 F B H (σ.set i (some v)) (ρ.set i s) where
  len := by rw [List.length_set, List.length_set]; exact S.len
  pin := fun j hj => by rw [List.getElem?_set_ne (fun e => hp (by rw [e]; exact hj))]; exact S.pin j hj
  gh := S.gh
  bh := S.bh
  fh := S.fh
  sl := fun j t h => by
    by_cases e : i = j
    · subst e
      rw [List.getElem?_set_self'] at h
      cases q : ρ[i]? with
      | none => rw [q] at h; cases h
      | some t' =>
        rw [q] at h; cases h
        have hl : i < σ.length := Nat.lt_of_lt_of_le (List.getElem?_eq_some_iff.mp q).1 S.len
        have g : (σ.set i (some v))[i]? = some (some v) := by rw [List.getElem?_set_self hl]
        cases s with
        | no => trivial
        | fz d => exact ⟨v, g, r⟩
        | ow d => obtain ⟨a, rfl, h1, h2, h3, _⟩ := r; exact ⟨a, g, h1, h2, h3⟩
    · rw [List.getElem?_set_ne e] at h
      have q := S.sl j t h
      cases t with
      | no => trivial
      | fz d => obtain ⟨v, h1, h2⟩ := q; exact ⟨v, by rw [List.getElem?_set_ne e]; exact h1, h2⟩
      | ow d => obtain ⟨a, h1, h2⟩ := q; exact ⟨a, by rw [List.getElem?_set_ne e]; exact h1, h2⟩
  dj := fun j k a d1 d2 h1 h2 e1 e2 => by
    by_cases ej : i = j
    · by_cases ek : i = k
      · omega
      · subst ej
        rw [List.getElem?_set_ne ek] at h2 e2
        rw [List.getElem?_set_self'] at h1 e1
        cases q : ρ[i]? with
        | none => rw [q] at h1; cases h1
        | some t' =>
          rw [q] at h1; cases h1
          cases q' : σ[i]? with
          | none => rw [q'] at e1; cases e1
          | some t'' =>
            rw [q'] at e1; cases e1
            obtain ⟨a', ea, _, _, _, ap⟩ := r
            cases ea
            exact (ap k d2 h2 e2).elim
    · by_cases ek : i = k
      · subst ek
        rw [List.getElem?_set_ne ej] at h1 e1
        rw [List.getElem?_set_self'] at h2 e2
        cases q : ρ[i]? with
        | none => rw [q] at h2; cases h2
        | some t' =>
          rw [q] at h2; cases h2
          cases q' : σ[i]? with
          | none => rw [q'] at e2; cases e2
          | some t'' =>
            rw [q'] at e2; cases e2
            obtain ⟨a', ea, _, _, _, ap⟩ := r
            cases ea
            exact (ap j d1 h1 e1).elim
      · rw [List.getElem?_set_ne ej] at h1 e1
        rw [List.getElem?_set_ne ek] at h2 e2
        exact S.dj j k a d1 d2 h1 h2 e1 e2
end

/-! ### forgetting -/
def forget (fg : List Nat) (ρ : En) : En := fg.foldl (fun ρ i => ρ.set i .no) ρ
theorem Sat.forget {K : PySem.W.Frag} {mg : Str → Option Value} {PN : List Nat} {σ0 : Gs} {σ : L2.St} {F B H : Hp} (fg : List Nat) : ∀ {ρ : En}, Sat K mg PN σ0 F B H σ ρ → Sat K mg PN σ0 F B H σ (FV.forget fg ρ) := by
  induction fg with
  | nil => intro ρ S; exact S
  | cons i fg ih => intro ρ S; exact ih (S.no i)

/-! ### the judgements -/
section
variable (X : Cx) (PN : List Nat) (σ0 : Gs) (W : WX)
def EPost (F B : Hp) (σ : L2.St) (r : R Sl) (Q : VK) : Prop := match r with
  | .ok s ρ' => ∀ v H' B', Ext B B' → Sat X.K X.mg PN σ0 F B' H' σ ρ' → VOk X.K X.mg F B' H' σ ρ' v s → Q v H'
  | .exc c fs ρ' => ∀ cls od H' B', Ext B B' → Sat X.K X.mg PN σ0 F B' H' σ ρ' → ExcOk X.K X.mg B' c fs cls od → W cls od σ H'
  | .bad => False
def TPost (F B : Hp) (σ : L2.St) (r : R Sl) (Q : Bool → Hp → Prop) : Prop := match r with
  | .ok (.fz (.bl b)) ρ' => ∀ H' B', Ext B B' → Sat X.K X.mg PN σ0 F B' H' σ ρ' → Q b H'
  | .ok _ _ => False
  | .exc c fs ρ' => ∀ cls od H' B', Ext B B' → Sat X.K X.mg PN σ0 F B' H' σ ρ' → ExcOk X.K X.mg B' c fs cls od → W cls od σ H'
  | .bad => False
/-- what an operand may be read as: frozen data, or the held thing itself -/
def LRep (B H : Hp) (v : V) (d : D) : Prop := Rep X.K X.mg B v d ∨ ∃ a, v = V.ref a ∧ OwnD X.K X.mg B H a d
abbrev Th := En → Option D
def APost (F B : Hp) (σ : L2.St) (r : R Th) (Q : VK) : Prop := match r with
  | .ok th ρ' => ∀ v H' B', Ext B B' → Sat X.K X.mg PN σ0 F B' H' σ ρ' → (∀ B2 H2 ρ2 d, Ext B' B2 → Sat X.K X.mg PN σ0 F B2 H2 σ ρ2 → th ρ2 = some d → LRep X B2 H2 v d) → Q v H'
  | .exc c fs ρ' => ∀ cls od H' B', Ext B B' → Sat X.K X.mg PN σ0 F B' H' σ ρ' → ExcOk X.K X.mg B' c fs cls od → W cls od σ H'
  | .bad => False
structure FE (e : Expr) (f : FX) : Prop where
  ex : ∃ t : TE, PE X e t ∧ ∀ F B H σ ρ Q, Sat X.K X.mg PN σ0 F B H σ ρ → EPost X PN σ0 W F B σ (f ρ) Q → t σ H Q
structure FT (e : Expr) (f : FX) : Prop where
  ex : ∃ t : TT, PT X e t ∧ ∀ F B H σ ρ Q, Sat X.K X.mg PN σ0 F B H σ ρ → TPost X PN σ0 W F B σ (f ρ) Q → t σ H Q
structure FW (e : Expr) (f : FX) : Prop where
  ex : ∃ t : TT, PW X e t ∧ ∀ F B H σ ρ Q, Sat X.K X.mg PN σ0 F B H σ ρ → TPost X PN σ0 W F B σ (f ρ) Q → t σ H Q
structure FA (e : Expr) (g : En → R Th) : Prop where
  ex : ∃ t : TE, PE X e t ∧ ∀ F B H σ ρ Q, Sat X.K X.mg PN σ0 F B H σ ρ → APost X PN σ0 W F B σ (g ρ) Q → t σ H Q
/-- arguments: the values, with what they are read as later -/
def LPost (F B : Hp) (σ : L2.St) (r : R (List Th)) (Q : List V → Hp → Prop) : Prop := match r with
  | .ok ths ρ' => ∀ vs H' B', Ext B B' → Sat X.K X.mg PN σ0 F B' H' σ ρ' → vs.length = ths.length → (∀ (i : Nat) (v : L2.V) (th : Th), vs[i]? = some v → ths[i]? = some th → ∀ B2 H2 ρ2 d, Ext B' B2 → Sat X.K X.mg PN σ0 F B2 H2 σ ρ2 → th ρ2 = some d → LRep X B2 H2 v d) → Q vs H'
  | .exc c fs ρ' => ∀ cls od H' B', Ext B B' → Sat X.K X.mg PN σ0 F B' H' σ ρ' → ExcOk X.K X.mg B' c fs cls od → W cls od σ H'
  | .bad => False
structure FL (es : List Expr) (g : En → R (List Th)) : Prop where
  ex : ∃ t : TA, PA X es t ∧ ∀ F B H σ ρ Q, Sat X.K X.mg PN σ0 F B H σ ρ → LPost X PN σ0 W F B σ (g ρ) Q → t σ H Q
def SPost (F B : Hp) (r : R Fl) (D' : Ends) : Prop := match r with
  | .ok .nx ρ' => ∀ σ' H' B', Ext B B' → Sat X.K X.mg PN σ0 F B' H' σ' ρ' → D'.nx σ' H'
  | .ok .bk ρ' => ∀ σ' H' B', Ext B B' → Sat X.K X.mg PN σ0 F B' H' σ' ρ' → D'.bk σ' H'
  | .ok .ct ρ' => ∀ σ' H' B', Ext B B' → Sat X.K X.mg PN σ0 F B' H' σ' ρ' → D'.ct σ' H'
  | .ok (.rt s) ρ' => ∀ v σ' H' B', Ext B B' → Sat X.K X.mg PN σ0 F B' H' σ' ρ' → VOk X.K X.mg F B' H' σ' ρ' v s → D'.rt v H'
  | .exc c fs ρ' => ∀ cls od σ' H' B', Ext B B' → Sat X.K X.mg PN σ0 F B' H' σ' ρ' → ExcOk X.K X.mg B' c fs cls od → W cls od σ' H'
  | .bad => False
structure FS (st : Stmt) (g : FY) : Prop where
  ex : ∃ t : TS, PS X st t ∧ ∀ F B H σ ρ D', Sat X.K X.mg PN σ0 F B H σ ρ → SPost X PN σ0 W F B (g ρ) D' → t D' σ H
structure FB (st : List Stmt) (g : FY) : Prop where
  ex : ∃ t : TS, PSs X st t ∧ ∀ F B H σ ρ D', Sat X.K X.mg PN σ0 F B H σ ρ → SPost X PN σ0 W F B (g ρ) D' → t D' σ H
end

section
variable {X : Cx} {PN : List Nat} {σ0 : Gs} {W : WX} {F B B' : Hp} {σ : L2.St}
/-! ### the ends behind a longer way -/
theorem EPost.mono {r : R Sl} {Q : VK} (e : Ext B B') (h : EPost X PN σ0 W F B σ r Q) : EPost X PN σ0 W F B' σ r Q := by
  cases r with
  | ok s ρ => exact fun v H' B2 e2 S q => h v H' B2 (e.trans e2) S q
  | exc c fs ρ => exact fun cls od H' B2 e2 S q => h cls od H' B2 (e.trans e2) S q
  | bad => exact h
theorem TPost.mono {r : R Sl} {Q : Bool → Hp → Prop} (e : Ext B B') (h : TPost X PN σ0 W F B σ r Q) : TPost X PN σ0 W F B' σ r Q := by
  cases r with
  | ok s ρ =>
    cases s with
    | fz d =>
      cases d with
      | bl b => exact fun H' B2 e2 S => h H' B2 (e.trans e2) S
      | _ => exact h
    | _ => exact h
  | exc c fs ρ => exact fun cls od H' B2 e2 S q => h cls od H' B2 (e.trans e2) S q
  | bad => exact h
theorem APost.mono {r : R Th} {Q : VK} (e : Ext B B') (h : APost X PN σ0 W F B σ r Q) : APost X PN σ0 W F B' σ r Q := by
  cases r with
  | ok s ρ => exact fun v H' B2 e2 S q => h v H' B2 (e.trans e2) S q
  | exc c fs ρ => exact fun cls od H' B2 e2 S q => h cls od H' B2 (e.trans e2) S q
  | bad => exact h
theorem LPost.mono {r : R (List Th)} {Q : List V → Hp → Prop} (e : Ext B B') (h : LPost X PN σ0 W F B σ r Q) : LPost X PN σ0 W F B' σ r Q := by
  cases r with
  | ok s ρ => exact fun v H' B2 e2 S l q => h v H' B2 (e.trans e2) S l q
  | exc c fs ρ => exact fun cls od H' B2 e2 S q => h cls od H' B2 (e.trans e2) S q
  | bad => exact h
theorem SPost.mono {r : R Fl} {D' : Ends} (e : Ext B B') (h : SPost X PN σ0 W F B r D') : SPost X PN σ0 W F B' r D' := by
  cases r with
  | ok f ρ =>
    cases f with
    | nx => exact fun σ' H' B2 e2 S => h σ' H' B2 (e.trans e2) S
    | bk => exact fun σ' H' B2 e2 S => h σ' H' B2 (e.trans e2) S
    | ct => exact fun σ' H' B2 e2 S => h σ' H' B2 (e.trans e2) S
    | rt s => exact fun v σ' H' B2 e2 S q => h v σ' H' B2 (e.trans e2) S q
  | exc c fs ρ => exact fun cls od σ' H' B2 e2 S q => h cls od σ' H' B2 (e.trans e2) S q
  | bad => exact h
theorem LRep.mono {H : Hp} {v : V} {d : D} (h : Rep X.K X.mg B v d) : LRep X B H v d := .inl h

/-! ### expressions -/
def xC (d : D) : FX := fun ρ => .ok (.fz d) ρ
def xV (i : Nat) : FX := fun ρ => match ρ[i]? with
  | some (.fz d) => .ok (.fz d) ρ
  | some (.ow d) => .ok (.fz d) (ρ.set i (.fz d))
  | _ => .bad
def xM (i : Nat) : FX := fun ρ => match ρ[i]? with
  | some (.fz d) => .ok (.fz d) ρ
  | some (.ow d) => .ok (.ow d) (ρ.set i .no)
  | _ => .bad
theorem fe_c {e : Expr} {v : V} {d : D} (h : PE X e (tC v)) (r : ∀ B, Rep X.K X.mg B v d) : FE X PN σ0 W e (xC d) :=
  ⟨_, h, fun F B H σ ρ Q S q => q v H B (Ext.refl B) S (r B)⟩
theorem fe_int {i j pos} : FE X PN σ0 W (.Constant (.int i) j pos) (xC (.int i)) := fe_c pe_int fun _ => .int i
theorem fe_bl {b j pos} : FE X PN σ0 W (.Constant (.bool b) j pos) (xC (.bl b)) := fe_c pe_bl fun _ => .bl b
theorem fe_non {j pos} : FE X PN σ0 W (.Constant .none j pos) (xC .non) := fe_c pe_non fun _ => .non
theorem fe_str {x j pos} : FE X PN σ0 W (.Constant (.str x) j pos) (xC (.str x)) := fe_c pe_str fun _ => .str x
/-- the names of a def: M, which may be read; L, which may be stored -/
structure NamesOk (X : Cx) (M L : List Bool) : Prop where
  vis : ∀ (i : Nat) (x : Str), X.N[i]? = some x → M[i]? = some true → Vis X.env.scope x
  loc : ∀ (i : Nat) (x : Str), X.N[i]? = some x → L[i]? = some true → Loc X.env.scope x
  fn : ∀ (i : Nat) (x : Str), X.N[i]? = some x → L[i]? = some true → X.fn x = true ∨ X.env.scope.names.lookup x = some .local
  db : ∀ x ∈ X.N, (x == ("__debug__" : Str)) = false
  cd : ∀ x ∈ X.N, (x == ("__classdict__" : Str)) = false
  nd : X.N.Nodup
variable {M L : List Bool}
theorem NamesOk.pe (V : NamesOk X M L) (i : Nat) {x : Str} {pos : Pos} (h : X.N[i]? = some x := by rfl) (hm : M[i]? = some true := by rfl) : PE X (.Name x pos) (tVar i) :=
  pe_var h (V.vis i x h hm) (V.db x (List.mem_of_getElem? h)) (V.cd x (List.mem_of_getElem? h))
theorem fe_v (V : NamesOk X M L) (i : Nat) {x : Str} {pos : Pos} (h : X.N[i]? = some x := by rfl) (hm : M[i]? = some true := by rfl) : FE X PN σ0 W (.Name x pos) (xV i) := by
  refine ⟨_, V.pe i h hm, fun F B H σ ρ Q S q => ?_⟩
  unfold xV at q
  split at q
  · rename_i d e
    obtain ⟨v, h1, h2⟩ := S.sl i _ e
    exact ⟨v, h1, q v H B (Ext.refl B) S h2⟩
  · rename_i d e
    obtain ⟨v, B', h1, e', S', r⟩ := S.freezeAt e
    exact ⟨v, h1, q v H B' e' S' r⟩
  · exact q.elim
theorem fe_m (V : NamesOk X M L) (i : Nat) {x : Str} {pos : Pos} (h : X.N[i]? = some x := by rfl) (hm : M[i]? = some true := by rfl) : FE X PN σ0 W (.Name x pos) (xM i) := by
  refine ⟨_, V.pe i h hm, fun F B H σ ρ Q S q => ?_⟩
  unfold xM at q
  split at q
  · rename_i d e
    obtain ⟨v, h1, h2⟩ := S.sl i _ e
    exact ⟨v, h1, q v H B (Ext.refl B) S h2⟩
  · rename_i d e
    obtain ⟨v, h1, S', r⟩ := S.take e
    exact ⟨v, h1, q v H B (Ext.refl B) S' r⟩
  · exact q.elim
/-- frozen -/
def xF (f : FX) : FX := fun ρ => (f ρ).bind fun s ρ' => match s with
  | .fz d => .ok (.fz d) ρ'
  | .ow d => .ok (.fz d) ρ'
  | .no => .bad
theorem fe_f {e : Expr} {f : FX} (h : FE X PN σ0 W e f) : FE X PN σ0 W e (xF f) := by
  obtain ⟨t, ht, hf⟩ := h.ex
  refine ⟨t, ht, fun F B H σ ρ Q S q => hf F B H σ ρ Q S ?_⟩
  unfold xF at q
  cases hr : f ρ with
  | ok s ρ' =>
    rw [hr] at q
    intro v H' B' e S' r
    cases s with
    | no => exact r.elim
    | fz d => exact q v H' B' e S' r
    | ow d =>
      obtain ⟨B2, e2, S2, r2⟩ := S'.freeze r
      exact q v H' B2 (e.trans e2) S2 r2
  | exc c fs ρ' => rw [hr] at q; exact q
  | bad => rw [hr] at q; exact q

/-! ### operands -/
def aX (f : FX) : En → R Th := fun ρ => (f ρ).bind fun s ρ' => match s with
  | .fz d => .ok (fun _ => some d) ρ'
  | .ow d => .ok (fun _ => some d) ρ'
  | .no => .bad
def rdSl (i : Nat) : Th := fun ρ => match ρ[i]? with
  | some (.fz d) => some d
  | some (.ow d) => some d
  | _ => none
def aR (i : Nat) : En → R Th := fun ρ => match rdSl i ρ with
  | some _ => .ok (rdSl i) ρ
  | none => .bad
theorem fa_x {e : Expr} {f : FX} (h : FE X PN σ0 W e f) : FA X PN σ0 W e (aX f) := by
  obtain ⟨t, ht, hf⟩ := (fe_f h).ex
  refine ⟨t, ht, fun F B H σ ρ Q S q => hf F B H σ ρ Q S ?_⟩
  unfold aX at q
  unfold xF
  cases hr : f ρ with
  | ok s ρ' =>
    rw [hr] at q
    cases s with
    | no => exact q
    | fz d => exact fun v H' B' e S' r => q v H' B' e S' fun B2 H2 ρ2 d2 e2 S2 h2 => by cases h2; exact .inl (r.mono e2)
    | ow d => exact fun v H' B' e S' r => q v H' B' e S' fun B2 H2 ρ2 d2 e2 S2 h2 => by cases h2; exact .inl (r.mono e2)
  | exc c fs ρ' => rw [hr] at q; exact q
  | bad => rw [hr] at q; exact q
theorem fa_r (V : NamesOk X M L) (i : Nat) {x : Str} {pos : Pos} (h : X.N[i]? = some x := by rfl) (hm : M[i]? = some true := by rfl) : FA X PN σ0 W (.Name x pos) (aR i) := by
  refine ⟨_, V.pe i h hm, fun F B H σ ρ Q S q => ?_⟩
  have key : ∀ (v : L2.V), σ[i]? = some (some v) → ∀ B2 H2 ρ2 d, Sat X.K X.mg PN σ0 F B2 H2 σ ρ2 → rdSl i ρ2 = some d → LRep X B2 H2 v d := fun v hv B2 H2 ρ2 d S2 h2 => by
    unfold rdSl at h2
    split at h2
    · rename_i d' e
      cases h2
      obtain ⟨v', h1, r⟩ := S2.sl i _ e
      rw [hv] at h1; cases h1
      exact .inl r
    · rename_i d' e
      cases h2
      obtain ⟨a, h1, _, _, r⟩ := S2.sl i _ e
      rw [hv] at h1; cases h1
      exact .inr ⟨a, rfl, r⟩
    · cases h2
  have hv : ∃ v, σ[i]? = some (some v) := by
    unfold aR rdSl at q
    cases e : ρ[i]? with
    | none => rw [e] at q; exact q.elim
    | some s =>
      cases s with
      | no => rw [e] at q; exact q.elim
      | fz d => obtain ⟨v, h1, _⟩ := S.sl i _ e; exact ⟨v, h1⟩
      | ow d => obtain ⟨a, h1, _⟩ := S.sl i _ e; exact ⟨_, h1⟩
  obtain ⟨v, hv⟩ := hv
  refine ⟨v, hv, ?_⟩
  unfold aR at q
  cases e : rdSl i ρ with
  | none => rw [e] at q; exact q.elim
  | some d => rw [e] at q; exact q v H B (Ext.refl B) S fun B2 H2 ρ2 d2 e2 S2 h2 => key v hv B2 H2 ρ2 d2 S2 h2
end
end FV

namespace FV
open PySem PySem.Spec PyProof.Rows L2

section
variable {X : Cx} {B H : Hp} {v : L2.V}
theorem LRep.int {i : Int} (h : LRep X B H v (.int i)) : v = .int i := by
  rcases h with h | ⟨a, _, h⟩
  · cases h; rfl
  · exact h.elim
theorem LRep.bl {b : Bool} (h : LRep X B H v (.bl b)) : v = .bl b := by
  rcases h with h | ⟨a, _, h⟩
  · cases h; rfl
  · exact h.elim
theorem LRep.str {x : Str} (h : LRep X B H v (.str x)) : v = .str x := by
  rcases h with h | ⟨a, _, h⟩
  · cases h; rfl
  · exact h.elim
theorem LRep.non (h : LRep X B H v .non) : v = .non := by
  rcases h with h | ⟨a, _, h⟩
  · cases h; rfl
  · exact h.elim
theorem LRep.lst {ds : List D} (bh : ∀ b o, B b = some o → H b = some o) (h : LRep X B H v (.lst ds)) : ∃ a xs, v = V.ref a ∧ H a = some (.lst xs) ∧ RepL X.K X.mg B xs ds := by
  rcases h with h | ⟨a, rfl, xs, h1, h2⟩
  · cases h with
    | lst h1 h2 => exact ⟨_, _, rfl, bh _ _ h1, h2⟩
  · exact ⟨a, xs, rfl, h1, h2⟩
theorem LRep.tup {ds : List D} (bh : ∀ b o, B b = some o → H b = some o) (h : LRep X B H v (.tup ds)) : ∃ a xs, v = V.ref a ∧ H a = some (.tup xs) ∧ RepL X.K X.mg B xs ds := by
  rcases h with h | ⟨a, rfl, h⟩
  · cases h with
    | tup h1 h2 => exact ⟨_, _, rfl, bh _ _ h1, h2⟩
  · exact h.elim
theorem LRep.dic {kds : List (Key × D)} (bh : ∀ b o, B b = some o → H b = some o) (h : LRep X B H v (.dic kds)) :
    ∃ a kvs, v = V.ref a ∧ Rd H a (.dK kvs) ∧ kvs.map (·.1) = kds.map (·.1) ∧ RepL X.K X.mg B (kvs.map (·.2)) (kds.map (·.2)) := by
  rcases h with h | ⟨a, rfl, kvs, h1, h2, h3⟩
  · cases h with
    | dic h1 h2 h3 =>
      refine ⟨_, _, rfl, ?_, h2, h3⟩
      rcases h1 with h1 | ⟨od, h1⟩
      · exact .inl (bh _ _ h1)
      · exact .inr ⟨od, bh _ _ h1⟩
  · exact ⟨a, kvs, rfl, .inl h1, h2, h3⟩
theorem LRep.ins {c : Str} {fs : List (Str × D)} (bh : ∀ b o, B b = some o → H b = some o) (h : LRep X B H v (.ins c fs)) :
    ∃ a C dx vs, v = V.ref a ∧ X.mg c = some (Value.ref C) ∧ H a = some (.ins C dx vs) ∧ ∀ f d, fs.lookup f = some d → ∃ u, vs.lookup f = some u ∧ Rep X.K X.mg B u d := by
  rcases h with h | ⟨a, rfl, C, dx, vs, h1, h2, h3, h4, h5⟩
  · cases h with
    | ins h1 h2 h3 => exact ⟨_, _, _, _, rfl, h1, bh _ _ h2, fun f d e => h3.get e⟩
  · exact ⟨a, C, dx, vs, rfl, h1, h2, fun f d e => lookup_paired h3 h5 e⟩
end

/-! ### what is done with values -/
abbrev G2 := D → D → Option Sl
def Fin (X : Cx) (PN : List Nat) (σ0 : Gs) (F B : Hp) (σ : L2.St) (ρ : En) (s : Sl) (Q : VK) : Prop := ∀ v H' B', Ext B B' → Sat X.K X.mg PN σ0 F B' H' σ ρ → VOk X.K X.mg F B' H' σ ρ v s → Q v H'
def Op2 (X : Cx) (r : R2) (g : G2) : Prop := ∀ PN σ0 F B H σ ρ x y dx dy s Q, Sat X.K X.mg PN σ0 F B H σ ρ → LRep X B H x dx → LRep X B H y dy → g dx dy = some s → Fin X PN σ0 F B σ ρ s Q → r x y H Q
def OpN (X : Cx) (r : List L2.V → Hp → VK → Prop) (g : List D → Option Sl) : Prop := ∀ PN σ0 F B H σ ρ vs ds s Q, Sat X.K X.mg PN σ0 F B H σ ρ → Paired (LRep X B H) vs ds → g ds = some s → Fin X PN σ0 F B σ ρ s Q → r vs H Q
def Op1 (X : Cx) (r : L2.V → Hp → VK → Prop) (g : D → Option Sl) : Prop := ∀ PN σ0 F B H σ ρ x dx s Q, Sat X.K X.mg PN σ0 F B H σ ρ → LRep X B H x dx → g dx = some s → Fin X PN σ0 F B σ ρ s Q → r x H Q
section
variable {X : Cx} {PN : List Nat} {σ0 : Gs} {W : WX} {F B B' H : Hp} {σ : L2.St} {ρ : En} {s : Sl} {Q : VK}
theorem Fin.flat {d : D} {v : L2.V} (S : Sat X.K X.mg PN σ0 F B H σ ρ) (h : Fin X PN σ0 F B σ ρ (.fz d) Q) (r : Rep X.K X.mg B v d) : Q v H := h v H B (Ext.refl B) S r
theorem Fin.newL {xs : List L2.V} {ds : List D} (S : Sat X.K X.mg PN σ0 F B H σ ρ) (h : Fin X PN σ0 F B σ ρ (.ow (.lst ds)) Q) (r : RepL X.K X.mg B xs ds) : ∀ p, H p = none → Q (.ref p) (upd H p (.lst xs)) := fun p n =>
  h _ _ B (Ext.refl B) (S.alloc n) ⟨p, rfl, S.fn n, S.bn n, ⟨xs, upd_same, r⟩, S.apart n⟩
theorem Fin.newT {xs : List L2.V} {ds : List D} (S : Sat X.K X.mg PN σ0 F B H σ ρ) (h : Fin X PN σ0 F B σ ρ (.fz (.tup ds)) Q) (r : RepL X.K X.mg B xs ds) : ∀ p, H p = none → Q (.ref p) (upd H p (.tup xs)) := fun p n =>
  h _ _ (upd B p (.tup xs)) (Ext.new (S.bn n)) ((S.alloc n).join (S.fn n) (S.bn n) (S.apart n) upd_same) (.tup upd_same (r.mono (Ext.new (S.bn n))))
theorem Op2.or {r r' : R2} {g g' : G2} (h : Op2 X r g) (h' : Op2 X r' g') : Op2 X (fun x y H Q => r x y H Q ∨ r' x y H Q) (fun d e => (g d e).or (g' d e)) := fun PN σ0 F B H σ ρ x y dx dy s Q S hx hy hg q => by
  replace hg : (g dx dy).or (g' dx dy) = some s := hg
  cases e : g dx dy with
  | some t => rw [e] at hg; cases hg; exact .inl (h PN σ0 F B H σ ρ x y dx dy _ Q S hx hy e q)
  | none => rw [e] at hg; exact .inr (h' PN σ0 F B H σ ρ x y dx dy _ Q S hx hy hg q)
theorem OpN.or {r r' : List L2.V → Hp → VK → Prop} {g g' : List D → Option Sl} (h : OpN X r g) (h' : OpN X r' g') : OpN X (fun x H Q => r x H Q ∨ r' x H Q) (fun d => (g d).or (g' d)) := fun PN σ0 F B H σ ρ x dx s Q S hx hg q => by
  replace hg : (g dx).or (g' dx) = some s := hg
  cases e : g dx with
  | some t => rw [e] at hg; cases hg; exact .inl (h PN σ0 F B H σ ρ x dx _ Q S hx e q)
  | none => rw [e] at hg; exact .inr (h' PN σ0 F B H σ ρ x dx _ Q S hx hg q)

/-! ### operands, one after another -/
def ofO (o : Option Sl) (ρ : En) : R Sl := match o with
  | some s => .ok s ρ
  | none => .bad
theorem ofO_some {s : Sl} {ρ : En} : ofO (some s) ρ = .ok s ρ := rfl
def xB (g : G2) (a b : En → R Th) : FX := fun ρ => (a ρ).bind fun t1 ρ1 => (b ρ1).bind fun t2 ρ2 => ofO ((t1 ρ2).bind fun d1 => (t2 ρ2).bind fun d2 => g d1 d2) ρ2
def xU (g : D → Option Sl) (a : En → R Th) : FX := fun ρ => (a ρ).bind fun t1 ρ1 => ofO ((t1 ρ1).bind g) ρ1
theorem fin2 {ta tb : TE} {a b : En → R Th} {r : R2} {g : G2} (hr : Op2 X r g)
    (ha : ∀ F B H σ ρ Q, Sat X.K X.mg PN σ0 F B H σ ρ → APost X PN σ0 W F B σ (a ρ) Q → ta σ H Q)
    (hb : ∀ F B H σ ρ Q, Sat X.K X.mg PN σ0 F B H σ ρ → APost X PN σ0 W F B σ (b ρ) Q → tb σ H Q)
    (S : Sat X.K X.mg PN σ0 F B H σ ρ) (q : EPost X PN σ0 W F B σ (xB g a b ρ) Q) : tOp r ta tb σ H Q := by
  unfold xB at q
  refine ha F B H σ ρ _ S ?_
  cases ea : a ρ with
  | bad => rw [ea] at q; exact q
  | exc c fs ρ1 => rw [ea] at q; exact q
  | ok t1 ρ1 =>
    rw [ea] at q
    intro x H1 B1 e1 S1 k1
    refine hb F B1 H1 σ ρ1 _ S1 ?_
    simp only [R.bind] at q
    cases eb : b ρ1 with
    | bad => rw [eb] at q; exact q
    | exc c fs ρ2 => rw [eb] at q; exact fun cls od H' B' e S' z => q cls od H' B' (e1.trans e) S' z
    | ok t2 ρ2 =>
      rw [eb] at q
      intro y H2 B2 e2 S2 k2
      simp only at q
      cases h1 : t1 ρ2 with
      | none => rw [h1] at q; exact q.elim
      | some d1 =>
        cases h2 : t2 ρ2 with
        | none => rw [h1, h2] at q; exact q.elim
        | some d2 =>
          rw [h1, h2] at q
          simp only [Option.bind_some] at q
          cases hg : g d1 d2 with
          | none => rw [hg] at q; exact q.elim
          | some s =>
            rw [hg] at q
            exact hr PN σ0 F B2 H2 σ ρ2 x y d1 d2 s Q S2 (k1 B2 H2 ρ2 d1 e2 S2 h1) (k2 B2 H2 ρ2 d2 (Ext.refl B2) S2 h2) hg fun v H' B' e S' z => q v H' B' ((e1.trans e2).trans e) S' z
theorem fe_bin {a b : Expr} {op : Operator} {pos : Pos} {ga gb : En → R Th} {r : R2} {g : G2} (ho : OpR X (binaryOp op) r) (hr : Op2 X r g) (ha : FA X PN σ0 W a ga) (hb : FA X PN σ0 W b gb) : FE X PN σ0 W (.BinOp a op b pos) (xB g ga gb) := by
  obtain ⟨ta, pa, qa⟩ := ha.ex
  obtain ⟨tb, pb, qb⟩ := hb.ex
  exact ⟨_, pe_op ho pa pb, fun F B H σ ρ Q S q => fin2 hr qa qb S q⟩
theorem fe_cmp {a b : Expr} {op : CmpOp} {pos : Pos} {ga gb : En → R Th} {r : R2} {g : G2} (ho : OpR X (compareOp op) r) (hr : Op2 X r g) (ha : FA X PN σ0 W a ga) (hb : FA X PN σ0 W b gb) (hm : behindInMarks op b = false := by rfl) : FE X PN σ0 W (.Compare a [op] [b] pos) (xB g ga gb) := by
  obtain ⟨ta, pa, qa⟩ := ha.ex
  obtain ⟨tb, pb, qb⟩ := hb.ex
  exact ⟨_, pe_cmpR ho pa pb hm, fun F B H σ ρ Q S q => fin2 hr qa qb S q⟩
/-- from an expression's end to a test's -/
theorem toT {r : R Sl} {Q : Bool → Hp → Prop} (h : TPost X PN σ0 W F B σ r Q) : EPost X PN σ0 W F B σ r (fun v H' => ∃ k, v = L2.V.bl k ∧ Q k H') := by
  cases r with
  | bad => exact h
  | exc c fs ρ => exact h
  | ok s ρ =>
    cases s with
    | no => exact h.elim
    | ow d => exact h.elim
    | fz d =>
      cases d with
      | bl b => exact fun v H' B' e S r => by cases r; exact ⟨b, rfl, h H' B' e S⟩
      | _ => exact h.elim
theorem ft_cmp {a b : Expr} {op : CmpOp} {pos : Pos} {ga gb : En → R Th} {r : R2} {g : G2} (ho : OpR X (compareOp op) r) (hr : Op2 X r g) (ha : FA X PN σ0 W a ga) (hb : FA X PN σ0 W b gb) (hm : behindInMarks op b = false := by rfl) : FT X PN σ0 W (.Compare a [op] [b] pos) (xB g ga gb) := by
  obtain ⟨ta, pa, qa⟩ := ha.ex
  obtain ⟨tb, pb, qb⟩ := hb.ex
  exact ⟨_, pt_cmpR ho pa pb hm, fun F B H σ ρ Q S q => fin2 hr qa qb S (toT q)⟩
/-- an expression as a test -/
theorem ft_e {e : Expr} {f : FX} (h : FE X PN σ0 W e f) (he : ∀ whole, isTrue e X.env whole = (do let v ← whole; standAt e.pos; holding [v] (truthy v)) := by intro _; rfl) : FT X PN σ0 W e f := by
  obtain ⟨t, pt, qt⟩ := h.ex
  exact ⟨_, pt_val pt he, fun F B H σ ρ Q S q => qt F B H σ ρ _ S (toT q)⟩
def xNot (f : FX) : FX := fun ρ => (f ρ).bind fun s ρ' => match s with
  | .fz (.bl b) => .ok (.fz (.bl (!b))) ρ'
  | _ => .bad
theorem ft_not {e : Expr} {f : FX} {pos : Pos} (h : FT X PN σ0 W e f) : FT X PN σ0 W (.UnaryOp .Not e pos) (xNot f) := by
  obtain ⟨t, pt, qt⟩ := h.ex
  refine ⟨_, pt_not pt, fun F B H σ ρ Q S q => qt F B H σ ρ _ S ?_⟩
  unfold xNot at q
  cases hr : f ρ with
  | bad => rw [hr] at q; exact q
  | exc c fs ρ => rw [hr] at q; exact q
  | ok s ρ' =>
    rw [hr] at q
    cases s with
    | no => exact q.elim
    | ow d => exact q.elim
    | fz d =>
      cases d with
      | bl b => exact q
      | _ => exact q.elim
def xAnd (f g : FX) : FX := fun ρ => (f ρ).bind fun s ρ' => match s with
  | .fz (.bl true) => g ρ'
  | .fz (.bl false) => .ok (.fz (.bl false)) ρ'
  | _ => .bad
def xOr (f g : FX) : FX := fun ρ => (f ρ).bind fun s ρ' => match s with
  | .fz (.bl false) => g ρ'
  | .fz (.bl true) => .ok (.fz (.bl true)) ρ'
  | _ => .bad
section
variable {a b : Expr} {rest : List Expr} {pos : Pos} {f g : FX}
theorem fw_and1 (h : FT X PN σ0 W a f) : FW X PN σ0 W (.BoolOp .And [a] pos) f := by
  obtain ⟨t, pt, qt⟩ := h.ex
  exact ⟨_, pw_and1 pt, qt⟩
theorem fw_or1 (h : FT X PN σ0 W a f) : FW X PN σ0 W (.BoolOp .Or [a] pos) f := by
  obtain ⟨t, pt, qt⟩ := h.ex
  exact ⟨_, pw_or1 pt, qt⟩
theorem fw_and (h : FT X PN σ0 W a f) (k : FW X PN σ0 W (.BoolOp .And (b :: rest) pos) g) : FW X PN σ0 W (.BoolOp .And (a :: b :: rest) pos) (xAnd f g) := by
  obtain ⟨t, pt, qt⟩ := h.ex
  obtain ⟨u, pu, qu⟩ := k.ex
  refine ⟨_, pw_and pt pu, fun F B H σ ρ Q S q => qt F B H σ ρ _ S ?_⟩
  unfold xAnd at q
  cases hr : f ρ with
  | bad => rw [hr] at q; exact q
  | exc c fs ρ => rw [hr] at q; exact q
  | ok s ρ' =>
    rw [hr] at q
    cases s with
    | no => exact q.elim
    | ow d => exact q.elim
    | fz d =>
      cases d with
      | bl b =>
        cases b with
        | true => exact fun H' B' e S' => iteT (qu F B' H' σ ρ' Q S' (TPost.mono e q))
        | false => exact fun H' B' e S' => iteF (q H' B' e S')
      | _ => exact q.elim
theorem fw_or (h : FT X PN σ0 W a f) (k : FW X PN σ0 W (.BoolOp .Or (b :: rest) pos) g) : FW X PN σ0 W (.BoolOp .Or (a :: b :: rest) pos) (xOr f g) := by
  obtain ⟨t, pt, qt⟩ := h.ex
  obtain ⟨u, pu, qu⟩ := k.ex
  refine ⟨_, pw_or pt pu, fun F B H σ ρ Q S q => qt F B H σ ρ _ S ?_⟩
  unfold xOr at q
  cases hr : f ρ with
  | bad => rw [hr] at q; exact q
  | exc c fs ρ => rw [hr] at q; exact q
  | ok s ρ' =>
    rw [hr] at q
    cases s with
    | no => exact q.elim
    | ow d => exact q.elim
    | fz d =>
      cases d with
      | bl b =>
        cases b with
        | false => exact fun H' B' e S' => iteF (qu F B' H' σ ρ' Q S' (TPost.mono e q))
        | true => exact fun H' B' e S' => iteT (q H' B' e S')
      | _ => exact q.elim
theorem ft_w (h : FW X PN σ0 W a f) : FT X PN σ0 W a f := by
  obtain ⟨t, pt, qt⟩ := h.ex
  exact ⟨_, pt.pt, qt⟩
/-! ### the same as values -/
theorem fe_one {op} (h : FE X PN σ0 W a f) : FE X PN σ0 W (.BoolOp op [a] pos) f := by
  obtain ⟨t, pt, qt⟩ := h.ex
  exact ⟨_, pe_one pt, qt⟩
theorem fe_and (h : FE X PN σ0 W a f) (k : FE X PN σ0 W (.BoolOp .And (b :: rest) pos) g) : FE X PN σ0 W (.BoolOp .And (a :: b :: rest) pos) (xAnd f g) := by
  obtain ⟨t, pt, qt⟩ := h.ex
  obtain ⟨u, pu, qu⟩ := k.ex
  refine ⟨_, pe_and pt pu, fun F B H σ ρ Q S q => qt F B H σ ρ _ S ?_⟩
  unfold xAnd at q
  cases hr : f ρ with
  | bad => rw [hr] at q; exact q
  | exc c fs ρ => rw [hr] at q; exact q
  | ok s ρ' =>
    rw [hr] at q
    cases s with
    | no => exact q.elim
    | ow d => exact q.elim
    | fz d =>
      cases d with
      | bl b =>
        cases b with
        | true => exact fun v H' B' e S' r => by cases r; exact ⟨true, rfl, iteT (qu F B' H' σ ρ' Q S' (EPost.mono e q))⟩
        | false => exact fun v H' B' e S' r => by cases r; exact ⟨false, rfl, iteF (q _ H' B' e S' (.bl false))⟩
      | _ => exact q.elim
theorem fe_or (h : FE X PN σ0 W a f) (k : FE X PN σ0 W (.BoolOp .Or (b :: rest) pos) g) : FE X PN σ0 W (.BoolOp .Or (a :: b :: rest) pos) (xOr f g) := by
  obtain ⟨t, pt, qt⟩ := h.ex
  obtain ⟨u, pu, qu⟩ := k.ex
  refine ⟨_, pe_or pt pu, fun F B H σ ρ Q S q => qt F B H σ ρ _ S ?_⟩
  unfold xOr at q
  cases hr : f ρ with
  | bad => rw [hr] at q; exact q
  | exc c fs ρ => rw [hr] at q; exact q
  | ok s ρ' =>
    rw [hr] at q
    cases s with
    | no => exact q.elim
    | ow d => exact q.elim
    | fz d =>
      cases d with
      | bl b =>
        cases b with
        | false => exact fun v H' B' e S' r => by cases r; exact ⟨false, rfl, iteF (qu F B' H' σ ρ' Q S' (EPost.mono e q))⟩
        | true => exact fun v H' B' e S' r => by cases r; exact ⟨true, rfl, iteT (q _ H' B' e S' (.bl true))⟩
      | _ => exact q.elim
theorem fe_not (h : FE X PN σ0 W a f) : FE X PN σ0 W (.UnaryOp .Not a pos) (xNot f) := by
  obtain ⟨t, pt, qt⟩ := h.ex
  refine ⟨_, pe_not pt, fun F B H σ ρ Q S q => qt F B H σ ρ _ S ?_⟩
  unfold xNot at q
  cases hr : f ρ with
  | bad => rw [hr] at q; exact q
  | exc c fs ρ => rw [hr] at q; exact q
  | ok s ρ' =>
    rw [hr] at q
    cases s with
    | no => exact q.elim
    | ow d => exact q.elim
    | fz d =>
      cases d with
      | bl b => exact fun v H' B' e S' r => by cases r; exact ⟨b, rfl, q _ H' B' e S' (.bl _)⟩
      | _ => exact q.elim
/-- a if t else b -/
def xIf (t f g : FX) : FX := fun ρ => (t ρ).bind fun s ρ' => match s with
  | .fz (.bl true) => f ρ'
  | .fz (.bl false) => g ρ'
  | _ => .bad
theorem fe_if {c : Expr} {t : FX} (hc : FT X PN σ0 W c t) (h : FE X PN σ0 W a f) (k : FE X PN σ0 W b g) : FE X PN σ0 W (.IfExp c a b pos) (xIf t f g) := by
  obtain ⟨tc, pc, qc⟩ := hc.ex
  obtain ⟨ta, pa, qa⟩ := h.ex
  obtain ⟨tb, pb, qb⟩ := k.ex
  refine ⟨_, pe_ifExp pc pa pb, fun F B H σ ρ Q S q => qc F B H σ ρ _ S ?_⟩
  unfold xIf at q
  cases hr : t ρ with
  | bad => rw [hr] at q; exact q
  | exc c fs ρ => rw [hr] at q; exact q
  | ok s ρ' =>
    rw [hr] at q
    cases s with
    | no => exact q.elim
    | ow d => exact q.elim
    | fz d =>
      cases d with
      | bl b =>
        cases b with
        | true => exact fun H' B' e S' => iteT (qa F B' H' σ ρ' Q S' (EPost.mono e q))
        | false => exact fun H' B' e S' => iteF (qb F B' H' σ ρ' Q S' (EPost.mono e q))
      | _ => exact q.elim
end
/-! ### one operand, argument lists -/
theorem fin1 {ta : TE} {a : En → R Th} {r : L2.V → Hp → VK → Prop} {g : D → Option Sl} (hr : Op1 X r g)
    (ha : ∀ F B H σ ρ Q, Sat X.K X.mg PN σ0 F B H σ ρ → APost X PN σ0 W F B σ (a ρ) Q → ta σ H Q)
    (S : Sat X.K X.mg PN σ0 F B H σ ρ) (q : EPost X PN σ0 W F B σ (xU g a ρ) Q) : ta σ H (fun x H1 => r x H1 Q) := by
  unfold xU at q
  refine ha F B H σ ρ _ S ?_
  cases ea : a ρ with
  | bad => rw [ea] at q; exact q
  | exc c fs ρ1 => rw [ea] at q; exact q
  | ok t1 ρ1 =>
    rw [ea, R.bind_ok] at q
    intro x H1 B1 e1 S1 k1
    cases h1 : t1 ρ1 with
    | none => rw [h1] at q; exact q.elim
    | some d1 =>
      rw [h1] at q
      simp only [Option.bind_some] at q
      cases hg : g d1 with
      | none => rw [hg] at q; exact q.elim
      | some s =>
        rw [hg] at q
        exact hr PN σ0 F B1 H1 σ ρ1 x d1 s Q S1 (k1 B1 H1 ρ1 d1 (Ext.refl B1) S1 h1) hg fun v H' B' e S' z => q v H' B' (e1.trans e) S' z
theorem fe_un {a : Expr} {op : UnaryOp} {pos : Pos} {ga : En → R Th} {r : L2.V → Hp → VK → Prop} {g : D → Option Sl} (ho : UnR X (unaryOp op) r) (hr : Op1 X r g) (ha : FA X PN σ0 W a ga) : FE X PN σ0 W (.UnaryOp op a pos) (xU g ga) := by
  obtain ⟨ta, pa, qa⟩ := ha.ex
  exact ⟨_, pe_un ho pa, fun F B H σ ρ Q S q => fin1 hr qa S q⟩
def lNil : En → R (List Th) := fun ρ => .ok [] ρ
def lCons (a : En → R Th) (l : En → R (List Th)) : En → R (List Th) := fun ρ => (a ρ).bind fun t ρ1 => (l ρ1).bind fun ts ρ2 => .ok (t :: ts) ρ2
theorem fl_nil : FL X PN σ0 W [] lNil := ⟨_, pa_nil, fun F B H σ ρ Q S q => q [] H B (Ext.refl B) S rfl fun i v th h => by simp at h⟩
theorem fl_cons {e : Expr} {es : List Expr} {a : En → R Th} {l : En → R (List Th)} (ha : FA X PN σ0 W e a) (hl : FL X PN σ0 W es l) (hs : starEach (e :: es) X.env = (false, eval e X.env) :: starEach es X.env := by rfl) : FL X PN σ0 W (e :: es) (lCons a l) := by
  obtain ⟨ta, pa, qa⟩ := ha.ex
  obtain ⟨tl, pl, ql⟩ := hl.ex
  refine ⟨_, pa_cons pa pl hs, fun F B H σ ρ Q S q => qa F B H σ ρ _ S ?_⟩
  unfold lCons at q
  cases ea : a ρ with
  | bad => rw [ea] at q; exact q
  | exc c fs ρ1 => rw [ea] at q; exact q
  | ok t1 ρ1 =>
    rw [ea] at q
    intro x H1 B1 e1 S1 k1
    refine ql F B1 H1 σ ρ1 _ S1 ?_
    simp only [R.bind] at q
    cases el : l ρ1 with
    | bad => rw [el] at q; exact q
    | exc c fs ρ2 => rw [el] at q; exact fun cls od H' B' e S' z => q cls od H' B' (e1.trans e) S' z
    | ok ts ρ2 =>
      rw [el] at q
      intro vs H2 B2 e2 S2 hl k2
      refine q (x :: vs) H2 B2 (e1.trans e2) S2 (by simp [hl]) fun i v th hv ht => ?_
      cases i with
      | zero =>
        simp at hv ht
        subst hv ht
        exact fun B3 H3 ρ3 d e3 S3 h => k1 B3 H3 ρ3 d (e2.trans e3) S3 h
      | succ i => exact k2 i v th (by simpa using hv) (by simpa using ht)
def evTh : List Th → En → Option (List D)
  | [], _ => some []
  | t :: ts, ρ => (t ρ).bind fun d => (evTh ts ρ).bind fun ds => some (d :: ds)
def xL (g : List D → Option Sl) (l : En → R (List Th)) : FX := fun ρ => (l ρ).bind fun ts ρ1 => ofO ((evTh ts ρ1).bind g) ρ1
theorem paired_of {B H : Hp} {ρ : En} : ∀ {vs : List L2.V} {ts : List Th} {ds : List D}, vs.length = ts.length → (∀ (i : Nat) (v : L2.V) (th : Th), vs[i]? = some v → ts[i]? = some th → ∀ d, th ρ = some d → LRep X B H v d) → evTh ts ρ = some ds → Paired (LRep X B H) vs ds
  | [], [], ds, _, _, h => by cases h; exact .nil
  | [], _ :: _, _, hl, _, _ => by simp at hl
  | _ :: _, [], _, hl, _, _ => by simp at hl
  | v :: vs, t :: ts, ds, hl, k, h => by
    unfold evTh at h
    cases e1 : t ρ with
    | none => rw [e1] at h; cases h
    | some d =>
      rw [e1] at h
      cases e2 : evTh ts ρ with
      | none => rw [e2] at h; cases h
      | some ds' =>
        rw [e2] at h
        cases h
        exact .cons (k 0 v t rfl rfl d e1) (paired_of (by simpa using hl) (fun i v' th h1 h2 => k (i + 1) v' th (by simpa using h1) (by simpa using h2)) e2)
theorem finL {t : TA} {l : En → R (List Th)} {r : List L2.V → Hp → VK → Prop} {g : List D → Option Sl} (hr : OpN X r g)
    (hl : ∀ F B H σ ρ Q, Sat X.K X.mg PN σ0 F B H σ ρ → LPost X PN σ0 W F B σ (l ρ) Q → t σ H Q)
    (S : Sat X.K X.mg PN σ0 F B H σ ρ) (q : EPost X PN σ0 W F B σ (xL g l ρ) Q) : t σ H (fun vs H1 => r vs H1 Q) := by
  unfold xL at q
  refine hl F B H σ ρ _ S ?_
  cases el : l ρ with
  | bad => rw [el] at q; exact q
  | exc c fs ρ1 => rw [el] at q; exact q
  | ok ts ρ1 =>
    rw [el, R.bind_ok] at q
    intro vs H1 B1 e1 S1 hl k1
    cases h1 : evTh ts ρ1 with
    | none => rw [h1] at q; exact q.elim
    | some ds =>
      rw [h1] at q
      simp only [Option.bind_some] at q
      cases hg : g ds with
      | none => rw [hg] at q; exact q.elim
      | some s =>
        rw [hg] at q
        exact hr PN σ0 F B1 H1 σ ρ1 vs ds s Q S1 (paired_of hl (fun i v th a b d hd => k1 i v th a b B1 H1 ρ1 d (Ext.refl B1) S1 hd) h1) hg fun v H' B' e S' z => q v H' B' (e1.trans e) S' z
/-- a built-in's name that the module leaves -/
structure Blt (X : Cx) (x : Str) : Prop where
  gl : Gl X x
  no : X.mg x = none
theorem fe_callB {x : Str} {p pos : Pos} {e : Expr} {es : List Expr} {id : String} {r : List L2.V → Hp → VK → Prop} {g : List D → Option Sl} {l : En → R (List Th)} (hc : CallR X (.builtin id) r) (hr : OpN X r g) (b : Blt X x) (hv : bootBuiltins x = some (.builtin id)) (ha : FL X PN σ0 W (e :: es) l)
    (hn : x ≠ "__name__" := by decide) (hdb : (x == ("__debug__" : Str)) = false := by decide)
    (he : starEach (e :: es) X.env = (false, eval e X.env) :: starEach es X.env := by rfl) (hpl : (backTo pos (starEach es X.env)).any (·.1) = false := by rfl) : FE X PN σ0 W (.Call (.Name x p) (e :: es) [] pos) (xL g l) := by
  obtain ⟨t, pt, qt⟩ := ha.ex
  exact ⟨_, pe_callB hc b.gl b.no hv pt hn hdb he hpl, fun F B H σ ρ Q S q => finL hr qt S q⟩
theorem fe_callT {x : Str} {p pos : Pos} {e : Expr} {es : List Expr} {T : String} {r : List L2.V → Hp → VK → Prop} {g : List D → Option Sl} {l : En → R (List Th)} (hc : CallR X (.type T) r) (hr : OpN X r g) (b : Blt X x) (hv : bootBuiltins x = some (.type T)) (ha : FL X PN σ0 W (e :: es) l)
    (hn : x ≠ "__name__" := by decide) (hdb : (x == ("__debug__" : Str)) = false := by decide)
    (he : starEach (e :: es) X.env = (false, eval e X.env) :: starEach es X.env := by rfl) (hpl : (backTo pos (starEach es X.env)).any (·.1) = false := by rfl) : FE X PN σ0 W (.Call (.Name x p) (e :: es) [] pos) (xL g l) := by
  obtain ⟨t, pt, qt⟩ := ha.ex
  exact ⟨_, pe_callTy hc b.gl b.no hv pt hn hdb he hpl, fun F B H σ ρ Q S q => finL hr qt S q⟩
/-- [a, b], (a, b) -/
theorem repL_of {B : Hp} : ∀ {vs : List L2.V} {ds : List D}, Paired (fun v d => Rep X.K X.mg B v d) vs ds → RepL X.K X.mg B vs ds
  | _, _, .nil => .nil
  | _, _, .cons p q => .cons p (repL_of q)
end
end FV

namespace FV
open PySem PySem.Spec PyProof.Rows L2

/-! ### arguments of an own def: frozen data, or a held thing lent -/
inductive Ar where
  | fz (d : D) | sl (i : Nat)
def ArOk (X : Cx) (B : Hp) (σ : L2.St) (v : L2.V) : Ar → Prop
  | .fz d => Rep X.K X.mg B v d
  | .sl i => σ[i]? = some (some v)
def CPost (X : Cx) (PN : List Nat) (σ0 : Gs) (W : WX) (F B : Hp) (σ : L2.St) (r : R (List Ar)) (Q : List L2.V → Hp → Prop) : Prop := match r with
  | .ok ars ρ' => ∀ vs H' B', Ext B B' → Sat X.K X.mg PN σ0 F B' H' σ ρ' → Paired (ArOk X B' σ) vs ars → Q vs H'
  | .exc c fs ρ' => ∀ cls od H' B', Ext B B' → Sat X.K X.mg PN σ0 F B' H' σ ρ' → ExcOk X.K X.mg B' c fs cls od → W cls od σ H'
  | .bad => False
structure FC (X : Cx) (PN : List Nat) (σ0 : Gs) (W : WX) (es : List Expr) (g : En → R (List Ar)) : Prop where
  ex : ∃ t : TA, PA X es t ∧ ∀ F B H σ ρ Q, Sat X.K X.mg PN σ0 F B H σ ρ → CPost X PN σ0 W F B σ (g ρ) Q → t σ H Q
section
variable {X : Cx} {PN : List Nat} {σ0 : Gs} {W : WX} {F B B' H : Hp} {σ : L2.St} {ρ : En} {s : Sl} {Q : VK}
theorem ArOk.mono {v : L2.V} {a : Ar} (e : Ext B B') (h : ArOk X B σ v a) : ArOk X B' σ v a := by
  cases a with
  | fz d => exact Rep.mono e h
  | sl i => exact h
def cNil : En → R (List Ar) := fun ρ => .ok [] ρ
def cX (f : FX) (l : En → R (List Ar)) : En → R (List Ar) := fun ρ => (f ρ).bind fun s ρ1 => match s with
  | .fz d => (l ρ1).bind fun ars ρ2 => .ok (.fz d :: ars) ρ2
  | .ow d => (l ρ1).bind fun ars ρ2 => .ok (.fz d :: ars) ρ2
  | .no => .bad
def cO (i : Nat) (l : En → R (List Ar)) : En → R (List Ar) := fun ρ => match ρ[i]? with
  | some (.ow _) => (l ρ).bind fun ars ρ2 => .ok (.sl i :: ars) ρ2
  | _ => .bad
theorem fc_nil : FC X PN σ0 W [] cNil := ⟨_, pa_nil, fun F B H σ ρ Q S q => q [] H B (Ext.refl B) S .nil⟩
theorem fc_x {e : Expr} {es : List Expr} {f : FX} {l : En → R (List Ar)} (ha : FE X PN σ0 W e f) (hl : FC X PN σ0 W es l) (hs : starEach (e :: es) X.env = (false, eval e X.env) :: starEach es X.env := by rfl) : FC X PN σ0 W (e :: es) (cX f l) := by
  obtain ⟨ta, pa, qa⟩ := (fe_f ha).ex
  obtain ⟨tl, pl, ql⟩ := hl.ex
  refine ⟨_, pa_cons pa pl hs, fun F B H σ ρ Q S q => qa F B H σ ρ _ S ?_⟩
  unfold cX at q
  unfold xF
  cases ea : f ρ with
  | bad => rw [ea] at q; exact q
  | exc c fs ρ1 => rw [ea] at q; exact q
  | ok s ρ1 =>
    rw [ea, R.bind_ok] at q
    rw [R.bind_ok]
    have key : ∀ d, CPost X PN σ0 W F B σ ((l ρ1).bind fun ars ρ2 => .ok (.fz d :: ars) ρ2) Q → EPost X PN σ0 W F B σ (.ok (.fz d) ρ1) (fun x H1 => tl σ H1 fun xs H2 => Q (x :: xs) H2) := fun d q => by
      intro x H1 B1 e1 S1 k1
      refine ql F B1 H1 σ ρ1 _ S1 ?_
      cases el : l ρ1 with
      | bad => rw [el] at q; exact q
      | exc c fs ρ2 => rw [el] at q; exact fun cls od H' B' e S' z => q cls od H' B' (e1.trans e) S' z
      | ok ts ρ2 =>
        rw [el] at q
        intro vs H2 B2 e2 S2 k2
        exact q (x :: vs) H2 B2 (e1.trans e2) S2 (.cons (Rep.mono e2 k1) k2)
    cases s with
    | no => exact q.elim
    | fz d => exact key d q
    | ow d => exact key d q
theorem fc_o {M L : List Bool} (N : NamesOk X M L) (i : Nat) {x : Str} {pos : Pos} {es : List Expr} {l : En → R (List Ar)} (hl : FC X PN σ0 W es l) (h : X.N[i]? = some x := by rfl) (hm : M[i]? = some true := by rfl)
    (hs : starEach (.Name x pos :: es) X.env = (false, eval (.Name x pos) X.env) :: starEach es X.env := by rfl) : FC X PN σ0 W (.Name x pos :: es) (cO i l) := by
  obtain ⟨tl, pl, ql⟩ := hl.ex
  refine ⟨_, pa_cons (N.pe i h hm) pl hs, fun F B H σ ρ Q S q => ?_⟩
  unfold cO at q
  split at q
  · rename_i d e
    obtain ⟨a, h1, _⟩ := S.sl i _ e
    refine ⟨_, h1, ql F B H σ ρ _ S ?_⟩
    cases el : l ρ with
    | bad => rw [el] at q; exact q
    | exc c fs ρ2 => rw [el] at q; exact q
    | ok ts ρ2 =>
      rw [el] at q
      exact fun vs H2 B2 e2 S2 k2 => q (_ :: vs) H2 B2 e2 S2 (.cons h1 k2)
  · exact q.elim

/-! ### displays -/
def dsOf : List Ar → Option (List D)
  | [] => some []
  | .fz d :: r => (dsOf r).bind fun ds => some (d :: ds)
  | .sl _ :: _ => none
theorem dsOf_rep : ∀ {vs : List L2.V} {ars : List Ar} {ds : List D}, Paired (ArOk X B σ) vs ars → dsOf ars = some ds → RepL X.K X.mg B vs ds
  | _, _, _, .nil, h => by cases h; exact .nil
  | _, _, _, .cons (b := a) p q, h => by
    cases a with
    | sl i => cases h
    | fz d =>
      unfold dsOf at h
      rename_i ars
      cases e : dsOf ars with
      | none => rw [e] at h; cases h
      | some ds' => rw [e] at h; cases h; exact .cons p (dsOf_rep q e)
def xLst (l : En → R (List Ar)) : FX := fun ρ => (l ρ).bind fun ars ρ1 => match dsOf ars with
  | some ds => if ds.length ≤ 1000 then .ok (.ow (.lst ds)) ρ1 else .bad
  | none => .bad
def xTup (l : En → R (List Ar)) : FX := fun ρ => (l ρ).bind fun ars ρ1 => match dsOf ars with
  | some ds => if ds.length ≤ 1000 then .ok (.fz (.tup ds)) ρ1 else .bad
  | none => .bad
theorem fe_lst {es : List Expr} {pos : Pos} {l : En → R (List Ar)} (h : FC X PN σ0 W es l) : FE X PN σ0 W (.List es pos) (xLst l) := by
  obtain ⟨t, pt, qt⟩ := h.ex
  refine ⟨_, pe_lst pt, fun F B H σ ρ Q S q => qt F B H σ ρ _ S ?_⟩
  unfold xLst at q
  cases el : l ρ with
  | bad => rw [el] at q; exact q
  | exc c fs ρ2 => rw [el] at q; exact q
  | ok ars ρ1 =>
    rw [el, R.bind_ok] at q
    intro vs H1 B1 e1 S1 k1
    cases ed : dsOf ars with
    | none => rw [ed] at q; exact q.elim
    | some ds =>
      rw [ed] at q
      simp only at q
      have r := dsOf_rep k1 ed
      split at q
      · rename_i hz
        exact ⟨by rw [r.length]; exact Nat.le_trans hz (by decide), Fin.newL S1 (fun v H' B' e S' z => q v H' B' (e1.trans e) S' z) r⟩
      · exact q.elim
theorem fe_tup {es : List Expr} {x1 : Nat} {pos : Pos} {l : En → R (List Ar)} (h : FC X PN σ0 W es l) : FE X PN σ0 W (.Tuple es x1 pos) (xTup l) := by
  obtain ⟨t, pt, qt⟩ := h.ex
  refine ⟨_, pe_tup pt, fun F B H σ ρ Q S q => qt F B H σ ρ _ S ?_⟩
  unfold xTup at q
  cases el : l ρ with
  | bad => rw [el] at q; exact q
  | exc c fs ρ2 => rw [el] at q; exact q
  | ok ars ρ1 =>
    rw [el, R.bind_ok] at q
    intro vs H1 B1 e1 S1 k1
    cases ed : dsOf ars with
    | none => rw [ed] at q; exact q.elim
    | some ds =>
      rw [ed] at q
      simp only at q
      have r := dsOf_rep k1 ed
      split at q
      · rename_i hz
        exact ⟨by rw [r.length]; exact Nat.le_trans hz (by decide), Fin.newT S1 (fun v H' B' e S' z => q v H' B' (e1.trans e) S' z) r⟩
      · exact q.elim
end

/-! ### what a def promises -/
abbrev GF := En → R Fl
def spF (K : PySem.W.Frag) (mg : Str → Option Value) (own : List Bool) (G : GF) : Sp := fun vs H Q E =>
  vs.length = own.length ∧ ∃ F B ρ, ρ.length = own.length ∧ Sat K mg [] {} F B H (vs.map some) ρ ∧ (∀ (i : Nat) (d : D), ρ[i]? = some (Sl.ow d) → own[i]? = some true) ∧
    match G ρ with
    | .ok .nx ρ' => ∀ H' B', Ext B B' → Sat K mg [] {} F B' H' (vs.map some) ρ' → Q .non H'
    | .ok (.rt s) ρ' => ∀ v H' B', Ext B B' → Sat K mg [] {} F B' H' (vs.map some) ρ' → VOk K mg F B' H' (vs.map some) ρ' v s → Q v H'
    | .ok _ _ => False
    | .exc c fs ρ' => ∀ cls od H' B', Ext B B' → Sat K mg [] {} F B' H' (vs.map some) ρ' → ExcOk K mg B' c fs cls od → E cls od H'
    | .bad => False
def slots : List Ar → List Nat
  | [] => []
  | .fz _ :: r => slots r
  | .sl i :: r => i :: slots r
theorem mem_slots : ∀ {ars : List Ar} {i : Nat}, i ∈ slots ars ↔ ∃ j : Nat, ars[j]? = some (Ar.sl i)
  | [], i => by simp [slots]
  | .fz d :: r, i => by
    rw [slots, mem_slots]
    constructor
    · rintro ⟨j, h⟩; exact ⟨j + 1, by simpa using h⟩
    · rintro ⟨j, h⟩
      cases j with
      | zero => simp at h
      | succ j => exact ⟨j, by simpa using h⟩
  | .sl k :: r, i => by
    rw [slots, List.mem_cons, mem_slots]
    constructor
    · rintro (h | ⟨j, h⟩)
      · exact ⟨0, by simp [h]⟩
      · exact ⟨j + 1, by simpa using h⟩
    · rintro ⟨j, h⟩
      cases j with
      | zero => simp at h; exact .inl h.symm
      | succ j => exact .inr ⟨j, by simpa using h⟩
theorem slots_inj : ∀ {ars : List Ar} {i j k : Nat}, (slots ars).Nodup → ars[j]? = some (Ar.sl i) → ars[k]? = some (Ar.sl i) → j = k
  | [], i, j, k, _, h, _ => by simp at h
  | .fz d :: r, i, j, k, nd, h1, h2 => by
    cases j with
    | zero => simp at h1
    | succ j =>
      cases k with
      | zero => simp at h2
      | succ k =>
        have z := slots_inj (ars := r) (i := i) (j := j) (k := k) nd (by simpa using h1) (by simpa using h2)
        rw [z]
  | .sl m :: r, i, j, k, nd, h1, h2 => by
    rw [slots, List.nodup_cons] at nd
    cases j with
    | zero =>
      cases k with
      | zero => rfl
      | succ k =>
        simp at h1 h2
        subst h1
        exact (nd.1 (mem_slots.mpr ⟨k, h2⟩)).elim
    | succ j =>
      cases k with
      | zero =>
        simp at h1 h2
        subst h2
        exact (nd.1 (mem_slots.mpr ⟨j, h1⟩)).elim
      | succ k =>
        have z := slots_inj (ars := r) (i := i) (j := j) (k := k) nd.2 (by simpa using h1) (by simpa using h2)
        rw [z]
def argEn1 (ρ : En) : Ar → Option Sl
  | .fz d => some (.fz d)
  | .sl i => match ρ[i]? with
    | some (.ow d) => some (.ow d)
    | _ => none
theorem argEn1_sl {ρ : En} {i : Nat} {s : Sl} (h : argEn1 ρ (.sl i) = some s) : ∃ d, ρ[i]? = some (Sl.ow d) ∧ s = .ow d := by
  have h' : (match ρ[i]? with
    | some (Sl.ow d) => some (Sl.ow d)
    | _ => none) = some s := h
  split at h'
  · rename_i d e
    exact ⟨d, e, (Option.some.inj h').symm⟩
  · cases h'
theorem argEn1_fz {ρ : En} {d : D} {s : Sl} (h : argEn1 ρ (.fz d) = some s) : s = .fz d := (Option.some.inj h).symm
def argEn : List Ar → En → Option En
  | [], _ => some []
  | a :: r, ρ => (argEn1 ρ a).bind fun s => (argEn r ρ).bind fun l => some (s :: l)
theorem argEn_get : ∀ {ars : List Ar} {ρ ρa : En} {j : Nat} {s : Sl}, argEn ars ρ = some ρa → ρa[j]? = some s → ∃ a, ars[j]? = some a ∧ argEn1 ρ a = some s
  | [], ρ, ρa, j, s, h, k => by cases h; simp at k
  | a :: r, ρ, ρa, j, s, h, k => by
    unfold argEn at h
    cases e1 : argEn1 ρ a with
    | none => rw [e1] at h; cases h
    | some t =>
      rw [e1] at h
      cases e2 : argEn r ρ with
      | none => rw [e2] at h; cases h
      | some l =>
        rw [e2] at h
        cases h
        cases j with
        | zero => simp at k; subst k; exact ⟨a, rfl, e1⟩
        | succ j =>
          obtain ⟨b, h1, h2⟩ := argEn_get (j := j) (s := s) e2 (by simpa using k)
          exact ⟨b, by simpa using h1, h2⟩
theorem argEn_len : ∀ {ars : List Ar} {ρ ρa : En}, argEn ars ρ = some ρa → ρa.length = ars.length
  | [], ρ, ρa, h => by cases h; rfl
  | a :: r, ρ, ρa, h => by
    unfold argEn at h
    cases e1 : argEn1 ρ a with
    | none => rw [e1] at h; cases h
    | some t =>
      rw [e1] at h
      cases e2 : argEn r ρ with
      | none => rw [e2] at h; cases h
      | some l =>
        rw [e2] at h
        cases h
        simp [argEn_len e2]
/-- what was lent comes back -/
def back : List Ar → En → En → En
  | [], _, ρ => ρ
  | .fz _ :: r, ρa, ρ => back r ρa.tail ρ
  | .sl i :: r, ρa, ρ => back r ρa.tail (ρ.set i (ρa.headD .no))
theorem back_len : ∀ {ars : List Ar} {ρa ρ : En}, (back ars ρa ρ).length = ρ.length
  | [], _, _ => rfl
  | .fz _ :: r, ρa, ρ => back_len (ars := r)
  | .sl i :: r, ρa, ρ => by rw [back, back_len (ars := r), List.length_set]
theorem back_get : ∀ {ars : List Ar} {ρa ρ : En} {i : Nat} {s : Sl}, (back ars ρa ρ)[i]? = some s → (i ∉ slots ars ∧ ρ[i]? = some s) ∨ (∃ j : Nat, ars[j]? = some (Ar.sl i) ∧ (s = .no ∨ ρa[j]? = some s))
  | [], ρa, ρ, i, s, h => .inl ⟨by simp [slots], h⟩
  | .fz _ :: r, ρa, ρ, i, s, h => by
    rcases back_get (ars := r) h with ⟨h1, h2⟩ | ⟨j, h1, h2⟩
    · exact .inl ⟨h1, h2⟩
    · refine .inr ⟨j + 1, by simpa using h1, h2.imp id fun h2 => ?_⟩
      cases ρa with
      | nil => simp at h2
      | cons x xs => simpa using h2
  | .sl k :: r, ρa, ρ, i, s, h => by
    rcases back_get (ars := r) h with ⟨h1, h2⟩ | ⟨j, h1, h2⟩
    · by_cases e : k = i
      · subst e
        rw [List.getElem?_set_self'] at h2
        cases q : ρ[k]? with
        | none => rw [q] at h2; cases h2
        | some t =>
          rw [q] at h2
          cases h2
          refine .inr ⟨0, rfl, ?_⟩
          cases ρa with
          | nil => exact .inl rfl
          | cons x xs => exact .inr rfl
      · rw [List.getElem?_set_ne e] at h2
        exact .inl ⟨by rw [slots, List.mem_cons]; rintro (z | z); exact e z.symm; exact h1 z, h2⟩
    · refine .inr ⟨j + 1, by simpa using h1, h2.imp id fun h2 => ?_⟩
      cases ρa with
      | nil => simp at h2
      | cons x xs => simpa using h2
def arsOk : List Bool → List Ar → Bool
  | [], [] => true
  | _ :: bs, .fz _ :: r => arsOk bs r
  | true :: bs, .sl _ :: r => arsOk bs r
  | _, _ => false
theorem arsOk_len : ∀ {own : List Bool} {ars : List Ar}, arsOk own ars = true → ars.length = own.length
  | [], [], _ => rfl
  | [], .fz _ :: _, h => by simp [arsOk] at h
  | [], .sl _ :: _, h => by simp [arsOk] at h
  | _ :: _, [], h => by simp [arsOk] at h
  | b :: bs, .fz d :: r, h => by
    have h' : arsOk bs r = true := by cases b <;> exact h
    simp [arsOk_len h']
  | true :: bs, .sl i :: r, h => by simp [arsOk_len (own := bs) (ars := r) h]
  | false :: bs, .sl i :: r, h => by simp [arsOk] at h
theorem arsOk_at : ∀ {own : List Bool} {ars : List Ar} {i j : Nat}, arsOk own ars = true → ars[j]? = some (Ar.sl i) → own[j]? = some true
  | [], [], _, _, _, h => by simp at h
  | [], .fz _ :: _, _, _, h, _ => by simp [arsOk] at h
  | [], .sl _ :: _, _, _, h, _ => by simp [arsOk] at h
  | _ :: _, [], _, _, h, _ => by simp [arsOk] at h
  | b :: bs, .fz d :: r, i, j, h, k => by
    have h' : arsOk bs r = true := by cases b <;> exact h
    cases j with
    | zero => simp at k
    | succ j => simpa using arsOk_at (own := bs) (ars := r) (j := j) h' (by simpa using k)
  | true :: bs, .sl m :: r, i, j, h, k => by
    cases j with
    | zero => rfl
    | succ j => simpa using arsOk_at (own := bs) (ars := r) (j := j) h (by simpa using k)
  | false :: bs, .sl m :: r, _, _, h, _ => by simp [arsOk] at h
/-- a def's end, at the caller -/
def endC (ars : List Ar) (ρ1 : En) (r : R Fl) : R Sl := match r with
  | .ok .nx ρa' => .ok (.fz .non) (back ars ρa' ρ1)
  | .ok (.rt s) ρa' => .ok s (back ars ρa' ρ1)
  | .ok _ _ => .bad
  | .exc c fs ρa' => .exc c fs (back ars ρa' ρ1)
  | .bad => .bad
def goC (own : List Bool) (G : GF) (ars : List Ar) (ρ1 : En) : R Sl :=
  if arsOk own ars = true ∧ (slots ars).Nodup then match argEn ars ρ1 with
  | none => .bad
  | some ρa => endC ars ρ1 (G ρa)
  else .bad
def xCall (own : List Bool) (G : GF) (l : En → R (List Ar)) : FX := fun ρ => (l ρ).bind fun ars ρ1 => goC own G ars ρ1

section
variable {X : Cx} {PN : List Nat} {σ0 : Gs} {W : WX} {F B B' H H' : Hp} {σ : L2.St} {ρ ρa ρa' : En} {s : Sl} {Q : VK} {vs : List L2.V} {ars : List Ar}
theorem paired_at {α β : Type} {G : α → β → Prop} {l₁ : List α} {l₂ : List β} (h : Paired G l₁ l₂) : ∀ {i : Nat} {b : β}, l₂[i]? = some b → ∃ a, l₁[i]? = some a ∧ G a b := by
  induction h with
  | nil => intro i b e; simp at e
  | cons p q ih =>
    intro i b e
    cases i with
    | zero => simp at e; subst e; exact ⟨_, rfl, p⟩
    | succ i =>
      obtain ⟨a, h1, h2⟩ := ih (i := i) (b := b) (by simpa using e)
      exact ⟨a, by simpa using h1, h2⟩
/-- another held thing of the caller's -/
def Oth (σ : L2.St) (ρ : En) (ars : List Ar) (b : Addr) : Prop := ∃ i d, ρ[i]? = some (Sl.ow d) ∧ σ[i]? = some (some (V.ref b)) ∧ i ∉ slots ars
open Classical in
noncomputable def foreign (F H : Hp) (σ : L2.St) (ρ : En) (ars : List Ar) : Hp := fun b => if Oth σ ρ ars b then H b else F b
theorem map_some_get {vs : List L2.V} {j : Nat} {v : L2.V} : (vs.map some)[j]? = some (some v) ↔ vs[j]? = some v := by
  rw [List.getElem?_map]
  cases vs[j]? <;> simp
theorem Sat.lend (S : Sat X.K X.mg PN σ0 F B H σ ρ) (k : Paired (ArOk X B σ) vs ars) (nd : (slots ars).Nodup) (ha : argEn ars ρ = some ρa) : Sat X.K X.mg [] {} (foreign F H σ ρ ars) B H (vs.map some) ρa := by
  have hown : ∀ (j : Nat) (d : D), ρa[j]? = some (Sl.ow d) → ∃ i a, ars[j]? = some (Ar.sl i) ∧ ρ[i]? = some (Sl.ow d) ∧ vs[j]? = some (V.ref a) ∧ σ[i]? = some (some (V.ref a)) ∧ F a = none ∧ B a = none ∧ OwnD X.K X.mg B H a d := fun j d h => by
    obtain ⟨a, h1, h2⟩ := argEn_get ha h
    cases a with
    | fz d' => cases argEn1_fz h2
    | sl i =>
      obtain ⟨d', e, z⟩ := argEn1_sl h2
      cases z
      obtain ⟨v, hv, hσ⟩ := paired_at k h1
      obtain ⟨a, g1, g2, g3, g4⟩ := S.sl i _ e
      have hσ' : σ[i]? = some (some v) := hσ
      rw [g1] at hσ'
      cases hσ'
      exact ⟨i, a, h1, e, hv, g1, g2, g3, g4⟩
  refine ⟨?_, fun i h => by simp at h, fun p h => by simp at h, S.bh, fun b o h => ?_, fun j s h => ?_, fun i j a d d' h1 h2 e1 e2 => ?_⟩
  · rw [List.length_map, argEn_len ha]
    exact Nat.le_of_eq k.length.symm
  · unfold foreign at h
    split at h
    · rename_i ho
      obtain ⟨i, d, g1, g2, g3⟩ := ho
      obtain ⟨a, q1, q2, q3, q4⟩ := S.sl i _ g1
      rw [g2] at q1; cases q1
      exact ⟨h, q3⟩
    · exact S.fh b o h
  · cases s with
    | no => trivial
    | fz d =>
      obtain ⟨a, h1, h2⟩ := argEn_get ha h
      cases a with
      | fz d' =>
        cases argEn1_fz h2
        obtain ⟨v, hv, r⟩ := paired_at k h1
        exact ⟨v, map_some_get.mpr hv, r⟩
      | sl i => obtain ⟨_, _, z⟩ := argEn1_sl h2; cases z
    | ow d =>
      obtain ⟨i, a, h1, h2, h3, h4, h5, h6, h7⟩ := hown j d h
      refine ⟨a, map_some_get.mpr h3, ?_, h6, h7⟩
      unfold foreign
      rw [if_neg]
      · exact h5
      · rintro ⟨i', d', g1, g2, g3⟩
        have := S.dj i i' a d d' h2 g1 h4 g2
        subst this
        exact g3 (mem_slots.mpr ⟨j, h1⟩)
  · obtain ⟨m, a1, h3, h4, h5, h6, _⟩ := hown i d h1
    obtain ⟨n, a2, k3, k4, k5, k6, _⟩ := hown j d' h2
    have z1 := map_some_get.mp e1
    have z2 := map_some_get.mp e2
    rw [h5] at z1; cases z1
    rw [k5] at z2; cases z2
    have := S.dj m n a d d' h4 k4 h6 k6
    subst this
    exact slots_inj nd h3 k3
theorem Sat.unlend (S : Sat X.K X.mg PN σ0 F B H σ ρ) (k : Paired (ArOk X B σ) vs ars) (nd : (slots ars).Nodup) (e : Ext B B') (C : Sat X.K X.mg [] {} (foreign F H σ ρ ars) B' H' (vs.map some) ρa') :
    Sat X.K X.mg PN σ0 F B' H' σ (back ars ρa' ρ) ∧ ∀ v, VOk X.K X.mg (foreign F H σ ρ ars) B' H' (vs.map some) ρa' v s → VOk X.K X.mg F B' H' σ (back ars ρa' ρ) v s := by
  have foth : ∀ b, Oth σ ρ ars b → ∃ o, H b = some o ∧ foreign F H σ ρ ars b = some o ∧ H' b = some o ∧ B' b = none := fun b ho => by
    obtain ⟨i, d, g1, g2, g3⟩ := id ho
    obtain ⟨a, q1, q2, q3, q4⟩ := S.sl i _ g1
    rw [g2] at q1; cases q1
    obtain ⟨o, h⟩ := q4.there
    have hf : foreign F H σ ρ ars b = some o := by unfold foreign; rw [if_pos ho]; exact h
    exact ⟨o, h, hf, (C.fh b o hf).1, (C.fh b o hf).2⟩
  have fno : ∀ b, foreign F H σ ρ ars b = none → ¬ Oth σ ρ ars b ∧ F b = none := fun b h => by
    have h1 : ¬ Oth σ ρ ars b := fun ho => by
      obtain ⟨o, _, z, _⟩ := foth b ho
      rw [h] at z; cases z
    refine ⟨h1, ?_⟩
    unfold foreign at h
    rw [if_neg h1] at h
    exact h
  have lent : ∀ (i : Nat) (d : D), (back ars ρa' ρ)[i]? = some (Sl.ow d) → (i ∉ slots ars ∧ ρ[i]? = some (Sl.ow d)) ∨ ∃ (j : Nat) (a : Addr), ars[j]? = some (Ar.sl i) ∧ ρa'[j]? = some (Sl.ow d) ∧ (vs.map some)[j]? = some (some (V.ref a)) ∧ σ[i]? = some (some (V.ref a)) ∧ foreign F H σ ρ ars a = none ∧ B' a = none ∧ OwnD X.K X.mg B' H' a d := fun i d h => by
    rcases back_get h with h | ⟨j, h1, h2⟩
    · exact .inl h
    · rcases h2 with h2 | h2
      · cases h2
      · obtain ⟨a, g1, g2, g3, g4⟩ := C.sl j _ h2
        obtain ⟨v, hv, hσ⟩ := paired_at k h1
        have hσ' : σ[i]? = some (some v) := hσ
        have := map_some_get.mp g1
        rw [hv] at this; cases this
        exact .inr ⟨j, a, h1, h2, g1, hσ', g2, g3, g4⟩
  refine ⟨⟨?_, S.pin, fun p hp => ⟨e.xd (S.gh p hp).1, (S.gh p hp).2.mono e⟩, C.bh, fun b o h => ?_, fun i t h => ?_, fun i j a d d' h1 h2 e1 e2 => ?_⟩, fun v hv => ?_⟩
  · rw [back_len]; exact S.len
  · have hn : ¬ Oth σ ρ ars b := fun ho => by
      obtain ⟨i, d, g1, g2, g3⟩ := id ho
      obtain ⟨a, q1, q2, q3, q4⟩ := S.sl i _ g1
      rw [g2] at q1; cases q1
      rw [h] at q2; cases q2
    have hf : foreign F H σ ρ ars b = some o := by unfold foreign; rw [if_neg hn]; exact h
    exact C.fh b o hf
  · cases t with
    | no => trivial
    | fz d =>
      rcases back_get h with ⟨h1, h2⟩ | ⟨j, h1, h2⟩
      · obtain ⟨v, g1, g2⟩ := S.sl i _ h2
        exact ⟨v, g1, g2.mono e⟩
      · rcases h2 with h2 | h2
        · cases h2
        · obtain ⟨v, g1, g2⟩ := C.sl j _ h2
          obtain ⟨v', hv, hσ⟩ := paired_at k h1
          have := map_some_get.mp g1
          rw [hv] at this; cases this
          exact ⟨_, hσ, g2⟩
    | ow d =>
      rcases lent i d h with ⟨h1, h2⟩ | ⟨j, a, h1, h2, h3, h4, h5, h6, h7⟩
      · obtain ⟨a, g1, g2, g3, g4⟩ := S.sl i _ h2
        obtain ⟨o, z1, z2, z3, z4⟩ := foth a ⟨i, d, h2, g1, h1⟩
        exact ⟨a, g1, g2, z4, (g4.mono e).at (z3.trans z1.symm)⟩
      · exact ⟨a, h4, (fno a h5).2, h6, h7⟩
  · rcases lent i d h1 with ⟨m1, m2⟩ | ⟨j1, a1, m1, m2, m3, m4, m5, m6, m7⟩
    · rcases lent j d' h2 with ⟨n1, n2⟩ | ⟨j2, a2, n1, n2, n3, n4, n5, n6, n7⟩
      · exact S.dj i j a d d' m2 n2 e1 e2
      · rw [e2] at n4; cases n4
        exact ((fno a n5).1 ⟨i, d, m2, e1, m1⟩).elim
    · rw [e1] at m4; cases m4
      rcases lent j d' h2 with ⟨n1, n2⟩ | ⟨j2, a2, n1, n2, n3, n4, n5, n6, n7⟩
      · exact ((fno a m5).1 ⟨j, d', n2, e2, n1⟩).elim
      · rw [e2] at n4; cases n4
        have := C.dj j1 j2 a d d' m2 n2 m3 n3
        subst this
        rw [m1] at n1
        cases n1
        rfl
  · cases s with
    | no => exact hv.elim
    | fz d => exact hv
    | ow d =>
      obtain ⟨a, rfl, g1, g2, g3, g4⟩ := hv
      refine ⟨a, rfl, (fno a g1).2, g2, g3, fun i d' h e => ?_⟩
      rcases lent i d' h with ⟨m1, m2⟩ | ⟨j1, a1, m1, m2, m3, m4, m5, m6, m7⟩
      · exact (fno a g1).1 ⟨i, d', m2, e, m1⟩
      · rw [e] at m4; cases m4
        exact g4 j1 d' m2 m3
/-- a call of an own def -/
theorem call_sp {own : List Bool} {G : GF} (S : Sat X.K X.mg PN σ0 F B H σ ρ) (k : Paired (ArOk X B σ) vs ars) (q : EPost X PN σ0 W F B σ (goC own G ars ρ) Q) :
    spF X.K X.mg own G vs H Q (fun cls od H' => W cls od σ H') := by
  unfold goC at q
  split at q
  · rename_i hc
    obtain ⟨h1, nd⟩ := hc
    split at q
    · exact q.elim
    · rename_i ρa ha
      refine ⟨by rw [k.length]; exact arsOk_len h1, foreign F H σ ρ ars, B, ρa, by rw [argEn_len ha]; exact arsOk_len h1, S.lend k nd ha, fun i d h => ?_, ?_⟩
      · obtain ⟨a, h3, h2⟩ := argEn_get ha h
        cases a with
        | fz d' => cases argEn1_fz h2
        | sl j => exact arsOk_at h1 h3
      · cases eg : G ρa with
        | bad => rw [eg] at q; exact q
        | exc c fs ρa' =>
          rw [eg] at q
          exact fun cls od H' B' e C z => q cls od H' B' e (S.unlend (s := .no) k nd e C).1 z
        | ok f ρa' =>
          cases f with
          | nx =>
            rw [eg] at q
            exact fun H' B' e C => q .non H' B' e (S.unlend (s := .no) k nd e C).1 .non
          | rt s =>
            rw [eg] at q
            exact fun v H' B' e C z => q v H' B' e (S.unlend (s := s) k nd e C).1 ((S.unlend (s := s) k nd e C).2 v z)
          | bk => rw [eg] at q; exact q
          | ct => rw [eg] at q; exact q
  · exact q.elim
/-- where an own def stands -/
structure DefAt (X : Cx) (k : Nat) (x : Str) (ps : List Str) (own : List Bool) (G : GF) : Prop where
  at_ : ∃ f fd, FnOk X.prog X.w X.K X.mg X.base (L2.CX X.prog X.w) k f fd ps (spF X.K X.mg own G) ∧ X.mg x = some (.ref f) ∧ PySem.W.keepIn X.K (.ref f) = true ∧ Binds X.K fd ps []
theorem fe_call {k : Nat} {x : Str} {ps : List Str} {own : List Bool} {G : GF} {p pos : Pos} {e : Expr} {es : List Expr} {l : En → R (List Ar)} (d : DefAt X k x ps own G) (hr : Room k X.A) (tk : Takes X W) (hg : Gl X x) (hl : FC X PN σ0 W (e :: es) l)
    (hdb : (x == ("__debug__" : Str)) = false := by decide) (he : starEach (e :: es) X.env = (false, eval e X.env) :: starEach es X.env := by rfl) (hpl : (backTo pos (starEach es X.env)).any (·.1) = false := by rfl) :
    FE X PN σ0 W (.Call (.Name x p) (e :: es) [] pos) (xCall own G l) := by
  obtain ⟨f, fd, hF, hm, hk, hb⟩ := d.at_
  obtain ⟨t, pt, qt⟩ := hl.ex
  refine ⟨_, pe_callS hF hr hg hm hk hb (fun σ => passAt tk σ) pt hdb he hpl, fun F B H σ ρ Q S q => qt F B H σ ρ _ S ?_⟩
  unfold xCall at q
  cases el : l ρ with
  | bad => rw [el] at q; exact q
  | exc c fs ρ2 => rw [el] at q; exact q
  | ok ars ρ1 =>
    rw [el, R.bind_ok] at q
    intro vs H1 B1 e1 S1 k1
    exact call_sp S1 k1 (EPost.mono e1 q)
end

/-! ### a def by its body -/
/-- what a def hands back of its parameters -/
def keepO : List Bool → En → En
  | [], _ => []
  | b :: bs, ρ => (if b then ρ.headD .no else .no) :: keepO bs ρ.tail
theorem keepO_get : ∀ {own : List Bool} {ρ : En} {i : Nat} {s : Sl}, (keepO own ρ)[i]? = some s → s = .no ∨ (own[i]? = some true ∧ ρ[i]? = some s)
  | [], _, _, _, h => by simp [keepO] at h
  | b :: bs, ρ, 0, s, h => by
    rw [keepO] at h
    simp at h
    subst h
    cases b with
    | false => exact .inl rfl
    | true =>
      cases ρ with
      | nil => exact .inl rfl
      | cons x r => exact .inr ⟨rfl, rfl⟩
  | b :: bs, ρ, i + 1, s, h => by
    rw [keepO] at h
    have h' : (keepO bs ρ.tail)[i]? = some s := by simpa using h
    rcases keepO_get h' with z | ⟨z1, z2⟩
    · exact .inl z
    · refine .inr ⟨by simpa using z1, ?_⟩
      cases ρ with
      | nil => simp at z2
      | cons x r => simpa using z2
theorem keepO_len : ∀ {own : List Bool} {ρ : En}, (keepO own ρ).length = own.length
  | [], _ => rfl
  | b :: bs, ρ => by rw [keepO, List.length_cons, List.length_cons, keepO_len]
def fnF (own : List Bool) (more : Nat) (g : FY) : GF := fun ρ => match g (ρ ++ List.replicate more .no) with
  | .ok f ρ' => .ok f (keepO own ρ')
  | .exc c fs ρ' => .exc c fs (keepO own ρ')
  | .bad => .bad
def pinsOf : Nat → List Bool → List Nat
  | _, [] => []
  | n, b :: bs => if b then n :: pinsOf (n + 1) bs else pinsOf (n + 1) bs
theorem mem_pinsOf : ∀ {own : List Bool} {n i : Nat}, own[i]? = some true → n + i ∈ pinsOf n own
  | [], n, i, h => by simp at h
  | b :: bs, n, 0, h => by simp at h; subst h; simp [pinsOf]
  | b :: bs, n, i + 1, h => by
    have q := mem_pinsOf (own := bs) (n := n + 1) (i := i) (by simpa using h)
    have e : n + (i + 1) = n + 1 + i := by omega
    rw [e]
    unfold pinsOf
    split
    · exact List.mem_cons_of_mem _ q
    · exact q
theorem start_get {N : List Str} {vs : List L2.V} {i : Nat} (h : i < vs.length) : (start N vs)[i]? = (vs.map some)[i]? := by
  unfold L2.start
  rw [List.getElem?_append_left (by simpa using h)]
section
variable {P : Program} {w : World} {K : PySem.W.Frag} {mg : Str → Option Value} {base : Heap}
theorem Sat.leave {own : List Bool} {N : List Str} {vs : List L2.V} {F B H : Hp} {σ : L2.St} {ρ : En} (hl : vs.length = own.length) (S : Sat K mg (pinsOf 0 own) ⟨L2.start N vs, []⟩ F B H σ ρ) :
    Sat K mg [] {} F B H (vs.map some) (keepO own ρ) ∧ ∀ v s, VOk K mg F B H σ ρ v s → VOk K mg F B H (vs.map some) (keepO own ρ) v s := by
  have pin : ∀ (i : Nat), own[i]? = some true → σ[i]? = (vs.map some)[i]? := fun i h => by
    have := mem_pinsOf (n := 0) h
    rw [Nat.zero_add] at this
    rw [S.pin i this]
    exact start_get (by rw [hl]; exact (List.getElem?_eq_some_iff.mp h).1)
  refine ⟨⟨?_, fun i h => by simp at h, fun p h => by simp at h, S.bh, S.fh, fun i s h => ?_, fun i j a d d' h1 h2 e1 e2 => ?_⟩, fun v s h => ?_⟩
  · rw [keepO_len, List.length_map, hl]; exact Nat.le_refl _
  · rcases keepO_get h with z | ⟨z1, z2⟩
    · subst z; trivial
    · have q := S.sl i s z2
      cases s with
      | no => trivial
      | fz d => obtain ⟨v, g1, g2⟩ := q; exact ⟨v, by rw [← pin i z1]; exact g1, g2⟩
      | ow d => obtain ⟨a, g1, g2⟩ := q; exact ⟨a, by rw [← pin i z1]; exact g1, g2⟩
  · rcases keepO_get h1 with z | ⟨z1, z2⟩
    · cases z
    · rcases keepO_get h2 with y | ⟨y1, y2⟩
      · cases y
      · exact S.dj i j a d d' z2 y2 (by rw [pin i z1]; exact e1) (by rw [pin j y1]; exact e2)
  · cases s with
    | no => exact h
    | fz d => exact h
    | ow d =>
      obtain ⟨a, rfl, g1, g2, g3, g4⟩ := h
      refine ⟨a, rfl, g1, g2, g3, fun i d' k e => ?_⟩
      rcases keepO_get k with z | ⟨z1, z2⟩
      · cases z
      · exact g4 i d' z2 (by rw [pin i z1]; exact e)
/-- THE RULE for a def -/
theorem ok_def {x qual : Str} {st : Stmt} {f : Addr} {fd : FuncData} {N ps : List Str} {k : Nat} {own : List Bool} {more : Nat} {g : FY} (Fn : Fun K x qual st f fd) (S : FnScope N ps (defScope st)) (hps : ps.length = own.length) (hN : N.length = own.length + more)
    (hb : ∀ (cdv : Value) (A : Around) (outer : List Env) (s : Shared) (H : Hp) (vs : List L2.V) (E : XK), Room k (A.deeper (envOfC qual (defScope st) s.heap.objs.size f cdv)) →
      FB (cxOf (L2.CX P w) P w K mg base N qual (defScope st) f cdv A outer s H E) (pinsOf 0 own) ⟨L2.start N vs, []⟩ (fun cls od _ H' => E cls od H') (defBody st) g) :
    FnOk P w K mg base (L2.CX P w) (k + 1) f fd ps (spF K mg own (fnF own more g)) := by
  refine Fn.okX S (fun vs H Q E h => by rw [h.1, hps]) fun cdv A outer s H vs Q E hr h => ?_
  obtain ⟨t, pt, qt⟩ := (hb cdv A outer s H vs E hr).ex
  refine ⟨t, pt, ?_⟩
  obtain ⟨hl, F, B, ρ, hρ, S0, ho, h⟩ := h
  have hgt : ∀ (i : Nat) (s : Sl), (ρ ++ List.replicate more Sl.no)[i]? = some s → s = .no ∨ ρ[i]? = some s := fun i s h => by
    by_cases hi : i < ρ.length
    · rw [List.getElem?_append_left hi] at h; exact .inr h
    · rw [List.getElem?_append_right (by omega), List.getElem?_replicate] at h
      split at h
      · cases h; exact .inl rfl
      · cases h
  have st0 : ∀ {i : Nat} {s : Sl}, ρ[i]? = some s → (start N vs)[i]? = (vs.map some)[i]? := fun {i s} h => start_get (by rw [hl, ← hρ]; exact (List.getElem?_eq_some_iff.mp h).1)
  have S1 : Sat K mg (pinsOf 0 own) ⟨L2.start N vs, []⟩ F B H (L2.start N vs) (ρ ++ List.replicate more .no) := by
    refine ⟨?_, fun _ _ => rfl, fun p h => by simp at h, S0.bh, S0.fh, fun i s h => ?_, fun i j a d d' h1 h2 e1 e2 => ?_⟩
    · rw [List.length_append, List.length_replicate, hρ]
      unfold L2.start
      rw [List.length_append, List.length_map, List.length_replicate, hN, hl]
      omega
    · rcases hgt i s h with z | z
      · subst z; trivial
      · have q := S0.sl i s z
        cases s with
        | no => trivial
        | fz d => obtain ⟨v, g1, g2⟩ := q; exact ⟨v, by rw [st0 z]; exact g1, g2⟩
        | ow d => obtain ⟨a, g1, g2⟩ := q; exact ⟨a, by rw [st0 z]; exact g1, g2⟩
    · rcases hgt i _ h1 with z | z
      · cases z
      · rcases hgt j _ h2 with y | y
        · cases y
        · exact S0.dj i j a d d' z y (by rw [← st0 z]; exact e1) (by rw [← st0 y]; exact e2)
  refine qt F B H (L2.start N vs) (ρ ++ List.replicate more Sl.no) _ S1 ?_
  unfold fnF at h
  cases eg : g (ρ ++ List.replicate more .no) with
  | bad => rw [eg] at h; exact h
  | exc c fs ρ' => rw [eg] at h; exact fun cls od σ' H' B' e S' z => h cls od H' B' e (Sat.leave hl S').1 z
  | ok f ρ' =>
    cases f with
    | nx => rw [eg] at h; exact fun σ' H' B' e S' => h H' B' e (Sat.leave hl S').1
    | rt s => rw [eg] at h; exact fun v σ' H' B' e S' z => h v H' B' e (Sat.leave hl S').1 ((Sat.leave hl S').2 v s z)
    | bk => rw [eg] at h; exact h.elim
    | ct => rw [eg] at h; exact h.elim
end
end FV

namespace FV
open PySem PySem.Spec PyProof.Rows L2

section
variable {X : Cx} {PN : List Nat} {σ0 : Gs} {W : WX} {F B B' H : Hp} {σ : L2.St} {ρ : En} {s : Sl} {Q : VK}
theorem SPost.nx {D' : Ends} (S : Sat X.K X.mg PN σ0 F B H σ ρ) (h : SPost X PN σ0 W F B (.ok .nx ρ) D') : D'.nx σ H := h σ H B (Ext.refl B) S
/-- a held thing is changed -/
theorem Sat.mutate {i : Nat} {a : Addr} {d d' : D} {o : HO} (S : Sat X.K X.mg PN σ0 F B H σ ρ) (hi : ρ[i]? = some (Sl.ow d)) (ha : σ[i]? = some (some (V.ref a))) (h : OwnD X.K X.mg B (upd H a o) a d') : Sat X.K X.mg PN σ0 F B (upd H a o) σ (ρ.set i (.ow d')) := by
  obtain ⟨a', q1, q2, q3, q4⟩ := S.sl i _ hi
  rw [ha] at q1; cases q1
  have hil : i < ρ.length := (List.getElem?_eq_some_iff.mp hi).1
  have get : ∀ (j : Nat) (s : Sl), (ρ.set i (.ow d'))[j]? = some s → (j = i ∧ s = .ow d') ∨ (j ≠ i ∧ ρ[j]? = some s) := fun j s h => by
    by_cases e : i = j
    · subst e
      rw [List.getElem?_set_self hil] at h
      cases h
      exact .inl ⟨rfl, rfl⟩
    · rw [List.getElem?_set_ne e] at h
      exact .inr ⟨fun z => e z.symm, h⟩
  refine ⟨by rw [List.length_set]; exact S.len, S.pin, S.gh, fun b u hb => ?_, fun b u hb => ?_, fun j s hj => ?_, fun j k b e e' h1 h2 e1 e2 => ?_⟩
  · rw [upd_ne (ne_of_none hb q3)]; exact S.bh b u hb
  · exact ⟨by rw [upd_ne (ne_of_none hb q2)]; exact (S.fh b u hb).1, (S.fh b u hb).2⟩
  · rcases get j s hj with ⟨rfl, rfl⟩ | ⟨hne, hj⟩
    · exact ⟨a, ha, q2, q3, h⟩
    · have q := S.sl j s hj
      cases s with
      | no => trivial
      | fz e => exact q
      | ow e =>
        obtain ⟨b, g1, g2, g3, g4⟩ := q
        refine ⟨b, g1, g2, g3, g4.at (upd_ne fun z => ?_)⟩
        subst z
        exact hne (S.dj j i b e d hj hi g1 ha)
  · rcases get j _ h1 with ⟨rfl, _⟩ | ⟨hne, hj⟩
    · rcases get k _ h2 with ⟨rfl, _⟩ | ⟨hne', hk⟩
      · rfl
      · rw [ha] at e1; cases e1
        exact S.dj j k a d e' hi hk ha e2
    · rcases get k _ h2 with ⟨rfl, _⟩ | ⟨hne', hk⟩
      · rw [ha] at e2; cases e2
        exact S.dj j k a e d hj hi e1 ha
      · exact S.dj j k b e e' hj hk e1 e2
end

section
variable {X : Cx} {PN : List Nat} {σ0 : Gs} {W : WX} {F B B' H : Hp} {σ : L2.St} {ρ : En} {s : Sl} {Q : VK}
/-! ### blocks -/
def yNil : FY := fun ρ => .ok .nx ρ
def ySeq (f g : FY) : FY := fun ρ => match f ρ with
  | .ok .nx ρ' => g ρ'
  | .ok fl ρ' => .ok fl ρ'
  | .exc c fs ρ' => .exc c fs ρ'
  | .bad => .bad
theorem fb_nil : FB X PN σ0 W [] yNil := ⟨_, pss_nil, fun F B H σ ρ D' S q => q σ H B (Ext.refl B) S⟩
theorem SPost.seq {r : R Fl} {g : FY} {D' : Ends} {u : TS} (hu : ∀ F B H σ ρ D', Sat X.K X.mg PN σ0 F B H σ ρ → SPost X PN σ0 W F B (g ρ) D' → u D' σ H)
    (q : SPost X PN σ0 W F B (match r with
      | .ok .nx ρ' => g ρ'
      | .ok fl ρ' => .ok fl ρ'
      | .exc c fs ρ' => .exc c fs ρ'
      | .bad => .bad) D') : SPost X PN σ0 W F B r { D' with nx := u D' } := by
  cases r with
  | bad => exact q
  | exc c fs ρ' => exact q
  | ok fl ρ' =>
    cases fl with
    | nx => exact fun σ' H' B' e S' => hu F B' H' σ' ρ' D' S' (SPost.mono e q)
    | rt s => exact q
    | bk => exact q
    | ct => exact q
theorem fb_cons {st : Stmt} {rest : List Stmt} {f g : FY} (h : FS X PN σ0 W st f) (k : FB X PN σ0 W rest g) : FB X PN σ0 W (st :: rest) (ySeq f g) := by
  obtain ⟨t, pt, qt⟩ := h.ex
  obtain ⟨u, pu, qu⟩ := k.ex
  exact ⟨_, pss_cons pt pu, fun F B H σ ρ D' S q => qt F B H σ ρ _ S (SPost.seq qu q)⟩
theorem fb_one {st : Stmt} {f : FY} (h : FS X PN σ0 W st f) : FB X PN σ0 W [st] f := by
  obtain ⟨t, pt, qt⟩ := h.ex
  exact ⟨_, pss_one pt, qt⟩
def yBk : FY := fun ρ => .ok .bk ρ
def yCt : FY := fun ρ => .ok .ct ρ
theorem fs_pass {pos} : FS X PN σ0 W (.Pass pos) yNil := ⟨_, ps_pass, fun F B H σ ρ D' S q => q σ H B (Ext.refl B) S⟩
theorem fs_break {pos} : FS X PN σ0 W (.Break pos) yBk := ⟨_, ps_break, fun F B H σ ρ D' S q => q σ H B (Ext.refl B) S⟩
theorem fs_continue {pos} : FS X PN σ0 W (.Continue pos) yCt := ⟨_, ps_continue, fun F B H σ ρ D' S q => q σ H B (Ext.refl B) S⟩
theorem fs_doc {x j pos pos'} : FS X PN σ0 W (.Expr (.Constant (.str x) j pos) pos') yNil := ⟨_, ps_doc, fun F B H σ ρ D' S q => q σ H B (Ext.refl B) S⟩
/-- from an expression's run to a statement's -/
def yE (f : FX) (k : Sl → En → R Fl) : FY := fun ρ => match f ρ with
  | .ok s ρ' => k s ρ'
  | .exc c fs ρ' => .exc c fs ρ'
  | .bad => .bad
theorem EPost.of {r : R Sl} {k : Sl → En → R Fl} {D' : Ends} {Q : VK}
    (hk : ∀ s ρ' v H' B', Ext B B' → Sat X.K X.mg PN σ0 F B' H' σ ρ' → VOk X.K X.mg F B' H' σ ρ' v s → SPost X PN σ0 W F B' (k s ρ') D' → Q v H')
    (q : SPost X PN σ0 W F B (match r with
      | .ok s ρ' => k s ρ'
      | .exc c fs ρ' => .exc c fs ρ'
      | .bad => .bad) D') : EPost X PN σ0 W F B σ r Q := by
  cases r with
  | bad => exact q
  | exc c fs ρ' => exact fun cls od H' B' e S' z => q cls od σ H' B' e S' z
  | ok s ρ' => exact fun v H' B' e S' z => hk s ρ' v H' B' e S' z (SPost.mono e q)
def yX (f : FX) : FY := yE f fun _ ρ' => .ok .nx ρ'
theorem fs_expr {e : Expr} {pos : Pos} {f : FX} (h : FE X PN σ0 W e f) (hs : swapsWith e none pos.line X.env = pure false := by rfl) : FS X PN σ0 W (.Expr e pos) (yX f) := by
  obtain ⟨t, pt, qt⟩ := h.ex
  exact ⟨_, ps_expr pt hs, fun F B H σ ρ D' S q => qt F B H σ ρ _ S (EPost.of (k := fun _ ρ' => .ok .nx ρ') (D' := D') (fun s ρ' v H' B' e S' z q' => q' σ H' B' (Ext.refl B') S') q)⟩
def yRet (f : FX) : FY := yE f fun s ρ' => .ok (.rt s) ρ'
theorem fs_ret {e : Expr} {pos : Pos} {f : FX} (h : FE X PN σ0 W e f) : FS X PN σ0 W (.Return (some e) pos) (yRet f) := by
  obtain ⟨t, pt, qt⟩ := h.ex
  exact ⟨_, ps_ret pt, fun F B H σ ρ D' S q => qt F B H σ ρ _ S (EPost.of (k := fun s ρ' => .ok (.rt s) ρ') (D' := D') (fun s ρ' v H' B' e S' z q' => q' v σ H' B' (Ext.refl B') S' z) q)⟩
def yRetN : FY := fun ρ => .ok (.rt (.fz .non)) ρ
theorem fs_retN {pos : Pos} : FS X PN σ0 W (.Return none pos) yRetN := ⟨_, ps_retN, fun F B H σ ρ D' S q => q .non σ H B (Ext.refl B) S .non⟩
def yIf (t : FX) (f g : FY) : FY := yE t fun s ρ' => match s with
  | .fz (.bl true) => f ρ'
  | .fz (.bl false) => g ρ'
  | _ => .bad
theorem fs_if {c : Expr} {a b : List Stmt} {pos : Pos} {t : FX} {f g : FY} (hc : FT X PN σ0 W c t) (h : FB X PN σ0 W a f) (k : FB X PN σ0 W b g) : FS X PN σ0 W (.If c a b pos) (yIf t f g) := by
  obtain ⟨tc, pc, qc⟩ := hc.ex
  obtain ⟨ta, pa, qa⟩ := h.ex
  obtain ⟨tb, pb, qb⟩ := k.ex
  refine ⟨_, ps_if pc pa pb, fun F B H σ ρ D' S q => qc F B H σ ρ _ S ?_⟩
  unfold yIf yE at q
  cases hr : t ρ with
  | bad => rw [hr] at q; exact q
  | exc c fs ρ => rw [hr] at q; exact fun cls od H' B' e S' z => q cls od σ H' B' e S' z
  | ok s ρ' =>
    rw [hr] at q
    cases s with
    | no => exact q.elim
    | ow d => exact q.elim
    | fz d =>
      cases d with
      | bl b =>
        cases b with
        | true => exact fun H' B' e S' => iteT (qa F B' H' σ ρ' D' S' (SPost.mono e q))
        | false => exact fun H' B' e S' => iteF (qb F B' H' σ ρ' D' S' (SPost.mono e q))
      | _ => exact q.elim
/-! ### stores -/
def ySet (i : Nat) (f : FX) : FY := yE f fun s ρ' => .ok .nx (ρ'.set i s)
theorem fs_set {M L : List Bool} (N : NamesOk X M L) (i : Nat) {x : Str} {e : Expr} {pos pos' : Pos} {f : FX} (h : FE X PN σ0 W e f) (hp : i ∉ PN := by decide) (hi : X.N[i]? = some x := by rfl) (hm : L[i]? = some true := by rfl)
    (hs : swapsWith e (some (.Name x pos')) pos.line X.env = pure false := by rfl) : FS X PN σ0 W (.Assign [.Name x pos'] e pos) (ySet i f) := by
  obtain ⟨t, pt, qt⟩ := h.ex
  exact ⟨_, ps_set N.nd hi (N.loc i x hi hm) pt hs (N.fn i x hi hm), fun F B H σ ρ D' S q => qt F B H σ ρ _ S (EPost.of (k := fun s ρ' => .ok .nx (ρ'.set i s)) (D' := D') (fun s ρ' v H' B' e S' z q' => q' _ H' B' (Ext.refl B') (S'.store hp z)) q)⟩
/-- name op= e -/
def yAug (i : Nat) (g : G2) (f : FX) : FY := yE (xB g (aR i) (aX f)) fun s ρ' => .ok .nx (ρ'.set i s)
theorem fs_aug {M L : List Bool} (N : NamesOk X M L) (i : Nat) {x : Str} {e : Expr} {op : Operator} {pos pos' : Pos} {f : FX} {r : R2} {g : G2} (ho : OpR X (inplaceOp op) r) (hr : Op2 X r g) (h : FE X PN σ0 W e f) (hp : i ∉ PN := by decide) (hi : X.N[i]? = some x := by rfl) (hm : L[i]? = some true := by rfl)
    (hr' : M[i]? = some true := by rfl) : FS X PN σ0 W (.AugAssign (.Name x pos') op e pos) (yAug i g f) := by
  obtain ⟨t, pt, qt⟩ := (fa_x h).ex
  obtain ⟨ti, pi, qi⟩ := (fa_r (PN := PN) (σ0 := σ0) (W := W) (pos := pos') N i hi hr').ex
  refine ⟨_, ps_aug (ti := r) N.nd hi (N.loc i x hi hm) pt ho (N.fn i x hi hm), fun F B H σ ρ D' S q => ?_⟩
  have hx : ∃ v, σ[i]? = some (some v) := by
    unfold yAug yE xB aR rdSl at q
    cases e : ρ[i]? with
    | none => rw [e] at q; exact q.elim
    | some s =>
      cases s with
      | no => rw [e] at q; exact q.elim
      | fz d => obtain ⟨v, h1, _⟩ := S.sl i _ e; exact ⟨v, h1⟩
      | ow d => obtain ⟨a, h1, _⟩ := S.sl i _ e; exact ⟨_, h1⟩
  obtain ⟨v, hv⟩ := hx
  refine ⟨v, hv, ?_⟩
  have qi' : ∀ F B H σ1 ρ Q, Sat X.K X.mg PN σ0 F B H σ1 ρ → APost X PN σ0 W F B σ1 (aR i ρ) Q → σ1 = σ → Q v H := fun F1 B1 H1 σ1 ρ1 Q1 S1 q1 e1 => by
    have hv' : σ1[i]? = some (some v) := by rw [e1]; exact hv
    unfold aR at q1
    cases e : rdSl i ρ1 with
    | none => rw [e] at q1; exact q1.elim
    | some d =>
      rw [e] at q1
      refine q1 v H1 B1 (Ext.refl B1) S1 fun B2 H2 ρ2 d2 e2 S2 h2 => ?_
      unfold rdSl at h2
      split at h2
      · rename_i d' e
        cases h2
        obtain ⟨v', h1, r⟩ := S2.sl i _ e
        rw [hv'] at h1; cases h1
        exact .inl r
      · rename_i d' e
        cases h2
        obtain ⟨a, h1, _, _, r⟩ := S2.sl i _ e
        rw [hv'] at h1; cases h1
        exact .inr ⟨a, rfl, r⟩
      · cases h2
  have := fin2 (X := X) (PN := PN) (σ0 := σ0) (W := W) (ta := fun σ1 H Q => σ1 = σ → Q v H) (tb := t) (a := aR i) (b := aX f) (Q := fun z H2 => D'.nx (σ.set i (some z)) H2) hr
    qi' qt S (EPost.of (k := fun s ρ' => .ok .nx (ρ'.set i s)) (D' := D') (fun s ρ' v H' B' e S' z q' => q' _ H' B' (Ext.refl B') (S'.store hp z)) q)
  exact this rfl
/-! ### o[i] = e, of a held list or dict -/
def keyOf : D → Option Key
  | .int i => some (.inl i)
  | .str x => some (.inr x)
  | _ => none
def putD (kds : List (Key × D)) (k : Key) (d : D) : List (Key × D) :=
  if (kds.any fun kv => decide (kv.1 = k)) then kds.map (fun kv => if kv.1 = k then (kv.1, d) else kv) else kds ++ [(k, d)]
def valD (kds : List (Key × D)) (k : Key) : Option D := (kds.find? fun kv => decide (kv.1 = k)).map (·.2)
def setD (dk d : D) : D → Option D
  | .lst ds => match dk with
    | .int k => (ixN ds.length k).bind fun j => some (.lst (ds.set j d))
    | _ => none
  | .dic kds => (keyOf dk).bind fun k => if kds.length < 1000000 then some (.dic (putD kds k d)) else none
  | _ => none
def kSetI (i : Nat) (d : D) (s2 : Sl) (ρ2 : En) : R Fl := match s2 with
  | .fz dk => match ρ2[i]? with
    | some (.ow c) => match setD dk d c with
      | some c' => .ok .nx (ρ2.set i (.ow c'))
      | none => .bad
    | _ => .bad
  | _ => .bad
def ySetI (i : Nat) (fk fe : FX) : FY := yE (xF fe) fun s ρ1 => match s with
  | .fz d => match rdSl i ρ1 with
    | some _ => yE (xF fk) (kSetI i d) ρ1
    | none => .bad
  | _ => .bad
theorem key_rep {v : L2.V} {dk : D} {k : Key} (h : Rep X.K X.mg B v dk) (e : keyOf dk = some k) : v = kV k := by
  cases dk <;> simp [keyOf] at e
  · subst e; cases h; rfl
  · subst e; cases h; rfl
theorem put_rep {kvs : List (Key × L2.V)} {kds : List (Key × D)} {k : Key} {v : L2.V} {d : D} (hv : Rep X.K X.mg B v d) (e : kvs.map (·.1) = kds.map (·.1)) (r : RepL X.K X.mg B (kvs.map (·.2)) (kds.map (·.2))) :
    (putK kvs k v).map (·.1) = (putD kds k d).map (·.1) ∧ RepL X.K X.mg B ((putK kvs k v).map (·.2)) ((putD kds k d).map (·.2)) := by
  have ha : (kvs.any fun kv => decide (kv.1 = k)) = kds.any fun kv => decide (kv.1 = k) := by
    have h1 : (kvs.any fun kv => decide (kv.1 = k)) = (kvs.map (·.1)).any fun x => decide (x = k) := by rw [List.any_map]; rfl
    have h2 : (kds.any fun kv => decide (kv.1 = k)) = (kds.map (·.1)).any fun x => decide (x = k) := by rw [List.any_map]; rfl
    rw [h1, h2, e]
  have hm : (kvs.map fun kv => if kv.1 = k then (kv.1, v) else kv).map (·.1) = (kds.map fun kv => if kv.1 = k then (kv.1, d) else kv).map (·.1) ∧
      RepL X.K X.mg B ((kvs.map fun kv => if kv.1 = k then (kv.1, v) else kv).map (·.2)) ((kds.map fun kv => if kv.1 = k then (kv.1, d) else kv).map (·.2)) := by
    clear ha
    induction kvs generalizing kds with
    | nil =>
      cases kds with
      | nil => exact ⟨rfl, .nil⟩
      | cons q kds => simp at e
    | cons p kvs ih =>
      cases kds with
      | nil => simp at e
      | cons q kds =>
        simp only [List.map_cons, List.cons.injEq] at e
        obtain ⟨e1, e2⟩ := e
        cases r with
        | cons r1 r2 =>
          obtain ⟨j1, j2⟩ := ih e2 r2
          simp only [List.map_cons]
          by_cases z : p.1 = k
          · rw [if_pos z, if_pos (e1 ▸ z)]
            exact ⟨by rw [e1, j1], .cons hv j2⟩
          · rw [if_neg z, if_neg (e1 ▸ z)]
            exact ⟨by rw [e1, j1], .cons r1 j2⟩
  unfold putK putD
  rw [ha]
  split
  · exact hm
  · exact ⟨by simp [e], by simpa using r.append (.cons hv .nil)⟩
theorem map_set2 {α β : Type} (f : α → β) (l : List α) (j : Nat) (x : α) : (l.set j x).map f = (l.map f).set j (f x) := List.map_set ..
def rSetU : TSet := fun o i v H Q => rSetL o i v H Q ∨ rSetD o i v H Q
theorem set_u (hu : X.A.units + 1 < cLine) : PSet X rSetU := by
  intro pins s σ H o i v ov iv u Q I ro ri rv h
  rcases h with h | h
  · exact set_list pins s σ H o i v ov iv u Q I ro ri rv h
  · exact set_dict hu pins s σ H o i v ov iv u Q I ro ri rv h
theorem fs_setI {M L : List Bool} (N : NamesOk X M L) (i : Nat) (hu : X.A.units + 1 < cLine) {x : Str} {ei e : Expr} {p pos pos' : Pos} {fk fe : FX} (h : FE X PN σ0 W e fe) (hk : FE X PN σ0 W ei fk) (hi : X.N[i]? = some x := by rfl) (hm : M[i]? = some true := by rfl)
    (ha : ∀ v, assign (.Subscript (.Name x p) ei pos') X.env v = (do
      let ov ← holding [v] (eval (.Name x p) X.env)
      let iv ← holding [v, ov] (eval ei X.env)
      standAt pos'
      holding [v, ov, iv] (setItem ov iv v)
      release [v, ov, iv] []) := by intro _; rfl)
    (hs : swapsWithSole [.Subscript (.Name x p) ei pos'] e pos.line X.env = pure false := by rfl) (hw : swappedStores [.Subscript (.Name x p) ei pos'] e X.env = pure none := by rfl)
    (h1 : (assignEach [.Subscript (.Name x p) ei pos'] X.env).map (·.2) = [assign (.Subscript (.Name x p) ei pos') X.env] := by rfl) : FS X PN σ0 W (.Assign [.Subscript (.Name x p) ei pos'] e pos) (ySetI i fk fe) := by
  obtain ⟨te, pe, qe⟩ := (fe_f h).ex
  obtain ⟨tk, pk, qk⟩ := (fe_f hk).ex
  refine ⟨_, ps_asg pe (pg_sub (N.pe i hi hm) pk (set_u hu) ha) hs hw h1, fun F B H σ ρ D' S q => qe F B H σ ρ _ S (EPost.of (D' := D') (k := fun s ρ1 => match s with
    | .fz d => match rdSl i ρ1 with
      | some _ => yE (xF fk) (kSetI i d) ρ1
      | none => .bad
    | _ => .bad) (fun s ρ1 v H1 B1 e1 S1 z q1 => ?_) q)⟩
  cases s with
  | no => exact z.elim
  | ow d => exact q1.elim
  | fz d =>
    simp only at q1
    split at q1
    · rename_i dd hrd
      have hσ : ∃ w', σ[i]? = some (some w') := by
        unfold rdSl at hrd
        cases e : ρ1[i]? with
        | none => rw [e] at hrd; cases hrd
        | some s =>
          cases s with
          | no => rw [e] at hrd; cases hrd
          | fz d => obtain ⟨v, h1, _⟩ := S1.sl i _ e; exact ⟨v, h1⟩
          | ow d => obtain ⟨a, h1, _⟩ := S1.sl i _ e; exact ⟨_, h1⟩
      obtain ⟨w', hw'⟩ := hσ
      refine ⟨w', hw', qk F B1 H1 σ ρ1 _ S1 (EPost.of (D' := D') (k := kSetI i d) (fun s2 ρ2 v2 H2 B2 e2 S2 z2 q2 => ?_) q1)⟩
      unfold kSetI at q2
      split at q2
      · rename_i dk
        split at q2
        · rename_i c hc
          split at q2
          · rename_i c' hset
            obtain ⟨a, g1, g2, g3, g4⟩ := S2.sl i _ hc
            rw [hw'] at g1; cases g1
            have hvd : Rep X.K X.mg B2 v d := Rep.mono e2 z
            cases c with
            | lst ds =>
              obtain ⟨xs, k1, k2⟩ := id g4
              simp only [setD] at hset
              cases dk with
              | int k =>
                simp only at hset
                cases hj : ixN ds.length k with
                | none => rw [hj] at hset; cases hset
                | some j =>
                  rw [hj] at hset
                  cases hset
                  cases z2
                  refine .inl ⟨a, xs, k, j, rfl, rfl, k1, by rw [k2.length]; exact hj, ?_⟩
                  exact q2 σ _ B2 (Ext.refl B2) (S2.mutate hc hw' ⟨_, upd_same, k2.set hvd j⟩)
              | _ => cases hset
            | dic kds =>
              obtain ⟨kvs, k1, k2, k3⟩ := id g4
              simp only [setD] at hset
              cases hk : keyOf dk with
              | none => rw [hk] at hset; cases hset
              | some k =>
                rw [hk, Option.bind_some] at hset
                split at hset
                · rename_i hlen
                  cases hset
                  have ek := key_rep z2 hk
                  subst ek
                  have hl : kvs.length = kds.length := by simpa using congrArg List.length k2
                  obtain ⟨p1, p2⟩ := put_rep (k := k) hvd k2 k3
                  refine .inr ⟨a, _, rfl, DPut.k k1 (by rw [hl]; exact Nat.lt_of_lt_of_le hlen (by decide)), ?_⟩
                  exact q2 σ _ B2 (Ext.refl B2) (S2.mutate hc hw' ⟨_, upd_same, p1, p2⟩)
                · cases hset
            | _ => cases hset
          · exact q2.elim
        · exact q2.elim
      · exact q2.elim
    · exact q1.elim
end
end FV

namespace FV
open PySem PySem.Spec PyProof.Rows L2

/-- where one stands: k calls deep may be called -/
structure Cok (X : Cx) (W : WX) (k : Nat) : Prop where
  calm : X.calm = true
  tk : Takes X W
  po : PassesOwn (model X.prog X.w) X.A X.env X.xe
  hr : Room k X.A
section
variable {X : Cx} {PN : List Nat} {σ0 : Gs} {W : WX} {k : Nat}
theorem Cok.hu (C : Cok X W k) : X.A.units + 1 < cLine := hu_of C.hr
theorem Cok.hu64 (C : Cok X W k) : X.A.units + 64 < cLine := C.hr.units

/-! ### targets -/
abbrev GG := D → En → Option En
structure FG (X : Cx) (PN : List Nat) (σ0 : Gs) (tg : Expr) (g : GG) (ts : List Nat) : Prop where
  ex : ∃ t : TG, PG X tg t ∧ ∀ F B H σ ρ v d ρ' Q, Sat X.K X.mg PN σ0 F B H σ ρ → Rep X.K X.mg B v d → g d ρ = some ρ' → (∀ σ', σ'.length = σ.length → (∀ (i : Nat), i ∉ ts → σ'[i]? = σ[i]?) → Sat X.K X.mg PN σ0 F B H σ' ρ' → Q σ' H) → t v σ H Q
structure FGs (X : Cx) (PN : List Nat) (σ0 : Gs) (tgs : List Expr) (g : List D → En → Option En) (ts : List Nat) : Prop where
  ex : ∃ t : TGs, PGs X tgs t ∧ ∀ F B H σ ρ vs ds ρ' Q, Sat X.K X.mg PN σ0 F B H σ ρ → RepL X.K X.mg B vs ds → g ds ρ = some ρ' → (∀ σ', σ'.length = σ.length → (∀ (i : Nat), i ∉ ts → σ'[i]? = σ[i]?) → Sat X.K X.mg PN σ0 F B H σ' ρ' → Q σ' H) → t vs σ H Q
def tgN (i : Nat) : GG := fun d ρ => some (ρ.set i (.fz d))
theorem fg_n {M L : List Bool} (N : NamesOk X M L) (i : Nat) {x : Str} {pos : Pos} (hp : i ∉ PN := by decide) (hi : X.N[i]? = some x := by rfl) (hm : L[i]? = some true := by rfl) : FG X PN σ0 (.Name x pos) (tgN i) [i] :=
  ⟨_, pg_name N.nd hi (N.loc i x hi hm) (N.fn i x hi hm), fun F B H σ ρ v d ρ' Q S r e q => by
    cases e
    exact q _ (by rw [List.length_set]) (fun j hj => by rw [List.getElem?_set_ne (fun z => hj (by simp [z]))]) (S.store (v := v) (s := .fz d) hp r)⟩
def tgsNil : List D → En → Option En
  | [], ρ => some ρ
  | _ :: _, _ => none
def tgsCons (g : GG) (gs : List D → En → Option En) : List D → En → Option En
  | [], _ => none
  | d :: ds, ρ => (g d ρ).bind fun ρ1 => gs ds ρ1
theorem fgs_nil : FGs X PN σ0 [] tgsNil [] := ⟨_, pgs_nil, fun F B H σ ρ vs ds ρ' Q S r e q => by
  cases r with
  | nil => cases e; exact ⟨rfl, q σ rfl (fun _ _ => rfl) S⟩
  | cons _ _ => cases e⟩
theorem fgs_cons {e : Expr} {es : List Expr} {g : GG} {gs : List D → En → Option En} {ts ts' : List Nat} (h : FG X PN σ0 e g ts) (k : FGs X PN σ0 es gs ts')
    (hs : (assignEach (e :: es) X.env).map (·.2) = assign e X.env :: (assignEach es X.env).map (·.2) := by rfl) : FGs X PN σ0 (e :: es) (tgsCons g gs) (ts ++ ts') := by
  obtain ⟨t, pt, qt⟩ := h.ex
  obtain ⟨u, pu, qu⟩ := k.ex
  refine ⟨_, pgs_cons pt pu hs, fun F B H σ ρ vs ds ρ' Q S r e q => ?_⟩
  cases r with
  | nil => cases e
  | cons r1 r2 =>
    rename_i v vs d ds
    replace e : (g d ρ).bind (fun ρ1 => gs ds ρ1) = some ρ' := e
    cases e1 : g d ρ with
    | none => rw [e1] at e; cases e
    | some ρ1 =>
      rw [e1] at e
      exact ⟨v, vs, rfl, qt F B H σ ρ v d ρ1 _ S r1 e1 fun σ' hl hs' S' => qu F B H σ' ρ1 vs ds ρ' Q S' r2 e fun σ2 h2 hs2 S2 => q σ2 (h2.trans hl) (fun j hj => (hs2 j fun z => hj (List.mem_append_right _ z)).trans (hs' j fun z => hj (List.mem_append_left _ z))) S2⟩
def tgT (n : Nat) (gs : List D → En → Option En) : GG := fun d ρ => match d with
  | .tup ds => if ds.length = n then gs ds ρ else none
  | _ => none
theorem fg_t {es : List Expr} {m : Nat} {pos : Pos} {n : Nat} {gs : List D → En → Option En} {ts : List Nat} (hc : X.calm = true) (h : FGs X PN σ0 es gs ts)
    (hn : (assignEach es X.env).length = n := by rfl) (hst : (assignEach es X.env).findIdx? (·.1) = none := by rfl) : FG X PN σ0 (.Tuple es m pos) (tgT n gs) ts := by
  obtain ⟨t, pt, qt⟩ := h.ex
  refine ⟨_, pg_tup hc pt hn hst, fun F B H σ ρ v d ρ' Q S r e q => ?_⟩
  unfold tgT at e
  split at e
  · split at e
    · rename_i hl
      cases r with
      | tup h1 h2 => exact ⟨_, _, rfl, .inl (.inl (S.bh _ _ h1)), by rw [h2.length]; exact hl, qt F B H σ ρ _ _ ρ' Q S h2 e q⟩
    · cases e
  · cases e
def yAsg (g : GG) (f : FX) : FY := yE (xF f) fun s ρ1 => match s with
  | .fz d => match g d ρ1 with
    | some ρ' => .ok .nx ρ'
    | none => .bad
  | _ => .bad
/-- a, b = e -/
theorem fs_asg {tg e : Expr} {pos : Pos} {g : GG} {ts : List Nat} {f : FX} (he : FE X PN σ0 W e f) (hg : FG X PN σ0 tg g ts) (hs : swapsWithSole [tg] e pos.line X.env = pure false := by rfl) (hw : swappedStores [tg] e X.env = pure none := by rfl)
    (h1 : (assignEach [tg] X.env).map (·.2) = [assign tg X.env] := by rfl) : FS X PN σ0 W (.Assign [tg] e pos) (yAsg g f) := by
  obtain ⟨te, pe, qe⟩ := (fe_f he).ex
  obtain ⟨tg', pg, qg⟩ := hg.ex
  refine ⟨_, ps_asg pe pg hs hw h1, fun F B H σ ρ D' S q => qe F B H σ ρ _ S (EPost.of (D' := D') (k := fun s ρ1 => match s with
    | .fz d => match g d ρ1 with
      | some ρ' => .ok .nx ρ'
      | none => .bad
    | _ => .bad) (fun s ρ1 v H1 B1 e1 S1 z q1 => ?_) q)⟩
  cases s with
  | no => exact z.elim
  | ow d => exact q1.elim
  | fz d =>
    simp only at q1
    split at q1
    · rename_i ρ' e
      exact qg F B1 H1 σ ρ1 v d ρ' _ S1 z e fun σ' _ _ S' => q1 σ' H1 B1 (Ext.refl B1) S'
    · exact q1.elim

/-! ### what is walked -/
structure ItOk (K : PySem.W.Frag) (mg : Str → Option Value) (J : It) (B : Hp) (xs : List D) : Prop where
  go : ∀ (i : Nat) (d : D), xs[i]? = some d → ∀ B' H' : Hp, Ext B B' → (∀ b o, B' b = some o → H' b = some o) → J.go i H' ∧ ∀ x H2, J.yld i H' x H2 → ∀ PN σ0 F σ ρ, Sat K mg PN σ0 F B' H' σ ρ →
    ∃ B2, Ext B' B2 ∧ Sat K mg PN σ0 F B2 H2 σ ρ ∧ Rep K mg B2 x d
  stop : ∀ B' H' : Hp, Ext B B' → (∀ b o, B' b = some o → H' b = some o) → J.stop xs.length H'
def IPost (X : Cx) (PN : List Nat) (σ0 : Gs) (W : WX) (F B : Hp) (σ : L2.St) (r : R (List D)) (Rr : It → Hp → Prop) : Prop := match r with
  | .ok xs ρ' => ∀ J H' B', Ext B B' → Sat X.K X.mg PN σ0 F B' H' σ ρ' → ItOk X.K X.mg J B' xs → Rr J H'
  | .exc c fs ρ' => ∀ cls od H' B', Ext B B' → Sat X.K X.mg PN σ0 F B' H' σ ρ' → ExcOk X.K X.mg B' c fs cls od → W cls od σ H'
  | .bad => False
structure FI (X : Cx) (PN : List Nat) (σ0 : Gs) (W : WX) (tg iter : Expr) (gi : En → R (List D)) : Prop where
  ex : ∃ t : TI, PI X tg iter t ∧ ∀ F B H σ ρ Rr, Sat X.K X.mg PN σ0 F B H σ ρ → IPost X PN σ0 W F B σ (gi ρ) Rr → t σ H Rr
/-- a list, a tuple, a text -/
def itemsD : D → Option (List D)
  | .lst ds => some ds
  | .tup ds => some ds
  | .str x => some (x.cps.toList.map fun c => .str ⟨#[c]⟩)
  | _ => none
def iAny (te : TE) : TI := fun σ H Rr => te σ H fun v H1 => (∃ a, v = .ref a ∧ (∃ xs, H1 a = some (.lst xs)) ∧ Rr (Itl X.K a) H1) ∨ (∃ a, v = .ref a ∧ (∃ xs, H1 a = some (.tup xs)) ∧ Rr (Itt X.K a) H1) ∨ ∃ x, v = .str x ∧ Rr (Its x) H1
theorem pi_any {tg e : Expr} {te : TE} (he : PE X e te) : PI X tg e (iAny (X := X) te) := by
  refine ⟨fun pins s σ H Rr I h => ?_⟩
  refine thn (he.run pins s σ H _ I h) fun v s1 ⟨y, H1, I1, r1, q⟩ => ?_
  rcases q with ⟨a, e, ⟨xs, hx⟩, q⟩ | ⟨a, e, ⟨xs, hx⟩, q⟩ | ⟨x, e, q⟩
  · subst e
    cases r1
    obtain ⟨its, rv, p, hz⟩ := I1.list (xs := xs) (.inl (.inl hx))
    refine wpAny_pyIter_list p.isList ?_
    refine ⟨s1.heap.objs.size, [s1.heap.objs.size], _, _, H1, rfl, I1.kept (t' := s1.toks) fun b o e => Heap.get?_push_of_some _ e, turn_list a _, ⟨_, Heap.get?_push_size _ rfl, rfl, rfl⟩, fun b hb => ?_, q⟩
    have e : b = s1.heap.objs.size := by simpa using hb
    subst e
    exact I1.fpOk (Nat.le_refl _) (I1.hok.fresh (Nat.le_refl _))
  · subst e
    cases r1
    obtain ⟨its, rv, p, hz⟩ := I1.tuple (xs := xs) (.inl (.inl hx))
    refine wpAny_pyIter_tuple (show s1.heap.IsTuple a its.toArray from p) ?_
    refine ⟨s1.heap.objs.size, [s1.heap.objs.size], _, _, H1, rfl, I1.kept (t' := s1.toks) fun b o e => Heap.get?_push_of_some _ e, turn_tuple a _, ⟨_, Heap.get?_push_size _ rfl, rfl, rfl⟩, fun b hb => ?_, q⟩
    have e : b = s1.heap.objs.size := by simpa using hb
    subst e
    exact I1.fpOk (Nat.le_refl _) (I1.hok.fresh (Nat.le_refl _))
  · subst e
    obtain ⟨t, rfl⟩ := r1
    cases ha : x.cps.all (· < 128)
    · exact wpAny_pyIter_wide ha (pi_one (tk := s1.toks) I1 _ (turn_str _ x t "str_iterator" (.inr rfl)) ⟨_, Heap.get?_push_size _ rfl, rfl, rfl⟩ q)
    · exact wpAny_pyIter_ascii ha (pi_one (tk := s1.toks) I1 _ (turn_str _ x t "str_ascii_iterator" (.inl rfl)) ⟨_, Heap.get?_push_size _ rfl, rfl, rfl⟩ q)
section
variable {K : PySem.W.Frag} {mg : Str → Option Value} {B : Hp}
theorem itOk_list {a : Addr} {vs : List L2.V} {ds : List D} (h : B a = some (.lst vs)) (r : RepL K mg B vs ds) : ItOk K mg (Itl K a) B ds where
  go := fun i d hd B' H' e bh => by
    have h' : SqL K H' a vs := .inl (.inl (bh _ _ (e.lst h)))
    obtain ⟨v, hv, rv⟩ := r.get hd
    refine ⟨⟨vs, v, h', hv⟩, fun x H2 hy PN σ0 F σ ρ S => ?_⟩
    obtain ⟨rfl, hy⟩ := hy
    have := hy vs h'
    rw [hv] at this; cases this
    exact ⟨B', Ext.refl B', S, rv.mono e⟩
  stop := fun B' H' e bh => ⟨vs, .inl (.inl (bh _ _ (e.lst h))), Nat.le_of_eq r.length⟩
theorem itOk_tup {a : Addr} {vs : List L2.V} {ds : List D} (h : B a = some (.tup vs)) (r : RepL K mg B vs ds) : ItOk K mg (Itt K a) B ds where
  go := fun i d hd B' H' e bh => by
    have h' : SqT K H' a vs := .inl (.inl (bh _ _ (e.tup h)))
    obtain ⟨v, hv, rv⟩ := r.get hd
    refine ⟨⟨vs, v, h', hv⟩, fun x H2 hy PN σ0 F σ ρ S => ?_⟩
    obtain ⟨rfl, hy⟩ := hy
    have := hy vs h'
    rw [hv] at this; cases this
    exact ⟨B', Ext.refl B', S, rv.mono e⟩
  stop := fun B' H' e bh => ⟨vs, .inl (.inl (bh _ _ (e.tup h))), Nat.le_of_eq r.length⟩
theorem itOk_str (x : Str) : ItOk K mg (Its x) B (x.cps.toList.map fun c => .str ⟨#[c]⟩) where
  go := fun i d hd B' H' e bh => by
    rw [List.getElem?_map] at hd
    cases hc : x.cps.toList[i]? with
    | none => rw [hc] at hd; cases hd
    | some c =>
      rw [hc] at hd
      cases hd
      have hi : i < x.cps.size := by simpa using (List.getElem?_eq_some_iff.mp hc).1
      refine ⟨hi, fun y H2 hy PN σ0 F σ ρ S => ?_⟩
      obtain ⟨rfl, c', hc', rfl⟩ := hy
      have : x.cps.toList[i]? = some c' := by simpa using hc'
      rw [hc] at this; cases this
      exact ⟨B', Ext.refl B', S, .str _⟩
  stop := fun B' H' e bh => by
    show x.cps.size ≤ _
    simp
theorem itOk_range (lo : Int) (n : Nat) : ItOk K mg (Itr lo n) B ((List.range n).map fun (i : Nat) => .int (lo + i)) where
  go := fun i d hd B' H' e bh => by
    rw [List.getElem?_map] at hd
    cases hc : (List.range n)[i]? with
    | none => rw [hc] at hd; cases hd
    | some c =>
      rw [hc] at hd
      cases hd
      obtain ⟨h1, h2⟩ := List.getElem?_eq_some_iff.mp hc
      rw [List.getElem_range] at h2
      subst h2
      refine ⟨show i < n by simpa using h1, fun y H2 hy PN σ0 F σ ρ S => ?_⟩
      obtain ⟨rfl, rfl⟩ := hy
      exact ⟨B', Ext.refl B', S, .int _⟩
  stop := fun B' H' e bh => by
    show n ≤ _
    simp
end
def wIt (f : FX) : En → R (List D) := fun ρ => (xF f ρ).bind fun s ρ1 => match s with
  | .fz d => match itemsD d with
    | some xs => .ok xs ρ1
    | none => .bad
  | _ => .bad
theorem fi_it {tg e : Expr} {f : FX} (h : FE X PN σ0 W e f) : FI X PN σ0 W tg e (wIt f) := by
  obtain ⟨t, pt, qt⟩ := (fe_f h).ex
  refine ⟨_, pi_any pt, fun F B H σ ρ Rr S q => qt F B H σ ρ _ S ?_⟩
  unfold wIt at q
  cases er : xF f ρ with
  | bad => rw [er] at q; exact q
  | exc c fs ρ1 => rw [er] at q; exact q
  | ok s ρ1 =>
    rw [er, R.bind_ok] at q
    intro v H1 B1 e1 S1 z
    cases s with
    | no => exact z.elim
    | ow d => exact q.elim
    | fz d =>
      cases d with
      | lst ds =>
        cases z with
        | lst h1 h2 => exact .inl ⟨_, rfl, ⟨_, S1.bh _ _ h1⟩, q _ _ B1 e1 S1 (itOk_list h1 h2)⟩
      | tup ds =>
        cases z with
        | tup h1 h2 => exact .inr (.inl ⟨_, rfl, ⟨_, S1.bh _ _ h1⟩, q _ _ B1 e1 S1 (itOk_tup h1 h2)⟩)
      | str x => cases z; exact .inr (.inr ⟨x, rfl, q _ _ B1 e1 S1 (itOk_str x)⟩)
      | _ => exact q.elim
/-- the range's ends -/
def wR (g : List D → Option (List D)) (l : En → R (List Th)) : En → R (List D) := fun ρ => (l ρ).bind fun ts ρ1 => match (evTh ts ρ1).bind g with
  | some xs => .ok xs ρ1
  | none => .bad
def rng1 : List D → Option (List D)
  | [.int j] => if -(2 ^ 62) ≤ j ∧ j < 2 ^ 62 then some ((List.range j.toNat).map fun (i : Nat) => .int (0 + i)) else none
  | _ => none
def rng2 : List D → Option (List D)
  | [.int i, .int j] => if (-(2 ^ 62) ≤ i ∧ i < 2 ^ 62 ∧ -(2 ^ 62) ≤ j ∧ j < 2 ^ 62) then some ((List.range (j - i).toNat).map fun (n : Nat) => .int (i + n)) else none
  | _ => none
theorem paired1 {X : Cx} {B H : Hp} {vs : List L2.V} {d : D} (h : Paired (LRep X B H) vs [d]) : ∃ v, vs = [v] ∧ LRep X B H v d := by
  cases h with
  | cons p q => cases q; exact ⟨_, rfl, p⟩
theorem paired2 {X : Cx} {B H : Hp} {vs : List L2.V} {d e : D} (h : Paired (LRep X B H) vs [d, e]) : ∃ v w, vs = [v, w] ∧ LRep X B H v d ∧ LRep X B H w e := by
  cases h with
  | cons p q =>
    obtain ⟨w, rfl, r⟩ := paired1 q
    exact ⟨_, w, rfl, p, r⟩
theorem fi_rng1 {tg a : Expr} {p pos : Pos} {l : En → R (List Th)} (b : Blt X "range") (h : FL X PN σ0 W [a] l) (hs : starEach [a] X.env = [(false, eval a X.env)] := by rfl) : FI X PN σ0 W tg (.Call (.Name "range" p) [a] [] pos) (wR rng1 l) := by
  obtain ⟨t, pt, qt⟩ := h.ex
  refine ⟨_, pi_range1 b.gl b.no pt hs, fun F B H σ ρ Rr S q => qt F B H σ ρ _ S ?_⟩
  unfold wR at q
  cases el : l ρ with
  | bad => rw [el] at q; exact q
  | exc c fs ρ1 => rw [el] at q; exact q
  | ok ts ρ1 =>
    rw [el, R.bind_ok] at q
    intro vs H1 B1 e1 S1 hl k1
    cases h1 : evTh ts ρ1 with
    | none => rw [h1] at q; exact q.elim
    | some ds =>
      rw [h1, Option.bind_some] at q
      have pr := paired_of hl (fun i v th a b d hd => k1 i v th a b B1 H1 ρ1 d (Ext.refl B1) S1 hd) h1
      unfold rng1 at q
      split at q
      · rename_i xs hx
        split at hx
        · rename_i j
          split at hx
          · rename_i hj
            cases hx
            obtain ⟨v, rfl, r⟩ := paired1 pr
            have := r.int
            subst this
            exact ⟨j, rfl, hj.1, hj.2, q _ _ B1 e1 S1 (itOk_range 0 _)⟩
          · cases hx
        · cases hx
      · exact q.elim
theorem fi_rng2 {tg a a2 : Expr} {p pos : Pos} {l : En → R (List Th)} (b : Blt X "range") (h : FL X PN σ0 W [a, a2] l) (hs : starEach [a, a2] X.env = [(false, eval a X.env), (false, eval a2 X.env)] := by rfl) (hs2 : starEach [a2] X.env = [(false, eval a2 X.env)] := by rfl) : FI X PN σ0 W tg (.Call (.Name "range" p) [a, a2] [] pos) (wR rng2 l) := by
  obtain ⟨t, pt, qt⟩ := h.ex
  refine ⟨_, pi_range2 b.gl b.no pt hs hs2, fun F B H σ ρ Rr S q => qt F B H σ ρ _ S ?_⟩
  unfold wR at q
  cases el : l ρ with
  | bad => rw [el] at q; exact q
  | exc c fs ρ1 => rw [el] at q; exact q
  | ok ts ρ1 =>
    rw [el, R.bind_ok] at q
    intro vs H1 B1 e1 S1 hl k1
    cases h1 : evTh ts ρ1 with
    | none => rw [h1] at q; exact q.elim
    | some ds =>
      rw [h1, Option.bind_some] at q
      have pr := paired_of hl (fun i v th a b d hd => k1 i v th a b B1 H1 ρ1 d (Ext.refl B1) S1 hd) h1
      unfold rng2 at q
      split at q
      · rename_i xs hx
        split at hx
        · rename_i i j
          split at hx
          · rename_i hj
            cases hx
            obtain ⟨v, w, rfl, r, r2⟩ := paired2 pr
            have := r.int
            subst this
            have := r2.int
            subst this
            exact ⟨i, j, rfl, hj, q _ _ B1 e1 S1 (itOk_range i _)⟩
          · cases hx
        · cases hx
      · exact q.elim
end

/-! ### for -/
def forL (fg : List Nat) (g : GG) (f : FY) : List D → En → R Fl
  | [], ρ => .ok .nx (forget fg ρ)
  | d :: ds, ρ => match g d (forget fg ρ) with
    | none => .bad
    | some ρ1 => match f ρ1 with
      | .ok .nx ρ2 => forL fg g f ds ρ2
      | .ok .ct ρ2 => forL fg g f ds ρ2
      | .ok .bk ρ2 => .ok .nx (forget fg ρ2)
      | .ok (.rt s) ρ2 => .ok (.rt s) ρ2
      | .exc c fs ρ2 => .exc c fs ρ2
      | .bad => .bad
def yFor (fg : List Nat) (gi : En → R (List D)) (g : GG) (f : FY) : FY := fun ρ => match gi ρ with
  | .ok xs ρ1 => forL fg g f xs ρ1
  | .exc c fs ρ1 => .exc c fs ρ1
  | .bad => .bad
section
variable {X : Cx} {PN : List Nat} {σ0 : Gs} {W : WX} {k : Nat}
theorem fs_for {tg iter : Expr} {body : List Stmt} {pos : Pos} {gi : En → R (List D)} {g : GG} {ts : List Nat} {f : FY} (fg : List Nat) (C : Cok X W k) (hi : FI X PN σ0 W tg iter gi) (hg : FG X PN σ0 tg g ts) (hb : FB X PN σ0 W body f)
    (hs : ∀ x, foldedSetIterable iter X.env x = pure x := by intro _; rfl) : FS X PN σ0 W (.For tg iter body [] pos) (yFor fg gi g f) := by
  obtain ⟨ti, pi, qi⟩ := hi.ex
  obtain ⟨tg', pg, qg⟩ := hg.ex
  obtain ⟨tb, pb, qb⟩ := hb.ex
  refine ⟨_, ps_for C.po C.calm pi pg pb hs, fun F B H σ ρ D' S q => qi F B H σ ρ _ S ?_⟩
  unfold yFor at q
  cases er : gi ρ with
  | bad => rw [er] at q; exact q
  | exc c fs ρ1 => rw [er] at q; exact fun cls od H' B' e S' z => q cls od σ H' B' e S' z
  | ok xs ρ1 =>
    rw [er] at q
    intro J H1 B1 e1 S1 hJ
    refine ⟨fun i m σ' H' => m = xs.length - i ∧ i ≤ xs.length ∧ ∃ B' ρ', Ext B1 B' ∧ Sat X.K X.mg PN σ0 F B' H' σ' ρ' ∧ SPost X PN σ0 W F B' (forL fg g f (xs.drop i) ρ') D', ⟨xs.length, rfl, Nat.zero_le _, B1, ρ1, Ext.refl B1, S1, SPost.mono e1 q⟩, ?_⟩
    rintro i m σ' H' ⟨rfl, hi, B', ρ', e', S', q'⟩
    by_cases hlt : i < xs.length
    · obtain ⟨d, hd⟩ : ∃ d, xs[i]? = some d := ⟨_, List.getElem?_eq_getElem hlt⟩
      have hdr : xs.drop i = d :: xs.drop (i + 1) := by
        rw [List.drop_eq_getElem_cons hlt]
        rw [List.getElem?_eq_getElem hlt] at hd
        rw [Option.some.inj hd]
      rw [hdr, forL] at q'
      obtain ⟨hgo, hy⟩ := hJ.go i d hd B' H' e' S'.bh
      refine .inr ⟨hgo, fun σ2 H2 => ∃ B2 ρ2, Ext B1 B2 ∧ Sat X.K X.mg PN σ0 F B2 H2 σ2 ρ2 ∧ SPost X PN σ0 W F B2 (forL fg g f (xs.drop (i + 1)) ρ2) D', fun σ2 H2 ⟨B2, ρ2, e2, S2, q2⟩ => ⟨xs.length - (i + 1), by omega, rfl, hlt, B2, ρ2, e2, S2, q2⟩, fun x H2 hx => ?_⟩
      obtain ⟨B2, e2, S2, r2⟩ := hy x H2 hx PN σ0 F σ' _ (S'.forget fg)
      cases eg : g d (forget fg ρ') with
      | none => rw [eg] at q'; exact q'.elim
      | some ρ3 =>
        rw [eg] at q'
        simp only at q'
        refine qg F B2 H2 σ' _ x d ρ3 _ S2 r2 eg fun σ3 _ _ S3 => qb F B2 H2 σ3 ρ3 _ S3 ?_
        have q' := SPost.mono e2 q'
        cases ef : f ρ3 with
        | bad => rw [ef] at q'; exact q'
        | exc c fs ρ4 => rw [ef] at q'; exact q'
        | ok fl ρ4 =>
          rw [ef] at q'
          cases fl with
          | nx => exact fun σ4 H4 B4 e4 S4 => ⟨B4, ρ4, (e'.trans e2).trans e4, S4, SPost.mono e4 q'⟩
          | ct => exact fun σ4 H4 B4 e4 S4 => ⟨B4, ρ4, (e'.trans e2).trans e4, S4, SPost.mono e4 q'⟩
          | bk => exact fun σ4 H4 B4 e4 S4 => q' σ4 H4 B4 e4 (S4.forget fg)
          | rt s => exact q'
    · have hie : i = xs.length := by omega
      subst hie
      rw [List.drop_length, forL] at q'
      exact .inl ⟨hJ.stop B' H' e' S'.bh, q' σ' H' B' (Ext.refl B') (S'.forget fg)⟩

/-! ### while -/
def whF (fg : List Nat) (c : FX) (f : FY) : Nat → En → R Fl
  | 0, _ => .bad
  | n + 1, ρ => match c (forget fg ρ) with
    | .ok (.fz (.bl true)) ρ1 => match f ρ1 with
      | .ok .nx ρ2 => whF fg c f n ρ2
      | .ok .ct ρ2 => whF fg c f n ρ2
      | .ok .bk ρ2 => .ok .nx (forget fg ρ2)
      | .ok (.rt s) ρ2 => .ok (.rt s) ρ2
      | .exc c fs ρ2 => .exc c fs ρ2
      | .bad => .bad
    | .ok (.fz (.bl false)) ρ1 => .ok .nx (forget fg ρ1)
    | .ok _ _ => .bad
    | .exc c fs ρ1 => .exc c fs ρ1
    | .bad => .bad
theorem whF_mono (fg : List Nat) (c : FX) (f : FY) : ∀ (n : Nat) (ρ : En), whF fg c f n ρ ≠ .bad → whF fg c f (n + 1) ρ = whF fg c f n ρ
  | 0, ρ, h => (h rfl).elim
  | n + 1, ρ, h => by
    rw [whF] at h ⊢
    rw [whF]
    cases ec : c (forget fg ρ) with
    | bad => rfl
    | exc c fs ρ1 => rfl
    | ok s ρ1 =>
      rw [ec] at h
      cases s with
      | no => rfl
      | ow d => rfl
      | fz d =>
        cases d with
        | bl b =>
          cases b with
          | false => rfl
          | true =>
            simp only at h ⊢
            cases ef : f ρ1 with
            | bad => rfl
            | exc c fs ρ2 => rfl
            | ok fl ρ2 =>
              rw [ef] at h
              cases fl with
              | nx => exact whF_mono fg c f n ρ2 h
              | ct => exact whF_mono fg c f n ρ2 h
              | bk => rfl
              | rt s => rfl
        | _ => rfl
theorem whF_add (fg : List Nat) (c : FX) (f : FY) (n : Nat) (ρ : En) (h : whF fg c f n ρ ≠ .bad) : ∀ m, whF fg c f (n + m) ρ = whF fg c f n ρ
  | 0 => rfl
  | m + 1 => by
    have ih := whF_add fg c f n ρ h m
    rw [← ih]
    exact whF_mono fg c f (n + m) ρ (by rw [ih]; exact h)
open Classical in
noncomputable def yWh (fg : List Nat) (c : FX) (f : FY) : FY := fun ρ => if h : ∃ n, whF fg c f n ρ ≠ .bad then whF fg c f (Classical.choose h) ρ else .bad
theorem yWh_of {fg : List Nat} {c : FX} {f : FY} {n : Nat} {ρ : En} {r : R Fl} (h : whF fg c f n ρ = r) (hb : r ≠ .bad) : yWh fg c f ρ = r := by
  have hn : whF fg c f n ρ ≠ .bad := by rw [h]; exact hb
  have hex : ∃ n, whF fg c f n ρ ≠ .bad := ⟨n, hn⟩
  unfold yWh
  rw [dif_pos hex]
  have hm := Classical.choose_spec hex
  rw [← h]
  rcases Nat.le_total n (Classical.choose hex) with q | q
  · obtain ⟨m, e⟩ := Nat.le.dest q
    rw [← e]
    exact whF_add fg c f n ρ hn m
  · obtain ⟨m, e⟩ := Nat.le.dest q
    conv => rhs; rw [← e]
    exact (whF_add fg c f _ ρ hm m).symm
theorem fs_while {c : Expr} {body : List Stmt} {pos : Pos} {fc : FX} {f : FY} (fg : List Nat) (C : Cok X W k) (hc : FT X PN σ0 W c fc) (hb : FB X PN σ0 W body f) : FS X PN σ0 W (.While c body [] pos) (yWh fg fc f) := by
  obtain ⟨tc, pc, qc⟩ := hc.ex
  obtain ⟨tb, pb, qb⟩ := hb.ex
  refine ⟨_, ps_while C.po pc pb, fun F B H σ ρ D' S q => ?_⟩
  unfold yWh at q
  split at q
  · rename_i h
    generalize Classical.choose h = n at q
    clear h
    refine ⟨fun m σ' H' => ∃ B' ρ', Ext B B' ∧ Sat X.K X.mg PN σ0 F B' H' σ' ρ' ∧ SPost X PN σ0 W F B' (whF fg fc f m ρ') D', ⟨n, B, ρ, Ext.refl B, S, q⟩, ?_⟩
    rintro m σ' H' ⟨B', ρ', e', S', q'⟩
    cases m with
    | zero => exact q'.elim
    | succ m =>
      rw [whF] at q'
      refine qc F B' H' σ' _ _ (S'.forget fg) ?_
      cases ec : fc (forget fg ρ') with
      | bad => rw [ec] at q'; exact q'
      | exc c fs ρ1 => rw [ec] at q'; exact fun cls od H2 B2 e2 S2 z => q' cls od σ' H2 B2 e2 S2 z
      | ok s ρ1 =>
        rw [ec] at q'
        cases s with
        | no => exact q'.elim
        | ow d => exact q'.elim
        | fz d =>
          cases d with
          | bl b =>
            cases b with
            | false => exact fun H2 B2 e2 S2 => iteF (q' σ' H2 B2 e2 (S2.forget fg))
            | true =>
              simp only at q'
              intro H2 B2 e2 S2
              refine iteT ⟨fun σ3 H3 => ∃ B3 ρ3, Ext B B3 ∧ Sat X.K X.mg PN σ0 F B3 H3 σ3 ρ3 ∧ SPost X PN σ0 W F B3 (whF fg fc f m ρ3) D', fun σ3 H3 h3 => ⟨m, Nat.lt_succ_self m, h3⟩, qb F B2 H2 σ' ρ1 _ S2 ?_⟩
              have q' := SPost.mono e2 q'
              cases ef : f ρ1 with
              | bad => rw [ef] at q'; exact q'
              | exc c fs ρ4 => rw [ef] at q'; exact q'
              | ok fl ρ4 =>
                rw [ef] at q'
                cases fl with
                | nx => exact fun σ4 H4 B4 e4 S4 => ⟨B4, ρ4, (e'.trans e2).trans e4, S4, SPost.mono e4 q'⟩
                | ct => exact fun σ4 H4 B4 e4 S4 => ⟨B4, ρ4, (e'.trans e2).trans e4, S4, SPost.mono e4 q'⟩
                | bk => exact fun σ4 H4 B4 e4 S4 => q' σ4 H4 B4 e4 (S4.forget fg)
                | rt s => exact q'
          | _ => exact q'.elim
  · exact q.elim
end
end FV

namespace FV
open PySem PySem.Spec PyProof.Rows L2

section
variable {X : Cx}
/-! ### ints -/
def gI (C : Int → Int → Bool) (f : Int → Int → D) : G2
  | .int i, .int j => if C i j then some (.fz (f i j)) else none
  | _, _ => none
theorem op2_I {C : Int → Int → Prop} {c : Int → Int → Bool} {f : Int → Int → D} {g : Int → Int → L2.V} (hc : ∀ i j, c i j = true → C i j) (hf : ∀ B i j, Rep X.K X.mg B (g i j) (f i j)) : Op2 X (rI C g) (gI c f) := by
  intro PN σ0 F B H σ ρ x y dx dy s Q S hx hy hg q
  unfold gI at hg
  split at hg
  · split at hg
    · rename_i i j h
      cases hg
      exact ⟨i, j, hx.int, hy.int, hc i j h, q.flat S (hf B i j)⟩
    · cases hg
  · cases hg
def gI0 (f : Int → Int → D) : G2
  | .int i, .int j => some (.fz (f i j))
  | _, _ => none
theorem op2_I0 {f : Int → Int → D} {g : Int → Int → L2.V} (hf : ∀ B i j, Rep X.K X.mg B (g i j) (f i j)) : Op2 X (rI0 g) (gI0 f) := by
  intro PN σ0 F B H σ ρ x y dx dy s Q S hx hy hg q
  unfold gI0 at hg
  split at hg
  · rename_i i j
    cases hg
    exact ⟨i, j, hx.int, hy.int, q.flat S (hf B i j)⟩
  · cases hg
def cMul (i j : Int) : Bool := decide (i.natAbs.log2 + j.natAbs.log2 < 1000000)
def cDiv (_ j : Int) : Bool := decide (0 < j) && decide (j.natAbs.log2 < 9000)
def cMod (_ j : Int) : Bool := decide (0 < j)
def cPow (i j : Int) : Bool := decide (0 ≤ j) && decide (j ≤ 1000000) && decide (i.natAbs < 2 ^ 64)
def cShr (_ j : Int) : Bool := decide (0 ≤ j)
def gStrCat : G2
  | .str x, .str y => if x.length + y.length ≤ 1000000 then some (.fz (.str (x ++ y))) else none
  | _, _ => none
theorem line_le {n : Nat} (h : n ≤ 1000000) : n ≤ sizeLine := Nat.le_trans h (by decide)
theorem line_lt {n : Nat} (h : n < 1000000) : n < sizeLine := Nat.lt_of_lt_of_le h (by decide)
theorem op2_strcat : Op2 X (fun x y H Q => ∃ i j, x = .str i ∧ y = .str j ∧ i.length + j.length ≤ sizeLine ∧ Q (.str (i ++ j)) H) gStrCat := by
  intro PN σ0 F B H σ ρ x y dx dy s Q S hx hy hg q
  unfold gStrCat at hg
  split at hg
  · split at hg
    · rename_i i j h
      cases hg
      exact ⟨i, j, hx.str, hy.str, line_le h, q.flat S (.str _)⟩
    · cases hg
  · cases hg
def gLstCat : G2
  | .lst x, .lst y => if x.length + y.length ≤ 1000000 then some (.ow (.lst (x ++ y))) else none
  | _, _ => none
theorem op2_lstcat : Op2 X rCat gLstCat := by
  intro PN σ0 F B H σ ρ x y dx dy s Q S hx hy hg q
  unfold gLstCat at hg
  split at hg
  · split at hg
    · rename_i a b h
      cases hg
      obtain ⟨l, xs, e1, h1, r1⟩ := hx.lst S.bh
      obtain ⟨m, ys, e2, h2, r2⟩ := hy.lst S.bh
      exact ⟨l, m, xs, ys, e1, e2, h1, h2, by rw [r1.length, r2.length]; exact line_le h, q.newL S (r1.append r2)⟩
    · cases hg
  · cases hg
def gTupCat : G2
  | .tup x, .tup y => if x.length + y.length ≤ 1000000 ∧ x ≠ [] ∧ y ≠ [] then some (.fz (.tup (x ++ y))) else none
  | _, _ => none
theorem op2_tupcat : Op2 X (rCatT X.K) gTupCat := by
  intro PN σ0 F B H σ ρ x y dx dy s Q S hx hy hg q
  unfold gTupCat at hg
  split at hg
  · split at hg
    · rename_i a b h
      cases hg
      obtain ⟨l, xs, e1, h1, r1⟩ := hx.tup S.bh
      obtain ⟨m, ys, e2, h2, r2⟩ := hy.tup S.bh
      refine ⟨l, m, xs, ys, e1, e2, .inl (.inl h1), .inl (.inl h2), fun z => ?_, by rw [r1.length, r2.length]; exact line_le h.1, fun z => ?_, fun _ => q.newT S (r1.append r2)⟩
      · subst z
        have := r1.length
        exact h.2.1 (List.length_eq_zero_iff.mp this.symm)
      · subst z
        have := r2.length
        exact (h.2.2 (List.length_eq_zero_iff.mp this.symm)).elim
    · cases hg
  · cases hg
def gAdd : G2 := fun d e => (gI0 (fun i j => .int (i + j)) d e).or ((gStrCat d e).or ((gLstCat d e).or (gTupCat d e)))
theorem bo_add : ∃ r, OpR X (binaryOp .Add) r ∧ Op2 X r gAdd := ⟨_, op_add.or (op_add_str.or (op_cat.or op_catT)), (op2_I0 fun B i j => .int _).or (op2_strcat.or (op2_lstcat.or op2_tupcat))⟩
theorem bo_sub : ∃ r, OpR X (binaryOp .Sub) r ∧ Op2 X r (gI0 fun i j => .int (i - j)) := ⟨_, op_sub, op2_I0 fun B i j => .int _⟩
def gLstRep : G2
  | .lst x, .int k => if -(2 ^ 63) ≤ k ∧ k < 2 ^ 63 ∧ x.length * k.toNat ≤ 1000000 then some (.ow (.lst (List.replicate k.toNat x).flatten)) else none
  | _, _ => none
theorem RepL.rep {K : PySem.W.Frag} {mg : Str → Option Value} {B : Hp} {xs : List L2.V} {ds : List D} (h : RepL K mg B xs ds) : ∀ k : Nat, RepL K mg B (List.replicate k xs).flatten (List.replicate k ds).flatten
  | 0 => .nil
  | k + 1 => by rw [List.replicate_succ, List.flatten_cons, List.replicate_succ, List.flatten_cons]; exact h.append (RepL.rep h k)
theorem op2_lstrep : Op2 X rRep gLstRep := by
  intro PN σ0 F B H σ ρ x y dx dy s Q S hx hy hg q
  unfold gLstRep at hg
  split at hg
  · split at hg
    · rename_i a k h
      cases hg
      obtain ⟨l, xs, e1, h1, r1⟩ := hx.lst S.bh
      exact ⟨l, k, xs, e1, hy.int, h1, h.1, h.2.1, by rw [r1.length]; exact line_le h.2.2, q.newL S (r1.rep _)⟩
    · cases hg
  · cases hg
def gMul : G2 := fun d e => (gI cMul (fun i j => .int (i * j)) d e).or (gLstRep d e)
theorem bo_mul : ∃ r, OpR X (binaryOp .Mult) r ∧ Op2 X r gMul := ⟨_, op_mulW.or op_rep, (op2_I (fun i j h => by simp only [cMul, decide_eq_true_eq] at h; exact h) fun B i j => .int _).or op2_lstrep⟩
abbrev gDiv : G2 := gI cDiv fun i j => .int (i / j)
theorem bo_div : ∃ r, OpR X (binaryOp .FloorDiv) r ∧ Op2 X r gDiv := ⟨_, op_fdivW, op2_I (fun i j h => by simp [cDiv] at h; exact h) fun B i j => .int _⟩
abbrev gMod : G2 := gI cMod fun i j => .int (i % j)
theorem bo_mod : ∃ r, OpR X (binaryOp .Mod) r ∧ Op2 X r gMod := ⟨_, op_mod, op2_I (fun i j h => of_decide_eq_true h) fun B i j => .int _⟩
abbrev gPow : G2 := gI cPow fun i j => .int (i ^ j.toNat)
theorem bo_pow : ∃ r, OpR X (binaryOp .Pow) r ∧ Op2 X r gPow := ⟨_, op_pow, op2_I (fun i j h => by simp only [cPow, Bool.and_eq_true, decide_eq_true_eq] at h; exact ⟨h.1.1, h.1.2, h.2⟩) fun B i j => .int _⟩
abbrev gShl : G2 := gI cPow fun i j => .int (i * 2 ^ j.toNat)
theorem bo_shl : ∃ r, OpR X (binaryOp .LShift) r ∧ Op2 X r gShl := ⟨_, op_shl, op2_I (fun i j h => by simp only [cPow, Bool.and_eq_true, decide_eq_true_eq] at h; exact ⟨h.1.1, h.1.2, h.2⟩) fun B i j => .int _⟩
abbrev gShr : G2 := gI cShr fun i j => .int (i / 2 ^ j.toNat)
theorem bo_shr : ∃ r, OpR X (binaryOp .RShift) r ∧ Op2 X r gShr := ⟨_, op_shr, op2_I (fun i j h => of_decide_eq_true h) fun B i j => .int _⟩
theorem bo_and : ∃ r, OpR X (binaryOp .BitAnd) r ∧ Op2 X r (gI0 fun i j => .int (Builtin.bitAnd i j)) := ⟨_, op_and, op2_I0 fun B i j => .int _⟩
theorem bo_or : ∃ r, OpR X (binaryOp .BitOr) r ∧ Op2 X r (gI0 fun i j => .int (Builtin.bitOr i j)) := ⟨_, op_or, op2_I0 fun B i j => .int _⟩
theorem bo_xor : ∃ r, OpR X (binaryOp .BitXor) r ∧ Op2 X r (gI0 fun i j => .int (Builtin.bitXor i j)) := ⟨_, op_xor, op2_I0 fun B i j => .int _⟩
/-! ### in place -/
def gAddI : G2 := fun d e => (gI0 (fun i j => .int (i + j)) d e).or (gStrCat d e)
theorem ip_add' : ∃ r, OpR X (inplaceOp .Add) r ∧ Op2 X r gAddI := ⟨_, iop_add.or iop_add_str, (op2_I0 fun B i j => .int _).or op2_strcat⟩
theorem ip_sub' : ∃ r, OpR X (inplaceOp .Sub) r ∧ Op2 X r (gI0 fun i j => .int (i - j)) := ⟨_, iop_sub, op2_I0 fun B i j => .int _⟩
/-! ### one place -/
def gNeg : D → Option Sl
  | .int i => some (.fz (.int (-i)))
  | _ => none
theorem uo_neg : ∃ r, UnR X (unaryOp .USub) r ∧ Op1 X r gNeg := ⟨_, un_neg, fun PN σ0 F B H σ ρ x dx s Q S hx hg q => by
  unfold gNeg at hg
  split at hg
  · rename_i i; cases hg; exact ⟨i, hx.int, q.flat S (.int _)⟩
  · cases hg⟩
def gInv : D → Option Sl
  | .int i => some (.fz (.int (Builtin.bitNot i)))
  | _ => none
theorem uo_inv : ∃ r, UnR X (unaryOp .Invert) r ∧ Op1 X r gInv := ⟨_, un_inv, fun PN σ0 F B H σ ρ x dx s Q S hx hg q => by
  unfold gInv at hg
  split at hg
  · rename_i i; cases hg; exact ⟨i, hx.int, q.flat S (.int _)⟩
  · cases hg⟩
/-! ### order -/
abbrev gCmp (p : Int → Int → Bool) : G2 := gI0 fun i j => .bl (p i j)
theorem co_lt : ∃ r, OpR X (compareOp .Lt) r ∧ Op2 X r (gCmp fun i j => decide (i < j)) := ⟨_, op_lt, op2_I0 fun B i j => .bl _⟩
theorem co_le : ∃ r, OpR X (compareOp .LtE) r ∧ Op2 X r (gCmp fun i j => decide (i ≤ j)) := ⟨_, op_le, op2_I0 fun B i j => .bl _⟩
theorem co_gt : ∃ r, OpR X (compareOp .Gt) r ∧ Op2 X r (gCmp fun i j => decide (j < i)) := ⟨_, op_gt, op2_I0 fun B i j => .bl _⟩
theorem co_ge : ∃ r, OpR X (compareOp .GtE) r ∧ Op2 X r (gCmp fun i j => decide (j ≤ i)) := ⟨_, op_ge, op2_I0 fun B i j => .bl _⟩
/-! ### equality -/
mutual
def toPy : D → Option PyData
  | .non => some .none
  | .bl b => some (.bool b)
  | .int i => some (.int i)
  | .str x => some (.str x)
  | .lst ds => (toPyL ds).map .list
  | .tup ds => (toPyL ds).map .tuple
  | _ => none
def toPyL : List D → Option (List PyData)
  | [] => some []
  | d :: ds => (toPy d).bind fun p => (toPyL ds).map fun ps => p :: ps
end
mutual
theorem dp_of {B H : Hp} (bh : ∀ b o, B b = some o → H b = some o) : ∀ (d : D) (v : L2.V) (p : PyData), Rep X.K X.mg B v d → toPy d = some p → Dp X.K H v p
  | .non, v, p, h, e => by simp [toPy] at e; subst e; cases h; exact .non
  | .bl b, v, p, h, e => by simp [toPy] at e; subst e; cases h; exact .bl b
  | .int i, v, p, h, e => by simp [toPy] at e; subst e; cases h; exact .int i
  | .str x, v, p, h, e => by simp [toPy] at e; subst e; cases h; exact .str x
  | .lst ds, v, p, h, e => by
    simp only [toPy] at e
    cases e1 : toPyL ds with
    | none => rw [e1] at e; cases e
    | some ps =>
      rw [e1] at e; cases e
      cases h with
      | lst h1 h2 => exact .lst (.inl (.inl (bh _ _ h1))) (dpl_of bh ds _ ps h2 e1)
  | .tup ds, v, p, h, e => by
    simp only [toPy] at e
    cases e1 : toPyL ds with
    | none => rw [e1] at e; cases e
    | some ps =>
      rw [e1] at e; cases e
      cases h with
      | tup h1 h2 => exact .tup (.inl (.inl (bh _ _ h1))) (dpl_of bh ds _ ps h2 e1)
  | .dic _, _, _, _, e => by simp [toPy] at e
  | .ins _ _, _, _, _, e => by simp [toPy] at e
  | .scr _, _, _, _, e => by simp [toPy] at e
  | .ty _, _, _, _, e => by simp [toPy] at e
  | .cls _, _, _, _, e => by simp [toPy] at e
theorem dpl_of {B H : Hp} (bh : ∀ b o, B b = some o → H b = some o) : ∀ (ds : List D) (vs : List L2.V) (ps : List PyData), RepL X.K X.mg B vs ds → toPyL ds = some ps → DpAll X.K H vs ps
  | [], vs, ps, h, e => by simp [toPyL] at e; subst e; cases h; exact .nil
  | d :: ds, vs, ps, h, e => by
    simp only [toPyL] at e
    cases e1 : toPy d with
    | none => rw [e1] at e; cases e
    | some p =>
      rw [e1] at e
      cases e2 : toPyL ds with
      | none => rw [e2] at e; cases e
      | some qs =>
        rw [e2] at e; cases e
        cases h with
        | cons h1 h2 => exact .cons (dp_of bh d _ p h1 e1) (dpl_of bh ds _ qs h2 e2)
end
theorem ldp_of {B H : Hp} {v : L2.V} {d : D} {p : PyData} (bh : ∀ b o, B b = some o → H b = some o) (h : LRep X B H v d) (e : toPy d = some p) : Dp X.K H v p := by
  cases d with
  | lst ds =>
    obtain ⟨a, xs, rfl, h1, h2⟩ := h.lst bh
    simp only [toPy] at e
    cases e1 : toPyL ds with
    | none => rw [e1] at e; cases e
    | some ps => rw [e1] at e; cases e; exact .lst (.inl (.inl h1)) (dpl_of bh ds _ ps h2 e1)
  | _ =>
    rcases h with h | ⟨a, _, h⟩
    · exact dp_of bh _ v p h e
    · first | exact h.elim | (simp [toPy] at e)
/-- scalars that are compared at once -/
def eqS : D → D → Option Bool
  | .non, .non => some true
  | .non, .int _ => some false
  | .int _, .non => some false
  | .non, .bl _ => some false
  | .bl _, .non => some false
  | .non, .str _ => some false
  | .str _, .non => some false
  | .int i, .int j => some (i == j)
  | .bl i, .bl j => some (i == j)
  | .str i, .str j => some (decide (i = j))
  | .int _, .str _ => some false
  | .str _, .int _ => some false
  | .bl _, .str _ => some false
  | .str _, .bl _ => some false
  | _, _ => none
theorem eqS_V {B H : Hp} {x y : L2.V} {d e : D} {b : Bool} (hx : LRep X B H x d) (hy : LRep X B H y e) (h : eqS d e = some b) : scal x y = true ∧ decide (x = y) = b := by
  cases d <;> cases e <;> simp only [eqS, Option.some.injEq, reduceCtorEq] at h <;> first | (cases h; done) | skip
  all_goals first
    | (cases hx.non; cases hy.non; subst h; exact ⟨rfl, by simp⟩)
    | (cases hx.non; cases hy.int; subst h; exact ⟨rfl, by simp⟩)
    | (cases hx.int; cases hy.non; subst h; exact ⟨rfl, by simp⟩)
    | (cases hx.non; cases hy.bl; subst h; exact ⟨rfl, by simp⟩)
    | (cases hx.bl; cases hy.non; subst h; exact ⟨rfl, by simp⟩)
    | (cases hx.non; cases hy.str; subst h; exact ⟨rfl, by simp⟩)
    | (cases hx.str; cases hy.non; subst h; exact ⟨rfl, by simp⟩)
    | (cases hx.int; cases hy.int; subst h; exact ⟨rfl, dec_int⟩)
    | (cases hx.bl; cases hy.bl; subst h; exact ⟨rfl, dec_bl⟩)
    | (cases hx.str; cases hy.str; subst h; exact ⟨rfl, by simp⟩)
    | (cases hx.int; cases hy.str; subst h; exact ⟨rfl, by simp⟩)
    | (cases hx.str; cases hy.int; subst h; exact ⟨rfl, by simp⟩)
    | (cases hx.bl; cases hy.str; subst h; exact ⟨rfl, by simp⟩)
    | (cases hx.str; cases hy.bl; subst h; exact ⟨rfl, by simp⟩)
def eqDeep (d e : D) : Option Bool := (toPy d).bind fun p => (toPy e).bind fun q => if SeqAt.shaped p && SeqAt.shaped q then some (PyData.eqv p q) else none
def eqD (d e : D) : Option Bool := (eqS d e).or (eqDeep d e)
def gEq : G2 := fun d e => (eqD d e).map fun b => .fz (.bl b)
def gNe : G2 := fun d e => (eqD d e).map fun b => .fz (.bl (!b))
theorem eqDeep_some {d e : D} {b : Bool} (h : eqDeep d e = some b) : ∃ p q, toPy d = some p ∧ toPy e = some q ∧ SeqAt.shaped p = true ∧ SeqAt.shaped q = true ∧ PyData.eqv p q = b := by
  unfold eqDeep at h
  cases e1 : toPy d with
  | none => rw [e1] at h; cases h
  | some p =>
    cases e2 : toPy e with
    | none => rw [e1, e2] at h; cases h
    | some q =>
      rw [e1, e2] at h
      simp only [Option.bind_some] at h
      split at h
      · rename_i hs
        rw [Bool.and_eq_true] at hs
        exact ⟨p, q, rfl, rfl, hs.1, hs.2, Option.some.inj h⟩
      · cases h
theorem co_eq (hu : X.A.units + 64 < cLine) : ∃ r, OpR X (compareOp .Eq) r ∧ Op2 X r gEq := by
  refine ⟨_, op_eq.or (op_eqD hu), fun PN σ0 F B H σ ρ x y dx dy s Q S hx hy hg q => ?_⟩
  unfold gEq eqD at hg
  cases e1 : eqS dx dy with
  | some b =>
    rw [e1] at hg; cases hg
    obtain ⟨h1, h2⟩ := eqS_V hx hy e1
    exact .inl ⟨h1, by rw [h2]; exact q.flat S (.bl _)⟩
  | none =>
    rw [e1] at hg
    cases e2 : eqDeep dx dy with
    | none => rw [e2] at hg; cases hg
    | some b =>
      rw [e2] at hg; cases hg
      obtain ⟨p, p', g1, g2, g3, g4, g5⟩ := eqDeep_some e2
      exact .inr ⟨p, p', ldp_of S.bh hx g1, ldp_of S.bh hy g2, g3, g4, by rw [g5]; exact q.flat S (.bl _)⟩
theorem co_ne (hu : X.A.units + 64 < cLine) : ∃ r, OpR X (compareOp .NotEq) r ∧ Op2 X r gNe := by
  refine ⟨_, op_ne.or (op_neD hu), fun PN σ0 F B H σ ρ x y dx dy s Q S hx hy hg q => ?_⟩
  unfold gNe eqD at hg
  cases e1 : eqS dx dy with
  | some b =>
    rw [e1] at hg; cases hg
    obtain ⟨h1, h2⟩ := eqS_V hx hy e1
    exact .inl ⟨h1, by rw [h2]; exact q.flat S (.bl _)⟩
  | none =>
    rw [e1] at hg
    cases e2 : eqDeep dx dy with
    | none => rw [e2] at hg; cases hg
    | some b =>
      rw [e2] at hg; cases hg
      obtain ⟨p, p', g1, g2, g3, g4, g5⟩ := eqDeep_some e2
      exact .inr ⟨p, p', ldp_of S.bh hx g1, ldp_of S.bh hy g2, g3, g4, by rw [g5]; exact q.flat S (.bl _)⟩
def isN : D → Bool
  | .non => true
  | _ => false
theorem isN_V {B H : Hp} {x : L2.V} {d : D} (hx : LRep X B H x d) : decide (x = .non) = isN d := by
  rcases hx with h | ⟨a, rfl, h⟩
  · cases h <;> simp [isN]
  · cases d with
    | non => exact h.elim
    | _ => simp [isN]
def gIsN : G2
  | d, .non => some (.fz (.bl (isN d)))
  | _, _ => none
def gNotN : G2
  | d, .non => some (.fz (.bl (!isN d)))
  | _, _ => none
theorem co_isN : ∃ r, OpR X (compareOp .Is) r ∧ Op2 X r gIsN := ⟨_, op_isN, fun PN σ0 F B H σ ρ x y dx dy s Q S hx hy hg q => by
  unfold gIsN at hg
  split at hg
  · cases hg; exact ⟨hy.non, by rw [isN_V hx]; exact q.flat S (.bl _)⟩
  · cases hg⟩
theorem co_notN : ∃ r, OpR X (compareOp .IsNot) r ∧ Op2 X r gNotN := ⟨_, op_notN, fun PN σ0 F B H σ ρ x y dx dy s Q S hx hy hg q => by
  unfold gNotN at hg
  split at hg
  · cases hg; exact ⟨hy.non, by rw [isN_V hx]; exact q.flat S (.bl _)⟩
  · cases hg⟩
end
section
variable {X : Cx} {PN : List Nat} {σ0 : Gs} {W : WX} {a b : Expr} {ga gb : En → R Th} {pos : Pos}
theorem fe_bo {op : Operator} {g : G2} (h : ∃ r, OpR X (binaryOp op) r ∧ Op2 X r g) (ha : FA X PN σ0 W a ga) (hb : FA X PN σ0 W b gb) : FE X PN σ0 W (.BinOp a op b pos) (xB g ga gb) := by
  obtain ⟨r, h1, h2⟩ := h
  exact fe_bin h1 h2 ha hb
theorem fe_co {op : CmpOp} {g : G2} (h : ∃ r, OpR X (compareOp op) r ∧ Op2 X r g) (ha : FA X PN σ0 W a ga) (hb : FA X PN σ0 W b gb) (hm : behindInMarks op b = false := by rfl) : FE X PN σ0 W (.Compare a [op] [b] pos) (xB g ga gb) := by
  obtain ⟨r, h1, h2⟩ := h
  exact fe_cmp h1 h2 ha hb hm
theorem ft_co {op : CmpOp} {g : G2} (h : ∃ r, OpR X (compareOp op) r ∧ Op2 X r g) (ha : FA X PN σ0 W a ga) (hb : FA X PN σ0 W b gb) (hm : behindInMarks op b = false := by rfl) : FT X PN σ0 W (.Compare a [op] [b] pos) (xB g ga gb) := by
  obtain ⟨r, h1, h2⟩ := h
  exact ft_cmp h1 h2 ha hb hm
theorem fe_uo {op : UnaryOp} {g : D → Option Sl} (h : ∃ r, UnR X (unaryOp op) r ∧ Op1 X r g) (ha : FA X PN σ0 W a ga) : FE X PN σ0 W (.UnaryOp op a pos) (xU g ga) := by
  obtain ⟨r, h1, h2⟩ := h
  exact fe_un h1 h2 ha
theorem fs_au {M L : List Bool} (N : NamesOk X M L) (i : Nat) {x : Str} {e : Expr} {op : Operator} {pos pos' : Pos} {f : FX} {g : G2} (h : ∃ r, OpR X (inplaceOp op) r ∧ Op2 X r g) (he : FE X PN σ0 W e f) (hp : i ∉ PN := by decide) (hi : X.N[i]? = some x := by rfl) (hm : L[i]? = some true := by rfl)
    (hr' : M[i]? = some true := by rfl) : FS X PN σ0 W (.AugAssign (.Name x pos') op e pos) (yAug i g f) := by
  obtain ⟨r, h1, h2⟩ := h
  exact fs_aug N i h1 h2 he hp hi hm hr'
/-! ### subscripts -/
def ixD : G2
  | .lst ds, .int i => (atI ds i).map .fz
  | .tup ds, .int i => (atI ds i).map .fz
  | .str x, .int i => if x.length ≤ 1000000 then (atI x.cps.toList i).map fun c => .fz (.str ⟨#[c]⟩) else none
  | .dic kds, dk => (keyOf dk).bind fun k => (valD kds k).map .fz
  | _, _ => none
theorem val_rep {B : Hp} {kvs : List (Key × L2.V)} {kds : List (Key × D)} {k : Key} (e : kvs.map (·.1) = kds.map (·.1)) (r : RepL X.K X.mg B (kvs.map (·.2)) (kds.map (·.2))) :
    (valD kds k = none ∧ valV kvs k = none) ∨ ∃ d v, valD kds k = some d ∧ valV kvs k = some v ∧ Rep X.K X.mg B v d := by
  induction kvs generalizing kds with
  | nil =>
    cases kds with
    | nil => exact .inl ⟨rfl, rfl⟩
    | cons q kds => simp at e
  | cons p kvs ih =>
    cases kds with
    | nil => simp at e
    | cons q kds =>
      simp only [List.map_cons, List.cons.injEq] at e
      obtain ⟨e1, e2⟩ := e
      cases r with
      | cons r1 r2 =>
        by_cases z : p.1 = k
        · refine .inr ⟨q.2, p.2, ?_, valV_pos z, r1⟩
          simp [valD, List.find?_cons, e1 ▸ z]
        · rw [valV_neg z]
          have : valD (q :: kds) k = valD kds k := by simp [valD, List.find?_cons, e1 ▸ z]
          rw [this]
          exact ih e2 r2
theorem ix_dict (hu : X.A.units + 1 < cLine) : IxR X (fun x y H Q => ∃ a v, x = .ref a ∧ DGet H a y (some v) ∧ Q v H) := by
  intro value slice pins s σ H x y v u Q I rx ry h hs
  obtain ⟨a, v', rfl, g, q⟩ := h
  cases rx
  have hT := dict_typeIs I g
  unfold subscriptTail
  refine wpAny_bind ?_
  rw [getitemInPython_of_ne hT.not_modules]
  refine wpAny_bind (wpAny_specialOf hT PySem.F.slot_dict_getitem.lookup ?_)
  have fin : wpAny (model X.prog X.w) X.A (subscripted slice false (.ref a) u) (fun r s₃ => wpAny (model X.prog X.w) X.A (letTemporaryGo value (.ref a) r >>= fun _ => pure r) (EP X pins σ Q) X.xe s₃) X.xe s := by
    rw [hs]
    exact wpAny_operating (d_getItem hu I g ry fun w' s3 I3 rw' => wpAny_bind (wpAny_letTemporaryGo (wpAny_pure ⟨v', H, I3, rw', q⟩)))
  first
    | exact wpAny_pure (wpAny_bind fin)
    | exact wpAny_bind (wpAny_pure (wpAny_bind fin))
    | exact wpAny_bind fin
theorem fe_ix (hu : X.A.units + 1 < cLine) (ha : FA X PN σ0 W a ga) (hb : FA X PN σ0 W b gb) (hs : PlainIx b := by intro _ _; rfl) : FE X PN σ0 W (.Subscript a b pos) (xB ixD ga gb) := by
  obtain ⟨ta, pa, qa⟩ := ha.ex
  obtain ⟨tb, pb, qb⟩ := hb.ex
  refine ⟨_, pe_ix (ix_seq.or (ix_dict hu)) pa pb hs, fun F B H σ ρ Q S q => fin2 (fun PN σ0 F B H σ ρ x y dx dy s Q S hx hy hg q => ?_) qa qb S q⟩
  unfold ixD at hg
  split at hg
  · rename_i ds i
    cases e : atI ds i with
    | none => rw [e] at hg; cases hg
    | some d =>
      rw [e] at hg; cases hg
      obtain ⟨l, xs, e1, h1, r1⟩ := hx.lst S.bh
      have e' := e
      unfold atI at e'
      cases ej : ixN ds.length i with
      | none => rw [ej] at e'; cases e'
      | some j =>
        rw [ej] at e'
        obtain ⟨v, hv, rv⟩ := r1.get e'
        exact .inl (.inl ⟨l, xs, i, v, e1, hy.int, .inl (.inl h1), by unfold atI; rw [r1.length, ej]; exact hv, q.flat S rv⟩)
  · rename_i ds i
    cases e : atI ds i with
    | none => rw [e] at hg; cases hg
    | some d =>
      rw [e] at hg; cases hg
      obtain ⟨l, xs, e1, h1, r1⟩ := hx.tup S.bh
      have e' := e
      unfold atI at e'
      cases ej : ixN ds.length i with
      | none => rw [ej] at e'; cases e'
      | some j =>
        rw [ej] at e'
        obtain ⟨v, hv, rv⟩ := r1.get e'
        exact .inl (.inr (.inl ⟨l, xs, i, v, e1, hy.int, .inl (.inl h1), by unfold atI; rw [r1.length, ej]; exact hv, q.flat S rv⟩))
  · rename_i z i
    split at hg
    · rename_i hl
      cases e : atI z.cps.toList i with
      | none => rw [e] at hg; cases hg
      | some c => rw [e] at hg; cases hg; exact .inl (.inr (.inr ⟨z, i, c, hx.str, hy.int, line_le hl, e, q.flat S (.str _)⟩))
    · cases hg
  · rename_i kds dk
    cases ek : keyOf dy with
    | none => rw [ek] at hg; cases hg
    | some k =>
      rw [ek, Option.bind_some] at hg
      obtain ⟨l, kvs, e1, h1, h2, r1⟩ := hx.dic S.bh
      have ey : y = kV k := by
        rcases hy with hy | ⟨a, _, hy⟩
        · exact key_rep hy ek
        · cases dy <;> first | exact hy.elim | simp [keyOf] at ek
      rcases val_rep (k := k) h2 r1 with ⟨z, _⟩ | ⟨d, v, z1, z2, z3⟩
      · rw [z] at hg; cases hg
      · rw [z1] at hg; cases hg
        refine .inr ⟨l, v, e1, ?_, q.flat S z3⟩
        rw [ey, ← z2]
        exact .inl ⟨kvs, k, h1, rfl, rfl⟩
  · cases hg
end
end FV

namespace FV
open PySem PySem.Spec PyProof.Rows L2

section
variable {X : Cx}
/-! ### built-in functions -/
def gLen : List D → Option Sl
  | [.str x] => if x.length ≤ 1000000 then some (.fz (.int x.length)) else none
  | [.lst ds] => some (.fz (.int ds.length))
  | [.tup ds] => some (.fz (.int ds.length))
  | [.dic kds] => some (.fz (.int kds.length))
  | _ => none
theorem call_lenD' : CallR X (.builtin "len") (fun xs H Q => ∃ a kvs, xs = [.ref a] ∧ Rd H a (.dK kvs) ∧ Q (.int kvs.length) H) := by
  intro pins s σ H xs us Q I r h
  obtain ⟨a, kvs, rfl, hd, q⟩ := h
  obtain ⟨u, rfl, ru⟩ := vals1 r
  cases ru
  exact d_len I hd fun t s' I' => ⟨.int kvs.length, H, I', ⟨_, rfl⟩, q⟩
theorem cb_len : ∃ r, CallR X (.builtin "len") r ∧ OpN X r gLen := by
  refine ⟨_, call_len.or call_lenD', fun PN σ0 F B H σ ρ vs ds s Q S hp hg q => ?_⟩
  unfold gLen at hg
  split at hg
  · split at hg
    · rename_i x h
      cases hg
      obtain ⟨v, rfl, r⟩ := paired1 hp
      cases r.str
      exact .inl ⟨.str x, x.length, rfl, ⟨line_le h, rfl⟩, q.flat S (.int _)⟩
    · cases hg
  · cases hg
    obtain ⟨v, rfl, r⟩ := paired1 hp
    obtain ⟨a, xs, rfl, h1, h2⟩ := r.lst S.bh
    exact .inl ⟨.ref a, xs.length, rfl, .inl ⟨xs, .inl (.inl h1), rfl⟩, by rw [h2.length]; exact q.flat S (.int _)⟩
  · cases hg
    obtain ⟨v, rfl, r⟩ := paired1 hp
    obtain ⟨a, xs, rfl, h1, h2⟩ := r.tup S.bh
    exact .inl ⟨.ref a, xs.length, rfl, .inr ⟨xs, .inl (.inl h1), rfl⟩, by rw [h2.length]; exact q.flat S (.int _)⟩
  · cases hg
    obtain ⟨v, rfl, r⟩ := paired1 hp
    obtain ⟨a, kvs, rfl, h1, h2, h3⟩ := r.dic S.bh
    exact .inr ⟨a, kvs, rfl, h1, by rw [show kvs.length = _ by simpa using congrArg List.length h2]; exact q.flat S (.int _)⟩
  · cases hg
def gAbs : List D → Option Sl
  | [.int i] => some (.fz (.int (if i < 0 then -i else i)))
  | _ => none
theorem cb_abs : ∃ r, CallR X (.builtin "abs") r ∧ OpN X r gAbs := ⟨_, call_abs, fun PN σ0 F B H σ ρ vs ds s Q S hp hg q => by
  unfold gAbs at hg
  split at hg
  · cases hg
    obtain ⟨v, rfl, r⟩ := paired1 hp
    cases r.int
    exact ⟨_, rfl, q.flat S (.int _)⟩
  · cases hg⟩
def gInt : List D → Option Sl
  | [.int i] => some (.fz (.int i))
  | [.bl b] => some (.fz (.int (if b then 1 else 0)))
  | _ => none
theorem cb_int : ∃ r, CallR X (.type "int") r ∧ OpN X r gInt := ⟨_, call_int1, fun PN σ0 F B H σ ρ vs ds s Q S hp hg q => by
  unfold gInt at hg
  split at hg
  · cases hg
    obtain ⟨v, rfl, r⟩ := paired1 hp
    cases r.int
    exact .inl ⟨_, rfl, q.flat S (.int _)⟩
  · cases hg
    obtain ⟨v, rfl, r⟩ := paired1 hp
    cases r.bl
    exact .inr ⟨_, rfl, q.flat S (.int _)⟩
  · cases hg⟩
def gMax2 : List D → Option Sl
  | [.int i, .int j] => some (.fz (.int (if j > i then j else i)))
  | _ => none
def gMin2 : List D → Option Sl
  | [.int i, .int j] => some (.fz (.int (if j < i then j else i)))
  | _ => none
theorem cb_max2 (hc : X.calm = true) : ∃ r, CallR X (.builtin "max") r ∧ OpN X r gMax2 := ⟨_, call_max2 hc, fun PN σ0 F B H σ ρ vs ds s Q S hp hg q => by
  unfold gMax2 at hg
  split at hg
  · cases hg
    obtain ⟨v, w, rfl, r, r2⟩ := paired2 hp
    cases r.int
    cases r2.int
    exact ⟨_, _, rfl, q.flat S (.int _)⟩
  · cases hg⟩
theorem cb_min2 (hc : X.calm = true) : ∃ r, CallR X (.builtin "min") r ∧ OpN X r gMin2 := ⟨_, call_min2 hc, fun PN σ0 F B H σ ρ vs ds s Q S hp hg q => by
  unfold gMin2 at hg
  split at hg
  · cases hg
    obtain ⟨v, w, rfl, r, r2⟩ := paired2 hp
    cases r.int
    cases r2.int
    exact ⟨_, _, rfl, q.flat S (.int _)⟩
  · cases hg⟩
def tyD : D → Option String
  | .non => some "NoneType"
  | .bl _ => some "bool"
  | .int _ => some "int"
  | .str _ => some "str"
  | .lst _ => some "list"
  | .tup _ => some "tuple"
  | .dic _ => some "dict"
  | _ => none
theorem ty_V {B H : Hp} {v : L2.V} {d : D} {t : String} (bh : ∀ b o, B b = some o → H b = some o) (h : LRep X B H v d) (e : tyD d = some t) : TyX X.K H v (.type t) := by
  cases d with
  | non => cases e; cases h.non; exact .base .non
  | bl b => cases e; cases h.bl; exact .base (.bl b)
  | int i => cases e; cases h.int; exact .base (.int i)
  | str x => cases e; cases h.str; exact .base (.str x)
  | lst ds => cases e; obtain ⟨a, xs, rfl, h1, _⟩ := h.lst bh; exact .base (.lst h1)
  | tup ds => cases e; obtain ⟨a, xs, rfl, h1, _⟩ := h.tup bh; exact .base (.tup h1)
  | dic kds =>
    cases e
    obtain ⟨a, kvs, rfl, h1, _⟩ := h.dic bh
    rcases h1 with h1 | ⟨od, h1⟩
    · exact .base (.dK h1)
    · exact .fDict h1
  | _ => cases e
def gIsi : List D → Option Sl
  | [d, .ty b] => (tyD d).bind fun a => (kitB a b).map fun r => .fz (.bl r)
  | _ => none
theorem LRep.ty {B H : Hp} {v : L2.V} {n : String} (h : LRep X B H v (.ty n)) : v = .ty n := by
  rcases h with h | ⟨a, _, h⟩
  · cases h; rfl
  · exact h.elim
theorem cb_isi : ∃ r, CallR X (.builtin "isinstance") r ∧ OpN X r gIsi := ⟨_, call_isi, fun PN σ0 F B H σ ρ vs ds s Q S hp hg q => by
  unfold gIsi at hg
  split at hg
  · rename_i d b
    cases e1 : tyD d with
    | none => rw [e1] at hg; cases hg
    | some a =>
      rw [e1, Option.bind_some] at hg
      cases e2 : kitB a b with
      | none => rw [e2] at hg; cases hg
      | some r =>
        rw [e2] at hg
        cases hg
        obtain ⟨v, w, rfl, r1, r2⟩ := paired2 hp
        cases r2.ty
        exact ⟨v, .ty b, _, _, r, rfl, .ty b, ty_V S.bh r1 e1, kit_ty e2, q.flat S (.bl _)⟩
  · cases hg⟩
/-- list(x), tuple(x) -/
def gList : List D → Option Sl
  | [.lst ds] => some (.ow (.lst ds))
  | [.tup ds] => some (.ow (.lst ds))
  | _ => none
theorem cb_list : ∃ r, CallR X (.type "list") r ∧ OpN X r gList := ⟨_, call_list_of, fun PN σ0 F B H σ ρ vs ds s Q S hp hg q => by
  unfold gList at hg
  split at hg
  · cases hg
    obtain ⟨v, rfl, r⟩ := paired1 hp
    obtain ⟨a, xs, rfl, h1, h2⟩ := r.lst S.bh
    exact ⟨a, xs, rfl, .inl (.inl (.inl h1)), q.newL S h2⟩
  · cases hg
    obtain ⟨v, rfl, r⟩ := paired1 hp
    obtain ⟨a, xs, rfl, h1, h2⟩ := r.tup S.bh
    exact ⟨a, xs, rfl, .inr (.inl (.inl h1)), q.newL S h2⟩
  · cases hg⟩
def gTuple : List D → Option Sl
  | [.lst ds] => some (.fz (.tup ds))
  | [.tup ds] => some (.fz (.tup ds))
  | _ => none
theorem cb_tuple : ∃ r, CallR X (.type "tuple") r ∧ OpN X r gTuple := ⟨_, call_tuple_of, fun PN σ0 F B H σ ρ vs ds s Q S hp hg q => by
  unfold gTuple at hg
  split at hg
  · cases hg
    obtain ⟨v, rfl, r⟩ := paired1 hp
    obtain ⟨a, xs, rfl, h1, h2⟩ := r.lst S.bh
    exact ⟨a, xs, rfl, .inl ⟨.inl (.inl h1), q.newT S h2⟩⟩
  · cases hg
    obtain ⟨v, rfl, r⟩ := paired1 hp
    rcases r with r | ⟨a, rfl, r⟩
    · cases r with
      | tup h1 h2 => exact ⟨_, _, rfl, .inr ⟨.inl (.inl (S.bh _ _ h1)), q.flat S (.tup h1 h2)⟩⟩
    · exact r.elim
  · cases hg⟩
end
section
variable {X : Cx} {PN : List Nat} {σ0 : Gs} {W : WX} {k : Nat}
theorem fe_cb {x : Str} {p pos : Pos} {e : Expr} {es : List Expr} {id : String} {g : List D → Option Sl} {l : En → R (List Th)} (h : ∃ r, CallR X (.builtin id) r ∧ OpN X r g) (b : Blt X x) (hv : bootBuiltins x = some (.builtin id)) (ha : FL X PN σ0 W (e :: es) l)
    (hn : x ≠ "__name__" := by decide) (hdb : (x == ("__debug__" : Str)) = false := by decide)
    (he : starEach (e :: es) X.env = (false, eval e X.env) :: starEach es X.env := by rfl) (hpl : (backTo pos (starEach es X.env)).any (·.1) = false := by rfl) : FE X PN σ0 W (.Call (.Name x p) (e :: es) [] pos) (xL g l) := by
  obtain ⟨r, h1, h2⟩ := h
  exact fe_callB h1 h2 b hv ha hn hdb he hpl
theorem fe_ct {x : Str} {p pos : Pos} {e : Expr} {es : List Expr} {T : String} {g : List D → Option Sl} {l : En → R (List Th)} (h : ∃ r, CallR X (.type T) r ∧ OpN X r g) (b : Blt X x) (hv : bootBuiltins x = some (.type T)) (ha : FL X PN σ0 W (e :: es) l)
    (hn : x ≠ "__name__" := by decide) (hdb : (x == ("__debug__" : Str)) = false := by decide)
    (he : starEach (e :: es) X.env = (false, eval e X.env) :: starEach es X.env := by rfl) (hpl : (backTo pos (starEach es X.env)).any (·.1) = false := by rfl) : FE X PN σ0 W (.Call (.Name x p) (e :: es) [] pos) (xL g l) := by
  obtain ⟨r, h1, h2⟩ := h
  exact fe_callT h1 h2 b hv ha hn hdb he hpl
/-- a built-in class as a value -/
theorem fe_ty {x : Str} {p : Pos} {T : String} (b : Blt X x) (hv : bootBuiltins x = some (.type T)) (hn : x ≠ "__name__" := by decide) (hdb : (x == ("__debug__" : Str)) = false := by decide) : FE X PN σ0 W (.Name x p) (xC (.ty T)) :=
  fe_c (pe_bltn b.gl b.no hv (show RelV (.ty T) (.type T) from rfl) hn hdb) fun _ => .ty T
/-- a constant of the module -/
theorem fe_gi {x : Str} {p : Pos} {i : Int} (hg : Gl X x) (hm : ∃ t, X.mg x = some (.int i t)) (hdb : (x == ("__debug__" : Str)) = false := by decide) : FE X PN σ0 W (.Name x p) (xC (.int i)) := by
  obtain ⟨t, hm⟩ := hm
  exact fe_c (pe_glob hg hm (v := .int i) ⟨t, rfl⟩ hdb) fun _ => .int i
theorem fe_gs {x : Str} {p : Pos} {y : Str} (hg : Gl X x) (hm : ∃ t, X.mg x = some (.str y t)) (hdb : (x == ("__debug__" : Str)) = false := by decide) : FE X PN σ0 W (.Name x p) (xC (.str y)) := by
  obtain ⟨t, hm⟩ := hm
  exact fe_c (pe_glob hg hm (v := .str y) ⟨t, rfl⟩ hdb) fun _ => .str y
/-! ### slices -/
structure FP (X : Cx) (PN : List Nat) (σ0 : Gs) (W : WX) (e : Option Expr) (g : En → R (Option Int)) : Prop where
  ex : ∃ t : TO, PO X e t ∧ ∀ F B H σ ρ Q, Sat X.K X.mg PN σ0 F B H σ ρ → (match g ρ with
    | .ok o ρ' => ∀ H' B', Ext B B' → Sat X.K X.mg PN σ0 F B' H' σ ρ' → Q o H'
    | .exc c fs ρ' => ∀ cls od H' B', Ext B B' → Sat X.K X.mg PN σ0 F B' H' σ ρ' → ExcOk X.K X.mg B' c fs cls od → W cls od σ H'
    | .bad => False) → t σ H Q
def pN : En → R (Option Int) := fun ρ => .ok none ρ
def pS (f : FX) : En → R (Option Int) := fun ρ => (f ρ).bind fun s ρ' => match s with
  | .fz (.int i) => .ok (some i) ρ'
  | _ => .bad
theorem fp_n : FP X PN σ0 W none pN := ⟨_, po_none, fun F B H σ ρ Q S q => q H B (Ext.refl B) S⟩
theorem fp_s {e : Expr} {f : FX} (h : FE X PN σ0 W e f) : FP X PN σ0 W (some e) (pS f) := by
  obtain ⟨t, pt, qt⟩ := h.ex
  refine ⟨_, po_some pt, fun F B H σ ρ Q S q => qt F B H σ ρ _ S ?_⟩
  unfold pS at q
  cases er : f ρ with
  | bad => rw [er] at q; exact q
  | exc c fs ρ1 => rw [er] at q; exact q
  | ok s ρ1 =>
    rw [er, R.bind_ok] at q
    intro v H1 B1 e1 S1 z
    cases s with
    | no => exact z.elim
    | ow d => exact q.elim
    | fz d =>
      cases d with
      | int i => cases z; exact ⟨i, rfl, q H1 B1 e1 S1⟩
      | _ => exact q.elim
def cutD {α : Type} (xs : List α) (lo hi : Option Int) : List α := (xs.drop (HT.sIx xs.length 0 lo)).take (HT.sIx xs.length xs.length hi - HT.sIx xs.length 0 lo)
def slD (lo hi : Option Int) : D → Option Sl
  | .str x => if x.length ≤ 1000000 then some (.fz (.str (cutS x lo hi))) else none
  | .lst ds => some (.ow (.lst (cutD ds lo hi)))
  | .tup ds => if HT.sIx ds.length 0 lo = 0 ∧ HT.sIx ds.length ds.length hi = ds.length then none else some (.fz (.tup (cutD ds lo hi)))
  | .scr ns => some (.ow (.lst ((cutD ns lo hi).map .int)))
  | _ => none
def xSl (a : En → R Th) (pl ph : En → R (Option Int)) : FX := fun ρ => (a ρ).bind fun t ρ1 => (pl ρ1).bind fun lo ρ2 => (ph ρ2).bind fun hi ρ3 => ofO ((t ρ3).bind (slD lo hi)) ρ3
theorem RepL.cut {K : PySem.W.Frag} {mg : Str → Option Value} {B : Hp} {xs : List L2.V} {ds : List D} (h : RepL K mg B xs ds) (lo hi : Option Int) : RepL K mg B (cutV xs lo hi) (cutD ds lo hi) := by
  unfold cutV cutD
  rw [h.length]
  exact (h.drop _).take _
theorem fe_sl {a : Expr} {lo hi : Option Expr} {p2 pos : Pos} {ga : En → R Th} {gl gh : En → R (Option Int)} (ha : FA X PN σ0 W a ga) (hl : FP X PN σ0 W lo gl) (hh : FP X PN σ0 W hi gh) : FE X PN σ0 W (.Subscript a (.Slice lo hi none p2) pos) (xSl ga gl gh) := by
  obtain ⟨ta, pa, qa⟩ := ha.ex
  obtain ⟨tl, pl, ql⟩ := hl.ex
  obtain ⟨th, ph, qh⟩ := hh.ex
  refine ⟨_, pe_slice (sl_list.or (sl_tup.or sl_str)) pa pl ph, fun F B H σ ρ Q S q => qa F B H σ ρ _ S ?_⟩
  unfold xSl at q
  cases ea : ga ρ with
  | bad => rw [ea] at q; exact q
  | exc c fs ρ1 => rw [ea] at q; exact q
  | ok t ρ1 =>
    rw [ea, R.bind_ok] at q
    intro x H1 B1 e1 S1 k1
    refine ql F B1 H1 σ ρ1 _ S1 ?_
    cases el : gl ρ1 with
    | bad => rw [el] at q; exact q
    | exc c fs ρ2 => rw [el] at q; exact fun cls od H' B' e S' z => q cls od H' B' (e1.trans e) S' z
    | ok ol ρ2 =>
      rw [el, R.bind_ok] at q
      intro H2 B2 e2 S2
      refine qh F B2 H2 σ ρ2 _ S2 ?_
      cases eh : gh ρ2 with
      | bad => rw [eh] at q; exact q
      | exc c fs ρ3 => rw [eh] at q; exact fun cls od H' B' e S' z => q cls od H' B' ((e1.trans e2).trans e) S' z
      | ok oh ρ3 =>
        rw [eh, R.bind_ok] at q
        intro H3 B3 e3 S3
        cases et : t ρ3 with
        | none => rw [et] at q; exact q.elim
        | some d =>
          rw [et, Option.bind_some] at q
          have r := k1 B3 H3 ρ3 d (e2.trans e3) S3 et
          have q := EPost.mono ((e1.trans e2).trans e3) q
          cases es : slD ol oh d with
          | none => rw [es] at q; exact q.elim
          | some s =>
            rw [es] at q
            replace q : Fin X PN σ0 F B3 σ ρ3 s Q := q
            unfold slD at es
            split at es
            · split at es
              · rename_i hz
                cases es
                exact .inr (.inr ⟨_, r.str, line_le hz, q.flat S3 (.str _)⟩)
              · cases es
            · cases es
              obtain ⟨a, xs, rfl, h1, h2⟩ := r.lst S3.bh
              exact .inl ⟨a, xs, rfl, .inl (.inl h1), q.newL S3 (h2.cut _ _)⟩
            · split at es
              · cases es
              · rename_i hz
                cases es
                obtain ⟨a, xs, rfl, h1, h2⟩ := r.tup S3.bh
                exact .inr (.inl ⟨a, xs, rfl, .inl (.inl h1), by rw [h2.length]; exact hz, q.newT S3 (h2.cut _ _)⟩)
            · rename_i ns
              cases es
              rcases r with r | ⟨a, rfl, r⟩
              · cases r with
                | @scr a0 _ h =>
                  have h' : SqL X.K H3 a0 (ns.map V.int) := by
                    rcases h with (h | ⟨o, h⟩) | h
                    · exact .inl (.inl (S3.bh _ _ h))
                    · exact .inl (.inr ⟨o, S3.bh _ _ h⟩)
                    · exact .inr h
                  refine .inl ⟨_, _, rfl, h', ?_⟩
                  have e : cutV (ns.map V.int) ol oh = (cutD ns ol oh).map V.int := by
                    unfold cutV cutD
                    rw [List.length_map, List.map_take, List.map_drop]
                  rw [e]
                  exact q.newL S3 (RepL.map (fun i => .int i) _)
              · exact r.elim
            · cases es
end
end FV

namespace FV
open PySem PySem.Spec PyProof.Rows L2

section
variable {X : Cx} {PN : List Nat} {σ0 : Gs} {W : WX} {k : Nat}
/-! ### methods of built-in values that are read -/
def gBits : D → Option Sl
  | .int i => some (.fz (.int (Builtin.Int.intBits i : Nat)))
  | _ => none
theorem fe_bits {o : Expr} {g : En → R Th} {apos pos : Pos} (h : FA X PN σ0 W o g) (hbase : attributeBase o "bit_length" X.env (eval o X.env) = eval o X.env := by rfl) (hline : (apos.endLine == pos.line) = true := by rfl) :
    FE X PN σ0 W (.Call (.Attribute o "bit_length" apos) [] [] pos) (xU gBits g) := by
  obtain ⟨t, pt, qt⟩ := h.ex
  refine ⟨_, pe_bits pt hbase hline, fun F B H σ ρ Q S q => ?_⟩
  refine fin1 (r := fun x H1 Q => ∃ i : Int, x = .int i ∧ Q (.int (Builtin.Int.intBits i : Nat)) H1) (fun PN σ0 F B H σ ρ x dx s Q S hx hg q => ?_) qt S q
  unfold gBits at hg
  split at hg
  · rename_i i
    cases hg
    exact ⟨i, hx.int, q.flat S (.int _)⟩
  · cases hg

/-! ### methods that change a held list -/
abbrev GM := List D → List D → Option (List D × D)
def MutOk (X : Cx) (r : L2.V → List L2.V → Hp → VK → Prop) (g : GM) : Prop := ∀ (B H : Hp) (a : Addr) (xs vs : List L2.V) (ds es ds' : List D) (d : D) (Q : VK), (∀ b o, B b = some o → H b = some o) → H a = some (.lst xs) → RepL X.K X.mg B xs ds → RepL X.K X.mg B vs es → g ds es = some (ds', d) →
  (∀ xs' v, RepL X.K X.mg B xs' ds' → Rep X.K X.mg B v d → Q v (upd H a (.lst xs'))) → r (.ref a) vs H Q
def isOwL (i : Nat) (ρ : En) : Bool := match ρ[i]? with
  | some (.ow (.lst _)) => true
  | _ => false
def goM (i : Nat) (g : GM) (ars : List Ar) (ρ1 : En) : R Sl := match dsOf ars with
  | some es => match ρ1[i]? with
    | some (.ow (.lst ds)) => match g ds es with
      | some (ds', d) => .ok (.fz d) (ρ1.set i (.ow (.lst ds')))
      | none => .bad
    | _ => .bad
  | none => .bad
def xMu (i : Nat) (g : GM) (l : En → R (List Ar)) : FX := fun ρ => if isOwL i ρ = true then (l ρ).bind fun ars ρ1 => goM i g ars ρ1 else .bad
theorem isOwL_at {i : Nat} {F B H : Hp} {σ : L2.St} {ρ : En} (S : Sat X.K X.mg PN σ0 F B H σ ρ) (h : isOwL i ρ = true) : ∃ a xs, σ[i]? = some (some (V.ref a)) ∧ H a = some (.lst xs) := by
  unfold isOwL at h
  split at h
  · rename_i ds e
    obtain ⟨a, h1, _, _, xs, h4, _⟩ := S.sl i _ e
    exact ⟨a, xs, h1, h4⟩
  · cases h
theorem goM_ok {i : Nat} {g : GM} {r : L2.V → List L2.V → Hp → VK → Prop} (hr : MutOk X r g) {F B H : Hp} {σ : L2.St} {ρ : En} {Q : VK} {a : Addr} {vs : List L2.V} {ars : List Ar} (S : Sat X.K X.mg PN σ0 F B H σ ρ) (ha : σ[i]? = some (some (V.ref a))) (k1 : Paired (ArOk X B σ) vs ars)
    (q : EPost X PN σ0 W F B σ (goM i g ars ρ) Q) : r (.ref a) vs H Q := by
  unfold goM at q
  split at q
  · rename_i es hes
    split at q
    · rename_i ds e
      split at q
      · rename_i ds' d hg
        obtain ⟨a', h1, h2, h3, xs, h4, h5⟩ := S.sl i _ e
        rw [ha] at h1; cases h1
        exact hr B H a xs vs ds es ds' d Q S.bh h4 h5 (dsOf_rep k1 hes) hg fun xs' v r1 r2 => q v _ B (Ext.refl B) (S.mutate e ha ⟨xs', upd_same, r1⟩) r2
      · exact q.elim
    · exact q.elim
  · exact q.elim
theorem fe_mu {M L : List Bool} (N : NamesOk X M L) (i : Nat) {x : Str} {p apos pos : Pos} {e : Expr} {es : List Expr} {name : Str} {id : String} {g : GM} {l : En → R (List Ar)} (slot : Slot "list" name id) (hty : typeOf (.builtin id) = pure (.type "method_descriptor"))
    (h : ∃ r, MtR X id r ∧ MutOk X r g) (hl : FC X PN σ0 W (e :: es) l) (hi : X.N[i]? = some x := by rfl) (hm : M[i]? = some true := by rfl)
    (hbase : attributeBase (.Name x p) name X.env (eval (.Name x p) X.env) = eval (.Name x p) X.env := by rfl)
    (hfew : ((backTo pos (starEach (e :: es) X.env)).all (fun x => !x.1) && (backToKw pos (keywordEach [] X.env)).all (fun x => x.1.isSome)
      && decide ((e :: es).length + ([] : List Keyword).length + (if ([] : List Keyword).isEmpty then 0 else 1) < 30)) = true := by rfl)
    (hline : (apos.endLine == pos.line) = true := by rfl) (hs : starEach (e :: es) X.env = (false, eval e X.env) :: starEach es X.env := by rfl) (hplain : (backTo pos (starEach es X.env)).any (·.1) = false := by rfl) :
    FE X PN σ0 W (.Call (.Attribute (.Name x p) name apos) (e :: es) [] pos) (xMu i g l) := by
  obtain ⟨r, h1, h2⟩ := h
  obtain ⟨t, pt, qt⟩ := hl.ex
  refine ⟨_, pe_bm PySem.F.plainAttrs_list slot hty h1 (N.pe i hi hm) pt hbase hfew hline hs hplain, fun F B H σ ρ Q S q => ?_⟩
  unfold xMu at q
  split at q
  · rename_i ho
    obtain ⟨a, xs, ha, hx⟩ := isOwL_at S ho
    refine ⟨.ref a, ha, .inl ⟨rfl, xs, .inl (.inl hx)⟩, qt F B H σ ρ _ S ?_⟩
    cases el : l ρ with
    | bad => rw [el] at q; exact q
    | exc c fs ρ2 => rw [el] at q; exact q
    | ok ars ρ1 =>
      rw [el, R.bind_ok] at q
      exact fun vs H1 B1 e1 S1 k1 => goM_ok h2 S1 ha k1 (EPost.mono e1 q)
  · exact q.elim
theorem fe_mu0 {M L : List Bool} (N : NamesOk X M L) (i : Nat) {x : Str} {p apos pos : Pos} {name : Str} {id : String} {g : GM} (slot : Slot "list" name id) (hty : typeOf (.builtin id) = pure (.type "method_descriptor"))
    (h : ∃ r, MtR X id r ∧ MutOk X r g) (hi : X.N[i]? = some x := by rfl) (hm : M[i]? = some true := by rfl)
    (hbase : attributeBase (.Name x p) name X.env (eval (.Name x p) X.env) = eval (.Name x p) X.env := by rfl) (hline : (apos.endLine == pos.line) = true := by rfl) :
    FE X PN σ0 W (.Call (.Attribute (.Name x p) name apos) [] [] pos) (xMu i g cNil) := by
  obtain ⟨r, h1, h2⟩ := h
  refine ⟨_, pe_bm0 PySem.F.plainAttrs_list slot hty h1 (N.pe i hi hm) hbase hline, fun F B H σ ρ Q S q => ?_⟩
  unfold xMu at q
  split at q
  · rename_i ho
    obtain ⟨a, xs, ha, hx⟩ := isOwL_at S ho
    exact ⟨.ref a, ha, .inl ⟨rfl, xs, .inl (.inl hx)⟩, goM_ok h2 S ha .nil q⟩
  · exact q.elim
def mApp : GM
  | ds, [d] => if ds.length < 1000000 then some (ds ++ [d], .non) else none
  | _, _ => none
theorem mu_app : ∃ r, MtR X "list.append" r ∧ MutOk X r mApp := ⟨_, mt_append, fun B H a xs vs ds es ds' d Q bh hx hr hv hg q => by
  unfold mApp at hg
  split at hg
  · split at hg
    · rename_i d0 hz
      cases hg
      cases hv with
      | cons r1 r2 =>
        cases r2
        exact ⟨a, xs, _, rfl, rfl, hx, by rw [hr.length]; exact line_lt hz, q _ _ (hr.append (.cons r1 .nil)) .non⟩
    · cases hg
  · cases hg⟩
def mExt : GM
  | ds, [.lst es] => if ds.length + es.length ≤ 1000000 then some (ds ++ es, .non) else none
  | _, _ => none
theorem mu_ext : ∃ r, MtR X "list.extend" r ∧ MutOk X r mExt := ⟨_, mt_extend, fun B H a xs vs ds es ds' d Q bh hx hr hv hg q => by
  unfold mExt at hg
  split at hg
  · split at hg
    · rename_i d0 hz
      cases hg
      cases hv with
      | cons r1 r2 =>
        cases r2
        cases r1 with
        | lst h1 h2 => exact ⟨a, _, xs, _, rfl, rfl, hx, bh _ _ h1, by rw [hr.length, h2.length]; exact line_le hz, q _ _ (hr.append h2) .non⟩
    · cases hg
  · cases hg⟩
theorem RepL.dropLast {K : PySem.W.Frag} {mg : Str → Option Value} {B : Hp} {xs : List L2.V} {ds : List D} (h : RepL K mg B xs ds) : RepL K mg B xs.dropLast ds.dropLast := by
  rw [List.dropLast_eq_take, List.dropLast_eq_take, h.length]
  exact h.take _
def mPop : GM
  | ds, [] => (ds[ds.length - 1]?).map fun d => (ds.dropLast, d)
  | _, _ => none
theorem mu_pop : ∃ r, MtR X "list.pop" r ∧ MutOk X r mPop := ⟨_, mt_pop, fun B H a xs vs ds es ds' d Q bh hx hr hv hg q => by
  unfold mPop at hg
  split at hg
  · cases hv
    cases e : ds[ds.length - 1]? with
    | none => rw [e] at hg; cases hg
    | some d0 =>
      rw [e] at hg
      cases hg
      obtain ⟨v, hv, rv⟩ := hr.get e
      exact ⟨a, xs, v, rfl, rfl, hx, by rw [hr.length]; exact hv, q _ _ hr.dropLast rv⟩
  · cases hg⟩
def mRev : GM
  | ds, [] => some (ds.reverse, .non)
  | _, _ => none
theorem mu_rev : ∃ r, MtR X "list.reverse" r ∧ MutOk X r mRev := ⟨_, mt_reverse, fun B H a xs vs ds es ds' d Q bh hx hr hv hg q => by
  unfold mRev at hg
  split at hg
  · cases hv
    cases hg
    exact ⟨a, xs, rfl, rfl, hx, q _ _ hr.reverse .non⟩
  · cases hg⟩
def mClr : GM
  | ds, [] => some ([], .non)
  | _, _ => none
theorem mu_clr : ∃ r, MtR X "list.clear" r ∧ MutOk X r mClr := ⟨_, mt_clear, fun B H a xs vs ds es ds' d Q bh hx hr hv hg q => by
  unfold mClr at hg
  split at hg
  · cases hv
    cases hg
    exact ⟨a, xs, rfl, rfl, hx, q _ _ .nil .non⟩
  · cases hg⟩
end

/-! ### the canonical readings -/
section
variable {X : Cx} {PN : List Nat} {σ0 : Gs} {W : WX} {k : Nat}
def cE (X : Cx) (PN : List Nat) (σ0 : Gs) (W : WX) (f : FX) : TE := fun σ H Q => ∃ F B ρ, Sat X.K X.mg PN σ0 F B H σ ρ ∧ EPost X PN σ0 W F B σ (f ρ) Q
theorem FE.pe {e : Expr} {f : FX} (h : FE X PN σ0 W e f) : PE X e (cE X PN σ0 W f) := by
  obtain ⟨t, pt, qt⟩ := h.ex
  exact ⟨fun pins s σ H Q I ⟨F, B, ρ, S, q⟩ => pt.run pins s σ H Q I (qt F B H σ ρ Q S q)⟩
def cT (X : Cx) (PN : List Nat) (σ0 : Gs) (W : WX) (f : FX) : TT := fun σ H Q => ∃ F B ρ, Sat X.K X.mg PN σ0 F B H σ ρ ∧ TPost X PN σ0 W F B σ (f ρ) Q
theorem FT.pt {e : Expr} {f : FX} (h : FT X PN σ0 W e f) : PT X e (cT X PN σ0 W f) := by
  obtain ⟨t, pt, qt⟩ := h.ex
  exact ⟨fun pins s σ H Q I ⟨F, B, ρ, S, q⟩ => pt.run pins s σ H Q I (qt F B H σ ρ Q S q)⟩
def cG (X : Cx) (PN : List Nat) (σ0 : Gs) (g : GG) (ts : List Nat) : TG := fun v σ H Q => ∃ F B ρ d ρ', Sat X.K X.mg PN σ0 F B H σ ρ ∧ Rep X.K X.mg B v d ∧ g d ρ = some ρ' ∧ ∀ σ', σ'.length = σ.length → (∀ (i : Nat), i ∉ ts → σ'[i]? = σ[i]?) → Sat X.K X.mg PN σ0 F B H σ' ρ' → Q σ' H
theorem FG.pg {e : Expr} {g : GG} {ts : List Nat} (h : FG X PN σ0 e g ts) : PG X e (cG X PN σ0 g ts) := by
  obtain ⟨t, pt, qt⟩ := h.ex
  exact ⟨fun pins s σ H v u Q I r ⟨F, B, ρ, d, ρ', S, rd, e, q⟩ => pt.run pins s σ H v u Q I r (qt F B H σ ρ v d ρ' Q S rd e q)⟩
def cS (X : Cx) (PN : List Nat) (σ0 : Gs) (W : WX) (f : FY) : TS := fun D' σ H => ∃ F B ρ, Sat X.K X.mg PN σ0 F B H σ ρ ∧ SPost X PN σ0 W F B (f ρ) D'
theorem FB.ps {e : List Stmt} {f : FY} (h : FB X PN σ0 W e f) : PSs X e (cS X PN σ0 W f) := by
  obtain ⟨t, pt, qt⟩ := h.ex
  exact ⟨fun pins s σ H D' I ⟨F, B, ρ, S, q⟩ => pt.run pins s σ H D' I (qt F B H σ ρ D' S q)⟩

/-! ### comprehensions -/
abbrev W0 : WX := fun _ _ _ _ => False
/-- the tests of a comprehension -/
structure FTs (X : Cx) (PN : List Nat) (σ0 : Gs) (W : WX) (ifs : List Expr) (f : FX) : Prop where
  pt : PTs X ifs (cT X PN σ0 W f)
def xYes : FX := fun ρ => .ok (.fz (.bl true)) ρ
theorem fts_nil : FTs X PN σ0 W [] xYes := ⟨⟨fun pins s σ H Q I ⟨F, B, ρ, S, q⟩ => (pts_nil (X := X)).run pins s σ H Q I (q H B (Ext.refl B) S)⟩⟩
theorem fts_one {c : Expr} {f : FX} (h : FT X PN σ0 W c f) : FTs X PN σ0 W [c] f := ⟨pts_one h.pt⟩
/-- one turn and the rest -/
def lcL (own : List Nat) (g : GG) (c f : FX) : List D → List D → En → R (List D)
  | [], acc, ρ => .ok acc ρ
  | d :: ds, acc, ρ => match g d ρ with
    | none => .bad
    | some ρ1 => match c ρ1 with
      | .ok (.fz (.bl true)) ρ2 => match xF f ρ2 with
        | .ok (.fz x) ρ3 => if acc.length < 1000000 then lcL own g c f ds (acc ++ [x]) (forget own ρ3) else .bad
        | _ => .bad
      | .ok (.fz (.bl false)) ρ2 => lcL own g c f ds acc (forget own ρ2)
      | _ => .bad
def xLc (own : List Nat) (gi : En → R (List D)) (g : GG) (c f : FX) : FX := fun ρ => match gi ρ with
  | .ok xs ρ1 => match lcL own g c f xs [] (forget own ρ1) with
    | .ok acc ρ2 => .ok (.ow (.lst acc)) ρ2
    | _ => .bad
  | .exc c fs ρ1 => .exc c fs ρ1
  | .bad => .bad
theorem forget_get {own : List Nat} : ∀ {ρ : En} {i : Nat} {s : Sl}, (forget own ρ)[i]? = some s → (i ∈ own ∧ s = .no) ∨ (i ∉ own ∧ ρ[i]? = some s) := by
  induction own with
  | nil => intro ρ i s h; exact .inr ⟨by simp, h⟩
  | cons j own ih =>
    intro ρ i s h
    rcases ih (ρ := ρ.set j .no) h with ⟨h1, h2⟩ | ⟨h1, h2⟩
    · exact .inl ⟨List.mem_cons_of_mem _ h1, h2⟩
    · by_cases e : j = i
      · subst e
        rw [List.getElem?_set_self'] at h2
        cases q : ρ[j]? with
        | none => rw [q] at h2; cases h2
        | some t => rw [q] at h2; cases h2; exact .inl ⟨List.mem_cons_self, rfl⟩
      · rw [List.getElem?_set_ne e] at h2
        exact .inr ⟨by rw [List.mem_cons]; rintro (z | z); exact e z.symm; exact h1 z, h2⟩
theorem forget_len {own : List Nat} : ∀ {ρ : En}, (forget own ρ).length = ρ.length := by
  induction own with
  | nil => intro ρ; rfl
  | cons j own ih => intro ρ; show (forget own (ρ.set j .no)).length = _; rw [ih, List.length_set]
theorem wipe_get {σ : L2.St} {i : Nat} : ∀ {vs : List Nat}, i ∉ vs → (wipe σ vs)[i]? = σ[i]? := fun h => wipe_out h
/-- the same slots but those of own -/
theorem Sat.swap {own : List Nat} {F B H : Hp} {σ σ' : L2.St} {ρ : En} (hpn : ∀ i ∈ own, i ∉ PN) (S : Sat X.K X.mg PN σ0 F B H σ (FV.forget own ρ)) (hl : σ'.length = σ.length) (hs : ∀ (i : Nat), i ∉ own → σ'[i]? = σ[i]?) : Sat X.K X.mg PN σ0 F B H σ' (FV.forget own ρ) where
  len := by rw [hl]; exact S.len
  pin := fun i hi => by rw [hs i fun h => hpn i h hi]; exact S.pin i hi
  gh := S.gh
  bh := S.bh
  fh := S.fh
  sl := fun i s h => by
    have q := S.sl i s h
    rcases forget_get h with ⟨h1, h2⟩ | ⟨h1, h2⟩
    · subst h2; trivial
    · cases s with
      | no => trivial
      | fz d => obtain ⟨v, g1, g2⟩ := q; exact ⟨v, by rw [hs i h1]; exact g1, g2⟩
      | ow d => obtain ⟨a, g1, g2⟩ := q; exact ⟨a, by rw [hs i h1]; exact g1, g2⟩
  dj := fun i j a d d' h1 h2 e1 e2 => by
    rcases forget_get h1 with ⟨_, z⟩ | ⟨z1, _⟩
    · cases z
    · rcases forget_get h2 with ⟨_, y⟩ | ⟨y1, _⟩
      · cases y
      · exact S.dj i j a d d' h1 h2 (by rw [← hs i z1]; exact e1) (by rw [← hs j y1]; exact e2)
/-- a foreign object more -/
theorem Sat.more {F B H : Hp} {σ : L2.St} {ρ : En} {p : Addr} {o : HO} (S : Sat X.K X.mg PN σ0 F B H σ ρ) (n : H p = none) : Sat X.K X.mg PN σ0 (upd F p o) B (upd H p o) σ ρ := by
  have S1 := S.alloc (o := o) n
  refine ⟨S1.len, S1.pin, S1.gh, S1.bh, fun b u h => ?_, fun i s h => ?_, S1.dj⟩
  · by_cases e : b = p
    · subst e; rw [upd_same] at h; cases h; exact ⟨upd_same, S.bn n⟩
    · rw [upd_ne e] at h; exact S1.fh b u h
  · have q := S1.sl i s h
    cases s with
    | no => trivial
    | fz d => exact q
    | ow d =>
      obtain ⟨a, h1, h2, h3, h4⟩ := q
      refine ⟨a, h1, ?_, h3, h4⟩
      rw [upd_ne]
      · exact h2
      · rintro rfl
        exact S.apart n i d h h1
/-- the foreign object changes -/
theorem Sat.grow {F B H : Hp} {σ : L2.St} {ρ : En} {p : Addr} {o o' : HO} (S : Sat X.K X.mg PN σ0 (upd F p o) B H σ ρ) : Sat X.K X.mg PN σ0 (upd F p o') B (upd H p o') σ ρ := by
  have hp := S.fh p o upd_same
  refine ⟨S.len, S.pin, S.gh, fun b u h => ?_, fun b u h => ?_, fun i s h => ?_, S.dj⟩
  · rw [upd_ne (ne_of_none h hp.2)]; exact S.bh b u h
  · by_cases e : b = p
    · subst e; rw [upd_same] at h; cases h; exact ⟨upd_same, hp.2⟩
    · rw [upd_ne e] at h ⊢
      exact S.fh b u (by rw [upd_ne e]; exact h)
  · have q := S.sl i s h
    cases s with
    | no => trivial
    | fz d => exact q
    | ow d =>
      obtain ⟨a, h1, h2, h3, h4⟩ := q
      have ha : a ≠ p := fun z => by subst z; rw [upd_same] at h2; cases h2
      exact ⟨a, h1, by rw [upd_ne ha] at h2 ⊢; exact h2, h3, h4.at (upd_ne ha)⟩
/-- .. is the def's own again -/
theorem Sat.less {F B H : Hp} {σ : L2.St} {ρ : En} {p : Addr} {o : HO} (S : Sat X.K X.mg PN σ0 (upd F p o) B H σ ρ) (hF : F p = none) : Sat X.K X.mg PN σ0 F B H σ ρ ∧ H p = some o ∧ B p = none ∧ ∀ (i : Nat) (d : D), ρ[i]? = some (Sl.ow d) → σ[i]? ≠ some (some (V.ref p)) := by
  have hp := S.fh p o upd_same
  refine ⟨⟨S.len, S.pin, S.gh, S.bh, fun b u h => S.fh b u (by rw [upd_ne (ne_of_none h hF)]; exact h), fun i s h => ?_, S.dj⟩, hp.1, hp.2, fun i d h e => ?_⟩
  · have q := S.sl i s h
    cases s with
    | no => trivial
    | fz d => exact q
    | ow d =>
      obtain ⟨a, h1, h2, h3, h4⟩ := q
      have ha : a ≠ p := fun z => by subst z; rw [upd_same] at h2; cases h2
      exact ⟨a, h1, by rw [upd_ne ha] at h2; exact h2, h3, h4⟩
  · obtain ⟨a, h1, h2, _⟩ := S.sl i _ h
    rw [e] at h1; cases h1
    rw [upd_same] at h2; cases h2
theorem wipe_same {vs : List Nat} {σ σ2 : L2.St} (hl : σ2.length = σ.length) (h : ∀ (i : Nat), i ∉ vs → σ2[i]? = (wipe σ vs)[i]?) : wipe σ2 vs = wipe σ vs := by
  apply List.ext_getElem?
  intro i
  by_cases hi : i ∈ vs
  · have key : ∀ τ : L2.St, (wipe τ vs)[i]? = if i < τ.length then some none else none := fun τ => by
      have hw := wipe_length τ vs
      by_cases hlt : i < τ.length
      · rw [if_pos hlt]
        have h1 : i < (wipe τ vs).length := by rw [hw]; exact hlt
        rw [List.getElem?_eq_getElem h1]
        cases q : (wipe τ vs)[i] with
        | none => rfl
        | some x =>
          have := (wipe_some (σ := τ) (i := i) (x := x) (vs := vs) (by rw [List.getElem?_eq_getElem h1, q])).2
          exact (this hi).elim
      · rw [if_neg hlt, List.getElem?_eq_none (by rw [hw]; omega)]
    rw [key, key, hl]
  · rw [wipe_get hi, h i hi]
theorem lc_red {ov : List Nat} {ti : TI} {gi : En → R (List D)} {g : GG} {ts : List Nat} {c f : FX} (qi : ∀ F B H σ ρ Rr, Sat X.K X.mg PN σ0 F B H σ ρ → IPost X PN σ0 W F B σ (gi ρ) Rr → ti σ H Rr)
    (hts : ∀ i ∈ ts, i ∈ ov) (hpn : ∀ i ∈ ov, i ∉ PN) {F B H : Hp} {σ : L2.St} {ρ : En} {Q : VK} (S : Sat X.K X.mg PN σ0 F B H σ ρ) (q : EPost X PN σ0 W F B σ (xLc ov gi g c f ρ) Q) :
    tLc ti (cG X PN σ0 g ts) (cT X PN σ0 W0 c) (cE X PN σ0 W0 f) ov σ H Q := by
  refine qi F B H σ ρ _ S ?_
  unfold xLc at q
  cases er : gi ρ with
  | bad => rw [er] at q; exact q
  | exc c fs ρ1 => rw [er] at q; exact q
  | ok xs ρ1 =>
    rw [er] at q
    intro J H1 B1 e1 S1 hJ L hL
    simp only at q
    split at q
    · rename_i accF ρ2 hlc
      have S1w : Sat X.K X.mg PN σ0 F B1 H1 (wipe σ ov) (forget ov ρ1) := Sat.swap hpn (S1.forget ov) (wipe_length σ ov) fun i hi => wipe_get hi
      refine ⟨fun i m H' => m = xs.length - i ∧ i ≤ xs.length ∧ ∃ acc vs B' ρ', Ext B1 B' ∧ Sat X.K X.mg PN σ0 (upd F L (.lst vs)) B' H' (wipe σ ov) (forget ov ρ') ∧ RepL X.K X.mg B' vs acc ∧ lcL ov g c f (xs.drop i) acc (forget ov ρ') = .ok accF ρ2,
        ⟨xs.length, rfl, Nat.zero_le _, [], [], B1, ρ1, Ext.refl B1, S1w.more hL, .nil, hlc⟩, ?_⟩
      rintro i m H' ⟨rfl, hi, acc, vs, B', ρ', e', S', r', hl'⟩
      by_cases hlt : i < xs.length
      · obtain ⟨d, hd⟩ : ∃ d, xs[i]? = some d := ⟨_, List.getElem?_eq_getElem hlt⟩
        have hdr : xs.drop i = d :: xs.drop (i + 1) := by
          rw [List.drop_eq_getElem_cons hlt]
          rw [List.getElem?_eq_getElem hlt] at hd
          rw [Option.some.inj hd]
        rw [hdr, lcL] at hl'
        obtain ⟨hgo, hy⟩ := hJ.go i d hd B' H' e' S'.bh
        refine .inr ⟨hgo, fun H2 => ∃ acc vs B2 ρ2', Ext B1 B2 ∧ Sat X.K X.mg PN σ0 (upd F L (.lst vs)) B2 H2 (wipe σ ov) (forget ov ρ2') ∧ RepL X.K X.mg B2 vs acc ∧ lcL ov g c f (xs.drop (i + 1)) acc (forget ov ρ2') = .ok accF ρ2, fun H2 h2 => ⟨xs.length - (i + 1), by omega, rfl, hlt, h2⟩, fun x H2 hx => ?_⟩
        obtain ⟨B2, e2, S2, r2⟩ := hy x H2 hx PN σ0 _ _ _ S'
        cases eg : g d (forget ov ρ') with
        | none => rw [eg] at hl'; cases hl'
        | some ρ3 =>
          rw [eg] at hl'
          simp only at hl'
          refine ⟨_, B2, _, d, ρ3, S2, r2, eg, fun σ3 hl3 hs3 S3 => ⟨wipe_same (by rw [hl3, wipe_length]) fun j hj => hs3 j fun z => hj (hts j z), ?_⟩⟩
          have hσ3 : wipe σ3 ov = wipe σ ov := wipe_same (by rw [hl3, wipe_length]) fun j hj => hs3 j fun z => hj (hts j z)
          refine ⟨_, B2, ρ3, S3, ?_⟩
          have swp : ∀ {F4 B4 H4 : Hp} {ρ4 : En}, Sat X.K X.mg PN σ0 F4 B4 H4 σ3 ρ4 → Sat X.K X.mg PN σ0 F4 B4 H4 (wipe σ ov) (forget ov ρ4) := fun S4 =>
            Sat.swap hpn (S4.forget ov) (by rw [hl3]) fun j hj => (hs3 j fun z => hj (hts j z)).symm
          cases ec : c ρ3 with
          | bad => rw [ec] at hl'; cases hl'
          | exc c fs ρ4 => rw [ec] at hl'; cases hl'
          | ok s4 ρ4 =>
            rw [ec] at hl'
            cases s4 with
            | no => cases hl'
            | ow d4 => cases hl'
            | fz d4 =>
              cases d4 with
              | bl b =>
                cases b with
                | false =>
                  intro H4 B4 e4 S4
                  exact iteF ⟨acc, vs, B4, ρ4, (e'.trans e2).trans e4, swp S4, r'.mono (e2.trans e4), hl'⟩
                | true =>
                  simp only at hl'
                  intro H4 B4 e4 S4
                  refine iteT ⟨_, B4, ρ4, S4, ?_⟩
                  unfold xF at hl'
                  cases ef : f ρ4 with
                  | bad => rw [ef] at hl'; cases hl'
                  | exc c fs ρ5 => rw [ef] at hl'; cases hl'
                  | ok s5 ρ5 =>
                    rw [ef, R.bind_ok] at hl'
                    have key : ∀ d5, (if acc.length < 1000000 then lcL ov g c f (xs.drop (i + 1)) (acc ++ [d5]) (forget ov ρ5) else .bad) = .ok accF ρ2 → ∀ y H5 B5, Ext B4 B5 → Sat X.K X.mg PN σ0 (upd F L (.lst vs)) B5 H5 σ3 ρ5 → Rep X.K X.mg B5 y d5 →
                        ∃ acc', H5 L = some (.lst acc') ∧ acc'.length < sizeLine ∧ ∃ acc2 vs2 B2 ρ2', Ext B1 B2 ∧ Sat X.K X.mg PN σ0 (upd F L (.lst vs2)) B2 (upd H5 L (.lst (acc' ++ [y]))) (wipe σ ov) (forget ov ρ2') ∧ RepL X.K X.mg B2 vs2 acc2 ∧ lcL ov g c f (xs.drop (i + 1)) acc2 (forget ov ρ2') = .ok accF ρ2 := fun d5 hl' y H5 B5 e5 S5 r5 => by
                      split at hl'
                      · rename_i hz
                        have rv := r'.mono ((e2.trans e4).trans e5)
                        exact ⟨vs, (S5.fh L _ upd_same).1, by rw [rv.length]; exact line_lt hz, acc ++ [d5], vs ++ [y], B5, ρ5, ((e'.trans e2).trans e4).trans e5, (swp S5).grow, rv.append (.cons r5 .nil), hl'⟩
                      · cases hl'
                    cases s5 with
                    | no => cases hl'
                    | fz d5 => exact fun y H5 B5 e5 S5 r5 => key d5 hl' y H5 B5 e5 S5 r5
                    | ow d5 =>
                      intro y H5 B5 e5 S5 r5
                      obtain ⟨B6, e6, S6, r6⟩ := S5.freeze r5
                      exact key d5 hl' y H5 B6 (e5.trans e6) S6 r6
              | _ => cases hl'
      · have hie : i = xs.length := by omega
        subst hie
        rw [List.drop_length, lcL] at hl'
        cases hl'
        obtain ⟨S6, h6, h7, h8⟩ := S'.less (S1.fn hL)
        refine .inl ⟨hJ.stop B' H' e' S'.bh, q _ H' B' (e1.trans e') (Sat.swap hpn S6 (wipe_length σ ov).symm fun j hj => (wipe_get hj).symm) ⟨L, rfl, S1.fn hL, h7, ⟨vs, h6, r'⟩, fun j d hj e => ?_⟩⟩
        rcases forget_get hj with ⟨_, z⟩ | ⟨z1, _⟩
        · cases z
        · exact h8 j d hj (by rw [wipe_get z1]; exact e)
    · exact q.elim
theorem fe_lc {Mb Lb : List Bool} {elt tg iter : Expr} {ifs : List Expr} {scope : Scope} {own : List (Str × Nat)} {pos : Pos} {gi : En → R (List D)} {g : GG} {ts : List Nat} {c f : FX} (C : Cok X W k) (hN : X.N.Nodup) (hi : FI X PN σ0 W tg iter gi) (ok : BlkOk X.N X.env.scope scope own)
    (hn : ∀ (s : Shared) (H : Hp) (C : Addr) (cl : List (Str × Addr)) (fp : List Addr), NamesOk (X.blk s H scope (compEnvC scope cl C X.env) fp) Mb Lb)
    (hg' : ∀ (s : Shared) (H : Hp) (C : Addr) (cl : List (Str × Addr)) (fp : List Addr), NamesOk (X.blk s H scope (compEnvC scope cl C X.env) fp) Mb Lb → FG (X.blk s H scope (compEnvC scope cl C X.env) fp) PN σ0 tg g ts) (ht' : ∀ (s : Shared) (H : Hp) (C : Addr) (cl : List (Str × Addr)) (fp : List Addr), NamesOk (X.blk s H scope (compEnvC scope cl C X.env) fp) Mb Lb → FTs (X.blk s H scope (compEnvC scope cl C X.env) fp) PN σ0 W0 ifs c)
    (he' : ∀ (s : Shared) (H : Hp) (C : Addr) (cl : List (Str × Addr)) (fp : List Addr), NamesOk (X.blk s H scope (compEnvC scope cl C X.env) fp) Mb Lb → FE (X.blk s H scope (compEnvC scope cl C X.env) fp) PN σ0 W0 elt f)
    (hts : ∀ i ∈ ts, i ∈ own.map (·.2) := by decide) (hpn : ∀ i ∈ own.map (·.2), i ∉ PN := by decide) (hs : ∀ x, foldedSetIterable iter X.env x = pure x := by intro _; rfl) :
    FE X PN σ0 W (.ListComp elt [⟨tg, iter, ifs, 0⟩] scope pos) (xLc (own.map (·.2)) gi g c f) := by
  have hg := fun s H C cl fp => hg' s H C cl fp (hn s H C cl fp)
  have ht := fun s H C cl fp => ht' s H C cl fp (hn s H C cl fp)
  have he := fun s H C cl fp => he' s H C cl fp (hn s H C cl fp)
  obtain ⟨ti, pi, qi⟩ := hi.ex
  exact ⟨_, pe_lc (g := cG X PN σ0 g ts) (tt := cT X PN σ0 W0 c) (te := cE X PN σ0 W0 f) C.calm hN pi ok (fun s H C cl fp => (hg s H C cl fp).pg) (fun s H C cl fp => (ht s H C cl fp).pt) (fun s H C cl fp => (he s H C cl fp).pe) hs, fun F B H σ ρ Q S q => lc_red qi hts hpn S q⟩
/-- name = [..] -/
theorem fs_setLc {Mb Lb M Ls : List Bool} (N : NamesOk X M Ls) (i : Nat) {y : Str} {py spos : Pos} {elt tg iter : Expr} {ifs : List Expr} {scope : Scope} {own : List (Str × Nat)} {pos : Pos} {gi : En → R (List D)} {g : GG} {ts : List Nat} {c f : FX} (C : Cok X W k) (hi : FI X PN σ0 W tg iter gi) (ok : BlkOk X.N X.env.scope scope own)
    (hn : ∀ (s : Shared) (H : Hp) (C : Addr) (cl : List (Str × Addr)) (fp : List Addr), NamesOk (X.blk s H scope (compEnvC scope cl C X.env) fp) Mb Lb)
    (hg' : ∀ (s : Shared) (H : Hp) (C : Addr) (cl : List (Str × Addr)) (fp : List Addr), NamesOk (X.blk s H scope (compEnvC scope cl C X.env) fp) Mb Lb → FG (X.blk s H scope (compEnvC scope cl C X.env) fp) PN σ0 tg g ts) (ht' : ∀ (s : Shared) (H : Hp) (C : Addr) (cl : List (Str × Addr)) (fp : List Addr), NamesOk (X.blk s H scope (compEnvC scope cl C X.env) fp) Mb Lb → FTs (X.blk s H scope (compEnvC scope cl C X.env) fp) PN σ0 W0 ifs c)
    (he' : ∀ (s : Shared) (H : Hp) (C : Addr) (cl : List (Str × Addr)) (fp : List Addr), NamesOk (X.blk s H scope (compEnvC scope cl C X.env) fp) Mb Lb → FE (X.blk s H scope (compEnvC scope cl C X.env) fp) PN σ0 W0 elt f)
    (hyl : X.env.scope.names.lookup y = some .local) (hsw : swapsWith (.ListComp elt [⟨tg, iter, ifs, 0⟩] scope pos) (some (.Name y py)) spos.line X.env = pure true)
    (hts : ∀ i ∈ ts, i ∈ own.map (·.2) := by decide) (hpn : ∀ i ∈ own.map (·.2), i ∉ PN := by decide) (hp : i ∉ PN := by decide) (hy : X.N[i]? = some y := by rfl) (hs : ∀ x, foldedSetIterable iter X.env x = pure x := by intro _; rfl) :
    FS X PN σ0 W (.Assign [.Name y py] (.ListComp elt [⟨tg, iter, ifs, 0⟩] scope pos) spos) (ySet i (xLc (own.map (·.2)) gi g c f)) := by
  have hg := fun s H C cl fp => hg' s H C cl fp (hn s H C cl fp)
  have ht := fun s H C cl fp => ht' s H C cl fp (hn s H C cl fp)
  have he := fun s H C cl fp => he' s H C cl fp (hn s H C cl fp)
  obtain ⟨ti, pi, qi⟩ := hi.ex
  exact ⟨_, ps_setLc (g := cG X PN σ0 g ts) (tt := cT X PN σ0 W0 c) (te := cE X PN σ0 W0 f) C.calm N.nd hy hyl hsw pi ok (fun s H C cl fp => (hg s H C cl fp).pg) (fun s H C cl fp => (ht s H C cl fp).pt) (fun s H C cl fp => (he s H C cl fp).pe) hs, fun F B H σ ρ D' S q => lc_red qi hts hpn S
    (EPost.of (k := fun s ρ' => .ok .nx (ρ'.set i s)) (D' := D') (fun s ρ' v H' B' e S' z q' => q' _ H' B' (Ext.refl B') (S'.store hp z)) q)⟩
end
end FV

namespace FV
open PySem PySem.Spec PyProof.Rows L2

section
variable {X : Cx} {PN : List Nat} {σ0 : Gs} {W : WX} {k : Nat}
/-! ### raise -/
abbrev veB : List Value := [.type "ValueError", .type "Exception", .type "BaseException", .type "object"]
structure ExcAt (X : Cx) (c : Str) : Prop where
  ex : ∃ C, X.mg c = some (.ref C) ∧ PySem.W.excIn X.K C veB "ValueError.__new__" = true ∧ PySem.W.keepIn X.K (.ref C) = true ∧ PySem.W.subIn X.K (.ref C) (.type "BaseException") = some true ∧ PySem.W.typeIn X.K (.ref C) = some (.type "type")
theorem pmk_own0 {C : Addr} {bmB : List Value} {B newId initId : String} {x : Str} {p pos : Pos} (F : ExcBaseFacts B newId initId bmB) (q : PySem.W.excIn X.K C bmB newId = true) (gC : X.mg x = some (.ref C))
    (kC : PySem.W.keepIn X.K (.ref C) = true) (r : Raises X (.ref C)) (hg : Gl X x) (hdb : (x == ("__debug__" : Str)) = false := by decide) :
    PMk X (.Call (.Name x p) [] [] pos) (fun σ H Q => Q (.ref C) none H) := by
  intro pins s σ H Q I h
  refine wpAny_Call_Name_kw (ld_glob I hg gC ?_ hdb)
  refine PySem.W.callWith_K0 (first := []) I.kIn kC ?_
  show wpAny _ _ (call (.ref C) []) _ _ _
  obtain ⟨bm, N, nm, qn, bs, hdct, sn, sub, ab, col, dd, k0, k1, k2, k3, k5, mN, hC, hN, hni, T⟩ := exc_obj I.kIn q
  refine wpAny_call_exc_subT F T hC hN hni (fun h' e hm => ?_) (Nat.zero_le _)
  exact mk_of I hm r h (I.hok.gone hm.new)
def yRaise (c : Str) : FY := fun ρ => .exc c [] ρ
theorem fs_raise {x : Str} {p pos pos' : Pos} (C : Cok X W k) (e : ExcAt X x) (hg : Gl X x) (hdb : (x == ("__debug__" : Str)) = false := by decide) : FS X PN σ0 W (.Raise (some (.Call (.Name x p) [] [] pos)) none pos') (yRaise x) := by
  obtain ⟨A, h1, h2, h3, h4, h5⟩ := e.ex
  exact ⟨_, ps_raise C.calm C.tk (pmk_own0 PySem.F.excBase_ValueError h2 h1 h3 (raises_own h4 h5) hg hdb), fun F B H σ ρ D' S q => q _ none σ H B (Ext.refl B) S ⟨A, h1, rfl, rfl⟩⟩

/-! ### try -/
theorem NamesOk.tr {M L : List Bool} (N : NamesOk X M L) {pn : List (Addr × Obj)} {xe : Value → Shared → Prop} : NamesOk (X.tr pn xe) M L := ⟨N.vis, N.loc, N.fn, N.db, N.cd, N.nd⟩
theorem NamesOk.suite {M L : List Bool} (N : NamesOk X M L) {a : Addr} {pn : List (Addr × Obj)} : NamesOk (X.suite a pn) M L := ⟨N.vis, N.loc, N.fn, N.db, N.cd, N.nd⟩
theorem DefAt.tr {x : Str} {ps : List Str} {own : List Bool} {G : GF} (d : DefAt X k x ps own G) {pn : List (Addr × Obj)} {xe : Value → Shared → Prop} : DefAt (X.tr pn xe) k x ps own G := ⟨d.at_⟩
theorem ExcAt.tr {x : Str} (d : ExcAt X x) {pn : List (Addr × Obj)} {xe : Value → Shared → Prop} : ExcAt (X.tr pn xe) x := ⟨d.ex⟩
theorem Cok.toTry (C : Cok X W k) {W' : WX} {pn : List (Addr × Obj)} {xe : Value → Shared → Prop} (tk : Takes (X.tr pn xe) W') (po : PassesOwn (model X.prog X.w) X.A X.env xe) : Cok (X.tr pn xe) W' k := ⟨C.calm, tk, po, C.hr⟩
/-- which handler takes -/
abbrev Mt := Str → Option Bool
def MtOk (X : Cx) (hc : Value) (mt : Mt) : Prop := ∀ c b C, mt c = some b → X.mg c = some (.ref C) → PySem.W.exmOne X.K (.ref C) hc = some b
/-- what is known of the caught exception -/
def Caught (σ0 : Gs) (fs : List (Str × D)) (od : Option Addr) : Prop := match fs with
  | [] => od = none
  | fs => ∃ dd vs, od = some dd ∧ (dd, vs, fs) ∈ σ0.gh
def endT (i : Nat) (r : R Fl) : R Fl := match r with
  | .ok fl ρ2 => .ok fl (ρ2.set i .no)
  | _ => .bad
def yTryAs (i : Nat) (mt : Mt) (g : FY) (gs : Str → List (Str × D) → FY) : FY := fun ρ => match g ρ with
  | .exc c fs ρ1 => match mt c with
    | some true => if i < ρ1.length then endT i (gs c fs (ρ1.set i .no)) else .bad
    | some false => .exc c fs ρ1
    | none => .bad
  | .ok fl ρ1 => .ok fl ρ1
  | .bad => .bad
theorem set_no_get {ρ : En} {i j : Nat} {s : Sl} (h : (ρ.set i .no)[j]? = some s) : s = .no ∨ (j ≠ i ∧ ρ[j]? = some s) := by
  by_cases e : i = j
  · subst e
    rw [List.getElem?_set_self'] at h
    cases q : ρ[i]? with
    | none => rw [q] at h; cases h
    | some t => rw [q] at h; cases h; exact .inl rfl
  · rw [List.getElem?_set_ne e] at h
    exact .inr ⟨fun z => e z.symm, h⟩
/-- slot i is of no account -/
theorem Sat.poke {PN' : List Nat} {σ0' : Gs} {F B H : Hp} {σ : L2.St} {ρ : En} {i : Nat} {o : Option L2.V} (S : Sat X.K X.mg PN σ0 F B H σ ρ) (hp : ∀ j ∈ PN', (σ.set i o)[j]? = σ0'.st[j]?) (hg : ∀ p ∈ σ0'.gh, B p.1 = some (.xd p.2.1) ∧ RepF X.K X.mg B p.2.1 p.2.2) : Sat X.K X.mg PN' σ0' F B H (σ.set i o) (ρ.set i .no) where
  len := by rw [List.length_set, List.length_set]; exact S.len
  pin := hp
  gh := hg
  bh := S.bh
  fh := S.fh
  sl := fun j s h => by
    rcases set_no_get h with e | ⟨hne, h⟩
    · subst e; trivial
    · have q := S.sl j s h
      cases s with
      | no => trivial
      | fz d => obtain ⟨v, g1, g2⟩ := q; exact ⟨v, by rw [List.getElem?_set_ne (Ne.symm hne)]; exact g1, g2⟩
      | ow d => obtain ⟨a, g1, g2⟩ := q; exact ⟨a, by rw [List.getElem?_set_ne (Ne.symm hne)]; exact g1, g2⟩
  dj := fun j k a d d' h1 h2 e1 e2 => by
    rcases set_no_get h1 with z | ⟨n1, h1⟩
    · cases z
    · rcases set_no_get h2 with z | ⟨n2, h2⟩
      · cases z
      · rw [List.getElem?_set_ne (Ne.symm n1)] at e1
        rw [List.getElem?_set_ne (Ne.symm n2)] at e2
        exact S.dj j k a d d' h1 h2 e1 e2
theorem VOk.poke {F B H : Hp} {σ : L2.St} {ρ : En} {i : Nat} {o : Option L2.V} {v : L2.V} {s : Sl} (h : VOk X.K X.mg F B H σ ρ v s) : VOk X.K X.mg F B H (σ.set i o) (ρ.set i .no) v s := by
  cases s with
  | no => exact h
  | fz d => exact h
  | ow d =>
    obtain ⟨a, rfl, g1, g2, g3, g4⟩ := h
    refine ⟨a, rfl, g1, g2, g3, fun j d' hj e => ?_⟩
    rcases set_no_get hj with z | ⟨n, hj⟩
    · cases z
    · rw [List.getElem?_set_ne (Ne.symm n)] at e
      exact g4 j d' hj e
theorem fs_tryAs {M L : List Bool} (N : NamesOk X M L) (i : Nat) {x n : Str} {hc : Value} {body suite : List Stmt} {b₀ : Stmt} {np pos pos' : Pos} {mt : Mt} {g : FY} {gs : Str → List (Str × D) → FY} (C : Cok X W k) (hs : X.stack = X.env :: X.outer) (hf : X.env.frame = some X.env.locals) (hnm : Names X x hc) (hmt : MtOk X hc mt)
    (hb : ∀ (W' : WX) (pn : List (Addr × Obj)) (xe : Value → Shared → Prop), Cok (X.tr pn xe) W' k → FB (X.tr pn xe) PN σ0 W' body g)
    (hsu : ∀ (c : Str) (fs : List (Str × D)) (Ca a : Addr) (oe : Obj) (od : Option Addr) (pn : List (Addr × Obj)) (σ0' : Gs), mt c = some true → X.mg c = some (.ref Ca) → Zc (.ref Ca) od oe → (∃ vs, oe.data = .fields vs) → σ0'.st[i]? = some (some (V.ref a)) → Caught σ0' fs od → FB (X.suite a ((a, oe) :: pn)) (i :: PN) σ0' W0 (b₀ :: suite) (gs c fs))
    (hln : X.env.kindOf n = some .local) (hp : i ∉ PN := by decide) (hi : X.N[i]? = some n := by rfl) : FS X PN σ0 W (.Try body [.ExceptHandler (some (.Name x np)) (some n) (b₀ :: suite) pos'] [] [] pos) (yTryAs i mt g gs) := by
  refine ⟨_, ps_try_as (tb := fun W' => cS X PN σ0 W' g) (ts := fun a cls od => fun D' σ H => ∃ c fs Ca σ0', mt c = some true ∧ X.mg c = some (.ref Ca) ∧ cls = .ref Ca ∧ σ0'.st[i]? = some (some (V.ref a)) ∧ Caught σ0' fs od ∧ cS X (i :: PN) σ0' W0 (gs c fs) D' σ H) hs hf N.nd hi hln hnm C.tk
    (fun W' pn xe tk po => (hb W' pn xe (C.toTry tk po)).ps) (fun a oe cls od pn hz hv => ⟨fun pins s σ H D' I ⟨c, fs, Ca, σ0', h1, h2, h3, h4, h5, h6⟩ => ?_⟩), fun F B H σ ρ D' S q => ?_⟩
  · subst h3
    exact (hsu c fs Ca a oe od pn σ0' h1 h2 hz hv h4 h5).ps.run pins s σ H D' I h6
  · refine ⟨F, B, ρ, S, ?_⟩
    unfold yTryAs at q
    cases eg : g ρ with
    | bad => rw [eg] at q; exact q
    | ok fl ρ1 =>
      rw [eg] at q
      cases fl with
      | nx => exact q
      | bk => exact q
      | ct => exact q
      | rt s => exact q
    | exc c fs ρ1 =>
      rw [eg] at q
      intro cls od σ' H' B' e' S' z
      obtain ⟨Ca, z1, z2, z3⟩ := z
      subst z2
      simp only at q
      cases em : mt c with
      | none => rw [em] at q; exact q.elim
      | some b =>
        rw [em] at q
        refine ⟨b, hmt c b Ca em z1, fun hb a ha => ?_, fun hb => ?_⟩
        · subst hb
          simp only at q
          split at q
          case isFalse => exact q.elim
          rename_i hir
          have hlt : i < σ'.length := Nat.lt_of_lt_of_le hir S'.len
          obtain ⟨gh', hgh1, hgh2, hgh3⟩ : ∃ gh' : List (Addr × List (Str × L2.V) × List (Str × D)), (∀ p ∈ σ0.gh, p ∈ gh') ∧ (∀ p ∈ gh', B' p.1 = some (.xd p.2.1) ∧ RepF X.K X.mg B' p.2.1 p.2.2) ∧ Caught ⟨σ'.set i (some (.ref a)), gh'⟩ fs od := by
            cases fs with
            | nil => exact ⟨σ0.gh, fun p hp => hp, S'.gh, z3⟩
            | cons f fs =>
              obtain ⟨dd, vs, y1, y2, y3⟩ := z3
              refine ⟨(dd, vs, f :: fs) :: σ0.gh, fun p hp => List.mem_cons_of_mem _ hp, fun p hp => ?_, dd, vs, y1, List.mem_cons_self⟩
              rcases List.mem_cons.mp hp with y | y
              · subst y; exact ⟨y2, y3⟩
              · exact S'.gh p y
          refine ⟨c, fs, Ca, ⟨σ'.set i (some (.ref a)), gh'⟩, em, z1, rfl, by rw [List.getElem?_set_self hlt], hgh3, F, B', ρ1.set i .no, S'.poke (fun _ _ => rfl) hgh2, ?_⟩
          have q := SPost.mono e' q
          have down : ∀ {B2 H2 : Hp} {σ2 : L2.St} {ρ2 : En}, Ext B' B2 → Sat X.K X.mg (i :: PN) ⟨σ'.set i (some (.ref a)), gh'⟩ F B2 H2 σ2 ρ2 → Sat X.K X.mg PN σ0 F B2 H2 (σ2.set i none) (ρ2.set i .no) := fun {B2 H2 σ2 ρ2} e2 S2 =>
            S2.poke (fun j hj => by
              have hne : i ≠ j := fun z => hp (by rw [z]; exact hj)
              rw [List.getElem?_set_ne hne, S2.pin j (List.mem_cons_of_mem _ hj), ← S'.pin j hj]
              show (σ'.set i (some (.ref a)))[j]? = _
              rw [List.getElem?_set_ne hne]) fun p hp => S2.gh p (hgh1 p hp)
          cases es : gs c fs (ρ1.set i .no) with
          | bad => rw [es] at q; exact q.elim
          | exc c2 fs2 ρ2 => rw [es] at q; exact q.elim
          | ok fl ρ2 =>
            rw [es] at q
            cases fl with
            | nx => exact fun σ2 H2 B2 e2 S2 => q _ H2 B2 e2 (down e2 S2)
            | bk => exact fun σ2 H2 B2 e2 S2 => q _ H2 B2 e2 (down e2 S2)
            | ct => exact fun σ2 H2 B2 e2 S2 => q _ H2 B2 e2 (down e2 S2)
            | rt s => exact fun v σ2 H2 B2 e2 S2 y => q v _ H2 B2 e2 (down e2 S2) y.poke
        · subst hb
          exact q _ od σ' H' B' e' S' ⟨Ca, z1, rfl, z3⟩
/-! ### what a suite says of the exception -/
/-- isinstance(e, C): r for each class that may be caught -/
theorem fe_exIs {M L : List Bool} {a D : Addr} {oe : Obj} {pn : List (Addr × Obj)} (N : NamesOk (X.suite a ((a, oe) :: pn)) M L) (i : Nat) {e y : Str} {pe pc pis pos : Pos} {c : L2.V} {cv : Value} {b : Bool} (T : ExcC X.K D) (hz : Zc (.ref D) none oe) (hf : ∃ vs, oe.data = .fields vs) (hst : σ0.st[i]? = some (some (V.ref a)))
    (bi : Blt (X.suite a ((a, oe) :: pn)) "isinstance") (hc : PE (X.suite a ((a, oe) :: pn)) (.Name y pc) (tC c)) (hcv : ∀ u, RelV c u → u = cv) (hk : PySem.W.kitOne X.K (.ref D) cv = some b)
    (hi : (X.suite a ((a, oe) :: pn)).N[i]? = some e := by rfl) (hm : M[i]? = some true := by rfl) :
    FE (X.suite a ((a, oe) :: pn)) (i :: PN) σ0 W (.Call (.Name "isinstance" pis) [.Name e pe, .Name y pc] [] pos) (xC (.bl b)) := by
  refine ⟨_, pe_callB (call_isE T hz hf) bi.gl bi.no (by decide +kernel) (pa_cons (N.pe i hi hm) (pa_cons hc pa_nil)), fun F B H σ ρ Q S q => ?_⟩
  have h1 : σ[i]? = some (some (V.ref a)) := by rw [S.pin i List.mem_cons_self]; exact hst
  exact ⟨.ref a, h1, c, cv, b, rfl, hcv, hk, q _ H B (Ext.refl B) S (.bl b)⟩
end
end FV

namespace FV
open PySem PySem.Spec PyProof.Rows L2

/-! ### what a text's proof says of its parts -/
structure FunAt (K : PySem.W.Frag) (mg : Str → Option Value) (x : Str) (st : Stmt) (ps : List Str) : Prop where
  ex : ∃ f fd, Fun K x x st f fd ∧ mg x = some (.ref f) ∧ Binds K fd ps []
abbrev DF (P : Program) (w : World) (K : PySem.W.Frag) (mg : Str → Option Value) (base : Heap) (k : Nat) (x : Str) (ps : List Str) (own : List Bool) (G : GF) : Prop :=
  ∃ f fd, FnOk P w K mg base (L2.CX P w) k f fd ps (spF K mg own G) ∧ mg x = some (.ref f) ∧ PySem.W.keepIn K (.ref f) = true ∧ Binds K fd ps []
structure ExcAtK (K : PySem.W.Frag) (mg : Str → Option Value) (c : Str) : Prop where
  ex : ∃ C, mg c = some (.ref C) ∧ PySem.W.excIn K C veB "ValueError.__new__" = true ∧ PySem.W.keepIn K (.ref C) = true ∧ PySem.W.subIn K (.ref C) (.type "BaseException") = some true ∧ PySem.W.typeIn K (.ref C) = some (.type "type")
/-- handler h's answers -/
def MtK (K : PySem.W.Frag) (mg : Str → Option Value) (h : Str) (tab : List (Str × Bool)) : Prop := ∀ Ch, mg h = some (.ref Ch) → ∀ c b C, tab.lookup c = some b → mg c = some (.ref C) → PySem.W.exmOne K (.ref C) (.ref Ch) = some b
theorem MtK.ok {X : Cx} {h : Str} {tab : List (Str × Bool)} {Ch : Addr} (m : MtK X.K X.mg h tab) (g : X.mg h = some (.ref Ch)) : MtOk X (.ref Ch) (fun c => tab.lookup c) := fun c b C e hc => m Ch g c b C e hc
/-- isinstance(e, h) -/
def IsK (K : PySem.W.Frag) (mg : Str → Option Value) (h : Str) (tab : List (Str × Bool)) : Prop := ∃ Ch, mg h = some (.ref Ch) ∧ ∀ c b C, tab.lookup c = some b → mg c = some (.ref C) → ExcC K C ∧ PySem.W.kitOne K (.ref C) (.ref Ch) = some b
def xEx (tab : List (Str × Bool)) (c : Str) (fs : List (Str × D)) : FX := fun ρ => match fs with
  | [] => (match tab.lookup c with
    | some b => .ok (.fz (.bl b)) ρ
    | none => .bad)
  | _ => .bad
/-! ### names by one look -/
def nmB (sc : Scope) (fnb : Str → Bool) : List Str → List Bool → List Bool → Bool
  | [], _, _ => true
  | x :: N, M, L => (!(M.headD false) || (match sc.names.lookup x with | some .local => true | some .cell => true | some .free => true | _ => false)) &&
      (!(L.headD false) || (match sc.names.lookup x with | some .local => true | some .cell => fnb x | _ => false)) && (!(x == ("__debug__" : Str))) && (!(x == ("__classdict__" : Str))) && nmB sc fnb N M.tail L.tail
theorem nmB_at {sc : Scope} {fnb : Str → Bool} : ∀ {N : List Str} {M L : List Bool}, nmB sc fnb N M L = true → ∀ (i : Nat) (x : Str), N[i]? = some x →
    (M[i]? = some true → Vis sc x) ∧ (L[i]? = some true → Loc sc x ∧ (fnb x = true ∨ sc.names.lookup x = some .local)) ∧ (x == ("__debug__" : Str)) = false ∧ (x == ("__classdict__" : Str)) = false
  | [], M, L, _, i, x, h => by simp at h
  | y :: N, M, L, h, i, x, hx => by
    unfold nmB at h
    simp only [Bool.and_eq_true] at h
    obtain ⟨⟨⟨⟨h1, h2⟩, h3⟩, h4⟩, h5⟩ := h
    cases i with
    | zero =>
      simp at hx
      subst hx
      refine ⟨fun hm => ?_, fun hl => ?_, by simpa using h3, by simpa using h4⟩
      · have e : M.headD false = true := by
          cases M with
          | nil => simp at hm
          | cons a r => simpa using hm
        rw [e] at h1
        simp only [Bool.not_true, Bool.false_or] at h1
        unfold Vis
        split at h1 <;> simp_all
      · have e : L.headD false = true := by
          cases L with
          | nil => simp at hl
          | cons a r => simpa using hl
        rw [e] at h2
        simp only [Bool.not_true, Bool.false_or] at h2
        unfold L2.Loc
        split at h2 <;> simp_all
    | succ i =>
      have hx' : N[i]? = some x := by simpa using hx
      obtain ⟨g1, g2, g3, g4⟩ := nmB_at h5 i x hx'
      refine ⟨fun hm => g1 ?_, fun hl => g2 ?_, g3, g4⟩
      · cases M with
        | nil => simp at hm
        | cons a r => simpa using hm
      · cases L with
        | nil => simp at hl
        | cons a r => simpa using hl
theorem namesOk_gen {X : Cx} {N : List Str} {sc : Scope} {fnb : Str → Bool} {M L : List Bool} (hN : X.N = N) (hs : X.env.scope = sc) (hf : ∀ x, fnb x = true → X.fn x = true) (nd : N.Nodup) (h : nmB sc fnb N M L = true) : NamesOk X M L := by
  subst hN hs
  refine ⟨fun i x hx hm => ((nmB_at h i x hx).1 hm), fun i x hx hm => ((nmB_at h i x hx).2.1 hm).1, fun i x hx hm => ?_, fun x hx => ?_, fun x hx => ?_, nd⟩
  · exact ((nmB_at h i x hx).2.1 hm).2.imp (hf x) id
  · obtain ⟨i, hi⟩ := List.mem_iff_getElem?.mp hx
    exact (nmB_at h i x hi).2.2.1
  · obtain ⟨i, hi⟩ := List.mem_iff_getElem?.mp hx
    exact (nmB_at h i x hi).2.2.2
theorem namesOk_of {X : Cx} {N : List Str} {sc : Scope} {M L : List Bool} (hN : X.N = N) (hs : X.env.scope = sc) (hf : ∀ x, X.fn x = true) (nd : N.Nodup) (h : nmB sc (fun _ => true) N M L = true) : NamesOk X M L := namesOk_gen hN hs (fun x _ => hf x) nd h
theorem namesOk_blk {X : Cx} {N : List Str} {sc scope : Scope} {M L : List Bool} {s : Shared} {H : Hp} {C : Addr} {cl : List (Str × Addr)} {fp : List Addr} (hN : X.N = N) (hs : X.env.scope = sc) (nd : N.Nodup) (h : nmB (relS scope sc) (fun x => scope.names.lookup x == some .cell) N M L = true) :
    NamesOk (X.blk s H scope (compEnvC scope cl C X.env) fp) M L := by
  subst hs
  exact namesOk_gen (fnb := fun x => scope.names.lookup x == some .cell) hN rfl (fun x h => h) nd h
theorem blkOk_of {X : Cx} {N : List Str} {sc scope : Scope} {own : List (Str × Nat)} (hN : X.N = N) (hs : X.env.scope = sc) (h : blkC N sc scope own = true) : BlkOk X.N X.env.scope scope own := by
  subst hN hs
  exact blkOk_by h
theorem loc_of {X : Cx} {sc : Scope} {y : Str} (hs : X.env.scope = sc) (h : sc.names.lookup y = some .local) : X.env.scope.names.lookup y = some .local := by
  subst hs
  exact h
abbrev gSub : G2 := gI0 fun i j => .int (i - j)
abbrev gAnd : G2 := gI0 fun i j => .int (Builtin.bitAnd i j)
abbrev gOr : G2 := gI0 fun i j => .int (Builtin.bitOr i j)
abbrev gXor : G2 := gI0 fun i j => .int (Builtin.bitXor i j)
abbrev gLt : G2 := gCmp fun i j => decide (i < j)
abbrev gLe : G2 := gCmp fun i j => decide (i ≤ j)
abbrev gGt : G2 := gCmp fun i j => decide (j < i)
abbrev gGe : G2 := gCmp fun i j => decide (j ≤ i)
section
variable {X : Cx} {PN : List Nat} {σ0 : Gs} {W : WX} {k : Nat}
theorem fe_isE {M L : List Bool} {a Ca : Addr} {oe : Obj} {od : Option Addr} {pn : List (Addr × Obj)} {c h : Str} {fs : List (Str × D)} {tab : List (Str × Bool)} (N : NamesOk (X.suite a ((a, oe) :: pn)) M L) (i : Nat) {e : Str} {pe pc pis pos : Pos} (T : IsK X.K X.mg h tab)
    (hC : X.mg c = some (.ref Ca)) (hz : Zc (.ref Ca) od oe) (hf : ∃ vs, oe.data = .fields vs) (hst : σ0.st[i]? = some (some (V.ref a))) (hcau : Caught σ0 fs od) (bi : Blt (X.suite a ((a, oe) :: pn)) "isinstance") (hg : Gl (X.suite a ((a, oe) :: pn)) h) (hdb : (h == ("__debug__" : Str)) = false := by decide)
    (hi : (X.suite a ((a, oe) :: pn)).N[i]? = some e := by rfl) (hm : M[i]? = some true := by rfl) :
    FE (X.suite a ((a, oe) :: pn)) (i :: PN) σ0 W (.Call (.Name "isinstance" pis) [.Name e pe, .Name h pc] [] pos) (xEx tab c fs) := by
  obtain ⟨Ch, hh, T⟩ := T
  cases fs with
  | cons f fs =>
    have hp : PE (X.suite a ((a, oe) :: pn)) (.Call (.Name "isinstance" pis) [.Name e pe, .Name h pc] [] pos) (fun _ _ _ => False) := ⟨fun _ _ _ _ _ _ h => h.elim⟩
    exact ⟨_, hp, fun F B H σ ρ Q S q => q⟩
  | nil =>
    cases ht : tab.lookup c with
    | none =>
      have hp : PE (X.suite a ((a, oe) :: pn)) (.Call (.Name "isinstance" pis) [.Name e pe, .Name h pc] [] pos) (fun _ _ _ => False) := ⟨fun _ _ _ _ _ _ h => h.elim⟩
      refine ⟨_, hp, fun F B H σ ρ Q S q => ?_⟩
      unfold xEx at q
      rw [ht] at q
      exact q
    | some b =>
      obtain ⟨t1, t2⟩ := T c b Ca ht hC
      have hod : od = none := hcau
      subst hod
      have := fe_exIs (PN := PN) (W := W) (pe := pe) (pc := pc) (pis := pis) (pos := pos) N i t1 hz hf hst bi (pe_glob hg hh (v := .ref Ch) rfl hdb) (fun u r => r) t2 hi hm
      obtain ⟨t, pt, qt⟩ := this.ex
      refine ⟨t, pt, fun F B H σ ρ Q S q => qt F B H σ ρ Q S ?_⟩
      unfold xEx at q
      rw [ht] at q
      exact q
end
end FV

namespace FV
open PySem PySem.Spec PyProof.Rows L2

/-! ### how the functions of environments are reckoned: first-order, so that nothing is looked into before its turn -/
def kSeq (q : FY) (r : R Fl) : R Fl := match r with
  | .ok .nx ρ' => q ρ'
  | .ok fl ρ' => .ok fl ρ'
  | .exc c fs ρ' => .exc c fs ρ'
  | .bad => .bad
def kFin (own : List Bool) (r : R Fl) : R Fl := match r with
  | .ok f ρ' => .ok f (keepO own ρ')
  | .exc c fs ρ' => .exc c fs (keepO own ρ')
  | .bad => .bad
def kX (r : R Sl) : R Fl := match r with
  | .ok _ ρ' => .ok .nx ρ'
  | .exc c fs ρ' => .exc c fs ρ'
  | .bad => .bad
def kRet (r : R Sl) : R Fl := match r with
  | .ok s ρ' => .ok (.rt s) ρ'
  | .exc c fs ρ' => .exc c fs ρ'
  | .bad => .bad
def kSet (i : Nat) (r : R Sl) : R Fl := match r with
  | .ok s ρ' => .ok .nx (ρ'.set i s)
  | .exc c fs ρ' => .exc c fs ρ'
  | .bad => .bad
def kIf (p q : FY) (r : R Sl) : R Fl := match r with
  | .ok (.fz (.bl b)) ρ' => if b = true then p ρ' else q ρ'
  | .ok _ _ => .bad
  | .exc c fs ρ' => .exc c fs ρ'
  | .bad => .bad
def kIfx (p q : FX) (r : R Sl) : R Sl := match r with
  | .ok (.fz (.bl b)) ρ' => if b = true then p ρ' else q ρ'
  | .ok _ _ => .bad
  | .exc c fs ρ' => .exc c fs ρ'
  | .bad => .bad
def kAnd (q : FX) (r : R Sl) : R Sl := match r with
  | .ok (.fz (.bl b)) ρ' => if b = true then q ρ' else .ok (.fz (.bl false)) ρ'
  | .ok _ _ => .bad
  | .exc c fs ρ' => .exc c fs ρ'
  | .bad => .bad
def kOr (q : FX) (r : R Sl) : R Sl := match r with
  | .ok (.fz (.bl b)) ρ' => if b = true then .ok (.fz (.bl true)) ρ' else q ρ'
  | .ok _ _ => .bad
  | .exc c fs ρ' => .exc c fs ρ'
  | .bad => .bad
def kNot (r : R Sl) : R Sl := match r with
  | .ok (.fz (.bl b)) ρ' => .ok (.fz (.bl (!b))) ρ'
  | .ok _ _ => .bad
  | .exc c fs ρ' => .exc c fs ρ'
  | .bad => .bad
def kF (r : R Sl) : R Sl := match r with
  | .ok (.fz d) ρ' => .ok (.fz d) ρ'
  | .ok (.ow d) ρ' => .ok (.fz d) ρ'
  | .ok .no _ => .bad
  | .exc c fs ρ' => .exc c fs ρ'
  | .bad => .bad
def cst (d : D) : Th := fun _ => some d
def kA (r : R Sl) : R Th := match r with
  | .ok (.fz d) ρ' => .ok (cst d) ρ'
  | .ok (.ow d) ρ' => .ok (cst d) ρ'
  | .ok .no _ => .bad
  | .exc c fs ρ' => .exc c fs ρ'
  | .bad => .bad
def slD' (s : Sl) : Option D := match s with
  | .fz d => some d
  | .ow d => some d
  | .no => none
def rd (i : Nat) : Th := fun ρ => slD' ((ρ[i]?).getD .no)
def kR (s : Sl) (i : Nat) (ρ : En) : R Th := match s with
  | .no => .bad
  | _ => .ok (rd i) ρ
def kV (s : Sl) (i : Nat) (ρ : En) : R Sl := match s with
  | .fz d => .ok (.fz d) ρ
  | .ow d => .ok (.fz d) (ρ.set i (.fz d))
  | .no => .bad
def kM (s : Sl) (i : Nat) (ρ : En) : R Sl := match s with
  | .fz d => .ok (.fz d) ρ
  | .ow d => .ok (.ow d) (ρ.set i .no)
  | .no => .bad
def ap2 (g : G2) (a b : Option D) : Option Sl := a.bind fun d => b.bind fun e => g d e
def ap1 (g : D → Option Sl) (a : Option D) : Option Sl := a.bind g
def apL (g : List D → Option Sl) (a : Option (List D)) : Option Sl := a.bind g
def kB2 (g : G2) (t : Th) (r : R Th) : R Sl := match r with
  | .ok u ρ' => ofO (ap2 g (t ρ') (u ρ')) ρ'
  | .exc c fs ρ' => .exc c fs ρ'
  | .bad => .bad
def kB1 (g : G2) (b : En → R Th) (r : R Th) : R Sl := match r with
  | .ok t ρ' => kB2 g t (b ρ')
  | .exc c fs ρ' => .exc c fs ρ'
  | .bad => .bad
def kU (g : D → Option Sl) (r : R Th) : R Sl := match r with
  | .ok t ρ' => ofO (ap1 g (t ρ')) ρ'
  | .exc c fs ρ' => .exc c fs ρ'
  | .bad => .bad
def kL (g : List D → Option Sl) (r : R (List Th)) : R Sl := match r with
  | .ok t ρ' => ofO (apL g (evTh t ρ')) ρ'
  | .exc c fs ρ' => .exc c fs ρ'
  | .bad => .bad
def kLc2 (t : Th) (r : R (List Th)) : R (List Th) := match r with
  | .ok ts ρ' => .ok (t :: ts) ρ'
  | .exc c fs ρ' => .exc c fs ρ'
  | .bad => .bad
def kLc1 (l : En → R (List Th)) (r : R Th) : R (List Th) := match r with
  | .ok t ρ' => kLc2 t (l ρ')
  | .exc c fs ρ' => .exc c fs ρ'
  | .bad => .bad
def co1 (a : Option D) (b : Option (List D)) : Option (List D) := a.bind fun d => b.bind fun ds => some (d :: ds)
def kCc2 (a : Ar) (r : R (List Ar)) : R (List Ar) := match r with
  | .ok ts ρ' => .ok (a :: ts) ρ'
  | .exc c fs ρ' => .exc c fs ρ'
  | .bad => .bad
def kCc1 (l : En → R (List Ar)) (r : R Sl) : R (List Ar) := match r with
  | .ok (.fz d) ρ' => kCc2 (.fz d) (l ρ')
  | .ok (.ow d) ρ' => kCc2 (.fz d) (l ρ')
  | .ok .no _ => .bad
  | .exc c fs ρ' => .exc c fs ρ'
  | .bad => .bad
def kCo (s : Sl) (i : Nat) (l : En → R (List Ar)) (ρ : En) : R (List Ar) := match s with
  | .ow _ => kCc2 (.sl i) (l ρ)
  | _ => .bad
def nodB (l : List Nat) : Bool := decide l.Nodup
theorem nod0 : nodB [] = true := by decide
theorem nod1 {i : Nat} : nodB [i] = true := decide_eq_true (by simp)
theorem nod2 {i j : Nat} (h : i ≠ j) : nodB [i, j] = true := decide_eq_true (by simp [h])
def arsB (own : List Bool) (ars : List Ar) : Bool := arsOk own ars && decide (slots ars).Nodup
def kArg (G : GF) (ars : List Ar) (ρ : En) (b : Bool) (o : Option En) : R Sl := match b, o with
  | true, some ρa => endC ars ρ (G ρa)
  | _, _ => .bad
def kCall (own : List Bool) (G : GF) (r : R (List Ar)) : R Sl := match r with
  | .ok ars ρ => kArg G ars ρ (arsB own ars) (argEn ars ρ)
  | .exc c fs ρ' => .exc c fs ρ'
  | .bad => .bad
def sla (s : Sl) : Option Sl := match s with
  | .ow d => some (.ow d)
  | _ => none
def coE (a : Option Sl) (b : Option En) : Option En := a.bind fun s => b.bind fun l => some (s :: l)
def coD (d : D) (b : Option (List D)) : Option (List D) := b.bind fun ds => some (d :: ds)
def kDs (o : Option (List D)) (f : List D → Sl) (ρ : En) : R Sl := match o with
  | some ds => if ds.length ≤ 1000 then .ok (f ds) ρ else .bad
  | none => .bad
def kLst (f : List D → Sl) (r : R (List Ar)) : R Sl := match r with
  | .ok ars ρ => kDs (dsOf ars) f ρ
  | .exc c fs ρ' => .exc c fs ρ'
  | .bad => .bad
def fOwL (ds : List D) : Sl := .ow (.lst ds)
def fFzT (ds : List D) : Sl := .fz (.tup ds)
def kW (gg : GG) (fg : List Nat) (y : FY) (r : R (List D)) : R Fl := match r with
  | .ok xs ρ => forL fg gg y xs ρ
  | .exc c fs ρ' => .exc c fs ρ'
  | .bad => .bad
def apW (g : List D → Option (List D)) (a : Option (List D)) : Option (List D) := a.bind g
def ofW (o : Option (List D)) (ρ : En) : R (List D) := match o with
  | some xs => .ok xs ρ
  | none => .bad
def kWR (g : List D → Option (List D)) (r : R (List Th)) : R (List D) := match r with
  | .ok ts ρ => ofW (apW g (evTh ts ρ)) ρ
  | .exc c fs ρ' => .exc c fs ρ'
  | .bad => .bad
def kWI (r : R Sl) : R (List D) := match r with
  | .ok (.fz d) ρ => ofW (itemsD d) ρ
  | .ok (.ow d) ρ => ofW (itemsD d) ρ
  | .ok .no _ => .bad
  | .exc c fs ρ' => .exc c fs ρ'
  | .bad => .bad
def kAsg2 (o : Option En) : R Fl := match o with
  | some ρ => .ok .nx ρ
  | none => .bad
def kAsg (g : GG) (r : R Sl) : R Fl := match r with
  | .ok (.fz d) ρ => kAsg2 (g d ρ)
  | .ok (.ow d) ρ => kAsg2 (g d ρ)
  | .ok .no _ => .bad
  | .exc c fs ρ' => .exc c fs ρ'
  | .bad => .bad
def kSI4 (o : Option D) (i : Nat) (ρ : En) : R Fl := match o with
  | some c' => .ok .nx (ρ.set i (.ow c'))
  | none => .bad
def kSI3 (s : Sl) (i : Nat) (d dk : D) (ρ : En) : R Fl := match s with
  | .ow c => kSI4 (setD dk d c) i ρ
  | _ => .bad
def kSI2 (i : Nat) (d : D) (r : R Sl) : R Fl := match r with
  | .ok (.fz dk) ρ => kSI3 ((ρ[i]?).getD .no) i d dk ρ
  | .ok (.ow dk) ρ => kSI3 ((ρ[i]?).getD .no) i d dk ρ
  | .ok .no _ => .bad
  | .exc c fs ρ' => .exc c fs ρ'
  | .bad => .bad
def kSI1b (o : Option D) (i : Nat) (d : D) (fk : FX) (ρ : En) : R Fl := match o with
  | some _ => kSI2 i d (fk ρ)
  | none => .bad
def kSI1 (i : Nat) (fk : FX) (r : R Sl) : R Fl := match r with
  | .ok (.fz d) ρ => kSI1b (slD' ((ρ[i]?).getD .no)) i d fk ρ
  | .ok (.ow d) ρ => kSI1b (slD' ((ρ[i]?).getD .no)) i d fk ρ
  | .ok .no _ => .bad
  | .exc c fs ρ' => .exc c fs ρ'
  | .bad => .bad
def kP (r : R Sl) : R (Option Int) := match r with
  | .ok (.fz (.int i)) ρ' => .ok (some i) ρ'
  | .ok _ _ => .bad
  | .exc c fs ρ' => .exc c fs ρ'
  | .bad => .bad
def kSl3 (t : Th) (lo : Option Int) (r : R (Option Int)) : R Sl := match r with
  | .ok hi ρ => ofO (ap1 (slD lo hi) (t ρ)) ρ
  | .exc c fs ρ' => .exc c fs ρ'
  | .bad => .bad
def kSl2 (t : Th) (ph : En → R (Option Int)) (r : R (Option Int)) : R Sl := match r with
  | .ok lo ρ => kSl3 t lo (ph ρ)
  | .exc c fs ρ' => .exc c fs ρ'
  | .bad => .bad
def kSl1 (pl ph : En → R (Option Int)) (r : R Th) : R Sl := match r with
  | .ok t ρ => kSl2 t ph (pl ρ)
  | .exc c fs ρ' => .exc c fs ρ'
  | .bad => .bad
def kLC2 (r : R (List D)) : R Sl := match r with
  | .ok acc ρ2 => .ok (.ow (.lst acc)) ρ2
  | _ => .bad
def kLC (ow : List Nat) (gg : GG) (t f : FX) (r : R (List D)) : R Sl := match r with
  | .ok xs ρ1 => kLC2 (lcL ow gg t f xs [] (forget ow ρ1))
  | .exc c fs ρ1 => .exc c fs ρ1
  | .bad => .bad
def isOL (s : Sl) : Bool := match s with
  | .ow (.lst _) => true
  | _ => false
def kMu5 (o : Option (List D × D)) (i : Nat) (ρ : En) : R Sl := match o with
  | some (ds', d) => .ok (.fz d) (ρ.set i (.ow (.lst ds')))
  | none => .bad
def kMu4 (i : Nat) (gm : GM) (es : List D) (s : Sl) (ρ : En) : R Sl := match s with
  | .ow (.lst ds) => kMu5 (gm ds es) i ρ
  | _ => .bad
def kMu3 (i : Nat) (gm : GM) (o : Option (List D)) (ρ : En) : R Sl := match o with
  | some es => kMu4 i gm es ((ρ[i]?).getD .no) ρ
  | none => .bad
def kMu2 (i : Nat) (gm : GM) (r : R (List Ar)) : R Sl := match r with
  | .ok ars ρ => kMu3 i gm (dsOf ars) ρ
  | .exc c fs ρ' => .exc c fs ρ'
  | .bad => .bad
def kMu (i : Nat) (gm : GM) (l : En → R (List Ar)) (ρ : En) (b : Bool) : R Sl := if b = true then kMu2 i gm (l ρ) else .bad
def kTry2 (i : Nat) (gs : Str → List (Str × D) → FY) (c : Str) (fs : List (Str × D)) (ρ1 : En) (o : Option Bool) : R Fl := match o with
  | some true => if i < ρ1.length then endT i (gs c fs (ρ1.set i .no)) else .bad
  | some false => .exc c fs ρ1
  | none => .bad
def kEx (o : Option Bool) (ρ : En) : R Sl := match o with
  | some b => R.ok (Sl.fz (.bl b)) ρ
  | none => R.bad
def kTry (i : Nat) (mt : Mt) (gs : Str → List (Str × D) → FY) (r : R Fl) : R Fl := match r with
  | .exc c fs ρ1 => kTry2 i gs c fs ρ1 (mt c)
  | .ok fl ρ1 => .ok fl ρ1
  | .bad => .bad
section
variable {f g t : FX} {p q y : FY} {ρ ρ' ρa : En} {s : Sl} {i n : Nat} {z : Int} {d e : D} {ds es xs : List D} {b c : Bool} {bs own : List Bool} {cn : Str} {fs : List (Str × D)} {fl : Fl} {gg : G2} {tg : GG} {gm : GM} {gu : D → Option Sl} {gl : List D → Option Sl} {gw : List D → Option (List D)} {a a2 : En → R Th} {th th2 : Th} {ths : List Th} {ll : En → R (List Th)} {la : En → R (List Ar)} {ar : Ar} {ars : List Ar} {G : GF} {ow fg : List Nat} {pl ph : En → R (Option Int)} {lo hi : Option Int} {wi : En → R (List D)} {o : Option Bool} {mt : Mt} {gs : Str → List (Str × D) → FY} {fd : List D → Sl}

theorem ev_fnF {m : Nat} : fnF own m y ρ = kFin own (y (ρ ++ List.replicate m .no)) := by unfold fnF kFin; cases y (ρ ++ List.replicate m .no) <;> rfl
theorem ev_nil : yNil ρ = .ok .nx ρ := rfl
theorem ev_bk : yBk ρ = .ok .bk ρ := rfl
theorem ev_ct : yCt ρ = .ok .ct ρ := rfl
theorem ev_seq : ySeq p q ρ = kSeq q (p ρ) := by unfold ySeq kSeq; rfl
theorem ev_x : yX f ρ = kX (f ρ) := by unfold yX yE kX; cases f ρ <;> rfl
theorem ev_ret : yRet f ρ = kRet (f ρ) := by unfold yRet yE kRet; cases f ρ <;> rfl
theorem ev_retN : yRetN ρ = .ok (.rt (.fz .non)) ρ := rfl
theorem ev_set : ySet i f ρ = kSet i (f ρ) := by unfold ySet yE kSet; cases f ρ <;> rfl
theorem ev_if : yIf t p q ρ = kIf p q (t ρ) := by
  unfold yIf yE kIf
  cases t ρ with
  | ok s ρ =>
    cases s with
    | fz d =>
      cases d with
      | bl b => cases b <;> rfl
      | _ => rfl
    | _ => rfl
  | _ => rfl
theorem ev_aug : yAug i gg f ρ = kSet i (xB gg (aR i) (aX f) ρ) := by unfold yAug yE kSet; cases xB gg (aR i) (aX f) ρ <;> rfl
theorem ev_raise : yRaise cn ρ = .exc cn [] ρ := rfl
theorem ev_c : xC d ρ = .ok (.fz d) ρ := rfl
theorem ev_v : xV i ρ = kV ((ρ[i]?).getD .no) i ρ := by
  unfold xV kV
  cases ρ[i]? with
  | none => rfl
  | some s => cases s <;> rfl
theorem ev_m : xM i ρ = kM ((ρ[i]?).getD .no) i ρ := by
  unfold xM kM
  cases ρ[i]? with
  | none => rfl
  | some s => cases s <;> rfl
theorem ev_f : xF f ρ = kF (f ρ) := by
  unfold xF kF
  cases f ρ with
  | ok s ρ => cases s <;> rfl
  | _ => rfl
theorem ev_ax : aX f ρ = kA (f ρ) := by
  unfold aX kA
  cases f ρ with
  | ok s ρ => cases s <;> rfl
  | _ => rfl
theorem ev_rd : rdSl i = rd i := by
  funext ρ
  unfold rdSl rd slD'
  cases ρ[i]? with
  | none => rfl
  | some s => cases s <;> rfl
theorem ev_ar : aR i ρ = kR ((ρ[i]?).getD .no) i ρ := by
  unfold aR kR
  rw [ev_rd]
  unfold rd slD'
  cases ρ[i]? with
  | none => rfl
  | some s => cases s <;> rfl
theorem rd_at : rd i ρ = slD' ((ρ[i]?).getD .no) := rfl
theorem ev_b : xB gg a a2 ρ = kB1 gg a2 (a ρ) := by
  unfold xB kB1
  cases a ρ with
  | ok t ρ1 => simp only [R.bind, kB2] <;> cases a2 ρ1 <;> rfl
  | _ => rfl
theorem ev_u : xU gu a ρ = kU gu (a ρ) := by unfold xU kU; cases a ρ <;> rfl
theorem ev_l : xL gl ll ρ = kL gl (ll ρ) := by unfold xL kL; cases ll ρ <;> rfl
theorem ev_lnil : lNil ρ = .ok [] ρ := rfl
theorem ev_lcons : lCons a ll ρ = kLc1 ll (a ρ) := by
  unfold lCons kLc1
  cases a ρ with
  | ok t ρ1 => simp only [R.bind, kLc2] <;> cases ll ρ1 <;> rfl
  | _ => rfl
theorem ev_th0 : evTh [] ρ = some [] := rfl
theorem ev_th1 : evTh (th :: ths) ρ = co1 (th ρ) (evTh ths ρ) := rfl
theorem co1_some : co1 (some d) (some ds) = some (d :: ds) := rfl
theorem cst_at : cst d ρ = some d := rfl
theorem ev_not : xNot f ρ = kNot (f ρ) := by
  unfold xNot kNot
  cases f ρ with
  | ok s ρ =>
    cases s with
    | fz d => cases d <;> rfl
    | _ => rfl
  | _ => rfl
theorem ev_and : xAnd f g ρ = kAnd g (f ρ) := by
  unfold xAnd kAnd
  cases f ρ with
  | ok s ρ =>
    cases s with
    | fz d =>
      cases d with
      | bl b => cases b <;> rfl
      | _ => rfl
    | _ => rfl
  | _ => rfl
theorem ev_or : xOr f g ρ = kOr g (f ρ) := by
  unfold xOr kOr
  cases f ρ with
  | ok s ρ =>
    cases s with
    | fz d =>
      cases d with
      | bl b => cases b <;> rfl
      | _ => rfl
    | _ => rfl
  | _ => rfl
theorem ev_ife : xIf t f g ρ = kIfx f g (t ρ) := by
  unfold xIf kIfx
  cases t ρ with
  | ok s ρ =>
    cases s with
    | fz d =>
      cases d with
      | bl b => cases b <;> rfl
      | _ => rfl
    | _ => rfl
  | _ => rfl
theorem ev_call : xCall own G la ρ = kCall own G (la ρ) := by
  unfold xCall kCall
  cases la ρ with
  | ok ars ρ1 =>
    simp only [R.bind]
    unfold goC kArg arsB
    by_cases h1 : arsOk own ars = true
    · by_cases h2 : (slots ars).Nodup
      · rw [if_pos ⟨h1, h2⟩, h1, decide_eq_true h2]
        cases argEn ars ρ1 <;> rfl
      · rw [if_neg (fun h => h2 h.2), decide_eq_false h2, Bool.and_false]
    · rw [if_neg (fun h => h1 h.1), Bool.eq_false_iff.mpr h1, Bool.false_and]
  | _ => rfl
theorem ev_cnil : cNil ρ = .ok [] ρ := rfl
theorem ev_cx : cX f la ρ = kCc1 la (f ρ) := by
  unfold cX kCc1
  cases f ρ with
  | ok s ρ1 =>
    cases s with
    | no => rfl
    | fz d => simp only [R.bind, kCc2] <;> cases la ρ1 <;> rfl
    | ow d => simp only [R.bind, kCc2] <;> cases la ρ1 <;> rfl
  | _ => rfl
theorem ev_co : cO i la ρ = kCo ((ρ[i]?).getD .no) i la ρ := by
  unfold cO kCo
  cases ρ[i]? with
  | none => rfl
  | some s =>
    cases s with
    | ow d => simp only [Option.getD_some, kCc2] <;> cases la ρ <;> rfl
    | _ => rfl
theorem ars0 : arsOk [] [] = true := rfl
theorem ars1 : arsOk (b :: bs) (.fz d :: ars) = arsOk bs ars := by cases b <;> rfl
theorem ars2 : arsOk (true :: bs) (.sl i :: ars) = arsOk bs ars := rfl
theorem slots0 : slots [] = [] := rfl
theorem slots1 : slots (.fz d :: ars) = slots ars := rfl
theorem slots2 : slots (.sl i :: ars) = i :: slots ars := rfl
theorem arsB_eq : arsB own ars = (arsOk own ars && nodB (slots ars)) := rfl
theorem arg0 : argEn [] ρ = some [] := rfl
theorem arg1 : argEn (.fz d :: ars) ρ = coE (some (.fz d)) (argEn ars ρ) := rfl
theorem arg2 : argEn (.sl i :: ars) ρ = coE (sla ((ρ[i]?).getD .no)) (argEn ars ρ) := by
  show (match ρ[i]? with
    | some (Sl.ow d) => some (Sl.ow d)
    | _ => none).bind _ = _
  unfold coE sla
  generalize ρ[i]? = o
  cases o with
  | none => rfl
  | some s => cases s <;> rfl
theorem coE_some : coE (some s) (some ρ) = some (s :: ρ) := rfl
theorem sla_ow : sla (.ow d) = some (.ow d) := rfl
theorem endC_rt : endC ars ρ (.ok (.rt s) ρa) = .ok s (back ars ρa ρ) := rfl
theorem endC_nx : endC ars ρ (.ok .nx ρa) = .ok (.fz .non) (back ars ρa ρ) := rfl
theorem endC_exc : endC ars ρ (.exc cn fs ρa) = .exc cn fs (back ars ρa ρ) := rfl
theorem back0 : back [] ρa ρ = ρ := rfl
theorem back1 : back (.fz d :: ars) (s :: ρa) ρ = back ars ρa ρ := rfl
theorem back2 : back (.sl i :: ars) (s :: ρa) ρ = back ars ρa (ρ.set i s) := rfl
theorem keepO0 : keepO [] ρ = [] := rfl
theorem keepO1 : keepO (true :: bs) (s :: ρ) = s :: keepO bs ρ := rfl
theorem keepO2 : keepO (false :: bs) (s :: ρ) = .no :: keepO bs ρ := rfl
theorem ev_lst : xLst la ρ = kLst fOwL (la ρ) := by
  unfold xLst kLst
  cases la ρ with
  | ok ars ρ1 => simp only [R.bind, kDs] <;> cases dsOf ars <;> rfl
  | _ => rfl
theorem ev_tup : xTup la ρ = kLst fFzT (la ρ) := by
  unfold xTup kLst
  cases la ρ with
  | ok ars ρ1 => simp only [R.bind, kDs] <;> cases dsOf ars <;> rfl
  | _ => rfl
theorem ds0 : dsOf [] = some [] := rfl
theorem ds1 : dsOf (.fz d :: ars) = coD d (dsOf ars) := rfl
theorem coD_some : coD d (some ds) = some (d :: ds) := rfl
theorem fOwL_eq : fOwL ds = .ow (.lst ds) := rfl
theorem fFzT_eq : fFzT ds = .fz (.tup ds) := rfl
theorem kDs_ok (h : ds.length ≤ 1000) : kDs (some ds) fd ρ = .ok (fd ds) ρ := if_pos h
theorem ev_for : yFor fg wi tg y ρ = kW tg fg y (wi ρ) := by unfold yFor kW; cases wi ρ <;> rfl
theorem ev_wr : wR gw ll ρ = kWR gw (ll ρ) := by
  unfold wR kWR
  cases ll ρ with
  | ok ts ρ1 => simp only [R.bind, ofW, apW] <;> cases (evTh ts ρ1).bind gw <;> rfl
  | _ => rfl
theorem ev_wi : wIt f ρ = kWI (f ρ) := by
  unfold wIt kWI
  rw [ev_f]
  unfold kF
  cases f ρ with
  | ok s ρ1 =>
    cases s with
    | no => rfl
    | fz d => simp only [R.bind, ofW] <;> cases itemsD d <;> rfl
    | ow d => simp only [R.bind, ofW] <;> cases itemsD d <;> rfl
  | _ => rfl
theorem ev_asg : yAsg tg f ρ = kAsg tg (f ρ) := by
  unfold yAsg yE kAsg
  rw [ev_f]
  unfold kF
  cases f ρ with
  | ok s ρ1 =>
    cases s with
    | no => rfl
    | fz d => simp only [kAsg2] <;> cases tg d ρ1 <;> rfl
    | ow d => simp only [kAsg2] <;> cases tg d ρ1 <;> rfl
  | _ => rfl
theorem kAsg2_some : kAsg2 (some ρ) = .ok .nx ρ := rfl
theorem tgN_at : tgN i d ρ = some (ρ.set i (.fz d)) := rfl
theorem tgT_at {gs : List D → En → Option En} (h : ds.length = n) : tgT n gs (.tup ds) ρ = gs ds ρ := by unfold tgT; simp only [h, if_pos]
theorem tgs0 : tgsNil [] ρ = some ρ := rfl
theorem tgs1 {gs : List D → En → Option En} : tgsCons tg gs (d :: ds) ρ = (tg d ρ).bind (gs ds) := rfl
theorem ev_si {fk fe : FX} : ySetI i fk fe ρ = kSI1 i fk (fe ρ) := by
  unfold ySetI yE kSI1
  rw [ev_f]
  have key : ∀ (d : D) (ρ1 : En), (match rdSl i ρ1 with
      | some _ => yE (xF fk) (kSetI i d) ρ1
      | none => R.bad) = kSI1b (slD' ((ρ1[i]?).getD .no)) i d fk ρ1 := by
    intro d ρ1
    rw [ev_rd]
    unfold rd kSI1b
    cases slD' ((ρ1[i]?).getD .no) with
    | none => rfl
    | some x =>
      have two : ∀ (dk : D) (ρ2 : En), kSetI i d (.fz dk) ρ2 = kSI3 ((ρ2[i]?).getD .no) i d dk ρ2 := by
        intro dk ρ2
        unfold kSetI kSI3 kSI4
        simp only
        cases ρ2[i]? with
        | none => rfl
        | some s =>
          cases s with
          | ow c => simp only [Option.getD_some] <;> cases setD dk d c <;> rfl
          | _ => rfl
      simp only
      unfold yE kSI2
      rw [ev_f]
      unfold kF
      cases fk ρ1 with
      | ok s ρ2 =>
        cases s with
        | no => rfl
        | fz dk => exact two dk ρ2
        | ow dk => exact two dk ρ2
      | _ => rfl
  unfold kF
  cases fe ρ with
  | ok s ρ1 =>
    cases s with
    | no => rfl
    | fz d => exact key d ρ1
    | ow d => exact key d ρ1
  | _ => rfl
theorem ev_sl : xSl a pl ph ρ = kSl1 pl ph (a ρ) := by
  unfold xSl kSl1
  cases a ρ with
  | ok t ρ1 =>
    simp only [R.bind]
    unfold kSl2
    cases pl ρ1 with
    | ok lo ρ2 => simp only; unfold kSl3; cases ph ρ2 <;> rfl
    | _ => rfl
  | _ => rfl
theorem ev_pn : pN ρ = .ok none ρ := rfl
theorem ev_ps : pS f ρ = kP (f ρ) := by
  unfold pS kP
  cases f ρ with
  | ok s ρ =>
    cases s with
    | fz d => cases d <;> rfl
    | _ => rfl
  | _ => rfl
theorem ev_lc : xLc ow wi tg t f ρ = kLC ow tg t f (wi ρ) := by
  unfold xLc kLC
  cases wi ρ with
  | ok xs ρ1 => simp only [kLC2] <;> cases lcL ow tg t f xs [] (forget ow ρ1) <;> rfl
  | _ => rfl
theorem ev_yes : xYes ρ = .ok (.fz (.bl true)) ρ := rfl
theorem ev_mu : xMu i gm la ρ = kMu i gm la ρ (isOL ((ρ[i]?).getD .no)) := by
  have h1 : isOwL i ρ = isOL ((ρ[i]?).getD .no) := by
    unfold isOwL isOL
    cases ρ[i]? with
    | none => rfl
    | some s =>
      cases s with
      | ow d => cases d <;> rfl
      | _ => rfl
  unfold xMu kMu
  rw [h1]
  cases isOL ((ρ[i]?).getD .no) with
  | false => rfl
  | true =>
    simp only [if_true]
    unfold kMu2
    cases la ρ with
    | ok ars ρ1 =>
      simp only [R.bind]
      unfold goM kMu3
      cases dsOf ars with
      | none => rfl
      | some es =>
        simp only
        unfold kMu4
        cases ρ1[i]? with
        | none => rfl
        | some s =>
          cases s with
          | ow d =>
            cases d with
            | lst ds => simp only [Option.getD_some]; unfold kMu5; cases gm ds es <;> rfl
            | _ => rfl
          | _ => rfl
    | _ => rfl
theorem isOL_ow : isOL (.ow (.lst ds)) = true := rfl
theorem ev_try : yTryAs i mt p gs ρ = kTry i mt gs (p ρ) := by
  unfold yTryAs kTry
  cases p ρ with
  | exc c fs ρ1 => simp only [kTry2] <;> rcases mt c with _ | b <;> first | rfl | (cases b <;> rfl)
  | _ => rfl
theorem kTry2_t (h : i < ρ.length) : kTry2 i gs cn fs ρ (some true) = endT i (gs cn fs (ρ.set i .no)) := if_pos h
theorem kTry2_f : kTry2 i gs cn fs ρ (some false) = .exc cn fs ρ := rfl
theorem endT_ok : endT i (.ok fl ρ) = .ok fl (ρ.set i .no) := rfl
theorem ev_ex {tab : List (Str × Bool)} : xEx tab cn [] ρ = kEx (tab.lookup cn) ρ := rfl
theorem kEx_some : kEx (some b) ρ = .ok (.fz (.bl b)) ρ := rfl
theorem kSeq_nx : kSeq q (.ok .nx ρ) = q ρ := rfl
theorem kSeq_rt : kSeq q (.ok (.rt s) ρ) = .ok (.rt s) ρ := rfl
theorem kSeq_bk : kSeq q (.ok .bk ρ) = .ok .bk ρ := rfl
theorem kSeq_ct : kSeq q (.ok .ct ρ) = .ok .ct ρ := rfl
theorem kSeq_exc : kSeq q (.exc cn fs ρ : R Fl) = .exc cn fs ρ := rfl
theorem kFin_ok : kFin own (.ok fl ρ) = .ok fl (keepO own ρ) := rfl
theorem kFin_exc : kFin own (.exc cn fs ρ) = .exc cn fs (keepO own ρ) := rfl
theorem kX_ok : kX (.ok s ρ) = .ok .nx ρ := rfl
theorem kX_exc : kX  (.exc cn fs ρ : R Sl) = .exc cn fs ρ := rfl
theorem kRet_ok : kRet (.ok s ρ) = .ok (.rt s) ρ := rfl
theorem kRet_exc : kRet  (.exc cn fs ρ : R Sl) = .exc cn fs ρ := rfl
theorem kSet_ok : kSet i (.ok s ρ) = .ok .nx (ρ.set i s) := rfl
theorem kSet_exc : kSet i (.exc cn fs ρ : R Sl) = .exc cn fs ρ := rfl
theorem kIf_ok : kIf p q (.ok (.fz (.bl b)) ρ) = if b = true then p ρ else q ρ := rfl
theorem kIf_t : kIf p q (.ok (.fz (.bl true)) ρ) = p ρ := rfl
theorem kIf_f : kIf p q (.ok (.fz (.bl false)) ρ) = q ρ := rfl
theorem kIf_exc : kIf p q (.exc cn fs ρ : R Sl) = .exc cn fs ρ := rfl
theorem kIfx_ok : kIfx f g (.ok (.fz (.bl b)) ρ) = if b = true then f ρ else g ρ := rfl
theorem kIfx_t : kIfx f g (.ok (.fz (.bl true)) ρ) = f ρ := rfl
theorem kIfx_f : kIfx f g (.ok (.fz (.bl false)) ρ) = g ρ := rfl
theorem kIfx_exc : kIfx f g (.exc cn fs ρ : R Sl) = .exc cn fs ρ := rfl
theorem kAnd_ok : kAnd g (.ok (.fz (.bl b)) ρ) = if b = true then g ρ else .ok (.fz (.bl false)) ρ := rfl
theorem kAnd_t : kAnd g (.ok (.fz (.bl true)) ρ) = g ρ := rfl
theorem kAnd_f : kAnd g (.ok (.fz (.bl false)) ρ) = .ok (.fz (.bl false)) ρ := rfl
theorem kAnd_exc : kAnd g (.exc cn fs ρ : R Sl) = .exc cn fs ρ := rfl
theorem kOr_ok : kOr g (.ok (.fz (.bl b)) ρ) = if b = true then .ok (.fz (.bl true)) ρ else g ρ := rfl
theorem kOr_t : kOr g (.ok (.fz (.bl true)) ρ) = .ok (.fz (.bl true)) ρ := rfl
theorem kOr_f : kOr g (.ok (.fz (.bl false)) ρ) = g ρ := rfl
theorem kOr_exc : kOr g (.exc cn fs ρ : R Sl) = .exc cn fs ρ := rfl
theorem kNot_ok : kNot (.ok (.fz (.bl b)) ρ) = .ok (.fz (.bl (!b))) ρ := rfl
theorem kNot_exc : kNot  (.exc cn fs ρ : R Sl) = .exc cn fs ρ := rfl
theorem kF_fz : kF (.ok (.fz d) ρ) = .ok (.fz d) ρ := rfl
theorem kF_ow : kF (.ok (.ow d) ρ) = .ok (.fz d) ρ := rfl
theorem kF_exc : kF  (.exc cn fs ρ : R Sl) = .exc cn fs ρ := rfl
theorem kA_fz : kA (.ok (.fz d) ρ) = .ok (cst d) ρ := rfl
theorem kA_ow : kA (.ok (.ow d) ρ) = .ok (cst d) ρ := rfl
theorem kA_exc : kA  (.exc cn fs ρ : R Sl) = .exc cn fs ρ := rfl
theorem slDp_fz : slD' (.fz d) = some d := rfl
theorem slDp_ow : slD' (.ow d) = some d := rfl
theorem kR_fz : kR (.fz d) i ρ = .ok (rd i) ρ := rfl
theorem kR_ow : kR (.ow d) i ρ = .ok (rd i) ρ := rfl
theorem kV_fz : kV (.fz d) i ρ = .ok (.fz d) ρ := rfl
theorem kV_ow : kV (.ow d) i ρ = .ok (.fz d) (ρ.set i (.fz d)) := rfl
theorem kM_fz : kM (.fz d) i ρ = .ok (.fz d) ρ := rfl
theorem kM_ow : kM (.ow d) i ρ = .ok (.ow d) (ρ.set i .no) := rfl
theorem ap2_some : ap2 gg (some d) (some e) = gg d e := rfl
theorem ap1_some : ap1 gu (some d) = gu d := rfl
theorem apL_some : apL gl (some ds) = gl ds := rfl
theorem ofO_some_ : ofO (some s) ρ = .ok s ρ := rfl
theorem kB2_ok : kB2 gg th (.ok th2 ρ) = ofO (ap2 gg (th ρ) (th2 ρ)) ρ := rfl
theorem kB2_exc : kB2 gg th (.exc cn fs ρ : R Th) = .exc cn fs ρ := rfl
theorem kB1_ok : kB1 gg a (.ok th ρ) = kB2 gg th (a ρ) := rfl
theorem kB1_exc : kB1 gg a (.exc cn fs ρ : R Th) = .exc cn fs ρ := rfl
theorem kU_ok : kU gu (.ok th ρ) = ofO (ap1 gu (th ρ)) ρ := rfl
theorem kU_exc : kU gu (.exc cn fs ρ : R Th) = .exc cn fs ρ := rfl
theorem kL_ok : kL gl (.ok ths ρ) = ofO (apL gl (evTh ths ρ)) ρ := rfl
theorem kL_exc : kL gl (.exc cn fs ρ : R (List Th)) = .exc cn fs ρ := rfl
theorem kLc2_ok : kLc2 th (.ok ths ρ) = .ok (th :: ths) ρ := rfl
theorem kLc2_exc : kLc2 th (.exc cn fs ρ : R (List Th)) = .exc cn fs ρ := rfl
theorem kLc1_ok : kLc1 ll (.ok th ρ) = kLc2 th (ll ρ) := rfl
theorem kLc1_exc : kLc1 ll (.exc cn fs ρ : R Th) = .exc cn fs ρ := rfl
theorem kCc2_ok : kCc2 ar (.ok ars ρ) = .ok (ar :: ars) ρ := rfl
theorem kCc2_exc : kCc2 ar (.exc cn fs ρ : R (List Ar)) = .exc cn fs ρ := rfl
theorem kCc1_fz : kCc1 la (.ok (.fz d) ρ) = kCc2 (.fz d) (la ρ) := rfl
theorem kCc1_ow : kCc1 la (.ok (.ow d) ρ) = kCc2 (.fz d) (la ρ) := rfl
theorem kCc1_exc : kCc1 la (.exc cn fs ρ : R Sl) = .exc cn fs ρ := rfl
theorem kCo_ow : kCo (.ow d) i la ρ = kCc2 (.sl i) (la ρ) := rfl
theorem kCall_ok : kCall own G (.ok ars ρ) = kArg G ars ρ (arsB own ars) (argEn ars ρ) := rfl
theorem kCall_exc : kCall own G (.exc cn fs ρ : R (List Ar)) = .exc cn fs ρ := rfl
theorem kArg_ok : kArg G ars ρ true (some ρa) = endC ars ρ (G ρa) := rfl
theorem kLst_ok : kLst fd (.ok ars ρ) = kDs (dsOf ars) fd ρ := rfl
theorem kLst_exc : kLst fd (.exc cn fs ρ : R (List Ar)) = .exc cn fs ρ := rfl
theorem kW_ok : kW tg fg y (.ok xs ρ) = forL fg tg y xs ρ := rfl
theorem kW_exc : kW tg fg y (.exc cn fs ρ : R (List D)) = .exc cn fs ρ := rfl
theorem apW_some : apW gw (some ds) = gw ds := rfl
theorem ofW_some : ofW (some ds) ρ = .ok ds ρ := rfl
theorem kWR_ok : kWR gw (.ok ths ρ) = ofW (apW gw (evTh ths ρ)) ρ := rfl
theorem kWR_exc : kWR gw (.exc cn fs ρ : R (List Th)) = .exc cn fs ρ := rfl
theorem kWI_fz : kWI (.ok (.fz d) ρ) = ofW (itemsD d) ρ := rfl
theorem kWI_ow : kWI (.ok (.ow d) ρ) = ofW (itemsD d) ρ := rfl
theorem kWI_exc : kWI  (.exc cn fs ρ : R Sl) = .exc cn fs ρ := rfl
theorem kAsg_fz : kAsg tg (.ok (.fz d) ρ) = kAsg2 (tg d ρ) := rfl
theorem kAsg_ow : kAsg tg (.ok (.ow d) ρ) = kAsg2 (tg d ρ) := rfl
theorem kAsg_exc : kAsg tg (.exc cn fs ρ : R Sl) = .exc cn fs ρ := rfl
theorem kSI1_fz : kSI1 i f (.ok (.fz d) ρ) = kSI1b (slD' ((ρ[i]?).getD .no)) i d f ρ := rfl
theorem kSI1_ow : kSI1 i f (.ok (.ow d) ρ) = kSI1b (slD' ((ρ[i]?).getD .no)) i d f ρ := rfl
theorem kSI1_exc : kSI1 i f (.exc cn fs ρ : R Sl) = .exc cn fs ρ := rfl
theorem kSI1b_some : kSI1b (some e) i d f ρ = kSI2 i d (f ρ) := rfl
theorem kSI2_fz : kSI2 i d (.ok (.fz e) ρ) = kSI3 ((ρ[i]?).getD .no) i d e ρ := rfl
theorem kSI2_exc : kSI2 i d (.exc cn fs ρ : R Sl) = .exc cn fs ρ := rfl
theorem kSI3_ow {dk : D} : kSI3 (.ow e) i d dk ρ = kSI4 (setD dk d e) i ρ := rfl
theorem kSI4_some : kSI4 (some e) i ρ = .ok .nx (ρ.set i (.ow e)) := rfl
theorem kP_int : kP (.ok (.fz (.int z)) ρ) = .ok (some z) ρ := rfl
theorem kP_exc : kP  (.exc cn fs ρ : R Sl) = .exc cn fs ρ := rfl
theorem kSl3_ok : kSl3 th lo (.ok hi ρ) = ofO (ap1 (slD lo hi) (th ρ)) ρ := rfl
theorem kSl2_ok : kSl2 th ph (.ok lo ρ) = kSl3 th lo (ph ρ) := rfl
theorem kSl1_ok : kSl1 pl ph (.ok th ρ) = kSl2 th ph (pl ρ) := rfl
theorem kLC_ok : kLC ow tg t f (.ok xs ρ) = kLC2 (lcL ow tg t f xs [] (forget ow ρ)) := rfl
theorem kLC_exc : kLC ow tg t f (.exc cn fs ρ : R (List D)) = .exc cn fs ρ := rfl
theorem kLC2_ok : kLC2 (.ok xs ρ) = .ok (.ow (.lst xs)) ρ := rfl
theorem kMu_t : kMu i gm la ρ true = kMu2 i gm (la ρ) := rfl
theorem kMu2_ok : kMu2 i gm (.ok ars ρ) = kMu3 i gm (dsOf ars) ρ := rfl
theorem kMu2_exc : kMu2 i gm (.exc cn fs ρ : R (List Ar)) = .exc cn fs ρ := rfl
theorem kMu3_some : kMu3 i gm (some es) ρ = kMu4 i gm es ((ρ[i]?).getD .no) ρ := rfl
theorem kMu4_ow : kMu4 i gm es (.ow (.lst ds)) ρ = kMu5 (gm ds es) i ρ := rfl
theorem kMu5_some : kMu5 (some (ds, d)) i ρ = .ok (.fz d) (ρ.set i (.ow (.lst ds))) := rfl
theorem kTry_ok : kTry i mt gs (.ok fl ρ) = .ok fl ρ := rfl
theorem kTry_exc : kTry i mt gs (.exc cn fs ρ) = kTry2 i gs cn fs ρ (mt cn) := rfl
theorem forget0 : forget [] ρ = ρ := rfl
theorem forget1 : forget (i :: fg) ρ = forget fg (ρ.set i .no) := rfl
/-- what a whole run ends in -/
def Ret (r : R Fl) (Q : Sl → En → Prop) : Prop := match r with
  | .ok (.rt s) ρ => Q s ρ
  | _ => False
def Nx (r : R Fl) (Q : En → Prop) : Prop := match r with
  | .ok .nx ρ => Q ρ
  | .ok .ct ρ => Q ρ
  | _ => False
theorem Ret.ex {r : R Fl} {Q : Sl → En → Prop} (h : Ret r Q) : ∃ s ρ, r = .ok (.rt s) ρ ∧ Q s ρ := by
  unfold Ret at h
  split at h
  · exact ⟨_, _, rfl, h⟩
  · exact h.elim
theorem Nx.ex {r : R Fl} {Q : En → Prop} (h : Nx r Q) : ∃ ρ, (r = .ok .nx ρ ∨ r = .ok .ct ρ) ∧ Q ρ := by
  unfold Nx at h
  split at h
  · exact ⟨_, .inl rfl, h⟩
  · exact ⟨_, .inr rfl, h⟩
  · exact h.elim
theorem Ret_ok {Q : Sl → En → Prop} : Ret (.ok (.rt s) ρ) Q = Q s ρ := rfl
theorem Nx_nx {Q : En → Prop} : Nx (.ok .nx ρ) Q = Q ρ := rfl
theorem Nx_ct {Q : En → Prop} : Nx (.ok .ct ρ) Q = Q ρ := rfl
theorem gAdd_ii {i j : Int} : gAdd (.int i) (.int j) = some (.fz (.int (i + j))) := rfl
theorem gAddI_ii {i j : Int} : gAddI (.int i) (.int j) = some (.fz (.int (i + j))) := rfl
theorem gSub_ii {i j : Int} : gSub (.int i) (.int j) = some (.fz (.int (i - j))) := rfl
theorem gMul_ii {i j : Int} (h : cMul i j = true) : gMul (.int i) (.int j) = some (.fz (.int (i * j))) := by unfold gMul gI; simp only [h, if_true, Option.some_or]
theorem gDiv_ii {i j : Int} (h : cDiv i j = true) : gDiv (.int i) (.int j) = some (.fz (.int (i / j))) := by unfold gDiv gI; simp only [h, if_true]
theorem gMod_ii {i j : Int} (h : cMod i j = true) : gMod (.int i) (.int j) = some (.fz (.int (i % j))) := by unfold gMod gI; simp only [h, if_true]
theorem gPow_ii {i j : Int} (h : cPow i j = true) : gPow (.int i) (.int j) = some (.fz (.int (i ^ j.toNat))) := by unfold gPow gI; simp only [h, if_true]
theorem gLt_ii {i j : Int} : gLt (.int i) (.int j) = some (.fz (.bl (decide (i < j)))) := rfl
theorem gLe_ii {i j : Int} : gLe (.int i) (.int j) = some (.fz (.bl (decide (i ≤ j)))) := rfl
theorem gGt_ii {i j : Int} : gGt (.int i) (.int j) = some (.fz (.bl (decide (j < i)))) := rfl
theorem gGe_ii {i j : Int} : gGe (.int i) (.int j) = some (.fz (.bl (decide (j ≤ i)))) := rfl
theorem gEq_ii {i j : Int} : gEq (.int i) (.int j) = some (.fz (.bl (decide (i = j)))) := rfl
theorem gNe_ii {i j : Int} : gNe (.int i) (.int j) = some (.fz (.bl (!decide (i = j)))) := rfl
theorem gEq_ss {i j : Str} : gEq (.str i) (.str j) = some (.fz (.bl (decide (i = j)))) := rfl
theorem gNe_ss {i j : Str} : gNe (.str i) (.str j) = some (.fz (.bl (!decide (i = j)))) := rfl
theorem gEq_bb {i j : Bool} : gEq (.bl i) (.bl j) = some (.fz (.bl (i == j))) := rfl
theorem gNeg_i {i : Int} : gNeg (.int i) = some (.fz (.int (-i))) := rfl
theorem gLen_l : gLen [.lst ds] = some (.fz (.int ds.length)) := rfl
theorem gLen_t : gLen [.tup ds] = some (.fz (.int ds.length)) := rfl
theorem gLen_s {x : Str} (h : x.length ≤ 1000000) : gLen [.str x] = some (.fz (.int x.length)) := by unfold gLen; simp only [h, if_true]
theorem gAbs_i {i : Int} : gAbs [.int i] = some (.fz (.int (if i < 0 then -i else i))) := rfl
theorem gInt_i {i : Int} : gInt [.int i] = some (.fz (.int i)) := rfl
theorem gMax2_i {i j : Int} : gMax2 [.int i, .int j] = some (.fz (.int (if j > i then j else i))) := rfl
theorem gMin2_i {i j : Int} : gMin2 [.int i, .int j] = some (.fz (.int (if j < i then j else i))) := rfl
theorem gList_l : gList [.lst ds] = some (.ow (.lst ds)) := rfl
theorem gList_t : gList [.tup ds] = some (.ow (.lst ds)) := rfl
theorem gTuple_l : gTuple [.lst ds] = some (.fz (.tup ds)) := rfl
theorem gTuple_t : gTuple [.tup ds] = some (.fz (.tup ds)) := rfl
theorem gBits_i {i : Int} : gBits (.int i) = some (.fz (.int (Builtin.Int.intBits i : Nat))) := rfl
theorem ixD_l {i : Int} : ixD (.lst ds) (.int i) = (atI ds i).map .fz := rfl
theorem ixD_t {i : Int} : ixD (.tup ds) (.int i) = (atI ds i).map .fz := rfl
theorem rng1_i {j : Int} (h : -(2 ^ 62) ≤ j ∧ j < 2 ^ 62) : rng1 [.int j] = some ((List.range j.toNat).map fun (i : Nat) => .int (0 + i)) := if_pos h
theorem rng2_i {i j : Int} (h : -(2 ^ 62) ≤ i ∧ i < 2 ^ 62 ∧ -(2 ^ 62) ≤ j ∧ j < 2 ^ 62) : rng2 [.int i, .int j] = some ((List.range (j - i).toNat).map fun (n : Nat) => .int (i + n)) := if_pos h
theorem items_l : itemsD (.lst ds) = some ds := rfl
theorem items_t : itemsD (.tup ds) = some ds := rfl
theorem slD_l : slD lo hi (.lst ds) = some (.ow (.lst (cutD ds lo hi))) := rfl
theorem slD_r {ns : List Int} : slD lo hi (.scr ns) = some (.ow (.lst ((cutD ns lo hi).map .int))) := rfl
theorem setD_l {k : Int} : setD (.int k) d (.lst ds) = (ixN ds.length k).bind fun j => some (.lst (ds.set j d)) := rfl
theorem isi_int_int : gIsi [.int z, .ty "int"] = some (.fz (.bl true)) := by first | rfl | (unfold gIsi; simp only [tyD, Option.bind_some]; decide +kernel)
theorem isi_bool_int : gIsi [.bl b, .ty "int"] = some (.fz (.bl true)) := by first | rfl | (unfold gIsi; simp only [tyD, Option.bind_some]; decide +kernel)
theorem isi_str_int : gIsi [.str cn, .ty "int"] = some (.fz (.bl false)) := by first | rfl | (unfold gIsi; simp only [tyD, Option.bind_some]; decide +kernel)
theorem isi_list_int : gIsi [.lst ds, .ty "int"] = some (.fz (.bl false)) := by first | rfl | (unfold gIsi; simp only [tyD, Option.bind_some]; decide +kernel)
theorem isi_tuple_int : gIsi [.tup ds, .ty "int"] = some (.fz (.bl false)) := by first | rfl | (unfold gIsi; simp only [tyD, Option.bind_some]; decide +kernel)
theorem isi_NoneType_int : gIsi [.non, .ty "int"] = some (.fz (.bl false)) := by first | rfl | (unfold gIsi; simp only [tyD, Option.bind_some]; decide +kernel)
theorem isi_int_bool : gIsi [.int z, .ty "bool"] = some (.fz (.bl false)) := by first | rfl | (unfold gIsi; simp only [tyD, Option.bind_some]; decide +kernel)
theorem isi_bool_bool : gIsi [.bl b, .ty "bool"] = some (.fz (.bl true)) := by first | rfl | (unfold gIsi; simp only [tyD, Option.bind_some]; decide +kernel)
theorem isi_str_bool : gIsi [.str cn, .ty "bool"] = some (.fz (.bl false)) := by first | rfl | (unfold gIsi; simp only [tyD, Option.bind_some]; decide +kernel)
theorem isi_list_bool : gIsi [.lst ds, .ty "bool"] = some (.fz (.bl false)) := by first | rfl | (unfold gIsi; simp only [tyD, Option.bind_some]; decide +kernel)
theorem isi_tuple_bool : gIsi [.tup ds, .ty "bool"] = some (.fz (.bl false)) := by first | rfl | (unfold gIsi; simp only [tyD, Option.bind_some]; decide +kernel)
theorem isi_NoneType_bool : gIsi [.non, .ty "bool"] = some (.fz (.bl false)) := by first | rfl | (unfold gIsi; simp only [tyD, Option.bind_some]; decide +kernel)
theorem isi_int_str : gIsi [.int z, .ty "str"] = some (.fz (.bl false)) := by first | rfl | (unfold gIsi; simp only [tyD, Option.bind_some]; decide +kernel)
theorem isi_bool_str : gIsi [.bl b, .ty "str"] = some (.fz (.bl false)) := by first | rfl | (unfold gIsi; simp only [tyD, Option.bind_some]; decide +kernel)
theorem isi_str_str : gIsi [.str cn, .ty "str"] = some (.fz (.bl true)) := by first | rfl | (unfold gIsi; simp only [tyD, Option.bind_some]; decide +kernel)
theorem isi_list_str : gIsi [.lst ds, .ty "str"] = some (.fz (.bl false)) := by first | rfl | (unfold gIsi; simp only [tyD, Option.bind_some]; decide +kernel)
theorem isi_tuple_str : gIsi [.tup ds, .ty "str"] = some (.fz (.bl false)) := by first | rfl | (unfold gIsi; simp only [tyD, Option.bind_some]; decide +kernel)
theorem isi_NoneType_str : gIsi [.non, .ty "str"] = some (.fz (.bl false)) := by first | rfl | (unfold gIsi; simp only [tyD, Option.bind_some]; decide +kernel)
theorem isi_int_list : gIsi [.int z, .ty "list"] = some (.fz (.bl false)) := by first | rfl | (unfold gIsi; simp only [tyD, Option.bind_some]; decide +kernel)
theorem isi_bool_list : gIsi [.bl b, .ty "list"] = some (.fz (.bl false)) := by first | rfl | (unfold gIsi; simp only [tyD, Option.bind_some]; decide +kernel)
theorem isi_str_list : gIsi [.str cn, .ty "list"] = some (.fz (.bl false)) := by first | rfl | (unfold gIsi; simp only [tyD, Option.bind_some]; decide +kernel)
theorem isi_list_list : gIsi [.lst ds, .ty "list"] = some (.fz (.bl true)) := by first | rfl | (unfold gIsi; simp only [tyD, Option.bind_some]; decide +kernel)
theorem isi_tuple_list : gIsi [.tup ds, .ty "list"] = some (.fz (.bl false)) := by first | rfl | (unfold gIsi; simp only [tyD, Option.bind_some]; decide +kernel)
theorem isi_NoneType_list : gIsi [.non, .ty "list"] = some (.fz (.bl false)) := by first | rfl | (unfold gIsi; simp only [tyD, Option.bind_some]; decide +kernel)
theorem isi_int_tuple : gIsi [.int z, .ty "tuple"] = some (.fz (.bl false)) := by first | rfl | (unfold gIsi; simp only [tyD, Option.bind_some]; decide +kernel)
theorem isi_bool_tuple : gIsi [.bl b, .ty "tuple"] = some (.fz (.bl false)) := by first | rfl | (unfold gIsi; simp only [tyD, Option.bind_some]; decide +kernel)
theorem isi_str_tuple : gIsi [.str cn, .ty "tuple"] = some (.fz (.bl false)) := by first | rfl | (unfold gIsi; simp only [tyD, Option.bind_some]; decide +kernel)
theorem isi_list_tuple : gIsi [.lst ds, .ty "tuple"] = some (.fz (.bl false)) := by first | rfl | (unfold gIsi; simp only [tyD, Option.bind_some]; decide +kernel)
theorem isi_tuple_tuple : gIsi [.tup ds, .ty "tuple"] = some (.fz (.bl true)) := by first | rfl | (unfold gIsi; simp only [tyD, Option.bind_some]; decide +kernel)
theorem isi_NoneType_tuple : gIsi [.non, .ty "tuple"] = some (.fz (.bl false)) := by first | rfl | (unfold gIsi; simp only [tyD, Option.bind_some]; decide +kernel)
theorem isi_int_dict : gIsi [.int z, .ty "dict"] = some (.fz (.bl false)) := by first | rfl | (unfold gIsi; simp only [tyD, Option.bind_some]; decide +kernel)
theorem isi_bool_dict : gIsi [.bl b, .ty "dict"] = some (.fz (.bl false)) := by first | rfl | (unfold gIsi; simp only [tyD, Option.bind_some]; decide +kernel)
theorem isi_str_dict : gIsi [.str cn, .ty "dict"] = some (.fz (.bl false)) := by first | rfl | (unfold gIsi; simp only [tyD, Option.bind_some]; decide +kernel)
theorem isi_list_dict : gIsi [.lst ds, .ty "dict"] = some (.fz (.bl false)) := by first | rfl | (unfold gIsi; simp only [tyD, Option.bind_some]; decide +kernel)
theorem isi_tuple_dict : gIsi [.tup ds, .ty "dict"] = some (.fz (.bl false)) := by first | rfl | (unfold gIsi; simp only [tyD, Option.bind_some]; decide +kernel)
theorem isi_NoneType_dict : gIsi [.non, .ty "dict"] = some (.fz (.bl false)) := by first | rfl | (unfold gIsi; simp only [tyD, Option.bind_some]; decide +kernel)
end
section
variable {f t : FX} {y : FY}
/-- a loop by what holds between its turns -/
theorem forL_inv {fg : List Nat} {gg : GG} {y : FY} (I : Nat → En → Prop) : ∀ (xs : List D) (j : Nat) (ρ : En), I j ρ →
    (∀ (n : Nat) (d : D) (ρ : En), xs[n]? = some d → I (j + n) ρ → ∃ ρ1 ρ2, gg d (forget fg ρ) = some ρ1 ∧ (y ρ1 = .ok .nx ρ2 ∨ y ρ1 = .ok .ct ρ2) ∧ I (j + n + 1) ρ2) → ∃ ρ', forL fg gg y xs ρ = .ok .nx (forget fg ρ') ∧ I (j + xs.length) ρ'
  | [], j, ρ, h0, _ => ⟨ρ, rfl, h0⟩
  | d :: ds, j, ρ, h0, hs => by
    obtain ⟨ρ1, ρ2, e1, e2, h1⟩ := hs 0 d ρ rfl h0
    obtain ⟨ρ', e3, h3⟩ := forL_inv I ds (j + 1) ρ2 h1 fun n d' ρ3 hn h3 => by
      obtain ⟨ρ4, ρ5, g1, g2, g3⟩ := hs (n + 1) d' ρ3 (by simpa using hn) (by rw [show j + (n + 1) = j + 1 + n by omega]; exact h3)
      exact ⟨ρ4, ρ5, g1, g2, by rw [show j + 1 + n + 1 = j + (n + 1) + 1 by omega]; exact g3⟩
    refine ⟨ρ', ?_, by rw [List.length_cons, show j + (ds.length + 1) = j + 1 + ds.length by omega]; exact h3⟩
    rw [forL, e1]
    simp only
    rcases e2 with e2 | e2 <;> rw [e2] <;> exact e3

/-- a comprehension that leaves the names as they are: what it keeps and makes -/
theorem lcL_map {ow : List Nat} {gg : GG} (keep : D → Bool) (mk : D → D) (ρ0 : En) : ∀ (xs acc : List D), acc.length + xs.length ≤ 1000000 →
    (∀ d ∈ xs, ∃ ρ1 ρ2, gg d ρ0 = some ρ1 ∧ t ρ1 = .ok (.fz (.bl (keep d))) ρ2 ∧ (keep d = false → forget ow ρ2 = ρ0) ∧ (keep d = true → ∃ ρ3, xF f ρ2 = .ok (.fz (mk d)) ρ3 ∧ forget ow ρ3 = ρ0)) →
    lcL ow gg t f xs acc ρ0 = .ok (acc ++ (xs.filter keep).map mk) ρ0
  | [], acc, _, _ => by simp [lcL]
  | d :: ds, acc, hl, h => by
    obtain ⟨ρ1, ρ2, e1, e2, e3, e4⟩ := h d List.mem_cons_self
    rw [List.length_cons] at hl
    rw [lcL, e1]
    simp only [e2]
    cases hk : keep d with
    | false =>
      simp only
      rw [e3 hk, lcL_map keep mk ρ0 ds acc (by omega) fun d' hd => h d' (List.mem_cons_of_mem _ hd), List.filter_cons_of_neg (by simp [hk])]
    | true =>
      obtain ⟨ρ3, e5, e6⟩ := e4 hk
      simp only [e5]
      rw [if_pos (by omega), e6, lcL_map keep mk ρ0 ds (acc ++ [mk d]) (by rw [List.length_append, List.length_singleton]; omega) fun d' hd => h d' (List.mem_cons_of_mem _ hd), List.filter_cons_of_pos hk, List.map_cons, List.append_assoc, List.singleton_append]

end
theorem SqL.sub {K : PySem.W.Frag} {H : Hp} {a : Addr} {ns : List Int} {mg : Str → Option Value} (h : SqL K H a (ns.map V.int)) : Rep K mg H (.ref a) (.scr ns) := .scr h
/-- the law's own promise -/
def spLaw (K : PySem.W.Frag) : Sp := fun vs H Q _ => ∃ (a : Addr) (ns : List Int), vs = [.ref a] ∧ SqL K H a (ns.map V.int) ∧ ns.length ≤ 63 ∧ ∀ H', Q (.bl true) H'
theorem law_imp {P : Program} {w : World} {K : PySem.W.Frag} {mg : Str → Option Value} {base : Heap} {k : Nat} {f : Addr} {fd : FuncData} {ps : List Str} {G : GF} (h : FnOk P w K mg base (L2.CX P w) k f fd ps (spF K mg [false] G))
    (hG : ∀ ns : List Int, ns.length ≤ 63 → ∃ ρ', G [.fz (.scr ns)] = .ok (.rt (.fz (.bl true))) ρ') : FnOk P w K mg base (L2.CX P w) k f fd ps (spLaw K) := h.imp fun vs H Q E hs => by
  obtain ⟨a, ns, rfl, hS, hl, q⟩ := hs
  obtain ⟨ρ', e⟩ := hG ns hl
  refine ⟨rfl, fun _ => none, H, [.fz (.scr ns)], rfl, ⟨Nat.le_refl _, fun i h => by simp at h, fun p h => by simp at h, fun b o h => h, fun b o h => by simp at h, fun i s hi => ?_, fun i j a d d' h1 => ?_⟩, fun i d hi => ?_, ?_⟩
  · cases i with
    | zero => simp at hi; subst hi; exact ⟨.ref a, rfl, .scr hS⟩
    | succ i => simp at hi
  · cases i with
    | zero => simp at h1
    | succ i => simp at h1
  · cases i with
    | zero => simp at hi
    | succ i => simp at hi
  · rw [e]
    intro v H' B' _ _ r
    cases r
    exact q H'

end FV

namespace FV
open PySem PySem.Spec PyProof.Rows L2
/-! ### places and bounds -/
theorem atI_nn {α : Type} {xs : List α} {i : Int} (h : 0 ≤ i) : atI xs i = xs[i.toNat]? := by
  unfold atI ixN
  rw [if_pos h]
  by_cases h1 : i < xs.length
  · rw [if_pos h1, Option.bind_some]
  · rw [if_neg h1, Option.bind_none, List.getElem?_eq_none (by omega)]
theorem ixN_nn {n : Nat} {i : Int} (h : 0 ≤ i) (h1 : i.toNat < n) : ixN n i = some i.toNat := by
  unfold ixN
  rw [if_pos h, if_pos (by omega)]
theorem log2_lt_of {n k : Nat} (h : n < 2 ^ k) (hk : 0 < k) : n.log2 < k := by
  by_cases h0 : n = 0
  · subst h0; simpa [Nat.log2_zero] using hk
  · exact (Nat.log2_lt h0).2 h
theorem abs_lt_of {i : Int} {k : Nat} (h1 : -(2 ^ k) < i) (h2 : i < 2 ^ k) : i.natAbs < 2 ^ k := by
  have e : ((2 ^ k : Nat) : Int) = 2 ^ k := by simp
  omega
theorem cMul_of {i j : Int} (h1 : -(2 ^ 1000) < i) (h2 : i < 2 ^ 1000) (h3 : -(2 ^ 1000) < j) (h4 : j < 2 ^ 1000) : cMul i j = true := by
  unfold cMul
  have a := log2_lt_of (abs_lt_of h1 h2) (by decide)
  have b := log2_lt_of (abs_lt_of h3 h4) (by decide)
  exact decide_eq_true (by omega)
theorem bits_le {i : Int} {k : Nat} (h1 : -(2 ^ k) < i) (h2 : i < 2 ^ k) (hk : 0 < k) : Builtin.Int.intBits i ≤ k := by
  unfold Builtin.Int.intBits
  split
  · omega
  · exact log2_lt_of (abs_lt_of h1 h2) hk
theorem cDiv_of {i j : Int} (h1 : 0 < j) (h2 : j < 2 ^ 1000) : cDiv i j = true := by
  unfold cDiv
  have b := log2_lt_of (abs_lt_of (i := j) (k := 1000) (by omega) h2) (by decide)
  rw [decide_eq_true h1, decide_eq_true (by omega)]
  rfl
theorem cMod_of {i j : Int} (h1 : 0 < j) : cMod i j = true := decide_eq_true h1
/-! ### one step at a time -/
def Nxx (r : R Fl) (I : En → Prop) : Prop := ∃ ρ, r = .ok .nx ρ ∧ I ρ
theorem Nxx.mk {ρ : En} {I : En → Prop} (h : I ρ) : Nxx (.ok .nx ρ) I := ⟨ρ, rfl, h⟩
theorem Ret_seq {p q : FY} {ρ : En} {own : List Bool} {Q : Sl → En → Prop} {I : En → Prop} (h1 : Nxx (p ρ) I) (h2 : ∀ ρ', I ρ' → Ret (kFin own (q ρ')) Q) : Ret (kFin own (kSeq q (p ρ))) Q := by
  obtain ⟨ρ', e, h⟩ := h1
  rw [e, kSeq_nx]
  exact h2 ρ' h
theorem Ret_seq' {p q : FY} {ρ : En} {own : List Bool} {Q : Sl → En → Prop} {I : En → Prop} (h1 : Nxx (p ρ) I) (h2 : ∀ ρ', I ρ' → Ret (kFin own (q ρ')) Q) : Ret (kFin own (ySeq p q ρ)) Q := by
  rw [ev_seq]
  exact Ret_seq h1 h2
theorem Nx_seq {p q : FY} {ρ : En} {Q : En → Prop} {I : En → Prop} (h1 : Nxx (p ρ) I) (h2 : ∀ ρ', I ρ' → Nx (q ρ') Q) : Nx (ySeq p q ρ) Q := by
  obtain ⟨ρ', e, h⟩ := h1
  rw [ev_seq, e, kSeq_nx]
  exact h2 ρ' h
theorem Nxx_seq {p q : FY} {ρ : En} {Q : En → Prop} {I : En → Prop} (h1 : Nxx (p ρ) I) (h2 : ∀ ρ', I ρ' → Nxx (q ρ') Q) : Nxx (ySeq p q ρ) Q := by
  obtain ⟨ρ', e, h⟩ := h1
  rw [ev_seq, e, kSeq_nx]
  exact h2 ρ' h
theorem kSeq_assoc {p q : FY} {r : R Fl} : kSeq q (kSeq p r) = kSeq (ySeq p q) r := by
  cases r with
  | ok fl ρ => cases fl <;> first | rfl | (simp only [kSeq]; rw [ev_seq]; rfl)
  | _ => rfl
theorem Nx_seq' {q : FY} {r : R Fl} {Q : En → Prop} {I : En → Prop} (h1 : Nxx r I) (h2 : ∀ ρ', I ρ' → Nx (q ρ') Q) : Nx (kSeq q r) Q := by
  obtain ⟨ρ', e, h⟩ := h1
  rw [e, kSeq_nx]
  exact h2 ρ' h
theorem Ret_seq2 {q : FY} {r : R Fl} {own : List Bool} {Q : Sl → En → Prop} {I : En → Prop} (h1 : Nxx r I) (h2 : ∀ ρ', I ρ' → Ret (kFin own (q ρ')) Q) : Ret (kFin own (kSeq q r)) Q := by
  obtain ⟨ρ', e, h⟩ := h1
  rw [e, kSeq_nx]
  exact h2 ρ' h
theorem ret_eq {r : R Fl} {s : Sl} {ρ : En} (h : Ret r fun s' ρ' => s' = s ∧ ρ' = ρ) : r = .ok (.rt s) ρ := by
  obtain ⟨s', ρ', e, rfl, rfl⟩ := h.ex
  exact e
/-- a loop whose body only falls through -/
theorem Nxx_for {fg : List Nat} {gg : GG} {y : FY} {xs : List D} {ρ : En} {Q : En → Prop} (I : Nat → En → Prop) (h0 : I 0 ρ)
    (hs : ∀ (n : Nat) (d : D) (ρ : En), xs[n]? = some d → I n ρ → ∃ ρ1, gg d (forget fg ρ) = some ρ1 ∧ Nx (y ρ1) (I (n + 1))) (hq : ∀ ρ', I xs.length ρ' → Q (forget fg ρ')) : Nxx (forL fg gg y xs ρ) Q := by
  obtain ⟨ρ', e, h⟩ := forL_inv (fg := fg) (gg := gg) (y := y) I xs 0 ρ h0 fun n d ρ hn hi => by
    rw [Nat.zero_add] at hi
    obtain ⟨ρ1, e1, h1⟩ := hs n d ρ hn hi
    obtain ⟨ρ2, e2, h2⟩ := h1.ex
    exact ⟨ρ1, ρ2, e1, e2, by rw [Nat.zero_add]; exact h2⟩
  rw [Nat.zero_add] at h
  exact ⟨_, e, hq ρ' h⟩
theorem yWh_f {fg : List Nat} {c : FX} {f : FY} {ρ ρ1 : En} (h : c (forget fg ρ) = .ok (.fz (.bl false)) ρ1) : yWh fg c f ρ = .ok .nx (forget fg ρ1) :=
  yWh_of (n := 1) (by rw [whF, h]) (by intro e; cases e)
theorem yWh_t {fg : List Nat} {c : FX} {f : FY} {ρ ρ1 ρ2 : En} {r : R Fl} (h : c (forget fg ρ) = .ok (.fz (.bl true)) ρ1) (h2 : f ρ1 = .ok .nx ρ2 ∨ f ρ1 = .ok .ct ρ2) (e : yWh fg c f ρ2 = r) (hb : r ≠ .bad) : yWh fg c f ρ = r := by
  have hex : ∃ n, whF fg c f n ρ2 = r := by
    unfold yWh at e
    split at e
    · exact ⟨_, e⟩
    · exact (hb e.symm).elim
  obtain ⟨n, hn⟩ := hex
  refine yWh_of (n := n + 1) ?_ hb
  rw [whF, h]
  rcases h2 with h2 | h2 <;> simp only [h2, hn]
/-- a while loop by a falling count -/
theorem Nxx_while {fg : List Nat} {c : FX} {f : FY} {Q : En → Prop} (I : Nat → En → Prop)
    (hs : ∀ k ρ, I k ρ → (∃ ρ1, c (forget fg ρ) = .ok (.fz (.bl false)) ρ1 ∧ Q (forget fg ρ1)) ∨ ∃ ρ1, c (forget fg ρ) = .ok (.fz (.bl true)) ρ1 ∧ Nx (f ρ1) fun ρ2 => ∃ j, j < k ∧ I j ρ2) :
    ∀ (k : Nat) (ρ : En), I k ρ → Nxx (yWh fg c f ρ) Q := by
  intro k
  induction k using Nat.strongRecOn with
  | _ k ih =>
    intro ρ hi
    rcases hs k ρ hi with ⟨ρ1, e, q⟩ | ⟨ρ1, e, q⟩
    · exact ⟨_, yWh_f e, q⟩
    · obtain ⟨ρ2, e2, j, hj, hi2⟩ := q.ex
      obtain ⟨ρ3, e3, q3⟩ := ih j hj ρ2 hi2
      exact ⟨ρ3, yWh_t e e2 e3 (by intro z; cases z), q3⟩
theorem lcL_of {α : Type} {ow : List Nat} {gg : GG} {t f : FX} (inj : α → D) (keep : α → Bool) (mk : α → D) (ρ0 : En) : ∀ (xs : List α) (acc : List D), acc.length + xs.length ≤ 1000000 →
    (∀ a ∈ xs, ∃ ρ1 ρ2, gg (inj a) ρ0 = some ρ1 ∧ t ρ1 = .ok (.fz (.bl (keep a))) ρ2 ∧ (keep a = false → forget ow ρ2 = ρ0) ∧ (keep a = true → ∃ ρ3, kF (f ρ2) = .ok (.fz (mk a)) ρ3 ∧ forget ow ρ3 = ρ0)) →
    lcL ow gg t f (xs.map inj) acc ρ0 = .ok (acc ++ (xs.filter keep).map mk) ρ0
  | [], acc, _, _ => by simp [lcL]
  | d :: ds, acc, hl, h => by
    obtain ⟨ρ1, ρ2, e1, e2, e3, e4⟩ := h d List.mem_cons_self
    rw [List.length_cons] at hl
    rw [List.map_cons, lcL, e1]
    simp only [e2]
    cases hk : keep d with
    | false =>
      simp only
      rw [e3 hk, lcL_of inj keep mk ρ0 ds acc (by omega) fun d' hd => h d' (List.mem_cons_of_mem _ hd), List.filter_cons_of_neg (by simp [hk])]
    | true =>
      obtain ⟨ρ3, e5, e6⟩ := e4 hk
      rw [← ev_f] at e5
      simp only [e5]
      rw [if_pos (by omega), e6, lcL_of inj keep mk ρ0 ds (acc ++ [mk d]) (by rw [List.length_append, List.length_singleton]; omega) fun d' hd => h d' (List.mem_cons_of_mem _ hd), List.filter_cons_of_pos hk, List.map_cons, List.append_assoc, List.singleton_append]
theorem lcL_yes {α : Type} {ow : List Nat} {gg : GG} {f : FX} (inj : α → D) (mk : α → D) (ρ0 : En) (xs : List α) (hl : xs.length ≤ 1000000)
    (h : ∀ a ∈ xs, ∃ ρ1 ρ3, gg (inj a) ρ0 = some ρ1 ∧ kF (f ρ1) = .ok (.fz (mk a)) ρ3 ∧ forget ow ρ3 = ρ0) :
    lcL ow gg xYes f (xs.map inj) [] ρ0 = .ok (xs.map mk) ρ0 := by
  rw [lcL_of inj (fun _ => true) mk ρ0 xs [] (by simpa using hl) fun a ha => ?_]
  · rw [List.nil_append, List.filter_eq_self.2 (fun _ _ => rfl)]
  · obtain ⟨ρ1, ρ3, e1, e2, e3⟩ := h a ha
    exact ⟨ρ1, ρ1, e1, rfl, (fun z => by cases z), fun _ => ⟨ρ3, e2, e3⟩⟩
theorem filter_yes {α : Type} {l : List α} : l.filter (fun _ => true) = l := List.filter_eq_self.2 fun _ _ => rfl
theorem cut63 {α : Type} (xs : List α) : (FV.cutD xs none (some 63)).length ≤ 63 := by
  unfold FV.cutD
  rw [List.length_take]
  have : HT.sIx xs.length xs.length (some 63) ≤ 63 := by
    show (if (63 : Int) < 0 then ((63 : Int) + (xs.length : Int)).toNat else min (63 : Int).toNat xs.length) ≤ 63
    rw [if_neg (by decide)]
    exact Nat.min_le_left _ _
  omega
/-! ### a law's hand -/
/-- the hand with room for m more draws -/
structure Hd (m : Nat) (h : D) : Prop where
  ex : ∃ (cells : List Int) (a b s c : Int), h = .lst [.lst (cells.map .int), .int a, .int b, .int s, .int c] ∧ (∀ x ∈ cells, 0 ≤ x) ∧ 0 ≤ a ∧ 0 ≤ b ∧ 0 ≤ s ∧ s < 2147483629 ∧ 0 ≤ c ∧ c + m ≤ 2 ^ 60
theorem Hd.mono {m n : Nat} {h : D} (H : Hd n h) (l : m ≤ n) : Hd m h := by
  obtain ⟨cells, a, b, s, c, e, h1, h2, h3, h4, h5, h6, h7⟩ := H.ex
  exact ⟨cells, a, b, s, c, e, h1, h2, h3, h4, h5, h6, by omega⟩
end FV

namespace FV
open PySem PySem.Spec PyProof.Rows L2
/-! ### the end: facts of the written part, read at once -/
inductive Fi where
  | he (f : He.Fa)
  | isc (x : Str)
  | kit (x y : Str) (b : Bool)
def Fi.ok (K : PySem.W.Frag) : Fi → Bool
  | .he f => f.ok K
  | .isc x => He.eqO (PySem.W.findIn K (.ref (He.ga K x)) "__getattribute__") (some (some (.builtin "BaseException.__getattribute__"))) &&
      (He.eqO (PySem.W.findIn K (.ref (He.ga K x)) "__getattr__") (some none) && (decide (PySem.W.subIn K (.ref (He.ga K x)) (.type "BaseException") = some true) && (PySem.W.hasDictIn K (He.ga K x) &&
      (He.eqO (PySem.W.findIn K (.ref (He.ga K x)) "__class__") (some (some (.builtin "object.__class__"))) && (He.eqO (PySem.W.specialIn K (.builtin "object.__class__") "__get__") (some (some (.builtin "getset_descriptor.__get__"))) &&
      (decide (PySem.W.takesIn K (.builtin "object.__class__") = some true) && decide (PySem.W.mroIn K (He.ga K x) (.type "object") = some true)))))))
  | .kit x y b => decide (PySem.W.kitOne K (.ref (He.ga K x)) (.ref (He.ga K y)) = some b)
def fisOk (K : PySem.W.Frag) (l : List Fi) : Bool := l.all fun f => f.ok K
section
variable {K : PySem.W.Frag} {h : Heap} {mg : Str → Option Value} {x y : Str} {b : Bool} {l : List Fi}
theorem fi_at (c : fisOk K l = true) (i : Nat) {f : Fi} (e : l[i]? = some f := by rfl) : f.ok K = true := List.all_eq_true.mp c f (List.mem_of_getElem? e)
theorem fh_at (c : fisOk K l = true) (i : Nat) {f : He.Fa} (e : l[i]? = some (.he f) := by rfl) : f.ok K = true := fi_at c i e
theorem isc_ok (c : (Fi.isc x).ok K = true) : ExcC K (He.ga K x) := by
  obtain ⟨c1, c⟩ := He.ba c
  obtain ⟨c2, c⟩ := He.ba c
  obtain ⟨c3, c⟩ := He.ba c
  obtain ⟨c4, c⟩ := He.ba c
  obtain ⟨c5, c⟩ := He.ba c
  obtain ⟨c6, c⟩ := He.ba c
  obtain ⟨c7, c8⟩ := He.ba c
  exact ⟨He.eqO_ok c1, He.eqO_ok c2, of_decide_eq_true c3, c4, He.eqO_ok c5, He.eqO_ok c6, of_decide_eq_true c7, of_decide_eq_true c8⟩
theorem kit_ok (c : (Fi.kit x y b).ok K = true) : PySem.W.kitOne K (.ref (He.ga K x)) (.ref (He.ga K y)) = some b := of_decide_eq_true c
theorem excAtK_of (X : K.In h) (G : h.Ns mainGlobals mg) (c1 : (He.Fa.glo x).ok K = true) (c2 : (He.Fa.exc x).ok K = true) : ExcAtK K mg x := by
  obtain ⟨q1, q2, q3, q4⟩ := He.exc_ok c2
  exact ⟨_, He.glo_ok X G c1, q1, q2, q3, q4⟩
theorem mtK_of (X : K.In h) (G : h.Ns mainGlobals mg) {tab : List (Str × Bool)} (c1 : (He.Fa.glo y).ok K = true)
    (ht : ∀ p ∈ tab, (He.Fa.glo p.1).ok K = true ∧ (He.Fa.exm p.1 y p.2).ok K = true) : MtK K mg y tab := by
  intro Ch hg c b C e hc
  have hm : (c, b) ∈ tab := by
    clear ht
    induction tab with
    | nil => cases e
    | cons q tab ih =>
      rw [List.lookup_cons] at e
      by_cases hq : c = q.1
      · subst hq
        rw [show (q.1 == q.1) = true by simp] at e
        cases e
        exact List.mem_cons_self
      · rw [show (c == q.1) = false by simpa using hq] at e
        exact List.mem_cons_of_mem _ (ih e)
  obtain ⟨t1, t2⟩ := ht _ hm
  have e1 := hg.symm.trans (He.glo_ok X G c1)
  have e2 := hc.symm.trans (He.glo_ok X G t1)
  cases e1
  cases e2
  exact He.exm_ok t2
theorem isK_of (X : K.In h) (G : h.Ns mainGlobals mg) {tab : List (Str × Bool)} (c1 : (He.Fa.glo y).ok K = true)
    (ht : ∀ p ∈ tab, (He.Fa.glo p.1).ok K = true ∧ (Fi.isc p.1).ok K = true ∧ (Fi.kit p.1 y p.2).ok K = true) : IsK K mg y tab := by
  refine ⟨_, He.glo_ok X G c1, fun c b C e hc => ?_⟩
  have hm : (c, b) ∈ tab := by
    clear ht
    induction tab with
    | nil => cases e
    | cons q tab ih =>
      rw [List.lookup_cons] at e
      by_cases hq : c = q.1
      · subst hq
        rw [show (q.1 == q.1) = true by simp] at e
        cases e
        exact List.mem_cons_self
      · rw [show (c == q.1) = false by simpa using hq] at e
        exact List.mem_cons_of_mem _ (ih e)
  obtain ⟨t1, t2, t3⟩ := ht _ hm
  have e2 := hc.symm.trans (He.glo_ok X G t1)
  cases e2
  exact ⟨isc_ok t2, kit_ok t3⟩
theorem loose_int {lv : List (Str × PySem.W.WData)} {i : Int} (V : PySem.W.LooseAre lv mg h) (e : (x, PySem.PyData.int i) ∈ PySem.W.scalarsOf lv) : ∃ t, mg x = some (.int i t) := by
  obtain ⟨v, h1, h2⟩ := PySem.W.scalars_bound V.val _ e
  cases h2 h
  exact ⟨_, h1⟩
theorem funAt_mk (X : K.In h) (G : h.Ns mainGlobals mg) {st : Stmt} {ps : List Str} {f : Addr} {oc : Value} {od an : Option Addr} {osl : Array (Option Value)} {kV doc pm cdv ct : Value}
    (a : PySem.W.nsIn K mainGlobals x = some (some (.ref f)))
    (l : K.lookup f = some ⟨oc, od, .func (PySem.W.fnOf x x (defArgs st) (defBody st) (defScope st) .none kV doc pm an cdv ct), osl⟩)
    (c : PySem.W.codeIn K cdv x = true) (k : PySem.W.keepIn K (.ref f) = true)
    (hb : ∀ (kV doc pm : Value) (an : Option Addr) (cdv ct : Value) (us : List Value), us.length = ps.length → bindArgs (PySem.W.fnOf x x (defArgs st) (defBody st) (defScope st) .none kV doc pm an cdv ct) ⟨us, []⟩ = pure (ps.zip us)) : FunAt K mg x st ps :=
  ⟨_, _, fun_mk l c k, PySem.W.mg_of X G a, (fun_mk l c k).binds hb⟩
end
theorem dF_mk {P : Program} {w : World} {K : PySem.W.Frag} {mg : Str → Option Value} {base : Heap} {k : Nat} {x : Str} {st : Stmt} {ps : List Str} {own : List Bool} {G : GF} (FN : FunAt K mg x st ps)
    (h : ∀ {f : Addr} {fd : FuncData}, Fun K x x st f fd → FnOk P w K mg base (L2.CX P w) k f fd ps (spF K mg own G)) : DF P w K mg base k x ps own G := by
  obtain ⟨f, fd, Fn, gm, bd⟩ := FN.ex
  exact ⟨f, fd, h Fn, gm, Fn.kp, bd⟩
theorem walk_law {l : PySem.W.OpenLaw} {n k : Nat} {p q : Program} {loose : List Str} {lv : List (Str × PySem.W.WData)} {YP : World → Heap → Prop} {d : DefRec} {K : Params → PySem.W.Frag} {x : Str} {G : GF}
    (hn : l.most = some n) (hn2 : n ≤ 63) (hdf : d.params.defaults = []) (hr : Room k callerA)
    (hY : ∀ (w : World) (h : Heap), YP w h → (K w.params).In h)
    (F : ∀ (w : World) (mg : Str → Option Value) (h : Heap), (K w.params).In h → h.Ns mainGlobals mg → PySem.W.LooseAre lv mg h →
      ∃ (f : Addr) (fd : FuncData), mg d.name = some (.ref f) ∧ (∀ (s : Shared) (u : Value), BindsTo s fd ⟨[u], []⟩ [(x, u)]) ∧
        ∀ base : Heap, (K w.params).In base → base.Ns mainGlobals mg → FnOk l.prog w (K w.params) mg base (L2.CX l.prog w) k f fd [x] (spF (K w.params) mg [false] G))
    (hG : ∀ ns : List Int, ns.length ≤ 63 → ∃ ρ', G [.fz (.scr ns)] = .ok (.rt (.fz (.bl true))) ρ') :
    PySem.W.WalkO q loose (PySem.W.XL p lv) YP l.row.toRowW d [] (fun f vs => PySem.call f vs) := by
  refine Att.attach_call hn hdf fun w s₀ s₁ mg mb fa o pm cd doc a vs ns Gr Y ho hd hcd hmg hobj hints hlen hg => ?_
  have KX := hY w _ Y
  obtain ⟨f, fd, gm, hb, hF⟩ := F w mg _ KX Gr.T.g Gr.X.2
  have e := hmg.symm.trans gm
  cases e
  refine law_call KX Gr.T.g Gr.T.b Gr.T.builtins Gr.T.nolimit hg hobj hints (Nat.le_trans hlen (Nat.le_trans hn2 (by decide))) hr (fun base h1 h2 => law_imp (hF base h1 h2) hG) hb (fun H hO hS => ⟨a, ns, rfl, hS, Nat.le_trans hlen hn2, fun H' => rfl⟩) fun H e s' h => ?_
  obtain ⟨_, _, _, _, _, _, _, _, _, _, _, _, h⟩ := h
  exact h
end FV

namespace LW
open PySem PySem.Spec PyProof.Rows L2 FV
def topS (i : Nat) : Stmt := PySem.Challenge.pw_nearwish_k52_halvings.main.body.getD i (.Pass ⟨0, 0, 0, 0⟩)
abbrev s_is_integer : Stmt := topS 4
abbrev N_is_integer : List Str := ["thing"]
abbrev P_is_integer : List Str := ["thing"]
noncomputable def F_is_integer : GF := fnF [false] 0 (yRet (xAnd (xL gIsi (lCons (aX (xV 0)) (lCons (aX (xC (.ty "int"))) lNil))) (xNot (xL gIsi (lCons (aX (xV 0)) (lCons (aX (xC (.ty "bool"))) lNil))))))
theorem sc_is_integer : FnScope N_is_integer P_is_integer (defScope s_is_integer) := ⟨rfl, rfl, rfl, by decide +kernel, rfl, by decide +kernel, by decide +kernel⟩
theorem nm_is_integer : nmB (defScope s_is_integer) (fun _ => true) N_is_integer [true] [true] = true := by decide +kernel
theorem ok_is_integer {P : Program} {w : World} {K : PySem.W.Frag} {mg : Str → Option Value} {base : Heap} (z_bool : mg "bool" = none) (z_int : mg "int" = none) (z_isinstance : mg "isinstance" = none) : ∀ {f : Addr} {fd : FuncData}, Fun K "is_integer" "is_integer" s_is_integer f fd → FnOk P w K mg base (L2.CX P w) 1 f fd P_is_integer (spF K mg [false] F_is_integer) := by
  intro f fd Fn
  refine ok_def Fn sc_is_integer rfl rfl (fun cdv A outer s H vs E hr => ?_)
  have C : Cok (cxOf (L2.CX P w) P w K mg base N_is_integer "is_integer" (defScope s_is_integer) f cdv A outer s H E) (fun cls od _ H' => E cls od H') 0 := ⟨rfl, takes_of rfl rfl rfl rfl, passes_of rfl, hr⟩
  have N : NamesOk (cxOf (L2.CX P w) P w K mg base N_is_integer "is_integer" (defScope s_is_integer) f cdv A outer s H E) [true] [true] := namesOk_of rfl rfl (fun _ => rfl) sc_is_integer.nd nm_is_integer
  exact (fb_one (fs_ret (fe_and (fe_cb cb_isi ⟨by rfl, z_isinstance⟩ (by decide +kernel) (fl_cons (fa_x (fe_v N 0)) (fl_cons (fa_x (fe_ty ⟨by rfl, z_int⟩ (by decide +kernel))) fl_nil))) (fe_one (fe_not (fe_cb cb_isi ⟨by rfl, z_isinstance⟩ (by decide +kernel) (fl_cons (fa_x (fe_v N 0)) (fl_cons (fa_x (fe_ty ⟨by rfl, z_bool⟩ (by decide +kernel))) fl_nil))))))))
abbrev s_check_number : Stmt := topS 5
abbrev N_check_number : List Str := ["thing", "least", "most"]
abbrev P_check_number : List Str := ["thing", "least", "most"]
noncomputable def F_check_number : GF := fnF [false, false, false] 0 (yIf (xOr (xNot (xCall [false] F_is_integer (cX (xV 0) cNil))) (xOr (xB gLt (aX (xV 0)) (aX (xV 1))) (xB gGt (aX (xV 0)) (aX (xV 2))))) (yRaise "NoNumber") yNil)
theorem sc_check_number : FnScope N_check_number P_check_number (defScope s_check_number) := ⟨rfl, rfl, rfl, by decide +kernel, rfl, by decide +kernel, by decide +kernel⟩
theorem nm_check_number : nmB (defScope s_check_number) (fun _ => true) N_check_number [true, true, true] [true, true, true] = true := by decide +kernel
theorem ok_check_number {P : Program} {w : World} {K : PySem.W.Frag} {mg : Str → Option Value} {base : Heap} (x_NoNumber : ExcAtK K mg "NoNumber") (d_is_integer : DF P w K mg base 1 "is_integer" P_is_integer [false] F_is_integer) : ∀ {f : Addr} {fd : FuncData}, Fun K "check_number" "check_number" s_check_number f fd → FnOk P w K mg base (L2.CX P w) 2 f fd P_check_number (spF K mg [false, false, false] F_check_number) := by
  intro f fd Fn
  refine ok_def Fn sc_check_number rfl rfl (fun cdv A outer s H vs E hr => ?_)
  have C : Cok (cxOf (L2.CX P w) P w K mg base N_check_number "check_number" (defScope s_check_number) f cdv A outer s H E) (fun cls od _ H' => E cls od H') 1 := ⟨rfl, takes_of rfl rfl rfl rfl, passes_of rfl, hr⟩
  have N : NamesOk (cxOf (L2.CX P w) P w K mg base N_check_number "check_number" (defScope s_check_number) f cdv A outer s H E) [true, true, true] [true, true, true] := namesOk_of rfl rfl (fun _ => rfl) sc_check_number.nd nm_check_number
  have e_NoNumber : ExcAt (cxOf (L2.CX P w) P w K mg base N_check_number "check_number" (defScope s_check_number) f cdv A outer s H E) "NoNumber" := ⟨x_NoNumber.ex⟩
  exact (fb_one (fs_if (ft_w (fw_or (ft_not (ft_e (fe_call ⟨d_is_integer⟩ (C.hr.mono (by decide)) C.tk (by rfl) (fc_x (fe_v N 0) fc_nil)))) (fw_or (ft_co co_lt (fa_x (fe_v N 0)) (fa_x (fe_v N 1))) (fw_or1 (ft_co co_gt (fa_x (fe_v N 0)) (fa_x (fe_v N 2))))))) (fb_one (fs_raise C e_NoNumber (by rfl))) fb_nil))
abbrev s_halved : Stmt := topS 8
abbrev N_halved : List Str := ["number", "many"]
abbrev P_halved : List Str := ["number"]
noncomputable def F_halved : GF := fnF [false] 1 (ySeq (ySet 1 (xC (.int 0)))
    (ySeq (yWh [] (xB gGt (aX (xV 0)) (aX (xC (.int 6)))) (ySeq (ySet 0 (xB gMul (aX (xC (.int 2))) (aX (xU gBits (aX (xB gSub (aX (xV 0)) (aX (xC (.int 1)))))))))
    (yAug 1 gAddI (xC (.int 1)))))
    (yRet (xV 1))))
theorem sc_halved : FnScope N_halved P_halved (defScope s_halved) := ⟨rfl, rfl, rfl, by decide +kernel, rfl, by decide +kernel, by decide +kernel⟩
theorem nm_halved : nmB (defScope s_halved) (fun _ => true) N_halved [true, true] [true, true] = true := by decide +kernel
theorem ok_halved {P : Program} {w : World} {K : PySem.W.Frag} {mg : Str → Option Value} {base : Heap} (k_SORTS : ∃ t, mg "SORTS" = some (.int 6 t)) : ∀ {f : Addr} {fd : FuncData}, Fun K "halved" "halved" s_halved f fd → FnOk P w K mg base (L2.CX P w) 1 f fd P_halved (spF K mg [false] F_halved) := by
  intro f fd Fn
  refine ok_def Fn sc_halved rfl rfl (fun cdv A outer s H vs E hr => ?_)
  have C : Cok (cxOf (L2.CX P w) P w K mg base N_halved "halved" (defScope s_halved) f cdv A outer s H E) (fun cls od _ H' => E cls od H') 0 := ⟨rfl, takes_of rfl rfl rfl rfl, passes_of rfl, hr⟩
  have N : NamesOk (cxOf (L2.CX P w) P w K mg base N_halved "halved" (defScope s_halved) f cdv A outer s H E) [true, true] [true, true] := namesOk_of rfl rfl (fun _ => rfl) sc_halved.nd nm_halved
  exact (fb_cons (fs_set N 1 fe_int)
    (fb_cons (fs_while [] C (ft_co co_gt (fa_x (fe_v N 0)) (fa_x (fe_gi (by rfl) k_SORTS))) (fb_cons (fs_set N 0 (fe_bo bo_mul (fa_x fe_int) (fa_x (fe_bits (fa_x (fe_bo bo_sub (fa_x (fe_v N 0)) (fa_x fe_int)))))))
    (fb_one (fs_au N 1 ip_add' fe_int))))
    (fb_one (fs_ret (fe_v N 1)))))
abbrev s_halvings : Stmt := topS 11
abbrev N_halvings : List Str := ["number"]
abbrev P_halvings : List Str := ["number"]
noncomputable def F_halvings : GF := fnF [false] 0 (ySeq (yX (xCall [false, false, false] F_check_number (cX (xV 0) (cX (xC (.int 1)) (cX (xC (.int 1000000000000000000000000000000000000000000000000000000000000)) cNil)))))
    (yRet (xCall [false] F_halved (cX (xV 0) cNil))))
theorem sc_halvings : FnScope N_halvings P_halvings (defScope s_halvings) := ⟨rfl, rfl, rfl, by decide +kernel, rfl, by decide +kernel, by decide +kernel⟩
theorem nm_halvings : nmB (defScope s_halvings) (fun _ => true) N_halvings [true] [true] = true := by decide +kernel
theorem ok_halvings {P : Program} {w : World} {K : PySem.W.Frag} {mg : Str → Option Value} {base : Heap} (k_MOST_BOUND : ∃ t, mg "MOST_BOUND" = some (.int 1000000000000000000000000000000000000000000000000000000000000 t)) (d_check_number : DF P w K mg base 2 "check_number" P_check_number [false, false, false] F_check_number) (d_halved : DF P w K mg base 1 "halved" P_halved [false] F_halved) : ∀ {f : Addr} {fd : FuncData}, Fun K "halvings" "halvings" s_halvings f fd → FnOk P w K mg base (L2.CX P w) 3 f fd P_halvings (spF K mg [false] F_halvings) := by
  intro f fd Fn
  refine ok_def Fn sc_halvings rfl rfl (fun cdv A outer s H vs E hr => ?_)
  have C : Cok (cxOf (L2.CX P w) P w K mg base N_halvings "halvings" (defScope s_halvings) f cdv A outer s H E) (fun cls od _ H' => E cls od H') 2 := ⟨rfl, takes_of rfl rfl rfl rfl, passes_of rfl, hr⟩
  have N : NamesOk (cxOf (L2.CX P w) P w K mg base N_halvings "halvings" (defScope s_halvings) f cdv A outer s H E) [true] [true] := namesOk_of rfl rfl (fun _ => rfl) sc_halvings.nd nm_halvings
  exact (fb_cons (fs_expr (fe_call ⟨d_check_number⟩ (C.hr.mono (by decide)) C.tk (by rfl) (fc_x (fe_v N 0) (fc_x fe_int (fc_x (fe_gi (by rfl) k_MOST_BOUND) fc_nil)))))
    (fb_one (fs_ret (fe_call ⟨d_halved⟩ (C.hr.mono (by decide)) C.tk (by rfl) (fc_x (fe_v N 0) fc_nil)))))
abbrev s__law_hand : Stmt := topS 13
abbrev N__law_hand : List Str := ["_law_script", "_law_cells", "_law_cell"]
abbrev P__law_hand : List Str := ["_law_script"]
noncomputable def F__law_hand : GF := fnF [false] 2 (ySeq (ySet 1 (xLc [2] (wIt (xSl (aX (xV 0)) pN (pS (xC (.int 63))))) (tgN 2) xYes (xL gAbs (lCons (aX (xL gInt (lCons (aX (xV 2)) lNil))) lNil))))
    (yRet (xLst (cX (xV 1) (cX (xC (.int 0)) (cX (xC (.int 0)) (cX (xB gAdd (aX (xC (.int 1))) (aX (xL gLen (lCons (aX (xV 1)) lNil)))) (cX (xC (.int 0)) cNil))))))))
theorem sc__law_hand : FnScope N__law_hand P__law_hand (defScope s__law_hand) := ⟨rfl, rfl, rfl, by decide +kernel, rfl, by decide +kernel, by decide +kernel⟩
theorem nm__law_hand : nmB (defScope s__law_hand) (fun _ => true) N__law_hand [true, true, false] [true, true, false] = true := by decide +kernel
theorem ok__law_hand {P : Program} {w : World} {K : PySem.W.Frag} {mg : Str → Option Value} {base : Heap} (z_abs : mg "abs" = none) (z_int : mg "int" = none) (z_len : mg "len" = none) : ∀ {f : Addr} {fd : FuncData}, Fun K "_law_hand" "_law_hand" s__law_hand f fd → FnOk P w K mg base (L2.CX P w) 1 f fd P__law_hand (spF K mg [false] F__law_hand) := by
  intro f fd Fn
  refine ok_def Fn sc__law_hand rfl rfl (fun cdv A outer s H vs E hr => ?_)
  have C : Cok (cxOf (L2.CX P w) P w K mg base N__law_hand "_law_hand" (defScope s__law_hand) f cdv A outer s H E) (fun cls od _ H' => E cls od H') 0 := ⟨rfl, takes_of rfl rfl rfl rfl, passes_of rfl, hr⟩
  have N : NamesOk (cxOf (L2.CX P w) P w K mg base N__law_hand "_law_hand" (defScope s__law_hand) f cdv A outer s H E) [true, true, false] [true, true, false] := namesOk_of rfl rfl (fun _ => rfl) sc__law_hand.nd nm__law_hand
  exact (fb_cons (fs_setLc N 1 C (fi_it (fe_sl (fa_x (fe_v N 0)) fp_n (fp_s fe_int))) (blkOk_of (N := N__law_hand) (sc := defScope s__law_hand) (own := [("_law_cell", 2)]) rfl rfl (by decide +kernel)) (fun s0 H0 C0 cl0 fp0 => (namesOk_blk (N := N__law_hand) (sc := defScope s__law_hand) rfl rfl (M := [false, false, true]) (L := [false, false, true]) sc__law_hand.nd (by decide +kernel))) (fun s0 H0 C0 cl0 fp0 NB => (fg_n NB 2)) (fun s0 H0 C0 cl0 fp0 NB => fts_nil) (fun s0 H0 C0 cl0 fp0 NB => (fe_cb cb_abs ⟨by rfl, z_abs⟩ (by decide +kernel) (fl_cons (fa_x (fe_ct cb_int ⟨by rfl, z_int⟩ (by decide +kernel) (fl_cons (fa_x (fe_v NB 2)) fl_nil))) fl_nil))) (loc_of (sc := defScope s__law_hand) rfl (by decide +kernel)) (sw_true rfl (loc_of (sc := defScope s__law_hand) rfl (by decide +kernel)) rfl (by decide +kernel)))
    (fb_one (fs_ret (fe_lst (fc_x (fe_v N 1) (fc_x fe_int (fc_x fe_int (fc_x (fe_bo bo_add (fa_x fe_int) (fa_x (fe_cb cb_len ⟨by rfl, z_len⟩ (by decide +kernel) (fl_cons (fa_x (fe_v N 1)) fl_nil)))) (fc_x fe_int fc_nil)))))))))
abbrev s__law_draw : Stmt := topS 14
abbrev N__law_draw : List Str := ["_law_hand_here", "_law_many", "_law_number_here", "_law_cell", "_law_digit"]
abbrev P__law_draw : List Str := ["_law_hand_here", "_law_many"]
noncomputable def F__law_draw : GF := fnF [true, false] 3 (ySeq (yIf (xAnd (xB gEq (aX (xB ixD (aR 0) (aX (xC (.int 2))))) (aX (xC (.int 0)))) (xB gLt (aX (xB ixD (aR 0) (aX (xC (.int 1))))) (aX (xL gLen (lCons (aX (xB ixD (aR 0) (aX (xC (.int 0))))) lNil))))) (ySeq (ySet 3 (xB ixD (aX (xB ixD (aR 0) (aX (xC (.int 0))))) (aX (xB ixD (aR 0) (aX (xC (.int 1)))))))
    (ySeq (ySetI 0 (xC (.int 1)) (xB gAdd (aX (xB ixD (aR 0) (aX (xC (.int 1))))) (aX (xC (.int 1)))))
    (ySeq (ySetI 0 (xC (.int 3)) (xB gMod (aX (xL gInt (lCons (aX (xB gAdd (aX (xB gAdd (aX (xB gMul (aX (xB ixD (aR 0) (aX (xC (.int 3))))) (aX (xC (.int 69621))))) (aX (xV 3)))) (aX (xC (.int 11))))) lNil))) (aX (xC (.int 2147483629)))))
    (yIf (xB gGe (aX (xV 3)) (aX (xB gPow (aX (xC (.int 10))) (aX (xC (.int 18)))))) (ySetI 0 (xC (.int 2)) (xV 3)) yNil)))) yNil)
    (ySeq (yIf (xB gGt (aX (xB ixD (aR 0) (aX (xC (.int 2))))) (aX (xC (.int 0)))) (ySeq (ySet 4 (xB gMod (aX (xL gInt (lCons (aX (xB ixD (aR 0) (aX (xC (.int 2))))) lNil))) (aX (xV 1))))
    (ySeq (ySetI 0 (xC (.int 2)) (xB gDiv (aX (xB ixD (aR 0) (aX (xC (.int 2))))) (aX (xV 1))))
    (yRet (xV 4)))) yNil)
    (ySeq (ySetI 0 (xC (.int 4)) (xB gAdd (aX (xB ixD (aR 0) (aX (xC (.int 4))))) (aX (xC (.int 1)))))
    (ySeq (ySet 2 (xB gMod (aX (xL gInt (lCons (aX (xB gMul (aX (xL gInt (lCons (aX (xB gAdd (aX (xB ixD (aR 0) (aX (xC (.int 3))))) (aX (xB gMul (aX (xC (.int 7919))) (aX (xB ixD (aR 0) (aX (xC (.int 4))))))))) lNil))) (aX (xC (.int 48271))))) lNil))) (aX (xC (.int 2147483647)))))
    (ySeq (ySet 2 (xB gMod (aX (xL gInt (lCons (aX (xB gMul (aX (xV 2)) (aX (xB gAdd (aX (xB gDiv (aX (xV 2)) (aX (xC (.int 1009))))) (aX (xC (.int 69621))))))) lNil))) (aX (xC (.int 2147483647)))))
    (ySeq (ySet 2 (xB gMod (aX (xL gInt (lCons (aX (xB gMul (aX (xV 2)) (aX (xB gAdd (aX (xB gDiv (aX (xV 2)) (aX (xC (.int 2003))))) (aX (xC (.int 40692))))))) lNil))) (aX (xC (.int 2147483399)))))
    (yRet (xB gMod (aX (xL gInt (lCons (aX (xB gDiv (aX (xV 2)) (aX (xC (.int 16))))) lNil))) (aX (xV 1))))))))))
theorem sc__law_draw : FnScope N__law_draw P__law_draw (defScope s__law_draw) := ⟨rfl, rfl, rfl, by decide +kernel, rfl, by decide +kernel, by decide +kernel⟩
theorem nm__law_draw : nmB (defScope s__law_draw) (fun _ => true) N__law_draw [true, true, true, true, true] [true, true, true, true, true] = true := by decide +kernel
theorem ok__law_draw {P : Program} {w : World} {K : PySem.W.Frag} {mg : Str → Option Value} {base : Heap} (z_int : mg "int" = none) (z_len : mg "len" = none) : ∀ {f : Addr} {fd : FuncData}, Fun K "_law_draw" "_law_draw" s__law_draw f fd → FnOk P w K mg base (L2.CX P w) 1 f fd P__law_draw (spF K mg [true, false] F__law_draw) := by
  intro f fd Fn
  refine ok_def Fn sc__law_draw rfl rfl (fun cdv A outer s H vs E hr => ?_)
  have C : Cok (cxOf (L2.CX P w) P w K mg base N__law_draw "_law_draw" (defScope s__law_draw) f cdv A outer s H E) (fun cls od _ H' => E cls od H') 0 := ⟨rfl, takes_of rfl rfl rfl rfl, passes_of rfl, hr⟩
  have N : NamesOk (cxOf (L2.CX P w) P w K mg base N__law_draw "_law_draw" (defScope s__law_draw) f cdv A outer s H E) [true, true, true, true, true] [true, true, true, true, true] := namesOk_of rfl rfl (fun _ => rfl) sc__law_draw.nd nm__law_draw
  exact (fb_cons (fs_if (ft_w (fw_and (ft_co (co_eq C.hu64) (fa_x (fe_ix C.hu (fa_r N 0) (fa_x fe_int))) (fa_x fe_int)) (fw_and1 (ft_co co_lt (fa_x (fe_ix C.hu (fa_r N 0) (fa_x fe_int))) (fa_x (fe_cb cb_len ⟨by rfl, z_len⟩ (by decide +kernel) (fl_cons (fa_x (fe_ix C.hu (fa_r N 0) (fa_x fe_int))) fl_nil))))))) (fb_cons (fs_set N 3 (fe_ix C.hu (fa_x (fe_ix C.hu (fa_r N 0) (fa_x fe_int))) (fa_x (fe_ix C.hu (fa_r N 0) (fa_x fe_int)))))
    (fb_cons (fs_setI N 0 C.hu (fe_bo bo_add (fa_x (fe_ix C.hu (fa_r N 0) (fa_x fe_int))) (fa_x fe_int)) fe_int)
    (fb_cons (fs_setI N 0 C.hu (fe_bo bo_mod (fa_x (fe_ct cb_int ⟨by rfl, z_int⟩ (by decide +kernel) (fl_cons (fa_x (fe_bo bo_add (fa_x (fe_bo bo_add (fa_x (fe_bo bo_mul (fa_x (fe_ix C.hu (fa_r N 0) (fa_x fe_int))) (fa_x fe_int))) (fa_x (fe_v N 3)))) (fa_x fe_int))) fl_nil))) (fa_x fe_int)) fe_int)
    (fb_one (fs_if (ft_co co_ge (fa_x (fe_v N 3)) (fa_x (fe_bo bo_pow (fa_x fe_int) (fa_x fe_int)))) (fb_one (fs_setI N 0 C.hu (fe_v N 3) fe_int)) fb_nil))))) fb_nil)
    (fb_cons (fs_if (ft_co co_gt (fa_x (fe_ix C.hu (fa_r N 0) (fa_x fe_int))) (fa_x fe_int)) (fb_cons (fs_set N 4 (fe_bo bo_mod (fa_x (fe_ct cb_int ⟨by rfl, z_int⟩ (by decide +kernel) (fl_cons (fa_x (fe_ix C.hu (fa_r N 0) (fa_x fe_int))) fl_nil))) (fa_x (fe_v N 1))))
    (fb_cons (fs_setI N 0 C.hu (fe_bo bo_div (fa_x (fe_ix C.hu (fa_r N 0) (fa_x fe_int))) (fa_x (fe_v N 1))) fe_int)
    (fb_one (fs_ret (fe_v N 4))))) fb_nil)
    (fb_cons (fs_setI N 0 C.hu (fe_bo bo_add (fa_x (fe_ix C.hu (fa_r N 0) (fa_x fe_int))) (fa_x fe_int)) fe_int)
    (fb_cons (fs_set N 2 (fe_bo bo_mod (fa_x (fe_ct cb_int ⟨by rfl, z_int⟩ (by decide +kernel) (fl_cons (fa_x (fe_bo bo_mul (fa_x (fe_ct cb_int ⟨by rfl, z_int⟩ (by decide +kernel) (fl_cons (fa_x (fe_bo bo_add (fa_x (fe_ix C.hu (fa_r N 0) (fa_x fe_int))) (fa_x (fe_bo bo_mul (fa_x fe_int) (fa_x (fe_ix C.hu (fa_r N 0) (fa_x fe_int))))))) fl_nil))) (fa_x fe_int))) fl_nil))) (fa_x fe_int)))
    (fb_cons (fs_set N 2 (fe_bo bo_mod (fa_x (fe_ct cb_int ⟨by rfl, z_int⟩ (by decide +kernel) (fl_cons (fa_x (fe_bo bo_mul (fa_x (fe_v N 2)) (fa_x (fe_bo bo_add (fa_x (fe_bo bo_div (fa_x (fe_v N 2)) (fa_x fe_int))) (fa_x fe_int))))) fl_nil))) (fa_x fe_int)))
    (fb_cons (fs_set N 2 (fe_bo bo_mod (fa_x (fe_ct cb_int ⟨by rfl, z_int⟩ (by decide +kernel) (fl_cons (fa_x (fe_bo bo_mul (fa_x (fe_v N 2)) (fa_x (fe_bo bo_add (fa_x (fe_bo bo_div (fa_x (fe_v N 2)) (fa_x fe_int))) (fa_x fe_int))))) fl_nil))) (fa_x fe_int)))
    (fb_one (fs_ret (fe_bo bo_mod (fa_x (fe_ct cb_int ⟨by rfl, z_int⟩ (by decide +kernel) (fl_cons (fa_x (fe_bo bo_div (fa_x (fe_v N 2)) (fa_x fe_int))) fl_nil))) (fa_x (fe_v N 1)))))))))))
abbrev s__law_halvings : Stmt := topS 15
abbrev N__law_halvings : List Str := ["_law_number_here", "_law_many", "_law_turn", "_law_digits", "_law_rest"]
abbrev P__law_halvings : List Str := ["_law_number_here"]
noncomputable def F__law_halvings : GF := fnF [false] 4 (ySeq (ySet 1 (xC (.int 0)))
    (ySeq (yFor [2, 3, 4] (wR rng1 (lCons (aX (xC (.int 300))) lNil)) (tgN 2) (yIf (xB gGt (aX (xV 0)) (aX (xC (.int 6)))) (ySeq (ySet 3 (xC (.int 0)))
    (ySeq (ySet 4 (xB gSub (aX (xV 0)) (aX (xC (.int 1)))))
    (ySeq (yWh [] (xB gGt (aX (xV 4)) (aX (xC (.int 0)))) (ySeq (ySet 4 (xB gDiv (aX (xV 4)) (aX (xC (.int 2)))))
    (ySet 3 (xB gAdd (aX (xV 3)) (aX (xC (.int 1)))))))
    (ySeq (ySet 0 (xB gMul (aX (xC (.int 2))) (aX (xV 3))))
    (ySet 1 (xB gAdd (aX (xV 1)) (aX (xC (.int 1))))))))) yNil))
    (yRet (xV 1))))
theorem sc__law_halvings : FnScope N__law_halvings P__law_halvings (defScope s__law_halvings) := ⟨rfl, rfl, rfl, by decide +kernel, rfl, by decide +kernel, by decide +kernel⟩
theorem nm__law_halvings : nmB (defScope s__law_halvings) (fun _ => true) N__law_halvings [true, true, true, true, true] [true, true, true, true, true] = true := by decide +kernel
theorem ok__law_halvings {P : Program} {w : World} {K : PySem.W.Frag} {mg : Str → Option Value} {base : Heap} (z_range : mg "range" = none) : ∀ {f : Addr} {fd : FuncData}, Fun K "_law_halvings" "_law_halvings" s__law_halvings f fd → FnOk P w K mg base (L2.CX P w) 1 f fd P__law_halvings (spF K mg [false] F__law_halvings) := by
  intro f fd Fn
  refine ok_def Fn sc__law_halvings rfl rfl (fun cdv A outer s H vs E hr => ?_)
  have C : Cok (cxOf (L2.CX P w) P w K mg base N__law_halvings "_law_halvings" (defScope s__law_halvings) f cdv A outer s H E) (fun cls od _ H' => E cls od H') 0 := ⟨rfl, takes_of rfl rfl rfl rfl, passes_of rfl, hr⟩
  have N : NamesOk (cxOf (L2.CX P w) P w K mg base N__law_halvings "_law_halvings" (defScope s__law_halvings) f cdv A outer s H E) [true, true, true, true, true] [true, true, true, true, true] := namesOk_of rfl rfl (fun _ => rfl) sc__law_halvings.nd nm__law_halvings
  exact (fb_cons (fs_set N 1 fe_int)
    (fb_cons (fs_for [2, 3, 4] C (fi_rng1 ⟨by rfl, z_range⟩ (fl_cons (fa_x fe_int) fl_nil)) (fg_n N 2) (fb_one (fs_if (ft_co co_gt (fa_x (fe_v N 0)) (fa_x fe_int)) (fb_cons (fs_set N 3 fe_int)
    (fb_cons (fs_set N 4 (fe_bo bo_sub (fa_x (fe_v N 0)) (fa_x fe_int)))
    (fb_cons (fs_while [] C (ft_co co_gt (fa_x (fe_v N 4)) (fa_x fe_int)) (fb_cons (fs_set N 4 (fe_bo bo_div (fa_x (fe_v N 4)) (fa_x fe_int)))
    (fb_one (fs_set N 3 (fe_bo bo_add (fa_x (fe_v N 3)) (fa_x fe_int))))))
    (fb_cons (fs_set N 0 (fe_bo bo_mul (fa_x fe_int) (fa_x (fe_v N 3))))
    (fb_one (fs_set N 1 (fe_bo bo_add (fa_x (fe_v N 1)) (fa_x fe_int)))))))) fb_nil)))
    (fb_one (fs_ret (fe_v N 1)))))
abbrev s__law_number : Stmt := topS 16
abbrev N__law_number : List Str := ["_law_hand_here", "_law_kind", "_law_number_here", "_law_turn", "_law_power"]
abbrev P__law_number : List Str := ["_law_hand_here"]
noncomputable def F__law_number : GF := fnF [true] 4 (ySeq (ySet 1 (xCall [true, false] F__law_draw (cO 0 (cX (xC (.int 4)) cNil))))
    (ySeq (yIf (xB gEq (aX (xV 1)) (aX (xC (.int 0)))) (yRet (xB gAdd (aX (xC (.int 1))) (aX (xCall [true, false] F__law_draw (cO 0 (cX (xC (.int 70)) cNil)))))) yNil)
    (ySeq (yIf (xB gEq (aX (xV 1)) (aX (xC (.int 1)))) (ySeq (ySet 4 (xC (.int 1)))
    (ySeq (yFor [3] (wR rng1 (lCons (aX (xCall [true, false] F__law_draw (cO 0 (cX (xC (.int 199)) cNil)))) lNil)) (tgN 3) (ySet 4 (xB gMul (aX (xC (.int 2))) (aX (xV 4)))))
    (yRet (xL gMax2 (lCons (aX (xC (.int 1))) (lCons (aX (xB gSub (aX (xB gAdd (aX (xV 4)) (aX (xCall [true, false] F__law_draw (cO 0 (cX (xC (.int 3)) cNil)))))) (aX (xC (.int 1))))) lNil)))))) yNil)
    (ySeq (ySet 2 (xC (.int 0)))
    (ySeq (yFor [3] (wR rng1 (lCons (aX (xB gAdd (aX (xC (.int 1))) (aX (xCall [true, false] F__law_draw (cO 0 (cX (xC (.int 59)) cNil)))))) lNil)) (tgN 3) (ySet 2 (xB gAdd (aX (xB gMul (aX (xC (.int 10))) (aX (xV 2)))) (aX (xCall [true, false] F__law_draw (cO 0 (cX (xC (.int 10)) cNil)))))))
    (yRet (xB gAdd (aX (xC (.int 1))) (aX (xV 2)))))))))
theorem sc__law_number : FnScope N__law_number P__law_number (defScope s__law_number) := ⟨rfl, rfl, rfl, by decide +kernel, rfl, by decide +kernel, by decide +kernel⟩
theorem nm__law_number : nmB (defScope s__law_number) (fun _ => true) N__law_number [true, true, true, true, true] [true, true, true, true, true] = true := by decide +kernel
theorem ok__law_number {P : Program} {w : World} {K : PySem.W.Frag} {mg : Str → Option Value} {base : Heap} (z_max : mg "max" = none) (z_range : mg "range" = none) (d__law_draw : DF P w K mg base 1 "_law_draw" P__law_draw [true, false] F__law_draw) : ∀ {f : Addr} {fd : FuncData}, Fun K "_law_number" "_law_number" s__law_number f fd → FnOk P w K mg base (L2.CX P w) 2 f fd P__law_number (spF K mg [true] F__law_number) := by
  intro f fd Fn
  refine ok_def Fn sc__law_number rfl rfl (fun cdv A outer s H vs E hr => ?_)
  have C : Cok (cxOf (L2.CX P w) P w K mg base N__law_number "_law_number" (defScope s__law_number) f cdv A outer s H E) (fun cls od _ H' => E cls od H') 1 := ⟨rfl, takes_of rfl rfl rfl rfl, passes_of rfl, hr⟩
  have N : NamesOk (cxOf (L2.CX P w) P w K mg base N__law_number "_law_number" (defScope s__law_number) f cdv A outer s H E) [true, true, true, true, true] [true, true, true, true, true] := namesOk_of rfl rfl (fun _ => rfl) sc__law_number.nd nm__law_number
  exact (fb_cons (fs_set N 1 (fe_call ⟨d__law_draw⟩ (C.hr.mono (by decide)) C.tk (by rfl) (fc_o N 0 (fc_x fe_int fc_nil))))
    (fb_cons (fs_if (ft_co (co_eq C.hu64) (fa_x (fe_v N 1)) (fa_x fe_int)) (fb_one (fs_ret (fe_bo bo_add (fa_x fe_int) (fa_x (fe_call ⟨d__law_draw⟩ (C.hr.mono (by decide)) C.tk (by rfl) (fc_o N 0 (fc_x fe_int fc_nil))))))) fb_nil)
    (fb_cons (fs_if (ft_co (co_eq C.hu64) (fa_x (fe_v N 1)) (fa_x fe_int)) (fb_cons (fs_set N 4 fe_int)
    (fb_cons (fs_for [3] C (fi_rng1 ⟨by rfl, z_range⟩ (fl_cons (fa_x (fe_call ⟨d__law_draw⟩ (C.hr.mono (by decide)) C.tk (by rfl) (fc_o N 0 (fc_x fe_int fc_nil)))) fl_nil)) (fg_n N 3) (fb_one (fs_set N 4 (fe_bo bo_mul (fa_x fe_int) (fa_x (fe_v N 4))))))
    (fb_one (fs_ret (fe_cb (cb_max2 C.calm) ⟨by rfl, z_max⟩ (by decide +kernel) (fl_cons (fa_x fe_int) (fl_cons (fa_x (fe_bo bo_sub (fa_x (fe_bo bo_add (fa_x (fe_v N 4)) (fa_x (fe_call ⟨d__law_draw⟩ (C.hr.mono (by decide)) C.tk (by rfl) (fc_o N 0 (fc_x fe_int fc_nil)))))) (fa_x fe_int))) fl_nil))))))) fb_nil)
    (fb_cons (fs_set N 2 fe_int)
    (fb_cons (fs_for [3] C (fi_rng1 ⟨by rfl, z_range⟩ (fl_cons (fa_x (fe_bo bo_add (fa_x fe_int) (fa_x (fe_call ⟨d__law_draw⟩ (C.hr.mono (by decide)) C.tk (by rfl) (fc_o N 0 (fc_x fe_int fc_nil)))))) fl_nil)) (fg_n N 3) (fb_one (fs_set N 2 (fe_bo bo_add (fa_x (fe_bo bo_mul (fa_x fe_int) (fa_x (fe_v N 2)))) (fa_x (fe_call ⟨d__law_draw⟩ (C.hr.mono (by decide)) C.tk (by rfl) (fc_o N 0 (fc_x fe_int fc_nil))))))))
    (fb_one (fs_ret (fe_bo bo_add (fa_x fe_int) (fa_x (fe_v N 2))))))))))
abbrev s__law_asked : Stmt := topS 17
abbrev N__law_asked : List Str := ["_law_thing", "_law_found", "e"]
abbrev P__law_asked : List Str := ["_law_thing"]
noncomputable def F__law_asked : GF := fnF [false] 2 (ySeq (ySet 1 (xC (.str "nothing")))
    (ySeq (yTryAs 2 (fun c => ([("NearError", false), ("NoNumber", true)] : List (Str × Bool)).lookup c) (ySet 1 (xCall [false] F_halvings (cX (xV 0) cNil))) (fun c fs => (ySet 1 (xIf (xEx [("NearError", true), ("NoNumber", true)] c fs) (xC (.str "refused")) (xC (.str "other"))))))
    (yRet (xV 1))))
theorem sc__law_asked : FnScope N__law_asked P__law_asked (defScope s__law_asked) := ⟨rfl, rfl, rfl, by decide +kernel, rfl, by decide +kernel, by decide +kernel⟩
theorem nm__law_asked : nmB (defScope s__law_asked) (fun _ => true) N__law_asked [true, true, true] [true, true, true] = true := by decide +kernel
theorem ok__law_asked {P : Program} {w : World} {K : PySem.W.Frag} {mg : Str → Option Value} {base : Heap} (z_isinstance : mg "isinstance" = none) (g_NoNumber : ∃ C, mg "NoNumber" = some (.ref C)) (m_NoNumber : MtK K mg "NoNumber" [("NearError", false), ("NoNumber", true)]) (i_NearError : IsK K mg "NearError" [("NearError", true), ("NoNumber", true)]) (d_halvings : DF P w K mg base 3 "halvings" P_halvings [false] F_halvings) : ∀ {f : Addr} {fd : FuncData}, Fun K "_law_asked" "_law_asked" s__law_asked f fd → FnOk P w K mg base (L2.CX P w) 4 f fd P__law_asked (spF K mg [false] F__law_asked) := by
  intro f fd Fn
  refine ok_def Fn sc__law_asked rfl rfl (fun cdv A outer s H vs E hr => ?_)
  have C : Cok (cxOf (L2.CX P w) P w K mg base N__law_asked "_law_asked" (defScope s__law_asked) f cdv A outer s H E) (fun cls od _ H' => E cls od H') 3 := ⟨rfl, takes_of rfl rfl rfl rfl, passes_of rfl, hr⟩
  have N : NamesOk (cxOf (L2.CX P w) P w K mg base N__law_asked "_law_asked" (defScope s__law_asked) f cdv A outer s H E) [true, true, true] [true, true, true] := namesOk_of rfl rfl (fun _ => rfl) sc__law_asked.nd nm__law_asked
  obtain ⟨C_NoNumber, g_NoNumber⟩ := g_NoNumber
  exact (fb_cons (fs_set N 1 fe_str)
    (fb_cons (fs_tryAs N 2 C rfl rfl ⟨by rfl, by decide, .inl g_NoNumber⟩ (MtK.ok (X := cxOf (L2.CX P w) P w K mg base N__law_asked "_law_asked" (defScope s__law_asked) f cdv A outer s H E) m_NoNumber g_NoNumber) (fun W1 pn xe C => have NT := N.tr (pn := pn) (xe := xe); (fb_one (fs_set NT 1 (fe_call ⟨d_halvings⟩ (C.hr.mono (by decide)) C.tk (by rfl) (fc_x (fe_v NT 0) fc_nil)))))
    (fun c fs Ca a oe od pn σ1 hm1 hg1 hz1 hv1 hs1 hc1 => have NS := N.suite (a := a) (pn := (a, oe) :: pn); (fb_one (fs_set NS 1 (fe_if (ft_e (fe_isE NS 2 i_NearError hg1 hz1 hv1 hs1 hc1 ⟨by rfl, z_isinstance⟩ (by rfl))) fe_str fe_str)))) rfl)
    (fb_one (fs_ret (fe_v N 1)))))
abbrev s_law : Stmt := topS 18
abbrev N_law : List Str := ["_law_script", "_law_hand_here", "_law_turn", "_law_bad", "_law_number_here", "_law_told", "_law_other"]
abbrev P_law : List Str := ["_law_script"]
noncomputable def F_law : GF := fnF [false] 6 (ySeq (ySet 1 (xCall [false] F__law_hand (cX (xV 0) cNil)))
    (ySeq (yFor [2, 5, 6] (wR rng1 (lCons (aX (xC (.int 8))) lNil)) (tgN 2) (ySeq (ySet 4 (xCall [true] F__law_number (cO 1 cNil)))
    (ySeq (ySet 5 (xCall [false] F_halvings (cX (xV 4) cNil)))
    (ySeq (yIf (xOr (xL gIsi (lCons (aX (xV 5)) (lCons (aX (xC (.ty "bool"))) lNil))) (xB gNe (aX (xV 5)) (aX (xCall [false] F__law_halvings (cX (xV 4) cNil))))) (yRet (xC (.bl false))) yNil)
    (ySeq (ySet 6 (xL gMin2 (lCons (aX (xB gPow (aX (xC (.int 10))) (aX (xC (.int 60))))) (lCons (aX (xB gAdd (aX (xV 4)) (aX (xCall [true, false] F__law_draw (cO 1 (cX (xB gAdd (aX (xV 4)) (aX (xC (.int 1)))) cNil)))))) lNil))))
    (yIf (xB gLt (aX (xCall [false] F_halvings (cX (xV 6) cNil))) (aX (xV 5))) (yRet (xC (.bl false))) yNil))))))
    (ySeq (yIf (xB gNe (aX (xLc [4] (wR rng2 (lCons (aX (xC (.int 1))) (lCons (aX (xC (.int 8))) lNil))) (tgN 4) xYes (xCall [false] F_halvings (cX (xV 4) cNil)))) (aX (xLst (cX (xC (.int 0)) (cX (xC (.int 0)) (cX (xC (.int 0)) (cX (xC (.int 0)) (cX (xC (.int 0)) (cX (xC (.int 0)) (cX (xC (.int 1)) cNil)))))))))) (yRet (xC (.bl false))) yNil)
    (ySeq (ySet 3 (xB ixD (aX (xLst (cX (xC (.int 0)) (cX (xU gNeg (aX (xC (.int 1)))) (cX (xB gAdd (aX (xB gPow (aX (xC (.int 10))) (aX (xC (.int 60))))) (aX (xC (.int 1)))) (cX (xC (.bl true)) (cX (xC (.bl false)) (cX (xC .non) (cX (xC (.str "7")) (cX (xTup (cX (xC (.int 7)) cNil)) (cX (xLst (cX (xC (.int 7)) cNil)) (cX (xU gNeg (aX (xB gPow (aX (xC (.int 10))) (aX (xC (.int 40)))))) cNil)))))))))))) (aX (xCall [true, false] F__law_draw (cO 1 (cX (xC (.int 10)) cNil))))))
    (yRet (xAnd (xB gEq (aX (xCall [false] F__law_asked (cX (xV 3) cNil))) (aX (xC (.str "refused")))) (xB gEq (aX (xCall [false] F__law_asked (cX (xB gPow (aX (xC (.int 10))) (aX (xC (.int 60)))) cNil))) (aX (xCall [false] F__law_halvings (cX (xB gPow (aX (xC (.int 10))) (aX (xC (.int 60)))) cNil))))))))))
theorem sc_law : FnScope N_law P_law (defScope s_law) := ⟨rfl, rfl, rfl, by decide +kernel, rfl, by decide +kernel, by decide +kernel⟩
theorem nm_law : nmB (defScope s_law) (fun _ => true) N_law [true, true, true, true, true, true, true] [true, true, true, true, true, true, true] = true := by decide +kernel
theorem ok_law {P : Program} {w : World} {K : PySem.W.Frag} {mg : Str → Option Value} {base : Heap} (z_bool : mg "bool" = none) (z_isinstance : mg "isinstance" = none) (z_min : mg "min" = none) (z_range : mg "range" = none) (d__law_asked : DF P w K mg base 4 "_law_asked" P__law_asked [false] F__law_asked) (d__law_draw : DF P w K mg base 1 "_law_draw" P__law_draw [true, false] F__law_draw) (d__law_halvings : DF P w K mg base 1 "_law_halvings" P__law_halvings [false] F__law_halvings) (d__law_hand : DF P w K mg base 1 "_law_hand" P__law_hand [false] F__law_hand) (d__law_number : DF P w K mg base 2 "_law_number" P__law_number [true] F__law_number) (d_halvings : DF P w K mg base 3 "halvings" P_halvings [false] F_halvings) : ∀ {f : Addr} {fd : FuncData}, Fun K "law" "law" s_law f fd → FnOk P w K mg base (L2.CX P w) 5 f fd P_law (spF K mg [false] F_law) := by
  intro f fd Fn
  refine ok_def Fn sc_law rfl rfl (fun cdv A outer s H vs E hr => ?_)
  have C : Cok (cxOf (L2.CX P w) P w K mg base N_law "law" (defScope s_law) f cdv A outer s H E) (fun cls od _ H' => E cls od H') 4 := ⟨rfl, takes_of rfl rfl rfl rfl, passes_of rfl, hr⟩
  have N : NamesOk (cxOf (L2.CX P w) P w K mg base N_law "law" (defScope s_law) f cdv A outer s H E) [true, true, true, true, true, true, true] [true, true, true, true, true, true, true] := namesOk_of rfl rfl (fun _ => rfl) sc_law.nd nm_law
  exact (fb_cons (fs_set N 1 (fe_call ⟨d__law_hand⟩ (C.hr.mono (by decide)) C.tk (by rfl) (fc_x (fe_v N 0) fc_nil)))
    (fb_cons (fs_for [2, 5, 6] C (fi_rng1 ⟨by rfl, z_range⟩ (fl_cons (fa_x fe_int) fl_nil)) (fg_n N 2) (fb_cons (fs_set N 4 (fe_call ⟨d__law_number⟩ (C.hr.mono (by decide)) C.tk (by rfl) (fc_o N 1 fc_nil)))
    (fb_cons (fs_set N 5 (fe_call ⟨d_halvings⟩ (C.hr.mono (by decide)) C.tk (by rfl) (fc_x (fe_v N 4) fc_nil)))
    (fb_cons (fs_if (ft_w (fw_or (ft_e (fe_cb cb_isi ⟨by rfl, z_isinstance⟩ (by decide +kernel) (fl_cons (fa_x (fe_v N 5)) (fl_cons (fa_x (fe_ty ⟨by rfl, z_bool⟩ (by decide +kernel))) fl_nil)))) (fw_or1 (ft_co (co_ne C.hu64) (fa_x (fe_v N 5)) (fa_x (fe_call ⟨d__law_halvings⟩ (C.hr.mono (by decide)) C.tk (by rfl) (fc_x (fe_v N 4) fc_nil))))))) (fb_one (fs_ret fe_bl)) fb_nil)
    (fb_cons (fs_set N 6 (fe_cb (cb_min2 C.calm) ⟨by rfl, z_min⟩ (by decide +kernel) (fl_cons (fa_x (fe_bo bo_pow (fa_x fe_int) (fa_x fe_int))) (fl_cons (fa_x (fe_bo bo_add (fa_x (fe_v N 4)) (fa_x (fe_call ⟨d__law_draw⟩ (C.hr.mono (by decide)) C.tk (by rfl) (fc_o N 1 (fc_x (fe_bo bo_add (fa_x (fe_v N 4)) (fa_x fe_int)) fc_nil)))))) fl_nil))))
    (fb_one (fs_if (ft_co co_lt (fa_x (fe_call ⟨d_halvings⟩ (C.hr.mono (by decide)) C.tk (by rfl) (fc_x (fe_v N 6) fc_nil))) (fa_x (fe_v N 5))) (fb_one (fs_ret fe_bl)) fb_nil)))))))
    (fb_cons (fs_if (ft_co (co_ne C.hu64) (fa_x (fe_lc C N.nd (fi_rng2 ⟨by rfl, z_range⟩ (fl_cons (fa_x fe_int) (fl_cons (fa_x fe_int) fl_nil))) (blkOk_of (N := N_law) (sc := defScope s_law) (own := [("_law_number_here", 4)]) rfl rfl (by decide +kernel)) (fun s0 H0 C0 cl0 fp0 => (namesOk_blk (N := N_law) (sc := defScope s_law) rfl rfl (M := [false, false, false, false, true, false, false]) (L := [false, false, false, false, true, false, false]) sc_law.nd (by decide +kernel))) (fun s0 H0 C0 cl0 fp0 NB => (fg_n NB 4)) (fun s0 H0 C0 cl0 fp0 NB => fts_nil) (fun s0 H0 C0 cl0 fp0 NB => (fe_call ⟨d_halvings⟩ (C.hr.mono (by decide)) takes0 (by rfl) (fc_x (fe_v NB 4) fc_nil))))) (fa_x (fe_lst (fc_x fe_int (fc_x fe_int (fc_x fe_int (fc_x fe_int (fc_x fe_int (fc_x fe_int (fc_x fe_int fc_nil)))))))))) (fb_one (fs_ret fe_bl)) fb_nil)
    (fb_cons (fs_set N 3 (fe_ix C.hu (fa_x (fe_lst (fc_x fe_int (fc_x (fe_uo uo_neg (fa_x fe_int)) (fc_x (fe_bo bo_add (fa_x (fe_bo bo_pow (fa_x fe_int) (fa_x fe_int))) (fa_x fe_int)) (fc_x fe_bl (fc_x fe_bl (fc_x fe_non (fc_x fe_str (fc_x (fe_tup (fc_x fe_int fc_nil)) (fc_x (fe_lst (fc_x fe_int fc_nil)) (fc_x (fe_uo uo_neg (fa_x (fe_bo bo_pow (fa_x fe_int) (fa_x fe_int)))) fc_nil)))))))))))) (fa_x (fe_call ⟨d__law_draw⟩ (C.hr.mono (by decide)) C.tk (by rfl) (fc_o N 1 (fc_x fe_int fc_nil))))))
    (fb_one (fs_ret (fe_and (fe_co (co_eq C.hu64) (fa_x (fe_call ⟨d__law_asked⟩ (C.hr.mono (by decide)) C.tk (by rfl) (fc_x (fe_v N 3) fc_nil))) (fa_x fe_str)) (fe_one (fe_co (co_eq C.hu64) (fa_x (fe_call ⟨d__law_asked⟩ (C.hr.mono (by decide)) C.tk (by rfl) (fc_x (fe_bo bo_pow (fa_x fe_int) (fa_x fe_int)) fc_nil))) (fa_x (fe_call ⟨d__law_halvings⟩ (C.hr.mono (by decide)) C.tk (by rfl) (fc_x (fe_bo bo_pow (fa_x fe_int) (fa_x fe_int)) fc_nil))))))))))))
local macro_rules | `(tactic| walk_at "ev") => `(tactic| simp only [ev_fnF, ev_nil, ev_bk, ev_ct, ev_seq, ev_x, ev_ret, ev_retN, ev_set, ev_if, ev_aug, ev_raise, ev_c, ev_v, ev_m, ev_f, ev_ax, ev_rd, ev_ar, rd_at, ev_b, ev_u, ev_l, ev_lnil, ev_lcons, ev_th0, ev_th1, co1_some, cst_at, ev_not, ev_and, ev_or, ev_ife, ev_call, ev_cnil, ev_cx, ev_co, ars0, ars1, ars2, slots0, slots1, slots2, arsB_eq, arg0, arg1, arg2, coE_some, sla_ow, endC_rt, endC_nx, endC_exc, back0, back1, back2, keepO0, keepO1, keepO2, ev_lst, ev_tup, ds0, ds1, coD_some, fOwL_eq, fFzT_eq, kDs_ok, ev_for, ev_wr, ev_wi, ev_asg, kAsg2_some, tgN_at, tgT_at, tgs0, tgs1, ev_si, ev_sl, ev_pn, ev_ps, ev_lc, ev_yes, ev_mu, isOL_ow, ev_try, kTry2_t, kTry2_f, endT_ok, ev_ex, kEx_some, kSeq_nx, kSeq_rt, kSeq_bk, kSeq_ct, kSeq_exc, kFin_ok, kFin_exc, kX_ok, kX_exc, kRet_ok, kRet_exc, kSet_ok, kSet_exc, kIf_t, kIf_f, kIf_exc, kIfx_t, kIfx_f, kIfx_exc, kAnd_t, kAnd_f, kAnd_exc, kOr_t, kOr_f, kOr_exc, kNot_ok, kNot_exc, kF_fz, kF_ow, kF_exc, kA_fz, kA_ow, kA_exc, slDp_fz, slDp_ow, kR_fz, kR_ow, kV_fz, kV_ow, kM_fz, kM_ow, ap2_some, ap1_some, apL_some, ofO_some_, kB2_ok, kB2_exc, kB1_ok, kB1_exc, kU_ok, kU_exc, kL_ok, kL_exc, kLc2_ok, kLc2_exc, kLc1_ok, kLc1_exc, kCc2_ok, kCc2_exc, kCc1_fz, kCc1_ow, kCc1_exc, kCo_ow, kCall_ok, kCall_exc, kArg_ok, kLst_ok, kLst_exc, kW_ok, kW_exc, apW_some, ofW_some, kWR_ok, kWR_exc, kWI_fz, kWI_ow, kWI_exc, kAsg_fz, kAsg_ow, kAsg_exc, kSI1_fz, kSI1_ow, kSI1_exc, kSI1b_some, kSI2_fz, kSI2_exc, kSI3_ow, kSI4_some, kP_int, kP_exc, kSl3_ok, kSl2_ok, kSl1_ok, kLC_ok, kLC_exc, kLC2_ok, kMu_t, kMu2_ok, kMu2_exc, kMu3_some, kMu4_ow, kMu5_some, kTry_ok, kTry_exc, forget0, forget1, Ret_ok, Nx_nx, Nx_ct, gAdd_ii, gAddI_ii, gSub_ii, gMul_ii, gDiv_ii, gMod_ii, gPow_ii, gLt_ii, gLe_ii, gGt_ii, gGe_ii, gEq_ii, gNe_ii, gEq_ss, gNe_ss, gEq_bb, gNeg_i, gLen_l, gLen_t, gLen_s, gAbs_i, gInt_i, gMax2_i, gMin2_i, gList_l, gList_t, gTuple_l, gTuple_t, gBits_i, ixD_l, ixD_t, rng1_i, rng2_i, items_l, items_t, slD_l, slD_r, setD_l, isi_int_int, isi_bool_int, isi_str_int, isi_list_int, isi_tuple_int, isi_NoneType_int, isi_int_bool, isi_bool_bool, isi_str_bool, isi_list_bool, isi_tuple_bool, isi_NoneType_bool, isi_int_str, isi_bool_str, isi_str_str, isi_list_str, isi_tuple_str, isi_NoneType_str, isi_int_list, isi_bool_list, isi_str_list, isi_list_list, isi_tuple_list, isi_NoneType_list, isi_int_tuple, isi_bool_tuple, isi_str_tuple, isi_list_tuple, isi_tuple_tuple, isi_NoneType_tuple, isi_int_dict, isi_bool_dict, isi_str_dict, isi_list_dict, isi_tuple_dict, isi_NoneType_dict, List.getElem?_cons_zero, List.getElem?_cons_succ, List.getElem?_nil, List.set_cons_zero, List.set_cons_succ, List.set_nil, Option.getD_some, Option.getD_none, Option.bind_some, Option.map_some, List.cons_append, List.nil_append, List.append_nil, List.replicate_succ, List.replicate_zero, Bool.true_and, Bool.and_true, Bool.not_true, Bool.not_false, List.length_cons, List.length_nil, List.length_map, decide_true, decide_false, List.headD_cons, List.tail_cons, atI_nn, ixN_nn, Int.reduceLE, and_self, and_true, true_and, nod0, nod1, nod2, ne_eq, eq_self, decide_true, Nat.reduceEqDiff, not_false_eq_true, Int.reducePow, Int.reduceLT, Int.reduceToNat, Nat.reduceLeDiff, Nat.reduceLT, Nat.reduceAdd, Nat.reduceMul, Int.reduceAdd, Int.reduceSub, Int.reduceMul, Int.reducePow, Int.reduceNeg, Int.reduceEq, Int.reduceNe])
theorem draw_ret {m : Nat} {h : D} {n : Int} (H : Hd (m + 1) h) (hn : 0 < n) (hb : n < 2 ^ 1000) :
    Ret (F__law_draw [.ow h, .fz (.int n)]) fun s ρ => ∃ r h', s = .fz (.int r) ∧ ρ = [.ow h', .no] ∧ 0 ≤ r ∧ r < n ∧ Hd m h' := by
  obtain ⟨cells, a, b, s, c, rfl, h1, h2, h3, h4, h5, h6, h7⟩ := H.ex
  unfold F__law_draw
  rw [ev_fnF]
  refine Ret_seq' (I := fun ρ => ∃ (a b s : Int) (x : Sl), ρ = [.ow (.lst [.lst (cells.map .int), .int a, .int b, .int s, .int c]), .fz (.int n), .no, x, .no] ∧ 0 ≤ a ∧ 0 ≤ b ∧ 0 ≤ s ∧ s < 2147483629) ?_ ?_
  · walk_at "ev"
    by_cases hb0 : b = 0
    · subst hb0
      walk_at "ev"
      by_cases ha : a < cells.length
      · obtain ⟨x, hx⟩ : ∃ x, cells[a.toNat]? = some x := ⟨cells[a.toNat]'(by omega), List.getElem?_eq_getElem _⟩
        have hx0 : 0 ≤ x := h1 x (List.mem_of_getElem? hx)
        rw [decide_eq_true ha]
        walk_at "ev"
        rw [atI_nn h2, List.getElem?_map, hx]
        walk_at "ev"
        rw [gMul_ii (cMul_of (by omega) (by omega) (by omega) (by omega))]
        walk_at "ev"
        rw [gMod_ii (cMod_of (by omega))]
        walk_at "ev"
        rw [gPow_ii (by decide)]
        walk_at "ev"
        by_cases hg : (1000000000000000000 : Int) ≤ x
        · rw [decide_eq_true hg]
          walk_at "ev"
          exact .mk ⟨_, _, _, _, rfl, by omega, by omega, by omega, by omega⟩
        · rw [decide_eq_false hg]
          walk_at "ev"
          exact .mk ⟨_, _, _, _, rfl, by omega, by omega, by omega, by omega⟩
      · rw [decide_eq_false ha]
        walk_at "ev"
        exact .mk ⟨_, _, _, _, rfl, h2, by omega, h4, h5⟩
    · rw [decide_eq_false hb0]
      walk_at "ev"
      exact .mk ⟨_, _, _, _, rfl, h2, h3, h4, h5⟩
  · rintro ρ ⟨a, b, s, x, rfl, h2, h3, h4, h5⟩
    walk_at "ev"
    by_cases hb0 : 0 < b
    · rw [decide_eq_true hb0]
      walk_at "ev"
      rw [gMod_ii (cMod_of hn)]
      walk_at "ev"
      rw [gDiv_ii (cDiv_of hn hb)]
      walk_at "ev"
      exact ⟨_, _, rfl, rfl, Int.emod_nonneg _ (by omega), Int.emod_lt_of_pos _ hn, ⟨cells, _, _, _, _, rfl, h1, h2, Int.ediv_nonneg h3 (by omega), h4, h5, h6, by omega⟩⟩
    · rw [decide_eq_false hb0]
      walk_at "ev"
      rw [gMul_ii (cMul_of (by omega) (by omega) (by omega) (by omega))]
      walk_at "ev"
      rw [gMul_ii (cMul_of (by omega) (by omega) (by omega) (by omega))]
      walk_at "ev"
      rw [gMod_ii (cMod_of (by omega))]
      walk_at "ev"
      have q1 := Int.emod_nonneg ((s + 7919 * (c + 1)) * 48271) (show (2147483647:Int) ≠ 0 by omega)
      have q2 := Int.emod_lt_of_pos ((s + 7919 * (c + 1)) * 48271) (show 0 < (2147483647:Int) by omega)
      generalize (s + 7919 * (c + 1)) * 48271 % 2147483647 = u at q1 q2 ⊢
      rw [gDiv_ii (cDiv_of (by omega) (by omega))]
      walk_at "ev"
      rw [gMul_ii (cMul_of (by omega) (by omega) (by omega) (by omega))]
      walk_at "ev"
      rw [gMod_ii (cMod_of (by omega))]
      walk_at "ev"
      have q3 := Int.emod_nonneg (u * (u / 1009 + 69621)) (show (2147483647:Int) ≠ 0 by omega)
      have q4 := Int.emod_lt_of_pos (u * (u / 1009 + 69621)) (show 0 < (2147483647:Int) by omega)
      generalize u * (u / 1009 + 69621) % 2147483647 = v at q3 q4 ⊢
      rw [gDiv_ii (cDiv_of (by omega) (by omega))]
      walk_at "ev"
      rw [gMul_ii (cMul_of (by omega) (by omega) (by omega) (by omega))]
      walk_at "ev"
      rw [gMod_ii (cMod_of (by omega))]
      walk_at "ev"
      have q5 := Int.emod_nonneg (v * (v / 2003 + 40692)) (show (2147483399:Int) ≠ 0 by omega)
      have q6 := Int.emod_lt_of_pos (v * (v / 2003 + 40692)) (show 0 < (2147483399:Int) by omega)
      generalize v * (v / 2003 + 40692) % 2147483399 = w at q5 q6 ⊢
      rw [gDiv_ii (cDiv_of (by omega) (by omega))]
      walk_at "ev"
      rw [gMod_ii (cMod_of hn)]
      walk_at "ev"
      exact ⟨_, _, rfl, rfl, Int.emod_nonneg _ (by omega), Int.emod_lt_of_pos _ hn, ⟨cells, _, _, _, _, rfl, h1, h2, h3, h4, h5, by omega, by omega⟩⟩
theorem draw_spec {m : Nat} {h : D} {n : Int} (H : Hd (m + 1) h) (hn : 0 < n) (hb : n < 2 ^ 1000) :
    ∃ r h', F__law_draw [.ow h, .fz (.int n)] = .ok (.rt (.fz (.int r))) [.ow h', .no] ∧ 0 ≤ r ∧ r < n ∧ Hd m h' := by
  obtain ⟨s, ρ, e, r, h', rfl, rfl, q1, q2, q3⟩ := (draw_ret H hn hb).ex
  exact ⟨r, h', e, q1, q2, q3⟩

theorem is_int {i : Int} : F_is_integer [.fz (.int i)] = .ok (.rt (.fz (.bl true))) [.no] := by
  unfold F_is_integer
  walk_at "ev"
theorem hand_spec (ns : List Int) : ∃ h, F__law_hand [.fz (.scr ns)] = .ok (.rt (.ow h)) [.no] ∧ Hd (2 ^ 59) h := by
  unfold F__law_hand
  walk_at "ev"
  have hc := cut63 ns
  generalize FV.cutD ns none (some 63) = ms at hc ⊢
  rw [lcL_yes (α := Int) .int (fun i => .int (if i < 0 then -i else i)) [.fz (.scr ns), .no, .no] ms (by omega) fun a _ => ⟨[.fz (.scr ns), .no, .fz (.int a)], [.fz (.scr ns), .no, .fz (.int a)], rfl, by walk_at "ev", rfl⟩]
  walk_at "ev"
  refine ⟨_, rfl, ⟨ms.map fun i => if i < 0 then -i else i, 0, 0, 1 + ms.length, 0, by rw [List.map_map]; rfl, fun x hx => ?_, by decide, by decide, by omega, by omega, by decide, by decide⟩⟩
  obtain ⟨i, _, rfl⟩ := List.mem_map.1 hx
  split <;> omega
def stp (n : Int) : Int := 2 * (Builtin.Int.intBits (n - 1) : Nat)
def hv : Nat → Int → Int
  | 0, _ => 0
  | k + 1, n => if n > 6 then 1 + hv k (stp n) else 0
def fin : Nat → Int → Prop
  | 0, n => n ≤ 6
  | k + 1, n => n ≤ 6 ∨ fin k (stp n)
theorem fin_le {k : Nat} {n : Int} (h : n ≤ 6) : fin k n := by
  cases k with
  | zero => exact h
  | succ k => exact .inl h
theorem hv_le {k : Nat} {n : Int} (h : n ≤ 6) : hv k n = 0 := by
  cases k with
  | zero => rfl
  | succ k => exact if_neg (by omega)
theorem hv_more : ∀ {k : Nat} {n : Int}, fin k n → ∀ j, hv (k + j) n = hv k n
  | 0, n, h, j => by rw [hv_le h, hv_le h]
  | k + 1, n, h, j => by
    rw [show k + 1 + j = (k + j) + 1 by omega, hv, hv]
    rcases h with h | h
    · rw [if_neg (by omega), if_neg (by omega)]
    · rw [hv_more h j]
theorem stp_nn {n : Int} : 0 ≤ stp n := by unfold stp; omega
theorem stp_lt {n : Int} (h0 : 0 ≤ n) (h : n < 2 ^ 1000) : stp n < 2 ^ 1000 ∧ Builtin.Int.intBits (n - 1) ≤ 1000 := by
  have := bits_le (i := n - 1) (k := 1000) (by omega) (by omega) (by decide)
  unfold stp
  omega
theorem halved_spec {n : Int} (h0 : 0 ≤ n) (hb : n < 2 ^ 1000) (hf : fin 6 n) : F_halved [.fz (.int n)] = .ok (.rt (.fz (.int (hv 6 n)))) [.no] := by
  unfold F_halved
  walk_at "ev"
  obtain ⟨ρ, e, v, rfl⟩ := Nxx_while (fg := []) (c := (xB gGt (aX (xV 0)) (aX (xC (D.int 6))))) (f := (ySeq (ySet 0 (xB gMul (aX (xC (D.int 2))) (aX (xU gBits (aX (xB FV.gSub (aX (xV 0)) (aX (xC (D.int 1)))))))))
            (yAug 1 gAddI (xC (D.int 1))))) (Q := fun ρ => ∃ v, ρ = [.fz (.int v), .fz (.int (hv 6 n))]) (fun k ρ => ∃ v m, ρ = [.fz (.int v), .fz (.int m)] ∧ fin k v ∧ m + hv k v = hv 6 n ∧ 0 ≤ v ∧ v < 2 ^ 1000)
    (fun k ρ ⟨v, m, e, h1, h2, h4, h5⟩ => by
      subst e
      by_cases hv6 : 6 < v
      · refine .inr ⟨[.fz (.int v), .fz (.int m)], by walk_at "ev"; rw [decide_eq_true hv6], ?_⟩
        cases k with
        | zero => exact absurd h1 (by show ¬ v ≤ 6; omega)
        | succ k =>
          have h3 : fin k (stp v) := h1.resolve_left (by omega)
          rw [hv, if_pos hv6] at h2
          walk_at "ev"
          have q := stp_lt h4 h5
          rw [gMul_ii (cMul_of (by omega) (by omega) (by omega) (by omega))]
          walk_at "ev"
          exact ⟨k, by omega, _, _, rfl, h3, show m + 1 + hv k (stp v) = _ by omega, stp_nn, q.1⟩
      · refine .inl ⟨[.fz (.int v), .fz (.int m)], by walk_at "ev"; rw [decide_eq_false hv6], v, ?_⟩
        rw [hv_le (by omega)] at h2
        rw [← h2, Int.add_zero]
        rfl) 6 [.fz (.int n), .fz (.int 0)] ⟨_, _, rfl, hf, by omega, h0, hb⟩
  rw [e]
  walk_at "ev"

theorem chk_spec {n : Int} (h1 : 1 ≤ n) (h2 : n ≤ 1000000000000000000000000000000000000000000000000000000000000) : F_check_number [.fz (.int n), .fz (.int 1), .fz (.int 1000000000000000000000000000000000000000000000000000000000000)] = .ok .nx [.no, .no, .no] := by
  unfold F_check_number
  walk_at "ev"
  rw [is_int]
  walk_at "ev"
  rw [decide_eq_false (by omega)]
  walk_at "ev"
  rw [decide_eq_false (by omega)]
  walk_at "ev"
theorem halvings_spec {n : Int} (h1 : 1 ≤ n) (h2 : n ≤ 1000000000000000000000000000000000000000000000000000000000000) (hf : fin 6 n) : F_halvings [.fz (.int n)] = .ok (.rt (.fz (.int (hv 6 n)))) [.no] := by
  unfold F_halvings
  walk_at "ev"
  rw [chk_spec h1 h2]
  walk_at "ev"
  rw [halved_spec (by omega) (by omega) hf]
  walk_at "ev"
/-- the digits of a number, by halving -/
theorem bits_half {n : Int} (h : 0 < n) : Builtin.Int.intBits n = Builtin.Int.intBits (n / 2) + 1 := by
  unfold Builtin.Int.intBits
  have hn : ¬(n == 0) = true := by simp; omega
  rw [if_neg hn]
  obtain ⟨m, e0⟩ := Int.eq_ofNat_of_zero_le (Int.le_of_lt h)
  replace e0 : n = (m : Int) := e0
  subst e0
  have e : ((m : Int) / 2).natAbs = m / 2 := by omega
  by_cases h2 : 2 ≤ m
  · have hn2 : ¬(((m : Int) / 2) == 0) = true := by simp; omega
    rw [if_neg hn2, e, Int.natAbs_natCast, Nat.log2_def, if_pos h2]
  · have : m = 1 := by simp at h; omega
    subst this
    decide
theorem lhalvings_spec {n : Int} (h0 : 0 ≤ n) (hb : n < 2 ^ 1000) (hf : fin 6 n) : F__law_halvings [.fz (.int n)] = .ok (.rt (.fz (.int (hv 6 n)))) [.no] := by
  refine ret_eq ?_
  unfold F__law_halvings
  walk_at "ev"
  refine Ret_seq2 (I := fun ρ => ∃ v, ρ = [.fz (.int v), .fz (.int (hv 6 n)), .no, .no, .no]) (Nxx_for (fun j ρ => ∃ (v m : Int) (x y z : Sl), ρ = [.fz (.int v), .fz (.int m), x, y, z] ∧ fin (6 - j) v ∧ m + hv (6 - j) v = hv 6 n ∧ 0 ≤ v ∧ v < 2 ^ 1000) ⟨_, _, _, _, _, rfl, hf, by rw [Nat.sub_zero]; omega, h0, hb⟩ ?_ ?_) ?_
  · rintro j d ρ hd ⟨v, m, x, y, z, rfl, q1, q2, q3, q4⟩
    refine ⟨_, rfl, ?_⟩
    walk_at "ev"
    by_cases hv6 : 6 < v
    · rw [decide_eq_true hv6]
      walk_at "ev"
      have hk : ∃ k, 6 - j = k + 1 := by
        cases e : 6 - j with
        | zero => rw [e] at q1; exact absurd q1 (by show ¬ v ≤ 6; omega)
        | succ k => exact ⟨k, rfl⟩
      obtain ⟨k, hk⟩ := hk
      rw [hk] at q1 q2
      have q5 : fin k (stp v) := q1.resolve_left (by omega)
      rw [hv, if_pos hv6] at q2
      refine Nx_seq' (I := fun ρ => ∃ r, ρ = [.fz (.int v), .fz (.int m), .fz d, .fz (.int (Builtin.Int.intBits (v - 1) : Nat)), r]) (Nxx_while (fun k ρ => ∃ (g r : Int), ρ = [.fz (.int v), .fz (.int m), .fz d, .fz (.int g), .fz (.int r)] ∧ 0 ≤ r ∧ r.toNat = k ∧ g + (Builtin.Int.intBits r : Nat) = (Builtin.Int.intBits (v - 1) : Nat)) ?_ (v - 1).toNat _ ⟨_, _, rfl, by omega, rfl, by omega⟩) ?_
      · rintro k ρ ⟨g, r, rfl, p1, p2, p3⟩
        by_cases hr : 0 < r
        · refine .inr ⟨_, by walk_at "ev"; rw [decide_eq_true hr], ?_⟩
          walk_at "ev"
          rw [gDiv_ii (cDiv_of (by omega) (by omega))]
          walk_at "ev"
          have := bits_half hr
          exact ⟨(r / 2).toNat, by omega, _, _, rfl, by omega, rfl, by omega⟩
        · have : r = 0 := by omega
          subst this
          refine .inl ⟨[.fz (.int v), .fz (.int m), .fz d, .fz (.int g), .fz (.int 0)], by walk_at "ev", .fz (.int 0), ?_⟩
          rw [← p3]
          simp only [forget0]
          rw [show (Builtin.Int.intBits 0 : Nat) = 0 from rfl, show g + ((0 : Nat) : Int) = g by omega]
      · rintro ρ ⟨r, rfl⟩
        have q := stp_lt q3 q4
        walk_at "ev"
        rw [gMul_ii (cMul_of (by omega) (by omega) (by omega) (by omega))]
        walk_at "ev"
        refine ⟨stp v, m + 1, _, _, _, rfl, ?_, ?_, stp_nn, q.1⟩
        · rw [show 6 - (j + 1) = k by omega]; exact q5
        · rw [show 6 - (j + 1) = k by omega]; omega
    · rw [decide_eq_false hv6]
      walk_at "ev"
      exact ⟨v, m, _, _, _, rfl, fin_le (by omega), by rw [hv_le (by omega)] at q2 ⊢; exact q2, q3, q4⟩
  · rintro ρ ⟨v, m, x, y, z, rfl, q1, q2, q3, q4⟩
    refine ⟨v, ?_⟩
    simp only [List.length_map, List.length_range] at q1 q2
    have : hv (6 - 300) v = 0 := rfl
    rw [this, Int.add_zero] at q2
    rw [← q2]
    rfl
  · rintro ρ ⟨v, rfl⟩
    walk_at "ev"

theorem pow_lt10 {j : Nat} (h : j ≤ 59) : (10 : Int) ^ j ≤ 10 ^ 59 := by
  exact_mod_cast Nat.pow_le_pow_right (n := 10) (by decide) h
theorem number_ret {m : Nat} {h : D} (H : Hd (m + 300) h) : Ret (F__law_number [.ow h]) fun s ρ => ∃ r h', s = .fz (.int r) ∧ ρ = [.ow h'] ∧ 1 ≤ r ∧ r < 10 ^ 60 ∧ Hd m h' := by
  unfold F__law_number
  walk_at "ev"
  obtain ⟨r, h1, e, q1, q2, H1⟩ := draw_spec (m := m + 299) H (n := 4) (by omega) (by omega)
  rw [e]
  walk_at "ev"
  by_cases r0 : r = 0
  · rw [decide_eq_true r0]
    walk_at "ev"
    obtain ⟨u, h2, e, q3, q4, H2⟩ := draw_spec (m := m + 298) H1 (n := 70) (by omega) (by omega)
    rw [e]
    walk_at "ev"
    exact ⟨_, _, rfl, rfl, by omega, by omega, H2.mono (by omega)⟩
  rw [decide_eq_false r0]
  walk_at "ev"
  by_cases r1 : r = 1
  · rw [decide_eq_true r1]
    walk_at "ev"
    obtain ⟨u, h2, e, q3, q4, H2⟩ := draw_spec (m := m + 298) H1 (n := 199) (by omega) (by omega)
    rw [e]
    walk_at "ev"
    rw [rng1_i (by omega)]
    walk_at "ev"
    rw [kSeq_assoc]
    refine Ret_seq2 (I := fun ρ => ∃ (v : Int) (x : Sl), ρ = [.ow h2, .fz (.int r), .no, x, .fz (.int v)] ∧ 1 ≤ v ∧ v ≤ 2 ^ 198) (Nxx_for (fun j ρ => ∃ (x : Sl), ρ = [.ow h2, .fz (.int r), .no, x, .fz (.int (2 ^ j))] ∧ j ≤ u.toNat) ⟨_, rfl, by omega⟩ ?_ ?_) ?_
    · rintro j d ρ hd ⟨x, rfl, q⟩
      have hj : j < u.toNat := by
        have := (List.getElem?_eq_some_iff.1 hd).1
        simpa using this
      refine ⟨_, rfl, ?_⟩
      walk_at "ev"
      have b1 : (2 : Int) ^ j ≤ 2 ^ 198 := by exact_mod_cast Nat.pow_le_pow_right (n := 2) (by decide) (show j ≤ 198 by omega)
      have b0 : (0 : Int) < 2 ^ j := Int.pow_pos (by decide)
      rw [gMul_ii (cMul_of (by omega) (by omega) (by omega) (by omega))]
      walk_at "ev"
      rw [Int.mul_comm, ← Int.pow_succ]
      exact ⟨.fz d, rfl, by omega⟩
    · rintro ρ ⟨x, rfl, q⟩
      have hj : (List.map (fun (i : Nat) => D.int (0 + i)) (List.range u.toNat)).length = u.toNat := by simp
      rw [hj]
      refine ⟨_, _, rfl, Int.pow_pos (by decide), ?_⟩
      exact_mod_cast Nat.pow_le_pow_right (n := 2) (by decide) (show u.toNat ≤ 198 by omega)
    · rintro ρ ⟨v, x, rfl, b1, b2⟩
      walk_at "ev"
      obtain ⟨w, h3, e, q5, q6, H3⟩ := draw_spec (m := m + 297) H2 (n := 3) (by omega) (by omega)
      rw [e]
      walk_at "ev"
      exact ⟨_, _, rfl, rfl, by split <;> omega, by split <;> omega, H3.mono (by omega)⟩
  rw [decide_eq_false r1]
  walk_at "ev"
  obtain ⟨u, h2, e, q3, q4, H2⟩ := draw_spec (m := m + 298) H1 (n := 59) (by omega) (by omega)
  rw [e]
  walk_at "ev"
  rw [rng1_i (by omega)]
  walk_at "ev"
  refine Ret_seq2 (I := fun ρ => ∃ (v : Int) (x y : Sl) (h : D), ρ = [.ow h, .fz (.int r), .fz (.int v), x, y] ∧ 0 ≤ v ∧ v < 10 ^ 59 ∧ Hd m h) (Nxx_for (fun j ρ => ∃ (v : Int) (x y : Sl) (h : D), ρ = [.ow h, .fz (.int r), .fz (.int v), x, y] ∧ 0 ≤ v ∧ v < 10 ^ j ∧ j ≤ 59 ∧ Hd (m + 298 - j) h) ⟨_, _, _, _, rfl, by omega, by decide, by omega, H2⟩ ?_ ?_) ?_
  · rintro j d ρ hd ⟨v, x, y, h, rfl, b0, b1, b2, H3⟩
    have hj : j < (1 + u).toNat := by
      have := (List.getElem?_eq_some_iff.1 hd).1
      simpa using this
    refine ⟨_, rfl, ?_⟩
    walk_at "ev"
    have b3 := pow_lt10 b2
    rw [gMul_ii (cMul_of (by omega) (by omega) (by omega) (by omega))]
    walk_at "ev"
    obtain ⟨w, h4, e, q5, q6, H4⟩ := draw_spec (m := m + 298 - (j + 1)) (H3.mono (by omega)) (n := 10) (by omega) (by omega)
    rw [e]
    walk_at "ev"
    exact ⟨_, _, _, _, rfl, by omega, by rw [Int.pow_succ]; omega, by omega, H4⟩
  · rintro ρ ⟨v, x, y, h, rfl, b0, b1, b2, H3⟩
    have b3 := pow_lt10 b2
    exact ⟨_, _, _, _, rfl, by omega, by omega, H3.mono (by omega)⟩
  · rintro ρ ⟨v, x, y, h, rfl, b0, b1, H3⟩
    walk_at "ev"
    exact ⟨_, _, rfl, rfl, by omega, by omega, H3⟩

theorem asked_ok {n : Int} (h1 : 1 ≤ n) (h2 : n ≤ 1000000000000000000000000000000000000000000000000000000000000) (hf : fin 6 n) : F__law_asked [.fz (.int n)] = .ok (.rt (.fz (.int (hv 6 n)))) [.no] := by
  unfold F__law_asked
  walk_at "ev"
  rw [halvings_spec h1 h2 hf]
  walk_at "ev"
theorem chk_bad {d : D} (h : F_check_number [.fz d, .fz (.int 1), .fz (.int 1000000000000000000000000000000000000000000000000000000000000)] = .exc "NoNumber" [] [.no, .no, .no]) : F__law_asked [.fz d] = .ok (.rt (.fz (.str "refused"))) [.no] := by
  have e1 : F_halvings [.fz d] = .exc "NoNumber" [] [.no] := by
    unfold F_halvings
    walk_at "ev"
    rw [h]
    walk_at "ev"
  unfold F__law_asked
  walk_at "ev"
  rw [e1]
  walk_at "ev"
  rw [show List.lookup (Str.ofString "NoNumber") [(Str.ofString "NearError", false), (Str.ofString "NoNumber", true)] = some true by decide +kernel]
  walk_at "ev"
  rw [show List.lookup (Str.ofString "NoNumber") [(Str.ofString "NearError", true), (Str.ofString "NoNumber", true)] = some true by decide +kernel]
  walk_at "ev"
theorem chk_int {n : Int} (h : n < 1 ∨ 1000000000000000000000000000000000000000000000000000000000000 < n) : F_check_number [.fz (.int n), .fz (.int 1), .fz (.int 1000000000000000000000000000000000000000000000000000000000000)] = .exc "NoNumber" [] [.no, .no, .no] := by
  unfold F_check_number
  walk_at "ev"
  rw [is_int]
  walk_at "ev"
  by_cases h1 : n < 1
  · rw [decide_eq_true h1]
    walk_at "ev"
  · rw [decide_eq_false h1]
    walk_at "ev"
    rw [decide_eq_true (by omega)]
    walk_at "ev"
theorem chk_not {d : D} (h : F_is_integer [.fz d] = .ok (.rt (.fz (.bl false))) [.no]) : F_check_number [.fz d, .fz (.int 1), .fz (.int 1000000000000000000000000000000000000000000000000000000000000)] = .exc "NoNumber" [] [.no, .no, .no] := by
  unfold F_check_number
  walk_at "ev"
  rw [h]
  walk_at "ev"
theorem not_int (d : D) (h : d = .bl true ∨ d = .bl false ∨ d = .non ∨ (∃ s, d = .str s) ∨ (∃ l, d = .tup l) ∨ (∃ l, d = .lst l)) : F_is_integer [.fz d] = .ok (.rt (.fz (.bl false))) [.no] := by
  unfold F_is_integer
  rcases h with rfl | rfl | rfl | ⟨l, rfl⟩ | ⟨l, rfl⟩ | ⟨l, rfl⟩ <;> walk_at "ev"
theorem stp_mono {a b : Int} (h0 : 6 < a) (h : a ≤ b) : stp a ≤ stp b := by
  have e : ∀ x : Int, 6 < x → Builtin.Int.intBits (x - 1) = (x - 1).natAbs.log2 + 1 := by
    intro x hx
    unfold Builtin.Int.intBits
    rw [if_neg (by simp; omega)]
  unfold stp
  rw [e a h0, e b (by omega)]
  have : (a - 1).natAbs.log2 ≤ (b - 1).natAbs.log2 := by
    rw [Nat.le_log2 (by omega)]
    exact Nat.le_trans (Nat.log2_self_le (by omega)) (by omega)
  omega
theorem hv_nn : ∀ {k : Nat} {n : Int}, 0 ≤ hv k n
  | 0, n => by simp [hv]
  | k + 1, n => by
    rw [hv]
    have := hv_nn (k := k) (n := stp n)
    split <;> omega
theorem hv_mono : ∀ {k : Nat} {a b : Int}, a ≤ b → hv k a ≤ hv k b
  | 0, a, b, h => Int.le_refl _
  | k + 1, a, b, h => by
    rw [hv, hv]
    by_cases ha : a > 6
    · rw [if_pos ha, if_pos (by omega)]
      have := hv_mono (k := k) (stp_mono ha h)
      omega
    · rw [if_neg ha]
      have := hv_nn (k := k) (n := stp b)
      split <;> omega
theorem stp_le {n : Int} {k : Nat} (h0 : 0 ≤ n) (h : n - 1 < 2 ^ k) (hk : 0 < k) : stp n ≤ 2 * k := by
  have := bits_le (i := n - 1) (k := k) (by
    have : (2 : Int) ^ 1 ≤ 2 ^ k := by exact_mod_cast Nat.pow_le_pow_right (n := 2) (by decide) hk
    omega) h hk
  unfold stp
  omega
theorem fin_60 {n : Int} (h0 : 0 ≤ n) (h : n ≤ 10 ^ 60) : fin 6 n := by
  have s1 := stp_le (n := n) (k := 200) h0 (by omega) (by decide)
  have s2 := stp_le (n := stp n) (k := 9) stp_nn (by omega) (by decide)
  have s3 := stp_le (n := stp (stp n)) (k := 5) stp_nn (by omega) (by decide)
  have s4 := stp_le (n := stp (stp (stp n))) (k := 4) stp_nn (by omega) (by decide)
  have s5 := stp_le (n := stp (stp (stp (stp n)))) (k := 3) stp_nn (by omega) (by decide)
  exact .inr (.inr (.inr (.inr (.inr (fin_le (by omega))))))
theorem law_go (ns : List Int) : Ret (F_law [.fz (.scr ns)]) fun s _ => s = .fz (.bl true) := by
  unfold F_law
  walk_at "ev"
  obtain ⟨h, e, H⟩ := hand_spec ns
  rw [e]
  walk_at "ev"
  refine Ret_seq2 (I := fun ρ => ∃ (h : D) (x y z u : Sl), ρ = [.fz (.scr ns), .ow h, x, .no, y, z, u] ∧ Hd 10 h) (Nxx_for (fun j ρ => ∃ (h : D) (x y z u : Sl), ρ = [.fz (.scr ns), .ow h, x, .no, y, z, u] ∧ Hd (10000 - j * 1000) h) ⟨_, _, _, _, _, rfl, H.mono (by decide)⟩ ?_ ?_) ?_
  · rintro j d ρ hd ⟨h, x, y, z, u, rfl, H⟩
    have hj : j < 8 := by
      have := (List.getElem?_eq_some_iff.1 hd).1
      simpa using this
    refine ⟨_, rfl, ?_⟩
    walk_at "ev"
    obtain ⟨_, _, e, r, h1, rfl, rfl, q1, q2, H1⟩ := (number_ret (m := 10000 - (j + 1) * 1000 + 1) (H.mono (by omega))).ex
    rw [e]
    walk_at "ev"
    rw [halvings_spec q1 (by omega) (fin_60 (by omega) (by omega))]
    walk_at "ev"
    rw [lhalvings_spec (by omega) (by omega) (fin_60 (by omega) (by omega))]
    walk_at "ev"
    rw [gPow_ii (by decide)]
    walk_at "ev"
    obtain ⟨w, h2, e, q3, q4, H2⟩ := draw_spec (m := 10000 - (j + 1) * 1000) H1 (n := r + 1) (by omega) (by omega)
    rw [e]
    walk_at "ev"
    have ho : ∃ o : Int, (if r + w < 1000000000000000000000000000000000000000000000000000000000000 then r + w else 1000000000000000000000000000000000000000000000000000000000000) = o ∧ r ≤ o ∧ o ≤ 1000000000000000000000000000000000000000000000000000000000000 := ⟨_, rfl, by split <;> omega, by split <;> omega⟩
    obtain ⟨o, ho, o1, o2⟩ := ho
    rw [ho, halvings_spec (by omega) (by omega) (fin_60 (by omega) (by omega))]
    walk_at "ev"
    have := hv_mono (k := 6) o1
    rw [decide_eq_false (by omega)]
    walk_at "ev"
    exact ⟨_, _, _, _, _, rfl, H2⟩
  · rintro ρ ⟨h, x, y, z, u, rfl, H⟩
    exact ⟨_, _, _, _, _, rfl, H.mono (by simp)⟩
  · rintro ρ ⟨h, x, y, z, u, rfl, H⟩
    walk_at "ev"
    rw [lcL_yes (α := Nat) (fun n => .int (1 + (n : Int))) (fun n => .int (hv 6 (1 + n))) [.fz (.scr ns), .ow h, x, .no, .no, z, u] (List.range 7) (by decide) fun a ha => ⟨[.fz (.scr ns), .ow h, x, .no, .fz (.int (1 + a)), z, u], [.fz (.scr ns), .ow h, x, .no, .fz (.int (1 + a)), z, u], rfl, by
      have ha := List.mem_range.1 ha
      walk_at "ev"
      rw [halvings_spec (by omega) (by omega) (fin_60 (by omega) (by omega))]
      walk_at "ev", rfl⟩]
    rw [show (List.map (fun (n : Nat) => D.int (hv 6 (1 + n))) (List.range 7)) = [.int 0, .int 0, .int 0, .int 0, .int 0, .int 0, .int 1] from by
      have : List.map (fun (n : Nat) => hv 6 (1 + n)) (List.range 7) = [0, 0, 0, 0, 0, 0, 1] := by decide +kernel
      have := congrArg (List.map D.int) this
      rw [List.map_map] at this
      exact this]
    walk_at "ev"
    rw [show gNe (.lst [.int 0, .int 0, .int 0, .int 0, .int 0, .int 0, .int 1]) (.lst [.int 0, .int 0, .int 0, .int 0, .int 0, .int 0, .int 1]) = some (.fz (.bl false)) from by rfl]
    walk_at "ev"
    rw [gPow_ii (by decide)]
    walk_at "ev"
    rw [gPow_ii (by decide)]
    walk_at "ev"
    obtain ⟨r, h1, e, q1, q2, H1⟩ := draw_spec (m := 9) H (n := 10) (by omega) (by omega)
    rw [e]
    walk_at "ev"
    have hr : r = 0 ∨ r = 1 ∨ r = 2 ∨ r = 3 ∨ r = 4 ∨ r = 5 ∨ r = 6 ∨ r = 7 ∨ r = 8 ∨ r = 9 := by omega
    rcases hr with rfl | rfl | rfl | rfl | rfl | rfl | rfl | rfl | rfl | rfl
    all_goals
      walk_at "ev"
      first
        | rw [chk_bad (chk_int (by omega))]
        | rw [chk_bad (chk_not (not_int _ (by simp)))]
      walk_at "ev"
      rw [gPow_ii (by decide)]
      walk_at "ev"
      rw [asked_ok (by decide) (by decide) (fin_60 (by decide) (by decide))]
      walk_at "ev"
      rw [gPow_ii (by decide)]
      walk_at "ev"
      rw [lhalvings_spec (by decide) (by decide) (fin_60 (by decide) (by decide))]
      walk_at "ev"

theorem law_done (ns : List Int) (_ : ns.length ≤ 63) : ∃ ρ', F_law [.fz (.scr ns)] = .ok (.rt (.fz (.bl true))) ρ' := by
  obtain ⟨s, ρ, e, rfl⟩ := (law_go ns).ex
  exact ⟨ρ, e⟩

def facts : List Fi := [.he (.free "bool"), .he (.free "int"), .he (.free "isinstance"), .he (.free "abs"), .he (.free "len"), .he (.free "range"), .he (.free "max"), .he (.free "min"), .he (.glo "NoNumber"), .he (.exc "NoNumber"), .he (.glo "NearError"), .he (.exm "NearError" "NoNumber" false), .he (.exm "NoNumber" "NoNumber" true), .isc "NearError", .kit "NearError" "NearError" true, .isc "NoNumber", .kit "NoNumber" "NearError" true]
theorem all_mk {P : Program} {w : World} {K : PySem.W.Frag} {h : Heap} {mg : Str → Option Value} {lv : List (Str × PySem.W.WData)} {f_is_integer : Addr} {oc_is_integer kV_is_integer doc_is_integer pm_is_integer cdv_is_integer ct_is_integer : Value} {od_is_integer an_is_integer : Option Addr} {osl_is_integer : Array (Option Value)}
    {f_check_number : Addr} {oc_check_number kV_check_number doc_check_number pm_check_number cdv_check_number ct_check_number : Value} {od_check_number an_check_number : Option Addr} {osl_check_number : Array (Option Value)}
    {f_halved : Addr} {oc_halved kV_halved doc_halved pm_halved cdv_halved ct_halved : Value} {od_halved an_halved : Option Addr} {osl_halved : Array (Option Value)}
    {f_halvings : Addr} {oc_halvings kV_halvings doc_halvings pm_halvings cdv_halvings ct_halvings : Value} {od_halvings an_halvings : Option Addr} {osl_halvings : Array (Option Value)}
    {f__law_hand : Addr} {oc__law_hand kV__law_hand doc__law_hand pm__law_hand cdv__law_hand ct__law_hand : Value} {od__law_hand an__law_hand : Option Addr} {osl__law_hand : Array (Option Value)}
    {f__law_draw : Addr} {oc__law_draw kV__law_draw doc__law_draw pm__law_draw cdv__law_draw ct__law_draw : Value} {od__law_draw an__law_draw : Option Addr} {osl__law_draw : Array (Option Value)}
    {f__law_halvings : Addr} {oc__law_halvings kV__law_halvings doc__law_halvings pm__law_halvings cdv__law_halvings ct__law_halvings : Value} {od__law_halvings an__law_halvings : Option Addr} {osl__law_halvings : Array (Option Value)}
    {f__law_number : Addr} {oc__law_number kV__law_number doc__law_number pm__law_number cdv__law_number ct__law_number : Value} {od__law_number an__law_number : Option Addr} {osl__law_number : Array (Option Value)}
    {f__law_asked : Addr} {oc__law_asked kV__law_asked doc__law_asked pm__law_asked cdv__law_asked ct__law_asked : Value} {od__law_asked an__law_asked : Option Addr} {osl__law_asked : Array (Option Value)}
    {f_law : Addr} {oc_law kV_law doc_law pm_law cdv_law ct_law : Value} {od_law an_law : Option Addr} {osl_law : Array (Option Value)}
    (X : K.In h) (G : h.Ns mainGlobals mg) (V : PySem.W.LooseAre lv mg h) (fi : fisOk K facts = true)
    (K_SORTS : ∃ t, mg "SORTS" = some (.int 6 t))
    (K_MOST_BOUND : ∃ t, mg "MOST_BOUND" = some (.int 1000000000000000000000000000000000000000000000000000000000000 t))
    (a_is_integer : PySem.W.nsIn K mainGlobals "is_integer" = some (some (.ref f_is_integer))) (l_is_integer : K.lookup f_is_integer = some ⟨oc_is_integer, od_is_integer, .func (PySem.W.fnOf "is_integer" "is_integer" (defArgs s_is_integer) (defBody s_is_integer) (defScope s_is_integer) .none kV_is_integer doc_is_integer pm_is_integer an_is_integer cdv_is_integer ct_is_integer), osl_is_integer⟩) (c_is_integer : PySem.W.codeIn K cdv_is_integer "is_integer" = true) (k_is_integer : PySem.W.keepIn K (.ref f_is_integer) = true)
    (a_check_number : PySem.W.nsIn K mainGlobals "check_number" = some (some (.ref f_check_number))) (l_check_number : K.lookup f_check_number = some ⟨oc_check_number, od_check_number, .func (PySem.W.fnOf "check_number" "check_number" (defArgs s_check_number) (defBody s_check_number) (defScope s_check_number) .none kV_check_number doc_check_number pm_check_number an_check_number cdv_check_number ct_check_number), osl_check_number⟩) (c_check_number : PySem.W.codeIn K cdv_check_number "check_number" = true) (k_check_number : PySem.W.keepIn K (.ref f_check_number) = true)
    (a_halved : PySem.W.nsIn K mainGlobals "halved" = some (some (.ref f_halved))) (l_halved : K.lookup f_halved = some ⟨oc_halved, od_halved, .func (PySem.W.fnOf "halved" "halved" (defArgs s_halved) (defBody s_halved) (defScope s_halved) .none kV_halved doc_halved pm_halved an_halved cdv_halved ct_halved), osl_halved⟩) (c_halved : PySem.W.codeIn K cdv_halved "halved" = true) (k_halved : PySem.W.keepIn K (.ref f_halved) = true)
    (a_halvings : PySem.W.nsIn K mainGlobals "halvings" = some (some (.ref f_halvings))) (l_halvings : K.lookup f_halvings = some ⟨oc_halvings, od_halvings, .func (PySem.W.fnOf "halvings" "halvings" (defArgs s_halvings) (defBody s_halvings) (defScope s_halvings) .none kV_halvings doc_halvings pm_halvings an_halvings cdv_halvings ct_halvings), osl_halvings⟩) (c_halvings : PySem.W.codeIn K cdv_halvings "halvings" = true) (k_halvings : PySem.W.keepIn K (.ref f_halvings) = true)
    (a__law_hand : PySem.W.nsIn K mainGlobals "_law_hand" = some (some (.ref f__law_hand))) (l__law_hand : K.lookup f__law_hand = some ⟨oc__law_hand, od__law_hand, .func (PySem.W.fnOf "_law_hand" "_law_hand" (defArgs s__law_hand) (defBody s__law_hand) (defScope s__law_hand) .none kV__law_hand doc__law_hand pm__law_hand an__law_hand cdv__law_hand ct__law_hand), osl__law_hand⟩) (c__law_hand : PySem.W.codeIn K cdv__law_hand "_law_hand" = true) (k__law_hand : PySem.W.keepIn K (.ref f__law_hand) = true)
    (a__law_draw : PySem.W.nsIn K mainGlobals "_law_draw" = some (some (.ref f__law_draw))) (l__law_draw : K.lookup f__law_draw = some ⟨oc__law_draw, od__law_draw, .func (PySem.W.fnOf "_law_draw" "_law_draw" (defArgs s__law_draw) (defBody s__law_draw) (defScope s__law_draw) .none kV__law_draw doc__law_draw pm__law_draw an__law_draw cdv__law_draw ct__law_draw), osl__law_draw⟩) (c__law_draw : PySem.W.codeIn K cdv__law_draw "_law_draw" = true) (k__law_draw : PySem.W.keepIn K (.ref f__law_draw) = true)
    (a__law_halvings : PySem.W.nsIn K mainGlobals "_law_halvings" = some (some (.ref f__law_halvings))) (l__law_halvings : K.lookup f__law_halvings = some ⟨oc__law_halvings, od__law_halvings, .func (PySem.W.fnOf "_law_halvings" "_law_halvings" (defArgs s__law_halvings) (defBody s__law_halvings) (defScope s__law_halvings) .none kV__law_halvings doc__law_halvings pm__law_halvings an__law_halvings cdv__law_halvings ct__law_halvings), osl__law_halvings⟩) (c__law_halvings : PySem.W.codeIn K cdv__law_halvings "_law_halvings" = true) (k__law_halvings : PySem.W.keepIn K (.ref f__law_halvings) = true)
    (a__law_number : PySem.W.nsIn K mainGlobals "_law_number" = some (some (.ref f__law_number))) (l__law_number : K.lookup f__law_number = some ⟨oc__law_number, od__law_number, .func (PySem.W.fnOf "_law_number" "_law_number" (defArgs s__law_number) (defBody s__law_number) (defScope s__law_number) .none kV__law_number doc__law_number pm__law_number an__law_number cdv__law_number ct__law_number), osl__law_number⟩) (c__law_number : PySem.W.codeIn K cdv__law_number "_law_number" = true) (k__law_number : PySem.W.keepIn K (.ref f__law_number) = true)
    (a__law_asked : PySem.W.nsIn K mainGlobals "_law_asked" = some (some (.ref f__law_asked))) (l__law_asked : K.lookup f__law_asked = some ⟨oc__law_asked, od__law_asked, .func (PySem.W.fnOf "_law_asked" "_law_asked" (defArgs s__law_asked) (defBody s__law_asked) (defScope s__law_asked) .none kV__law_asked doc__law_asked pm__law_asked an__law_asked cdv__law_asked ct__law_asked), osl__law_asked⟩) (c__law_asked : PySem.W.codeIn K cdv__law_asked "_law_asked" = true) (k__law_asked : PySem.W.keepIn K (.ref f__law_asked) = true)
    (a_law : PySem.W.nsIn K mainGlobals "law" = some (some (.ref f_law))) (l_law : K.lookup f_law = some ⟨oc_law, od_law, .func (PySem.W.fnOf "law" "law" (defArgs s_law) (defBody s_law) (defScope s_law) .none kV_law doc_law pm_law an_law cdv_law ct_law), osl_law⟩) (c_law : PySem.W.codeIn K cdv_law "law" = true) (k_law : PySem.W.keepIn K (.ref f_law) = true) :
    ∃ (f : Addr) (fd : FuncData), mg "law" = some (.ref f) ∧ (∀ (s : Shared) (u : Value), BindsTo s fd ⟨[u], []⟩ [("_law_script", u)]) ∧
      ∀ base : Heap, K.In base → base.Ns mainGlobals mg → FnOk P w K mg base (L2.CX P w) 5 f fd ["_law_script"] (spF K mg [false] F_law) := by
  have z_bool := He.free_ok (x := "bool") X G (fh_at fi 0)
  have z_int := He.free_ok (x := "int") X G (fh_at fi 1)
  have z_isinstance := He.free_ok (x := "isinstance") X G (fh_at fi 2)
  have FN_is_integer := funAt_mk (x := "is_integer") (st := s_is_integer) (ps := P_is_integer) X G a_is_integer l_is_integer c_is_integer k_is_integer (fun _ _ _ _ _ _ us hl => match us, hl with | [_], _ => rfl)
  have x_NoNumber := excAtK_of (x := "NoNumber") X G (fh_at fi 8) (fh_at fi 9)
  have FN_check_number := funAt_mk (x := "check_number") (st := s_check_number) (ps := P_check_number) X G a_check_number l_check_number c_check_number k_check_number (fun _ _ _ _ _ _ us hl => match us, hl with | [_, _, _], _ => rfl)
  have FN_halved := funAt_mk (x := "halved") (st := s_halved) (ps := P_halved) X G a_halved l_halved c_halved k_halved (fun _ _ _ _ _ _ us hl => match us, hl with | [_], _ => rfl)
  have FN_halvings := funAt_mk (x := "halvings") (st := s_halvings) (ps := P_halvings) X G a_halvings l_halvings c_halvings k_halvings (fun _ _ _ _ _ _ us hl => match us, hl with | [_], _ => rfl)
  have z_abs := He.free_ok (x := "abs") X G (fh_at fi 3)
  have z_len := He.free_ok (x := "len") X G (fh_at fi 4)
  have FN__law_hand := funAt_mk (x := "_law_hand") (st := s__law_hand) (ps := P__law_hand) X G a__law_hand l__law_hand c__law_hand k__law_hand (fun _ _ _ _ _ _ us hl => match us, hl with | [_], _ => rfl)
  have FN__law_draw := funAt_mk (x := "_law_draw") (st := s__law_draw) (ps := P__law_draw) X G a__law_draw l__law_draw c__law_draw k__law_draw (fun _ _ _ _ _ _ us hl => match us, hl with | [_, _], _ => rfl)
  have z_range := He.free_ok (x := "range") X G (fh_at fi 5)
  have FN__law_halvings := funAt_mk (x := "_law_halvings") (st := s__law_halvings) (ps := P__law_halvings) X G a__law_halvings l__law_halvings c__law_halvings k__law_halvings (fun _ _ _ _ _ _ us hl => match us, hl with | [_], _ => rfl)
  have z_max := He.free_ok (x := "max") X G (fh_at fi 6)
  have FN__law_number := funAt_mk (x := "_law_number") (st := s__law_number) (ps := P__law_number) X G a__law_number l__law_number c__law_number k__law_number (fun _ _ _ _ _ _ us hl => match us, hl with | [_], _ => rfl)
  have g_NoNumber := (⟨_, He.glo_ok (x := "NoNumber") X G (fh_at fi 8)⟩ : ∃ C, mg "NoNumber" = some (.ref C))
  have m_NoNumber := mtK_of (y := "NoNumber") (tab := [("NearError", false), ("NoNumber", true)]) X G (fh_at fi 8) (fun p hp => by
    simp only [List.mem_cons, List.not_mem_nil, or_false] at hp
    rcases hp with rfl | rfl
    · exact ⟨fh_at fi 10, fh_at fi 11⟩
    · exact ⟨fh_at fi 8, fh_at fi 12⟩)
  have i_NearError := isK_of (y := "NearError") (tab := [("NearError", true), ("NoNumber", true)]) X G (fh_at fi 10) (fun p hp => by
    simp only [List.mem_cons, List.not_mem_nil, or_false] at hp
    rcases hp with rfl | rfl
    · exact ⟨fh_at fi 10, fi_at fi 13, fi_at fi 14⟩
    · exact ⟨fh_at fi 8, fi_at fi 15, fi_at fi 16⟩)
  have FN__law_asked := funAt_mk (x := "_law_asked") (st := s__law_asked) (ps := P__law_asked) X G a__law_asked l__law_asked c__law_asked k__law_asked (fun _ _ _ _ _ _ us hl => match us, hl with | [_], _ => rfl)
  have z_min := He.free_ok (x := "min") X G (fh_at fi 7)
  have FN_law := funAt_mk (x := "law") (st := s_law) (ps := P_law) X G a_law l_law c_law k_law (fun _ _ _ _ _ _ us hl => match us, hl with | [_], _ => rfl)
  exact ⟨_, PySem.W.fnOf "law" "law" (defArgs s_law) (defBody s_law) (defScope s_law) .none kV_law doc_law pm_law an_law cdv_law ct_law, PySem.W.mg_of X G a_law, fun s u => .of_eq rfl, fun base _ _ => by
    have d_is_integer := dF_mk FN_is_integer (ok_is_integer (P := P) (w := w) (base := base) z_bool z_int z_isinstance)
    have d_check_number := dF_mk FN_check_number (ok_check_number (P := P) (w := w) (base := base) x_NoNumber d_is_integer)
    have d_halved := dF_mk FN_halved (ok_halved (P := P) (w := w) (base := base) K_SORTS)
    have d_halvings := dF_mk FN_halvings (ok_halvings (P := P) (w := w) (base := base) K_MOST_BOUND d_check_number d_halved)
    have d__law_hand := dF_mk FN__law_hand (ok__law_hand (P := P) (w := w) (base := base) z_abs z_int z_len)
    have d__law_draw := dF_mk FN__law_draw (ok__law_draw (P := P) (w := w) (base := base) z_int z_len)
    have d__law_halvings := dF_mk FN__law_halvings (ok__law_halvings (P := P) (w := w) (base := base) z_range)
    have d__law_number := dF_mk FN__law_number (ok__law_number (P := P) (w := w) (base := base) z_max z_range d__law_draw)
    have d__law_asked := dF_mk FN__law_asked (ok__law_asked (P := P) (w := w) (base := base) z_isinstance g_NoNumber m_NoNumber i_NearError d_halvings)
    exact ok_law (P := P) (w := w) (base := base) z_bool z_isinstance z_min z_range d__law_asked d__law_draw d__law_halvings d__law_hand d__law_number d_halvings (fun_mk l_law c_law k_law)⟩
end LW
open PySem PySem.W PyProof.Rows FV
set_option maxRecDepth 100000 in
set_option maxHeartbeats 40000000 in
theorem PySem.Challenge.cw_nearwish_k52_halvings_holds : PySem.Challenge.rw_nearwish_k52_halvings.Holds := by
  w_on; o_law; k_head; (case hw => w_witness2)
  k_fill
  refine FV.walk_law (l := PySem.Challenge.rw_nearwish_k52_halvings) (n := 63) (k := 5) (x := "_law_script") (G := LW.F_law) rfl (by decide) rfl ⟨rfl, by decide, by decide⟩ (fun w h Y => PySem.W.kIn_of Y) ?F LW.law_done
  case F =>
    intro w mg h X G V
    refine' LW.all_mk X G V ?fi ?K_SORTS ?K_MOST_BOUND ?a_is_integer ?l_is_integer ?c_is_integer ?k_is_integer ?a_check_number ?l_check_number ?c_check_number ?k_check_number ?a_halved ?l_halved ?c_halved ?k_halved ?a_halvings ?l_halvings ?c_halvings ?k_halvings ?a__law_hand ?l__law_hand ?c__law_hand ?k__law_hand ?a__law_draw ?l__law_draw ?c__law_draw ?k__law_draw ?a__law_halvings ?l__law_halvings ?c__law_halvings ?k__law_halvings ?a__law_number ?l__law_number ?c__law_number ?k__law_number ?a__law_asked ?l__law_asked ?c__law_asked ?k__law_asked ?a_law ?l_law ?c_law ?k_law
    (case a_is_integer => k_is); (case l_is_integer => k_is); (case c_is_integer => k_is); (case k_is_integer => k_is)
    (case a_check_number => k_is); (case l_check_number => k_is); (case c_check_number => k_is); (case k_check_number => k_is)
    (case a_halved => k_is); (case l_halved => k_is); (case c_halved => k_is); (case k_halved => k_is)
    (case a_halvings => k_is); (case l_halvings => k_is); (case c_halvings => k_is); (case k_halvings => k_is)
    (case a__law_hand => k_is); (case l__law_hand => k_is); (case c__law_hand => k_is); (case k__law_hand => k_is)
    (case a__law_draw => k_is); (case l__law_draw => k_is); (case c__law_draw => k_is); (case k__law_draw => k_is)
    (case a__law_halvings => k_is); (case l__law_halvings => k_is); (case c__law_halvings => k_is); (case k__law_halvings => k_is)
    (case a__law_number => k_is); (case l__law_number => k_is); (case c__law_number => k_is); (case k__law_number => k_is)
    (case a__law_asked => k_is); (case l__law_asked => k_is); (case c__law_asked => k_is); (case k__law_asked => k_is)
    (case a_law => k_is); (case l_law => k_is); (case c_law => k_is); (case k_law => k_is)
    (case fi => kernel_rfl)
    (case K_SORTS => first | exact He.int_ok X G (by kernel_rfl) | exact He.str_ok X G (by kernel_rfl) | exact loose_int V (by simp [PySem.W.scalarsOf]))
    (case K_MOST_BOUND => first | exact He.int_ok X G (by kernel_rfl) | exact He.str_ok X G (by kernel_rfl) | exact loose_int V (by simp [PySem.W.scalarsOf]))
