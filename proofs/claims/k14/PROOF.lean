import PyProof.Rows.All
import Wide.All
import OpenK.AllK
import Wide.FinOn
import HandS.ForMost
import HandS.ForExc
import HandS.Wide
import HandS.WideBits
import HandS.IsInst
import HandS.Small
import HandS.TryMany
import HandS.ExcIs
import HandS.ExcField
import HandS.HeadHook1
import HandS.Ends
import HandS.DictComp
import HandS.Iter
import HandS.Text
import HandS.Steps
import HandS.Comp
import HandS.Strs
import PyProof.StrWalks
import HandS.Deep
import HandS.Conv
import PyProof.ListStr
import PyProof.TupleOfStr
import HandS.Style
import KE.GoesMore
import KE.OsArith
import KE.SortData
import KE.DataCmp
import HandS.List
import PyProof.Rows.StrFirst
import KE.OsSortAny
import KE.OsGo
import KE.OsRunLaw
import PySem.Challenge.RW_nearwish_k14_whole_tables_of_words
set_option Elab.async false
set_option linter.all false
set_option maxRecDepth 100000
set_option maxHeartbeats 4000000
set_option exponentiation.threshold 3000
/-! FV: values as data over the hand layer. Frozen data, owned lists; expressions and statements as functions of environments. -/
namespace FV
open PySem PySem.Spec PyProof.Rows L2

/-- data -/
inductive D where
  | non | bl (b : Bool) | int (i : Int) | str (x : Str)
  | lst (xs : List D) | tup (xs : List D) | dic (kvs : List (Key × D))
  | ins (c : Str) (fs : List (Str × D)) | scr (ns : List Int) | ty (n : String) | cls (c : Str)

/-- owned trees: frozen leaves, owned nodes -/
inductive TH where
  | ls | dc (ks : List Key) | is (c : Str) (fs : List Str)
inductive T where
  | lf (d : D) | nd (h : TH) (ts : List T)
mutual
def T.strip : T → D
  | .lf d => d
  | .nd h ts => match h with
    | .ls => .lst (T.stripL ts)
    | .dc ks => .dic (ks.zip (T.stripL ts))
    | .is c fs => .ins c (fs.zip (T.stripL ts))
def T.stripL : List T → List D
  | [] => []
  | t :: ts => t.strip :: T.stripL ts
end
def kids : HO → List V
  | .lst xs => xs
  | .dK kvs => kvs.map (·.2)
  | .ins _ _ vs => vs.map (·.2)
  | _ => []
mutual
/-- the addresses of an owned tree's nodes -/
def fpT (H : Hp) (v : V) : T → List Addr
  | .lf _ => []
  | .nd _ ts => match v with
    | .ref a => a :: fpL H (((H a).map kids).getD []) ts
    | _ => []
def fpL (H : Hp) (vs : List V) : List T → List Addr
  | [] => []
  | t :: ts => match vs with
    | v :: vs => fpT H v t ++ fpL H vs ts
    | [] => []
end

/-! ### the frozen heap grows -/
inductive Sub : HO → HO → Prop
  | rfl {o : HO} : Sub o o
  | lock {od : Obj} {k : List (Key × V)} : Sub (.dK k) (.frz od (.dK k))
theorem Sub.trans {a b c : HO} (h : Sub a b) (k : Sub b c) : Sub a c := by
  cases h with
  | rfl => exact k
  | lock => cases k with
    | rfl => exact .lock
def Ext (B B' : Hp) : Prop := ∀ b o, B b = some o → ∃ o', B' b = some o' ∧ Sub o o'
theorem Ext.refl (B : Hp) : Ext B B := fun _ o h => ⟨o, h, .rfl⟩
theorem Ext.trans {B B1 B2 : Hp} (e : Ext B B1) (f : Ext B1 B2) : Ext B B2 := fun b o h => by
  obtain ⟨o1, h1, s1⟩ := e b o h
  obtain ⟨o2, h2, s2⟩ := f b o1 h1
  exact ⟨o2, h2, s1.trans s2⟩
theorem Ext.new {B : Hp} {p : Addr} {o : HO} (h : B p = none) : Ext B (upd B p o) := fun b u e => ⟨u, by rw [upd_ne (ne_of_none e h)]; exact e, .rfl⟩
theorem Ext.lst {B B' : Hp} (e : Ext B B') {a : Addr} {xs : List V} (h : B a = some (.lst xs)) : B' a = some (.lst xs) := by
  obtain ⟨o, h1, s⟩ := e a _ h
  cases s
  exact h1
theorem Ext.tup {B B' : Hp} (e : Ext B B') {a : Addr} {xs : List V} (h : B a = some (.tup xs)) : B' a = some (.tup xs) := by
  obtain ⟨o, h1, s⟩ := e a _ h
  cases s
  exact h1
theorem Ext.ins {B B' : Hp} (e : Ext B B') {a C dx : Addr} {vs : List (Str × V)} (h : B a = some (.ins C dx vs)) : B' a = some (.ins C dx vs) := by
  obtain ⟨o, h1, s⟩ := e a _ h
  cases s
  exact h1
theorem Ext.xd {B B' : Hp} (e : Ext B B') {a : Addr} {vs : List (Str × V)} (h : B a = some (.xd vs)) : B' a = some (.xd vs) := by
  obtain ⟨o, h1, s⟩ := e a _ h
  cases s
  exact h1
theorem Ext.rdk {B B' : Hp} (e : Ext B B') {a : Addr} {kvs : List (Key × V)} (h : Rd B a (.dK kvs)) : Rd B' a (.dK kvs) := by
  rcases h with h | ⟨od, h⟩
  · obtain ⟨o, h1, s⟩ := e a _ h
    cases s with
    | rfl => exact .inl h1
    | lock => exact .inr ⟨_, h1⟩
  · obtain ⟨o, h1, s⟩ := e a _ h
    cases s with
    | rfl => exact .inr ⟨_, h1⟩
theorem Ext.frz {B B' : Hp} (e : Ext B B') {a : Addr} {od : Obj} {u : HO} (h : B a = some (.frz od u)) : B' a = some (.frz od u) := by
  obtain ⟨o, h1, s⟩ := e a _ h
  cases s
  exact h1
theorem Ext.sql {K : PySem.W.Frag} {B B' : Hp} (e : Ext B B') {a : Addr} {xs : List V} (h : SqL K B a xs) : SqL K B' a xs := by
  rcases h with (h | ⟨od, h⟩) | h
  · exact .inl (.inl (e.lst h))
  · obtain ⟨o, h1, s⟩ := e a _ h
    cases s
    exact .inl (.inr ⟨_, h1⟩)
  · exact .inr h
theorem Ext.none_of {B B' : Hp} (e : Ext B B') {a : Addr} (h : B' a = none) : B a = none := by
  cases q : B a with
  | none => rfl
  | some o =>
    obtain ⟨o', h1, _⟩ := e a o q
    rw [h] at h1; cases h1

/-! ### what a value stands for in the frozen heap -/
section
variable (K : PySem.W.Frag) (mg : Str → Option Value) (B : Hp)
mutual
inductive Rep : V → D → Prop
  | non : Rep .non .non
  | bl (b : Bool) : Rep (.bl b) (.bl b)
  | int (i : Int) : Rep (.int i) (.int i)
  | str (x : Str) : Rep (.str x) (.str x)
  | lst {a : Addr} {xs : List V} {ds : List D} : B a = some (.lst xs) → RepL xs ds → Rep (V.ref a) (.lst ds)
  | tup {a : Addr} {xs : List V} {ds : List D} : B a = some (.tup xs) → RepL xs ds → Rep (V.ref a) (.tup ds)
  | dic {a : Addr} {kvs : List (Key × V)} {kds : List (Key × D)} : Rd B a (.dK kvs) → kvs.map (·.1) = kds.map (·.1) → RepL (kvs.map (·.2)) (kds.map (·.2)) → Rep (V.ref a) (.dic kds)
  | ins {a C dx : Addr} {c : Str} {vs : List (Str × V)} {fs : List (Str × D)} : mg c = some (Value.ref C) → B a = some (.ins C dx vs) → vs.map (·.1) = fs.map (·.1) → RepF vs fs → Rep (V.ref a) (.ins c fs)
  | scr {a : Addr} {ns : List Int} : SqL K B a (ns.map V.int) → Rep (V.ref a) (.scr ns)
  | ty (n : String) : Rep (.ty n) (.ty n)
  | cls {c : Str} {C : Addr} : mg c = some (Value.ref C) → Rep (V.ref C) (.cls c)
inductive RepL : List V → List D → Prop
  | nil : RepL [] []
  | cons {v : V} {vs : List V} {d : D} {ds : List D} : Rep v d → RepL vs ds → RepL (v :: vs) (d :: ds)
inductive RepF : List (Str × V) → List (Str × D) → Prop
  | nil {vs : List (Str × V)} : RepF vs []
  | cons {vs : List (Str × V)} {f : Str} {v : V} {d : D} {fs : List (Str × D)} : vs.lookup f = some v → Rep v d → RepF vs fs → RepF vs ((f, d) :: fs)
end
end
section
variable {K : PySem.W.Frag} {mg : Str → Option Value} {B B' : Hp}
theorem Rep.mono (e : Ext B B') {v : V} {d : D} (h : Rep K mg B v d) : Rep K mg B' v d :=
  Rep.rec (motive_1 := fun v d _ => Rep K mg B' v d) (motive_2 := fun xs ds _ => RepL K mg B' xs ds) (motive_3 := fun vs fs _ => RepF K mg B' vs fs)
    .non .bl .int .str (fun h _ q => .lst (e.lst h) q) (fun h _ q => .tup (e.tup h) q) (fun h k _ q => .dic (e.rdk h) k q) (fun m h k _ q => .ins m (e.ins h) k q) (fun h => .scr (e.sql h)) .ty (fun h => .cls h)
    .nil (fun _ _ p q => .cons p q) .nil (fun l _ _ p q => .cons l p q) h
theorem RepL.mono (e : Ext B B') : ∀ {xs : List V} {ds : List D}, RepL K mg B xs ds → RepL K mg B' xs ds
  | _, _, .nil => .nil
  | _, _, .cons p q => .cons (p.mono e) (RepL.mono e q)
theorem RepF.mono (e : Ext B B') : ∀ {vs : List (Str × V)} {fs : List (Str × D)}, RepF K mg B vs fs → RepF K mg B' vs fs
  | _, _, .nil => .nil
  | _, _, .cons l p q => .cons l (p.mono e) (RepF.mono e q)
theorem RepL.length : ∀ {xs : List V} {ds : List D}, RepL K mg B xs ds → xs.length = ds.length
  | _, _, .nil => rfl
  | _, _, .cons _ q => by rw [List.length_cons, List.length_cons, RepL.length q]
theorem RepL.get : ∀ {xs : List V} {ds : List D} {i : Nat} {d : D}, RepL K mg B xs ds → ds[i]? = some d → ∃ v, xs[i]? = some v ∧ Rep K mg B v d
  | _, _, _, _, .nil, h => by simp at h
  | _, _, 0, d, .cons p q, h => by simp at h; subst h; exact ⟨_, rfl, p⟩
  | _, _, i + 1, d, .cons p q, h => by
    obtain ⟨v, h1, h2⟩ := RepL.get (i := i) (d := d) q (by simpa using h)
    exact ⟨v, by simpa using h1, h2⟩
theorem RepL.getV : ∀ {xs : List V} {ds : List D} {i : Nat} {v : V}, RepL K mg B xs ds → xs[i]? = some v → ∃ d, ds[i]? = some d ∧ Rep K mg B v d
  | _, _, _, _, .nil, h => by simp at h
  | _, _, 0, d, .cons p q, h => by simp at h; subst h; exact ⟨_, rfl, p⟩
  | _, _, i + 1, d, .cons p q, h => by
    obtain ⟨v, h1, h2⟩ := RepL.getV (i := i) (v := d) q (by simpa using h)
    exact ⟨v, by simpa using h1, h2⟩
theorem RepL.set {v : V} {d : D} (r : Rep K mg B v d) : ∀ {xs : List V} {ds : List D} (i : Nat), RepL K mg B xs ds → RepL K mg B (xs.set i v) (ds.set i d)
  | _, _, _, .nil => .nil
  | _, _, 0, .cons _ q => .cons r q
  | _, _, i + 1, .cons p q => .cons p (RepL.set r i q)
theorem RepL.append : ∀ {xs ys : List V} {ds es : List D}, RepL K mg B xs ds → RepL K mg B ys es → RepL K mg B (xs ++ ys) (ds ++ es)
  | _, _, _, _, .nil, s => s
  | _, _, _, _, .cons p q, s => .cons p (RepL.append q s)
theorem RepL.take : ∀ {xs : List V} {ds : List D} (n : Nat), RepL K mg B xs ds → RepL K mg B (xs.take n) (ds.take n)
  | _, _, 0, _ => .nil
  | _, _, _ + 1, .nil => .nil
  | _, _, n + 1, .cons p q => .cons p (RepL.take n q)
theorem RepL.drop : ∀ {xs : List V} {ds : List D} (n : Nat), RepL K mg B xs ds → RepL K mg B (xs.drop n) (ds.drop n)
  | _, _, 0, r => r
  | _, _, _ + 1, .nil => .nil
  | _, _, n + 1, .cons p q => RepL.drop n q
theorem RepL.reverse {xs : List V} {ds : List D} (h : RepL K mg B xs ds) : RepL K mg B xs.reverse ds.reverse := by
  induction xs generalizing ds with
  | nil => cases h; exact .nil
  | cons x xs ih =>
    cases h with
    | cons p q =>
      rw [List.reverse_cons, List.reverse_cons]
      exact (ih q).append (.cons p .nil)
theorem RepL.map {α : Type} {f : α → V} {g : α → D} (h : ∀ x, Rep K mg B (f x) (g x)) : ∀ xs : List α, RepL K mg B (xs.map f) (xs.map g)
  | [] => .nil
  | x :: r => .cons (h x) (RepL.map h r)
theorem RepF.get : ∀ {vs : List (Str × V)} {fs : List (Str × D)} {f : Str} {d : D}, RepF K mg B vs fs → fs.lookup f = some d → ∃ v, vs.lookup f = some v ∧ Rep K mg B v d
  | _, _, _, _, .nil, h => by simp at h
  | _, _, f, d, .cons (f := g) l p q, h => by
    rw [List.lookup_cons] at h
    by_cases e : f == g
    · rw [e] at h
      cases h
      have e' : f = g := by simpa using e
      subst e'
      exact ⟨_, l, p⟩
    · rw [Bool.not_eq_true _ |>.mp e] at h
      exact RepF.get q h
/-- of paired fields -/
theorem RepF.of : ∀ {vs : List (Str × V)} {fs : List (Str × D)}, (∀ f d, fs.lookup f = some d → ∃ v, vs.lookup f = some v ∧ Rep K mg B v d) → (fs.map (·.1)).Nodup → RepF K mg B vs fs
  | _, [], _, _ => .nil
  | vs, (f, d) :: fs, h, nd => by
    obtain ⟨v, l, r⟩ := h f d (by rw [List.lookup_cons, beq_self_eq_true])
    rw [List.map_cons, List.nodup_cons] at nd
    refine .cons l r (RepF.of (fun g e k => h g e ?_) nd.2)
    rw [List.lookup_cons]
    by_cases q : g == f
    · have q' : g = f := by simpa using q
      subst q'
      exfalso
      apply nd.1
      clear h nd l r
      induction fs with
      | nil => simp at k
      | cons p ps ih =>
        obtain ⟨f', d'⟩ := p
        rw [List.lookup_cons] at k
        by_cases z : g == f'
        · have z' : g = f' := by simpa using z
          subst z'
          exact List.mem_cons_self
        · rw [Bool.not_eq_true _ |>.mp z] at k
          exact List.mem_cons_of_mem _ (ih k)
    · rw [Bool.not_eq_true _ |>.mp q]
      exact k
end

/-! ### owned trees -/
section
variable (K : PySem.W.Frag) (mg : Str → Option Value) (B H : Hp)
def headOk (h : TH) (o : HO) : Prop := match h with
  | .ls => ∃ xs, o = .lst xs
  | .dc ks => ∃ kvs, o = .dK kvs ∧ kvs.map (·.1) = ks
  | .is c fs => ∃ C dx vs, mg c = some (Value.ref C) ∧ o = .ins C dx vs ∧ vs.map (·.1) = fs ∧ fs.Nodup
mutual
inductive OwT : V → T → Prop
  | lf {v : V} {d : D} : Rep K mg B v d → OwT v (.lf d)
  | nd {a : Addr} {o : HO} {h : TH} {ts : List T} : H a = some o → headOk mg h o → OwL (kids o) ts → OwT (V.ref a) (.nd h ts)
inductive OwL : List V → List T → Prop
  | nil : OwL [] []
  | cons {v : V} {vs : List V} {t : T} {ts : List T} : OwT v t → OwL vs ts → OwL (v :: vs) (t :: ts)
end
end
section
variable {K : PySem.W.Frag} {mg : Str → Option Value} {B B' H H' : Hp}
theorem fpT_nd {a : Addr} {o : HO} {h : TH} {ts : List T} (e : H a = some o) : fpT H (V.ref a) (.nd h ts) = a :: fpL H (kids o) ts := by
  show a :: fpL H (((H a).map kids).getD []) ts = _
  rw [e]
  rfl
theorem fpL_cons {v : V} {vs : List V} {t : T} {ts : List T} : fpL H (v :: vs) (t :: ts) = fpT H v t ++ fpL H vs ts := rfl
mutual
theorem OwT.mono (e : Ext B B') : ∀ {t : T} {v : V}, OwT K mg B H v t → OwT K mg B' H v t
  | .lf _, _, .lf r => .lf (r.mono e)
  | .nd _ ts, _, .nd h1 h2 h3 => .nd h1 h2 (OwL.mono e h3)
theorem OwL.mono (e : Ext B B') : ∀ {ts : List T} {vs : List V}, OwL K mg B H vs ts → OwL K mg B' H vs ts
  | [], _, .nil => .nil
  | _ :: _, _, .cons p q => .cons (OwT.mono e p) (OwL.mono e q)
end
mutual
/-- the tree stands in every heap that agrees on its nodes -/
theorem OwT.at : ∀ {t : T} {v : V}, OwT K mg B H v t → (∀ x ∈ fpT H v t, H' x = H x) → OwT K mg B H' v t ∧ fpT H' v t = fpT H v t
  | .lf _, _, .lf r, _ => ⟨.lf r, rfl⟩
  | .nd _ ts, _, .nd (o := o) h1 h2 h3, e => by
    rw [fpT_nd h1] at e
    have h1' := (e _ List.mem_cons_self).trans h1
    obtain ⟨q1, q2⟩ := OwL.at h3 fun x hx => e x (List.mem_cons_of_mem _ hx)
    exact ⟨.nd h1' h2 q1, by rw [fpT_nd h1, fpT_nd h1', q2]⟩
theorem OwL.at : ∀ {ts : List T} {vs : List V}, OwL K mg B H vs ts → (∀ x ∈ fpL H vs ts, H' x = H x) → OwL K mg B H' vs ts ∧ fpL H' vs ts = fpL H vs ts
  | [], _, .nil, _ => ⟨.nil, rfl⟩
  | _ :: _, _, .cons p q, e => by
    rw [fpL_cons] at e
    obtain ⟨p1, p2⟩ := OwT.at p fun x hx => e x (List.mem_append_left _ hx)
    obtain ⟨q1, q2⟩ := OwL.at q fun x hx => e x (List.mem_append_right _ hx)
    exact ⟨.cons p1 q1, by rw [fpL_cons, fpL_cons, p2, q2]⟩
end
mutual
theorem OwT.there : ∀ {t : T} {v : V}, OwT K mg B H v t → ∀ x ∈ fpT H v t, ∃ o, H x = some o
  | .lf _, _, .lf r, x, hx => by cases hx
  | .nd _ ts, _, .nd h1 h2 h3, x, hx => by
    rw [fpT_nd h1] at hx
    rcases List.mem_cons.1 hx with rfl | hx
    · exact ⟨_, h1⟩
    · exact OwL.there h3 x hx
theorem OwL.there : ∀ {ts : List T} {vs : List V}, OwL K mg B H vs ts → ∀ x ∈ fpL H vs ts, ∃ o, H x = some o
  | [], _, .nil, x, hx => by cases hx
  | _ :: _, _, .cons p q, x, hx => by
    rw [fpL_cons] at hx
    rcases List.mem_append.1 hx with hx | hx
    · exact OwT.there p x hx
    · exact OwL.there q x hx
end
theorem OwL.length : ∀ {ts : List T} {vs : List V}, OwL K mg B H vs ts → vs.length = ts.length
  | [], _, .nil => rfl
  | _ :: _, _, .cons p q => by rw [List.length_cons, List.length_cons, OwL.length q]
theorem stripL_length : ∀ {ts : List T}, (T.stripL ts).length = ts.length
  | [] => rfl
  | _ :: ts => by rw [T.stripL, List.length_cons, List.length_cons, stripL_length]
theorem zip_fst {α β : Type} : ∀ {l : List α} {m : List β}, l.length = m.length → (l.zip m).map (·.1) = l
  | [], [], _ => rfl
  | _ :: _, [], h => by cases h
  | [], _ :: _, h => by cases h
  | a :: l, b :: m, h => by rw [List.zip_cons_cons, List.map_cons, zip_fst (by simpa using h)]
theorem zip_snd {α β : Type} : ∀ {l : List α} {m : List β}, l.length = m.length → (l.zip m).map (·.2) = m
  | [], [], _ => rfl
  | _ :: _, [], h => by cases h
  | [], _ :: _, h => by cases h
  | a :: l, b :: m, h => by rw [List.zip_cons_cons, List.map_cons, zip_snd (by simpa using h)]
theorem repF_paired {vs : List (Str × V)} {fs : List (Str × D)} (e : vs.map (·.1) = fs.map (·.1)) (r : RepL K mg B (vs.map (·.2)) (fs.map (·.2))) (nd : (fs.map (·.1)).Nodup) : RepF K mg B vs fs := by
  refine RepF.of (fun f d h => ?_) nd
  clear nd
  induction vs generalizing fs with
  | nil =>
    cases fs with
    | nil => simp at h
    | cons q fs => simp at e
  | cons p vs ih =>
    cases fs with
    | nil => simp at e
    | cons q fs =>
      obtain ⟨g, v⟩ := p
      obtain ⟨g', d'⟩ := q
      simp only [List.map_cons, List.cons.injEq] at e
      obtain ⟨e1, e2⟩ := e
      subst e1
      cases r with
      | cons r1 r2 =>
        rw [List.lookup_cons] at h ⊢
        by_cases z : f == g
        · rw [z] at h ⊢
          cases h
          exact ⟨v, rfl, r1⟩
        · rw [Bool.not_eq_true _ |>.mp z] at h ⊢
          exact ih e2 r2 h
mutual
/-- the tree, frozen -/
theorem OwT.rep : ∀ {t : T} {v : V}, OwT K mg B H v t → Ext B B' → (∀ x ∈ fpT H v t, B' x = H x) → Rep K mg B' v t.strip
  | .lf _, _, .lf r, e, _ => r.mono e
  | .nd h ts, _, .nd (o := o) h1 h2 h3, e, hx => by
    rw [fpT_nd h1] at hx
    have h1' := (hx _ List.mem_cons_self).trans h1
    have q := OwL.rep h3 e fun x hm => hx x (List.mem_cons_of_mem _ hm)
    have ql := h3.length
    cases h with
    | ls =>
      obtain ⟨xs, rfl⟩ := h2
      exact .lst h1' q
    | dc ks =>
      obtain ⟨kvs, rfl, rfl⟩ := h2
      have hl : (kvs.map (·.1)).length = (T.stripL ts).length := by
        rw [stripL_length, ← ql]
        simp [kids]
      refine .dic (.inl h1') (zip_fst hl).symm ?_
      rw [zip_snd hl]
      exact q
    | is c fs =>
      obtain ⟨C, dx, vs, hm, rfl, rfl, nd⟩ := h2
      have hl : (vs.map (·.1)).length = (T.stripL ts).length := by
        rw [stripL_length, ← ql]
        simp [kids]
      refine .ins hm h1' (zip_fst hl).symm (repF_paired (zip_fst hl).symm ?_ ?_)
      · rw [zip_snd hl]
        exact q
      · rw [zip_fst hl]
        exact nd
theorem OwL.rep : ∀ {ts : List T} {vs : List V}, OwL K mg B H vs ts → Ext B B' → (∀ x ∈ fpL H vs ts, B' x = H x) → RepL K mg B' vs (T.stripL ts)
  | [], _, .nil, _, _ => .nil
  | _ :: _, _, .cons p q, e, hx => by
    rw [fpL_cons] at hx
    exact .cons (OwT.rep p e fun x hm => hx x (List.mem_append_left _ hm)) (OwL.rep q e fun x hm => hx x (List.mem_append_right _ hm))
end
end
/-- the slots as they stood, and what is known of caught exceptions -/
structure Gs where
  st : L2.St := []
  gh : List (Addr × List (Str × V) × List (Str × D)) := []
  vw : List (Nat × V × T × Hp) := []
/-! ### environments -/
/-- a name's value: unknown; data; a list (dict, object) that this name alone holds -/
inductive Sl where
  | no | fz (d : D) | ow (d : D) | dp (t : T)
abbrev En := List Sl
/-- a run's end -/
inductive R (α : Type) where
  | ok (a : α) (ρ : En)
  | exc (c : Str) (fs : List (Str × D)) (ρ : En)
  | bad
@[reducible] def R.bind {α β : Type} (r : R α) (f : α → En → R β) : R β := match r with
  | .ok a ρ => f a ρ
  | .exc c fs ρ => .exc c fs ρ
  | .bad => .bad
theorem R.bind_ok {α β : Type} {a : α} {ρ : En} {f : α → En → R β} : (R.ok a ρ).bind f = f a ρ := rfl
theorem R.bind_exc {α β : Type} {c : Str} {fs : List (Str × D)} {ρ : En} {f : α → En → R β} : (R.exc c fs ρ : R α).bind f = .exc c fs ρ := rfl
theorem R.bind_bad {α β : Type} {f : α → En → R β} : (R.bad : R α).bind f = .bad := rfl
abbrev FX := En → R Sl
/-- a statement's end -/
inductive Fl where
  | nx | rt (v : Sl) | bk | ct
abbrev FY := En → R Fl

section
variable (K : PySem.W.Frag) (mg : Str → Option Value)
/-- the owned thing at a: its parts are frozen -/
def OwnD (B H : Hp) (a : Addr) : D → Prop
  | .lst ds => ∃ xs, H a = some (.lst xs) ∧ RepL K mg B xs ds
  | .dic kds => ∃ kvs, H a = some (.dK kvs) ∧ kvs.map (·.1) = kds.map (·.1) ∧ RepL K mg B (kvs.map (·.2)) (kds.map (·.2))
  | .ins c fs => ∃ C dx vs, mg c = some (Value.ref C) ∧ H a = some (.ins C dx vs) ∧ vs.map (·.1) = fs.map (·.1) ∧ (fs.map (·.1)).Nodup ∧ RepL K mg B (vs.map (·.2)) (fs.map (·.2))
  | _ => False
/-- a slot's value -/
def SlOk (F B H : Hp) (σ : L2.St) (i : Nat) : Sl → Prop
  | .no => True
  | .fz d => ∃ v, σ[i]? = some (some v) ∧ Rep K mg B v d
  | .ow d => ∃ a, σ[i]? = some (some (V.ref a)) ∧ F a = none ∧ B a = none ∧ OwnD K mg B H a d
  | .dp t => ∃ v, σ[i]? = some (some v) ∧ OwT K mg B H v t ∧ (fpT H v t).Nodup ∧ ∀ x ∈ fpT H v t, F x = none ∧ B x = none
/-- what a slot holds alone -/
def fpS (H : Hp) (σ : L2.St) (i : Nat) : Sl → List Addr
  | .ow _ => match σ[i]? with
    | some (some (V.ref a)) => [a]
    | _ => []
  | .dp t => match σ[i]? with
    | some (some v) => fpT H v t
    | _ => []
  | _ => []
/-- a tree that is looked at: its nodes stand in the foreign heap -/
def VwOk (B F : Hp) (q : Nat × V × T × Hp) : Prop := OwT K mg B q.2.2.2 q.2.1 q.2.2.1 ∧ ∀ b o, q.2.2.2 b = some o → F b = some o
structure Sat (PN : List Nat) (σ0 : Gs) (F B H : Hp) (σ : L2.St) (ρ : En) : Prop where
  len : ρ.length ≤ σ.length
  pin : ∀ i ∈ PN, σ[i]? = σ0.st[i]?
  gh : ∀ p ∈ σ0.gh, B p.1 = some (.xd p.2.1) ∧ RepF K mg B p.2.1 p.2.2
  bh : ∀ b o, B b = some o → H b = some o
  fh : ∀ b o, F b = some o → H b = some o ∧ B b = none
  sl : ∀ (i : Nat) (s : Sl), ρ[i]? = some s → SlOk K mg F B H σ i s
  dj : ∀ (i j : Nat) (a : Addr) (d d' : D), ρ[i]? = some (Sl.ow d) → ρ[j]? = some (Sl.ow d') → σ[i]? = some (some (V.ref a)) → σ[j]? = some (some (V.ref a)) → i = j
  dq : ∀ (i j : Nat) (t : T) (s : Sl) (v : V) (x : Addr), ρ[i]? = some (Sl.dp t) → ρ[j]? = some s → σ[i]? = some (some v) → x ∈ fpT H v t → x ∈ fpS H σ j s → i = j
  vw : ∀ q ∈ σ0.vw, VwOk K mg B F q
/-- an expression's value -/
def VOk (F B H : Hp) (σ : L2.St) (ρ : En) (v : V) : Sl → Prop
  | .no => False
  | .fz d => Rep K mg B v d
  | .ow d => ∃ a, v = V.ref a ∧ F a = none ∧ B a = none ∧ OwnD K mg B H a d ∧ (∀ (i : Nat) (d' : D), ρ[i]? = some (Sl.ow d') → σ[i]? ≠ some (some (V.ref a))) ∧
    ∀ (i : Nat) (t : T) (v : V), ρ[i]? = some (Sl.dp t) → σ[i]? = some (some v) → a ∉ fpT H v t
  | .dp t => OwT K mg B H v t ∧ (fpT H v t).Nodup ∧ ∀ x ∈ fpT H v t, F x = none ∧ B x = none ∧ ∀ (i : Nat) (s : Sl), ρ[i]? = some s → x ∉ fpS H σ i s
theorem VwOk.mono {K : PySem.W.Frag} {mg : Str → Option Value} {B B' F : Hp} {q : Nat × V × T × Hp} (e : Ext B B') (h : VwOk K mg B F q) : VwOk K mg B' F q := ⟨h.1.mono e, h.2⟩
/-- an exception -/
def ExcOk (B : Hp) (c : Str) (fs : List (Str × D)) (cls : Value) (od : Option Addr) : Prop :=
  ∃ C, mg c = some (Value.ref C) ∧ cls = Value.ref C ∧ match fs with
    | [] => od = none
    | fs => ∃ dd vs, od = some dd ∧ B dd = some (.xd vs) ∧ RepF K mg B vs fs
end
end FV

namespace FV
open PySem PySem.Spec PyProof.Rows L2

section
variable {K : PySem.W.Frag} {mg : Str → Option Value} {PN : List Nat} {σ0 : Gs} {σ : L2.St} {F B B' H : Hp} {ρ : En} {a p : Addr} {d : D} {v : V} {i : Nat} {s : Sl}

/-! ### moves of environments -/
theorem OwnD.mono (e : Ext B B') (h : OwnD K mg B H a d) : OwnD K mg B' H a d := by
  cases d with
  | lst ds => obtain ⟨xs, h1, h2⟩ := h; exact ⟨xs, h1, h2.mono e⟩
  | dic kds => obtain ⟨kvs, h1, h2, h3⟩ := h; exact ⟨kvs, h1, h2, h3.mono e⟩
  | ins c fs => obtain ⟨C, dx, vs, h1, h2, h3, h4, h5⟩ := h; exact ⟨C, dx, vs, h1, h2, h3, h4, h5.mono e⟩
  | _ => exact h
theorem OwnD.at (h : OwnD K mg B H a d) {H' : Hp} (e : H' a = H a) : OwnD K mg B H' a d := by
  cases d with
  | lst ds => obtain ⟨xs, h1, h2⟩ := h; exact ⟨xs, e.trans h1, h2⟩
  | dic kds => obtain ⟨kvs, h1, h2, h3⟩ := h; exact ⟨kvs, e.trans h1, h2, h3⟩
  | ins c fs => obtain ⟨C, dx, vs, h1, h2, h3, h4, h5⟩ := h; exact ⟨C, dx, vs, h1, e.trans h2, h3, h4, h5⟩
  | _ => exact h
theorem OwnD.there (h : OwnD K mg B H a d) : ∃ o, H a = some o := by
  cases d with
  | lst ds => obtain ⟨xs, h1, h2⟩ := h; exact ⟨_, h1⟩
  | dic kds => obtain ⟨kvs, h1, h2, h3⟩ := h; exact ⟨_, h1⟩
  | ins c fs => obtain ⟨C, dx, vs, h1, h2, h3, h4, h5⟩ := h; exact ⟨_, h2⟩
  | _ => exact h.elim
theorem lookup_paired {vs : List (Str × V)} {fs : List (Str × D)} (e : vs.map (·.1) = fs.map (·.1)) (r : RepL K mg B (vs.map (·.2)) (fs.map (·.2))) {f : Str} {d : D} (h : fs.lookup f = some d) : ∃ v, vs.lookup f = some v ∧ Rep K mg B v d := by
  induction vs generalizing fs with
  | nil =>
    cases fs with
    | nil => simp at h
    | cons q fs => simp at e
  | cons p vs ih =>
    cases fs with
    | nil => simp at e
    | cons q fs =>
      obtain ⟨g, v⟩ := p
      obtain ⟨g', d'⟩ := q
      simp only [List.map_cons, List.cons.injEq] at e
      obtain ⟨e1, e2⟩ := e
      subst e1
      cases r with
      | cons r1 r2 =>
        rw [List.lookup_cons] at h ⊢
        by_cases z : f == g
        · rw [z] at h ⊢
          cases h
          exact ⟨v, rfl, r1⟩
        · rw [Bool.not_eq_true _ |>.mp z] at h ⊢
          exact ih e2 r2 h
/-- the owned thing, frozen -/
theorem OwnD.rep {o : HO} (h : OwnD K mg B H a d) (n : B a = none) (ho : H a = some o) : Rep K mg (upd B a o) (.ref a) d := by
  have e : Ext B (upd B a o) := Ext.new n
  cases d with
  | lst ds => obtain ⟨xs, h1, h2⟩ := h; rw [ho] at h1; cases h1; exact .lst upd_same (h2.mono e)
  | dic kds => obtain ⟨kvs, h1, h2, h3⟩ := h; rw [ho] at h1; cases h1; exact .dic (.inl upd_same) h2 (h3.mono e)
  | ins c fs =>
    obtain ⟨C, dx, vs, h1, h2, h3, h4, h5⟩ := h; rw [ho] at h2; cases h2
    exact .ins h1 upd_same h3 (RepF.of (fun f d hd => lookup_paired h3 (h5.mono e) hd) h4)
  | _ => exact h.elim

theorem SlOk.mono (e : Ext B B') (n : ∀ a d, s = .ow d → σ[i]? = some (some (V.ref a)) → B' a = none) (n2 : ∀ t v, s = .dp t → σ[i]? = some (some v) → ∀ x ∈ fpT H v t, B' x = none) (h : SlOk K mg F B H σ i s) : SlOk K mg F B' H σ i s := by
  cases s with
  | dp t => obtain ⟨v, h1, h2, h3, h4⟩ := h; exact ⟨v, h1, h2.mono e, h3, fun x hx => ⟨(h4 x hx).1, n2 t v rfl h1 x hx⟩⟩
  | no => trivial
  | fz d => obtain ⟨v, h1, h2⟩ := h; exact ⟨v, h1, h2.mono e⟩
  | ow d => obtain ⟨a, h1, h2, h3, h4⟩ := h; exact ⟨a, h1, h2, n a d rfl h1, h4.mono e⟩

/-- what a slot holds, in another heap -/
theorem SlOk.fp_at {H' : Hp} (h : SlOk K mg F B H σ i s) (e : ∀ x ∈ fpS H σ i s, H' x = H x) : fpS H' σ i s = fpS H σ i s := by
  cases s with
  | dp t =>
    obtain ⟨v, h1, h2, _⟩ := h
    unfold fpS at e ⊢
    rw [h1] at e ⊢
    exact (h2.at e).2
  | _ => rfl
theorem SlOk.there (h : SlOk K mg F B H σ i s) {x : Addr} (hx : x ∈ fpS H σ i s) : ∃ o, H x = some o := by
  cases s with
  | dp t =>
    obtain ⟨v, h1, h2, _⟩ := h
    unfold fpS at hx
    rw [h1] at hx
    exact h2.there x hx
  | ow d =>
    obtain ⟨a, h1, _, _, h2⟩ := h
    unfold fpS at hx
    rw [h1] at hx
    rw [List.mem_singleton.1 hx]
    exact h2.there
  | no => cases hx
  | fz d => cases hx
theorem fpS_ow {d : D} (h : σ[i]? = some (some (V.ref a))) : fpS H σ i (.ow d) = [a] := by
  unfold fpS
  rw [h]
theorem fpS_dp {t : T} (h : σ[i]? = some (some v)) : fpS H σ i (.dp t) = fpT H v t := by
  unfold fpS
  rw [h]
theorem fpS_nil (hs : s = .no ∨ ∃ d, s = .fz d) : fpS H σ i s = [] := by
  rcases hs with rfl | ⟨d, rfl⟩ <;> rfl
theorem set_get_ne {ρ : En} {i j : Nat} {s u : Sl} (h : (ρ.set i s)[j]? = some u) : (j = i ∧ u = s ∧ i < ρ.length) ∨ (j ≠ i ∧ ρ[j]? = some u) := by
  by_cases e : i = j
  · subst e
    rw [List.getElem?_set_self'] at h
    cases q : ρ[i]? with
    | none => rw [q] at h; cases h
    | some t => rw [q] at h; cases h; exact .inl ⟨rfl, rfl, (List.getElem?_eq_some_iff.mp q).1⟩
  · rw [List.getElem?_set_ne e] at h
    exact .inr ⟨fun z => e z.symm, h⟩
/-- the trees, where a slot now holds nothing -/
theorem Sat.dqs (S : Sat K mg PN σ0 F B H σ ρ) (hs : s = .no ∨ ∃ d, s = .fz d) : ∀ (j k : Nat) (t : T) (u : Sl) (v : V) (x : Addr), (ρ.set i s)[j]? = some (Sl.dp t) → (ρ.set i s)[k]? = some u → σ[j]? = some (some v) → x ∈ fpT H v t → x ∈ fpS H σ k u → j = k := fun j k t u v x h1 h2 h3 h4 h5 => by
  rcases set_get_ne h1 with ⟨_, e, _⟩ | ⟨n1, g1⟩
  · rcases hs with rfl | ⟨d, rfl⟩ <;> cases e
  · rcases set_get_ne h2 with ⟨_, e, _⟩ | ⟨n2, g2⟩
    · subst e
      rw [fpS_nil hs] at h5
      cases h5
    · exact S.dq j k t u v x g1 g2 h3 h4 h5
/-- a slot's value is forgotten -/
theorem Sat.no (S : Sat K mg PN σ0 F B H σ ρ) (i : Nat) : Sat K mg PN σ0 F B H σ (ρ.set i .no) where
  len := by rw [List.length_set]; exact S.len
  pin := S.pin
  gh := S.gh
  bh := S.bh
  fh := S.fh
  sl := fun j s h => by
    by_cases e : i = j
    · subst e
      rw [List.getElem?_set_self'] at h
      cases q : ρ[i]? with
      | none => rw [q] at h; cases h
      | some t => rw [q] at h; cases h; trivial
    · rw [List.getElem?_set_ne e] at h
      exact S.sl j s h
  dj := fun j k a d d' h1 h2 => by
    have f : ∀ (m : Nat) (e : D), (ρ.set i .no)[m]? = some (Sl.ow e) → ρ[m]? = some (Sl.ow e) := fun m e h => by
      by_cases q : i = m
      · subst q
        rw [List.getElem?_set_self'] at h
        cases q : ρ[i]? with
        | none => rw [q] at h; cases h
        | some t => rw [q] at h; cases h
      · rw [List.getElem?_set_ne q] at h
        exact h
    exact S.dj j k a d d' (f _ _ h1) (f _ _ h2)
  dq := S.dqs (.inl rfl)
  vw := S.vw
/-- a slot stands for frozen data -/
theorem Sat.fz (S : Sat K mg PN σ0 F B H σ ρ) (h : σ[i]? = some (some v)) (r : Rep K mg B v d) : Sat K mg PN σ0 F B H σ (ρ.set i (.fz d)) where
  len := by rw [List.length_set]; exact S.len
  pin := S.pin
  gh := S.gh
  bh := S.bh
  fh := S.fh
  sl := fun j s h' => by
    by_cases e : i = j
    · subst e
      rw [List.getElem?_set_self'] at h'
      cases q : ρ[i]? with
      | none => rw [q] at h'; cases h'
      | some t => rw [q] at h'; cases h'; exact ⟨v, h, r⟩
    · rw [List.getElem?_set_ne e] at h'
      exact S.sl j s h'
  dj := fun j k a d1 d' h1 h2 => by
    have f : ∀ (m : Nat) (e : D), (ρ.set i (.fz d))[m]? = some (Sl.ow e) → ρ[m]? = some (Sl.ow e) := fun m e h => by
      by_cases q : i = m
      · subst q
        rw [List.getElem?_set_self'] at h
        cases q : ρ[i]? with
        | none => rw [q] at h; cases h
        | some t => rw [q] at h; cases h
      · rw [List.getElem?_set_ne q] at h
        exact h
    exact S.dj j k a d1 d' (f _ _ h1) (f _ _ h2)
  dq := S.dqs (.inr ⟨d, rfl⟩)
  vw := S.vw
/-- a new object -/
theorem Sat.alloc {o : HO} (S : Sat K mg PN σ0 F B H σ ρ) (n : H p = none) : Sat K mg PN σ0 F B (upd H p o) σ ρ where
  len := S.len
  pin := S.pin
  gh := S.gh
  bh := fun b u h => by rw [upd_ne (ne_of_none (S.bh b u h) n)]; exact S.bh b u h
  fh := fun b u h => ⟨by rw [upd_ne (ne_of_none (S.fh b u h).1 n)]; exact (S.fh b u h).1, (S.fh b u h).2⟩
  sl := fun i s h => by
    have q := S.sl i s h
    cases s with
    | no => trivial
    | fz d => exact q
    | ow d =>
      obtain ⟨a, h1, h2, h3, h4⟩ := q
      obtain ⟨u, hu⟩ := h4.there
      exact ⟨a, h1, h2, h3, h4.at (upd_ne (ne_of_none hu n))⟩
    | dp t =>
      obtain ⟨v, h1, h2, h3, h4⟩ := q
      obtain ⟨g1, g2⟩ := h2.at (H' := upd H p o) fun x hx => by
        obtain ⟨u, hu⟩ := h2.there x hx
        exact upd_ne (ne_of_none hu n)
      exact ⟨v, h1, g1, by rw [g2]; exact h3, by rw [g2]; exact h4⟩
  dj := S.dj
  dq := fun j k t u v x h1 h2 h3 h4 h5 => by
    have q1 := S.sl j _ h1
    have q2 := S.sl k _ h2
    have e1 := q1.fp_at (H' := upd H p o) fun x hx => by
      obtain ⟨u, hu⟩ := q1.there hx
      exact upd_ne (ne_of_none hu n)
    have e2 := q2.fp_at (H' := upd H p o) fun x hx => by
      obtain ⟨u, hu⟩ := q2.there hx
      exact upd_ne (ne_of_none hu n)
    rw [fpS_dp h3, fpS_dp h3] at e1
    rw [e1] at h4
    rw [e2] at h5
    exact S.dq j k t u v x h1 h2 h3 h4 h5
  vw := S.vw
theorem Sat.bn (S : Sat K mg PN σ0 F B H σ ρ) (n : H p = none) : B p = none := by
  cases q : B p with
  | none => rfl
  | some o => rw [S.bh p o q] at n; cases n
theorem Sat.fn (S : Sat K mg PN σ0 F B H σ ρ) (n : H p = none) : F p = none := by
  cases q : F p with
  | none => rfl
  | some o => rw [(S.fh p o q).1] at n; cases n
theorem Sat.apart (S : Sat K mg PN σ0 F B H σ ρ) (n : H p = none) : ∀ (i : Nat) (d : D), ρ[i]? = some (Sl.ow d) → σ[i]? ≠ some (some (V.ref p)) := fun i d h e => by
  obtain ⟨a, h1, _, _, h4⟩ := S.sl i _ h
  rw [e] at h1; cases h1
  obtain ⟨u, hu⟩ := h4.there
  rw [hu] at n; cases n
theorem Sat.apartT (S : Sat K mg PN σ0 F B H σ ρ) (n : H p = none) : ∀ (i : Nat) (t : T) (v : V), ρ[i]? = some (Sl.dp t) → σ[i]? = some (some v) → p ∉ fpT H v t := fun i t v h e hm => by
  obtain ⟨w, h1, h2, _⟩ := S.sl i _ h
  rw [e] at h1; cases h1
  obtain ⟨u, hu⟩ := h2.there p hm
  rw [hu] at n; cases n
/-- .. after the new object was made -/
theorem Sat.apartU {o : HO} (S : Sat K mg PN σ0 F B H σ ρ) (n : H p = none) : ∀ (i : Nat) (t : T) (v : V), ρ[i]? = some (Sl.dp t) → σ[i]? = some (some v) → p ∉ fpT (upd H p o) v t := fun i t v h e hm => by
  have q := S.sl i _ h
  have e1 := q.fp_at (H' := upd H p o) fun x hx => by
    obtain ⟨u, hu⟩ := q.there hx
    exact upd_ne (ne_of_none hu n)
  rw [fpS_dp e, fpS_dp e] at e1
  rw [e1] at hm
  exact S.apartT n i t v h e hm
/-- a new object joins the frozen heap -/
theorem Sat.join {o : HO} (S : Sat K mg PN σ0 F B H σ ρ) (f : F p = none) (n : B p = none) (ap : ∀ (i : Nat) (d : D), ρ[i]? = some (Sl.ow d) → σ[i]? ≠ some (some (V.ref p))) (aq : ∀ (i : Nat) (t : T) (v : V), ρ[i]? = some (Sl.dp t) → σ[i]? = some (some v) → p ∉ fpT H v t) (ho : H p = some o) : Sat K mg PN σ0 F (upd B p o) H σ ρ where
  len := S.len
  pin := S.pin
  gh := fun q hq => ⟨(Ext.new n).xd (S.gh q hq).1, (S.gh q hq).2.mono (Ext.new n)⟩
  bh := fun b u h => by
    by_cases e : b = p
    · subst e; rw [upd_same] at h; cases h; exact ho
    · rw [upd_ne e] at h; exact S.bh b u h
  fh := fun b u h => ⟨(S.fh b u h).1, by rw [upd_ne (ne_of_none h f)]; exact (S.fh b u h).2⟩
  sl := fun i s h => (S.sl i s h).mono (Ext.new n) (fun a d e h1 => by
    subst e
    obtain ⟨a', h1', _, h3, _⟩ := S.sl i _ h
    rw [h1] at h1'; cases h1'
    rw [upd_ne (fun z => ap i d h (by rw [← z]; exact h1))]
    exact h3) fun t v e h1 x hx => by
    subst e
    obtain ⟨v', h1', _, _, h4⟩ := S.sl i _ h
    rw [h1] at h1'; cases h1'
    rw [upd_ne (fun z => aq i t v h h1 (by rw [← z]; exact hx))]
    exact (h4 x hx).2
  dj := S.dj
  dq := S.dq
  vw := fun q hq => (S.vw q hq).mono (Ext.new n)
/-- a held thing is frozen -/
theorem Sat.freeze (S : Sat K mg PN σ0 F B H σ ρ) (h : VOk K mg F B H σ ρ v (.ow d)) : ∃ B', Ext B B' ∧ Sat K mg PN σ0 F B' H σ ρ ∧ Rep K mg B' v d := by
  obtain ⟨a, rfl, h1, h2, h3, h4, h5⟩ := h
  obtain ⟨o, ho⟩ := h3.there
  exact ⟨upd B a o, Ext.new h2, S.join h1 h2 h4 h5 ho, h3.rep h2 ho⟩
/-- .. the thing of a slot -/
theorem Sat.take (S : Sat K mg PN σ0 F B H σ ρ) (h : ρ[i]? = some (Sl.ow d)) : ∃ v, σ[i]? = some (some v) ∧ Sat K mg PN σ0 F B H σ (ρ.set i .no) ∧ VOk K mg F B H σ (ρ.set i .no) v (.ow d) := by
  obtain ⟨a, h1, h2, h3, h4⟩ := S.sl i _ h
  refine ⟨.ref a, h1, S.no i, a, rfl, h2, h3, h4, fun j d' hj e => ?_, fun j t v hj e hm => ?_⟩
  rotate_left
  · rcases set_get_ne hj with ⟨_, z, _⟩ | ⟨n1, g1⟩
    · cases z
    · exact n1 (S.dq j i t _ v a g1 h e hm (by rw [fpS_ow h1]; exact List.mem_singleton.2 rfl))
  by_cases q : i = j
  · subst q
    rw [List.getElem?_set_self'] at hj
    cases q : ρ[i]? with
    | none => rw [q] at hj; cases hj
    | some t => rw [q] at hj; cases hj
  · rw [List.getElem?_set_ne q] at hj
    exact q (S.dj i j a d d' h hj h1 e)
theorem set_set_no (ρ : En) (i : Nat) (s : Sl) : (ρ.set i .no).set i s = ρ.set i s := List.set_set ..
theorem Sat.freezeAt (S : Sat K mg PN σ0 F B H σ ρ) (h : ρ[i]? = some (Sl.ow d)) : ∃ v B', σ[i]? = some (some v) ∧ Ext B B' ∧ Sat K mg PN σ0 F B' H σ (ρ.set i (.fz d)) ∧ Rep K mg B' v d := by
  obtain ⟨v, h1, S1, V1⟩ := S.take h
  obtain ⟨B', e, S2, r⟩ := S1.freeze V1
  refine ⟨v, B', h1, e, ?_, r⟩
  have := S2.fz h1 r
  rwa [set_set_no] at this
open Classical in
theorem Sat.freezeT {t : T} (S : Sat K mg PN σ0 F B H σ ρ) (h : ρ[i]? = some (Sl.dp t)) : ∃ v B', σ[i]? = some (some v) ∧ Ext B B' ∧ Sat K mg PN σ0 F B' H σ (ρ.set i (.fz t.strip)) ∧ Rep K mg B' v t.strip := by
  obtain ⟨v, h1, h2, h3, h4⟩ := S.sl i _ h
  have S0 := S.no i
  have e : Ext B (fun b => if b ∈ fpT H v t then H b else B b) := fun b o hb => ⟨o, by
    show (if b ∈ fpT H v t then H b else B b) = some o
    rw [if_neg (fun z => by rw [(h4 b z).2] at hb; cases hb)]
    exact hb, .rfl⟩
  have r : Rep K mg (fun b => if b ∈ fpT H v t then H b else B b) v t.strip := h2.rep e fun x hx => if_pos hx
  have ap : ∀ (j : Nat) (u : Sl) (x : Addr), (ρ.set i .no)[j]? = some u → x ∈ fpS H σ j u → x ∉ fpT H v t := fun j u x hj hx hm => by
    rcases set_get_ne hj with ⟨_, z, _⟩ | ⟨n1, g1⟩
    · subst z; cases hx
    · exact n1 (S.dq i j t u v x h g1 h1 hm hx).symm
  have S1 : Sat K mg PN σ0 F (fun b => if b ∈ fpT H v t then H b else B b) H σ (ρ.set i .no) :=
    { len := S0.len, pin := S0.pin, gh := fun q hq => ⟨e.xd (S0.gh q hq).1, (S0.gh q hq).2.mono e⟩
      bh := fun b u hb => by
        have hb' : (if b ∈ fpT H v t then H b else B b) = some u := hb
        split at hb'
        · exact hb'
        · exact S.bh b u hb'
      fh := fun b u hb => ⟨(S.fh b u hb).1, by
        show (if b ∈ fpT H v t then H b else B b) = none
        rw [if_neg (fun z => by rw [(h4 b z).1] at hb; cases hb)]
        exact (S.fh b u hb).2⟩
      sl := fun j u hj => by
        have q := S0.sl j u hj
        refine q.mono e (fun a d e1 h5 => ?_) (fun t' w e1 h5 x hx => ?_)
        · subst e1
          obtain ⟨a', g1, _, g3, _⟩ := q
          rw [h5] at g1; cases g1
          show (if a ∈ fpT H v t then H a else B a) = none
          rw [if_neg (ap j _ a hj (by rw [fpS_ow h5]; exact List.mem_singleton.2 rfl))]
          exact g3
        · subst e1
          obtain ⟨w', g1, _, _, g4⟩ := q
          rw [h5] at g1; cases g1
          show (if x ∈ fpT H v t then H x else B x) = none
          rw [if_neg (ap j _ x hj (by rw [fpS_dp h5]; exact hx))]
          exact (g4 x hx).2
      dj := S0.dj
      dq := S0.dq
      vw := fun q hq => (S0.vw q hq).mono e }
  refine ⟨v, _, h1, e, ?_, r⟩
  have := S1.fz h1 r
  rwa [set_set_no] at this
/-- a name is stored -/
theorem Sat.store (S : Sat K mg PN σ0 F B H σ ρ) (hp : i ∉ PN) (r : VOk K mg F B H σ ρ v s) : Sat K mg PN σ0 F B H (σ.set i (some v)) (ρ.set i s) where
  len := by rw [List.length_set, List.length_set]; exact S.len
  pin := fun j hj => by rw [List.getElem?_set_ne (fun e => hp (by rw [e]; exact hj))]; exact S.pin j hj
  gh := S.gh
  bh := S.bh
  fh := S.fh
  sl := fun j t h => by
    by_cases e : i = j
    · subst e
      rw [List.getElem?_set_self'] at h
      cases q : ρ[i]? with
      | none => rw [q] at h; cases h
      | some t' =>
        rw [q] at h; cases h
        have hl : i < σ.length := Nat.lt_of_lt_of_le (List.getElem?_eq_some_iff.mp q).1 S.len
        have g : (σ.set i (some v))[i]? = some (some v) := by rw [List.getElem?_set_self hl]
        cases s with
        | no => trivial
        | fz d => exact ⟨v, g, r⟩
        | ow d => obtain ⟨a, rfl, h1, h2, h3, _⟩ := r; exact ⟨a, g, h1, h2, h3⟩
        | dp t => exact ⟨v, g, r.1, r.2.1, fun x hx => ⟨(r.2.2 x hx).1, (r.2.2 x hx).2.1⟩⟩
    · rw [List.getElem?_set_ne e] at h
      have q := S.sl j t h
      cases t with
      | no => trivial
      | fz d => obtain ⟨v, h1, h2⟩ := q; exact ⟨v, by rw [List.getElem?_set_ne e]; exact h1, h2⟩
      | ow d => obtain ⟨a, h1, h2⟩ := q; exact ⟨a, by rw [List.getElem?_set_ne e]; exact h1, h2⟩
      | dp t => obtain ⟨a, h1, h2⟩ := q; exact ⟨a, by rw [List.getElem?_set_ne e]; exact h1, h2⟩
  dq := fun j k t u w x h1 h2 h3 h4 h5 => by
    rcases set_get_ne h1 with ⟨e1, e, hl⟩ | ⟨n1, g1⟩
    · subst e1
      subst e
      have hl' : j < σ.length := Nat.lt_of_lt_of_le hl S.len
      rw [List.getElem?_set_self hl'] at h3
      cases h3
      rcases set_get_ne h2 with ⟨e1, e, _⟩ | ⟨n2, g2⟩
      · exact e1.symm
      · exfalso
        refine (r.2.2 x h4).2.2 k u g2 ?_
        unfold fpS at h5 ⊢
        rw [List.getElem?_set_ne (fun z => n2 z.symm)] at h5
        exact h5
    · rw [List.getElem?_set_ne (fun z => n1 z.symm)] at h3
      rcases set_get_ne h2 with ⟨e1, e, hl⟩ | ⟨n2, g2⟩
      · subst e1
        subst e
        exfalso
        have hl' : k < σ.length := Nat.lt_of_lt_of_le hl S.len
        cases u with
        | no => cases h5
        | fz d => cases h5
        | dp t' =>
          rw [fpS_dp (List.getElem?_set_self hl')] at h5
          exact (r.2.2 x h5).2.2 j _ g1 (by rw [fpS_dp h3]; exact h4)
        | ow d =>
          obtain ⟨a, rfl, _, _, _, _, ap⟩ := r
          rw [fpS_ow (List.getElem?_set_self hl')] at h5
          rw [List.mem_singleton.1 h5] at h4
          exact ap j t w g1 h3 h4
      · refine S.dq j k t u w x g1 g2 h3 h4 ?_
        unfold fpS at h5 ⊢
        rw [List.getElem?_set_ne (fun z => n2 z.symm)] at h5
        exact h5
  vw := S.vw
  dj := fun j k a d1 d2 h1 h2 e1 e2 => by
    by_cases ej : i = j
    · by_cases ek : i = k
      · omega
      · subst ej
        rw [List.getElem?_set_ne ek] at h2 e2
        rw [List.getElem?_set_self'] at h1 e1
        cases q : ρ[i]? with
        | none => rw [q] at h1; cases h1
        | some t' =>
          rw [q] at h1; cases h1
          cases q' : σ[i]? with
          | none => rw [q'] at e1; cases e1
          | some t'' =>
            rw [q'] at e1; cases e1
            obtain ⟨a', ea, _, _, _, ap, _⟩ := r
            cases ea
            exact (ap k d2 h2 e2).elim
    · by_cases ek : i = k
      · subst ek
        rw [List.getElem?_set_ne ej] at h1 e1
        rw [List.getElem?_set_self'] at h2 e2
        cases q : ρ[i]? with
        | none => rw [q] at h2; cases h2
        | some t' =>
          rw [q] at h2; cases h2
          cases q' : σ[i]? with
          | none => rw [q'] at e2; cases e2
          | some t'' =>
            rw [q'] at e2; cases e2
            obtain ⟨a', ea, _, _, _, ap, _⟩ := r
            cases ea
            exact (ap j d1 h1 e1).elim
      · rw [List.getElem?_set_ne ej] at h1 e1
        rw [List.getElem?_set_ne ek] at h2 e2
        exact S.dj j k a d1 d2 h1 h2 e1 e2
end

/-! ### what is held alone, seen at once -/
section
variable {K : PySem.W.Frag} {mg : Str → Option Value} {PN : List Nat} {σ0 : Gs} {σ τ : L2.St} {F F' B B' H H' : Hp} {ρ : En} {a : Addr} {d : D} {v : V} {i j : Nat} {s : Sl}
theorem fpS_move (e : τ[j]? = σ[i]?) : fpS H τ j s = fpS H σ i s := by
  unfold fpS
  rw [e]
theorem Sat.sep (S : Sat K mg PN σ0 F B H σ ρ) {s' : Sl} {x : Addr} (h1 : ρ[i]? = some s) (h2 : ρ[j]? = some s') (m1 : x ∈ fpS H σ i s) (m2 : x ∈ fpS H σ j s') : i = j := by
  cases s with
  | no => cases m1
  | fz d => cases m1
  | dp t =>
    obtain ⟨v, g1, _⟩ := S.sl i _ h1
    rw [fpS_dp g1] at m1
    exact S.dq i j t s' v x h1 h2 g1 m1 m2
  | ow d =>
    obtain ⟨a, g1, _⟩ := S.sl i _ h1
    cases s' with
    | no => cases m2
    | fz d => cases m2
    | dp t =>
      obtain ⟨v, g2, _⟩ := S.sl j _ h2
      rw [fpS_dp g2] at m2
      exact (S.dq j i t _ v x h2 h1 g2 m2 m1).symm
    | ow d' =>
      obtain ⟨a', g2, _⟩ := S.sl j _ h2
      rw [fpS_ow g1] at m1
      rw [fpS_ow g2] at m2
      have e1 := List.mem_singleton.1 m1
      have e2 := List.mem_singleton.1 m2
      subst e1
      subst e2
      exact S.dj i j _ d d' h1 h2 g1 g2
theorem sep_dj (h : ∀ (i j : Nat) (s s' : Sl) (x : Addr), ρ[i]? = some s → ρ[j]? = some s' → x ∈ fpS H σ i s → x ∈ fpS H σ j s' → i = j) :
    (∀ (i j : Nat) (a : Addr) (d d' : D), ρ[i]? = some (Sl.ow d) → ρ[j]? = some (Sl.ow d') → σ[i]? = some (some (V.ref a)) → σ[j]? = some (some (V.ref a)) → i = j) ∧
    (∀ (i j : Nat) (t : T) (s : Sl) (v : V) (x : Addr), ρ[i]? = some (Sl.dp t) → ρ[j]? = some s → σ[i]? = some (some v) → x ∈ fpT H v t → x ∈ fpS H σ j s → i = j) :=
  ⟨fun i j a d d' h1 h2 e1 e2 => h i j _ _ a h1 h2 (by rw [fpS_ow e1]; exact List.mem_singleton.2 rfl) (by rw [fpS_ow e2]; exact List.mem_singleton.2 rfl),
   fun i j t s v x h1 h2 e1 m1 m2 => h i j _ _ x h1 h2 (by rw [fpS_dp e1]; exact m1) m2⟩
theorem SlOk.free (h : SlOk K mg F B H σ i s) {x : Addr} (m : x ∈ fpS H σ i s) : F x = none ∧ B x = none := by
  cases s with
  | no => cases m
  | fz d => cases m
  | dp t =>
    obtain ⟨v, g1, _, _, g4⟩ := h
    rw [fpS_dp g1] at m
    exact g4 x m
  | ow d =>
    obtain ⟨a, g1, g2, g3, _⟩ := h
    rw [fpS_ow g1] at m
    rw [List.mem_singleton.1 m]
    exact ⟨g2, g3⟩
/-- a slot's thing under another roof -/
theorem SlOk.move (h : SlOk K mg F B H σ i s) (e : τ[j]? = σ[i]?) (f : ∀ x ∈ fpS H σ i s, F' x = none) : SlOk K mg F' B H τ j s := by
  cases s with
  | no => trivial
  | fz d => obtain ⟨v, g1, g2⟩ := h; exact ⟨v, e.trans g1, g2⟩
  | ow d =>
    obtain ⟨a, g1, g2, g3, g4⟩ := h
    exact ⟨a, e.trans g1, f a (by rw [fpS_ow g1]; exact List.mem_singleton.2 rfl), g3, g4⟩
  | dp t =>
    obtain ⟨v, g1, g2, g3, g4⟩ := h
    exact ⟨v, e.trans g1, g2, g3, fun x hx => ⟨f x (by rw [fpS_dp g1]; exact hx), (g4 x hx).2⟩⟩
/-- .. in a later heap that left it as it was -/
theorem SlOk.later (h : SlOk K mg F B H σ i s) (e : Ext B B') (k : ∀ x ∈ fpS H σ i s, H' x = H x ∧ B' x = none) : SlOk K mg F B' H' σ i s := by
  cases s with
  | no => trivial
  | fz d => obtain ⟨v, g1, g2⟩ := h; exact ⟨v, g1, g2.mono e⟩
  | ow d =>
    obtain ⟨a, g1, g2, g3, g4⟩ := h
    obtain ⟨k1, k2⟩ := k a (by rw [fpS_ow g1]; exact List.mem_singleton.2 rfl)
    exact ⟨a, g1, g2, k2, (g4.mono e).at k1⟩
  | dp t =>
    obtain ⟨v, g1, g2, g3, g4⟩ := h
    rw [fpS_dp g1] at k
    obtain ⟨q1, q2⟩ := (g2.mono e).at (H' := H') fun x hx => (k x hx).1
    exact ⟨v, g1, q1, by rw [q2]; exact g3, by rw [q2]; exact fun x hx => ⟨(g4 x hx).1, (k x hx).2⟩⟩
theorem VOk.sep (h : VOk K mg F B H σ ρ (.ref a) (.ow d)) (hi : ρ[i]? = some s) (S : SlOk K mg F B H σ i s) : a ∉ fpS H σ i s := fun m => by
  obtain ⟨a', e, _, _, _, h4, h5⟩ := h
  cases e
  cases s with
  | no => cases m
  | fz d => cases m
  | ow d' =>
    obtain ⟨b, g1, _⟩ := S
    rw [fpS_ow g1] at m
    rw [List.mem_singleton.1 m] at h4
    exact h4 i d' hi g1
  | dp t =>
    obtain ⟨v, g1, _⟩ := S
    rw [fpS_dp g1] at m
    exact h5 i t v hi g1 m
theorem sep_v (h : ∀ (i : Nat) (s : Sl), ρ[i]? = some s → a ∉ fpS H σ i s) : (∀ (i : Nat) (d' : D), ρ[i]? = some (Sl.ow d') → σ[i]? ≠ some (some (V.ref a))) ∧
    ∀ (i : Nat) (t : T) (v : V), ρ[i]? = some (Sl.dp t) → σ[i]? = some (some v) → a ∉ fpT H v t :=
  ⟨fun i d' hi e => h i _ hi (by rw [fpS_ow e]; exact List.mem_singleton.2 rfl), fun i t v hi e m => h i _ hi (by rw [fpS_dp e]; exact m)⟩
end

/-! ### forgetting -/
def forget (fg : List Nat) (ρ : En) : En := fg.foldl (fun ρ i => ρ.set i .no) ρ
theorem Sat.forget {K : PySem.W.Frag} {mg : Str → Option Value} {PN : List Nat} {σ0 : Gs} {σ : L2.St} {F B H : Hp} (fg : List Nat) : ∀ {ρ : En}, Sat K mg PN σ0 F B H σ ρ → Sat K mg PN σ0 F B H σ (FV.forget fg ρ) := by
  induction fg with
  | nil => intro ρ S; exact S
  | cons i fg ih => intro ρ S; exact ih (S.no i)

/-! ### the judgements -/
section
variable (X : Cx) (PN : List Nat) (σ0 : Gs) (W : WX)
def EPost (F B : Hp) (σ : L2.St) (r : R Sl) (Q : VK) : Prop := match r with
  | .ok s ρ' => ∀ v H' B', Ext B B' → Sat X.K X.mg PN σ0 F B' H' σ ρ' → VOk X.K X.mg F B' H' σ ρ' v s → Q v H'
  | .exc c fs ρ' => ∀ cls od H' B', Ext B B' → Sat X.K X.mg PN σ0 F B' H' σ ρ' → ExcOk X.K X.mg B' c fs cls od → W cls od σ H'
  | .bad => False
def TPost (F B : Hp) (σ : L2.St) (r : R Sl) (Q : Bool → Hp → Prop) : Prop := match r with
  | .ok (.fz (.bl b)) ρ' => ∀ H' B', Ext B B' → Sat X.K X.mg PN σ0 F B' H' σ ρ' → Q b H'
  | .ok _ _ => False
  | .exc c fs ρ' => ∀ cls od H' B', Ext B B' → Sat X.K X.mg PN σ0 F B' H' σ ρ' → ExcOk X.K X.mg B' c fs cls od → W cls od σ H'
  | .bad => False
/-- what an operand may be read as: frozen data, or the held thing itself -/
def LRep (B H : Hp) (v : V) (d : D) : Prop := Rep X.K X.mg B v d ∨ ∃ a, v = V.ref a ∧ OwnD X.K X.mg B H a d
abbrev Th := En → Option D
def APost (F B : Hp) (σ : L2.St) (r : R Th) (Q : VK) : Prop := match r with
  | .ok th ρ' => ∀ v H' B', Ext B B' → Sat X.K X.mg PN σ0 F B' H' σ ρ' → (∀ B2 H2 ρ2 d, Ext B' B2 → Sat X.K X.mg PN σ0 F B2 H2 σ ρ2 → th ρ2 = some d → LRep X B2 H2 v d) → Q v H'
  | .exc c fs ρ' => ∀ cls od H' B', Ext B B' → Sat X.K X.mg PN σ0 F B' H' σ ρ' → ExcOk X.K X.mg B' c fs cls od → W cls od σ H'
  | .bad => False
structure FE (e : Expr) (f : FX) : Prop where
  ex : ∃ t : TE, PE X e t ∧ ∀ F B H σ ρ Q, Sat X.K X.mg PN σ0 F B H σ ρ → EPost X PN σ0 W F B σ (f ρ) Q → t σ H Q
structure FT (e : Expr) (f : FX) : Prop where
  ex : ∃ t : TT, PT X e t ∧ ∀ F B H σ ρ Q, Sat X.K X.mg PN σ0 F B H σ ρ → TPost X PN σ0 W F B σ (f ρ) Q → t σ H Q
structure FW (e : Expr) (f : FX) : Prop where
  ex : ∃ t : TT, PW X e t ∧ ∀ F B H σ ρ Q, Sat X.K X.mg PN σ0 F B H σ ρ → TPost X PN σ0 W F B σ (f ρ) Q → t σ H Q
structure FA (e : Expr) (g : En → R Th) : Prop where
  ex : ∃ t : TE, PE X e t ∧ ∀ F B H σ ρ Q, Sat X.K X.mg PN σ0 F B H σ ρ → APost X PN σ0 W F B σ (g ρ) Q → t σ H Q
/-- arguments: the values, with what they are read as later -/
def LPost (F B : Hp) (σ : L2.St) (r : R (List Th)) (Q : List V → Hp → Prop) : Prop := match r with
  | .ok ths ρ' => ∀ vs H' B', Ext B B' → Sat X.K X.mg PN σ0 F B' H' σ ρ' → vs.length = ths.length → (∀ (i : Nat) (v : L2.V) (th : Th), vs[i]? = some v → ths[i]? = some th → ∀ B2 H2 ρ2 d, Ext B' B2 → Sat X.K X.mg PN σ0 F B2 H2 σ ρ2 → th ρ2 = some d → LRep X B2 H2 v d) → Q vs H'
  | .exc c fs ρ' => ∀ cls od H' B', Ext B B' → Sat X.K X.mg PN σ0 F B' H' σ ρ' → ExcOk X.K X.mg B' c fs cls od → W cls od σ H'
  | .bad => False
structure FL (es : List Expr) (g : En → R (List Th)) : Prop where
  ex : ∃ t : TA, PA X es t ∧ ∀ F B H σ ρ Q, Sat X.K X.mg PN σ0 F B H σ ρ → LPost X PN σ0 W F B σ (g ρ) Q → t σ H Q
def SPost (F B : Hp) (r : R Fl) (D' : Ends) : Prop := match r with
  | .ok .nx ρ' => ∀ σ' H' B', Ext B B' → Sat X.K X.mg PN σ0 F B' H' σ' ρ' → D'.nx σ' H'
  | .ok .bk ρ' => ∀ σ' H' B', Ext B B' → Sat X.K X.mg PN σ0 F B' H' σ' ρ' → D'.bk σ' H'
  | .ok .ct ρ' => ∀ σ' H' B', Ext B B' → Sat X.K X.mg PN σ0 F B' H' σ' ρ' → D'.ct σ' H'
  | .ok (.rt s) ρ' => ∀ v σ' H' B', Ext B B' → Sat X.K X.mg PN σ0 F B' H' σ' ρ' → VOk X.K X.mg F B' H' σ' ρ' v s → D'.rt v H'
  | .exc c fs ρ' => ∀ cls od σ' H' B', Ext B B' → Sat X.K X.mg PN σ0 F B' H' σ' ρ' → ExcOk X.K X.mg B' c fs cls od → W cls od σ' H'
  | .bad => False
structure FS (st : Stmt) (g : FY) : Prop where
  ex : ∃ t : TS, PS X st t ∧ ∀ F B H σ ρ D', Sat X.K X.mg PN σ0 F B H σ ρ → SPost X PN σ0 W F B (g ρ) D' → t D' σ H
structure FB (st : List Stmt) (g : FY) : Prop where
  ex : ∃ t : TS, PSs X st t ∧ ∀ F B H σ ρ D', Sat X.K X.mg PN σ0 F B H σ ρ → SPost X PN σ0 W F B (g ρ) D' → t D' σ H
end

section
variable {X : Cx} {PN : List Nat} {σ0 : Gs} {W : WX} {F B B' : Hp} {σ : L2.St}
/-! ### the ends behind a longer way -/
theorem EPost.mono {r : R Sl} {Q : VK} (e : Ext B B') (h : EPost X PN σ0 W F B σ r Q) : EPost X PN σ0 W F B' σ r Q := by
  cases r with
  | ok s ρ => exact fun v H' B2 e2 S q => h v H' B2 (e.trans e2) S q
  | exc c fs ρ => exact fun cls od H' B2 e2 S q => h cls od H' B2 (e.trans e2) S q
  | bad => exact h
theorem TPost.mono {r : R Sl} {Q : Bool → Hp → Prop} (e : Ext B B') (h : TPost X PN σ0 W F B σ r Q) : TPost X PN σ0 W F B' σ r Q := by
  cases r with
  | ok s ρ =>
    cases s with
    | fz d =>
      cases d with
      | bl b => exact fun H' B2 e2 S => h H' B2 (e.trans e2) S
      | _ => exact h
    | _ => exact h
  | exc c fs ρ => exact fun cls od H' B2 e2 S q => h cls od H' B2 (e.trans e2) S q
  | bad => exact h
theorem APost.mono {r : R Th} {Q : VK} (e : Ext B B') (h : APost X PN σ0 W F B σ r Q) : APost X PN σ0 W F B' σ r Q := by
  cases r with
  | ok s ρ => exact fun v H' B2 e2 S q => h v H' B2 (e.trans e2) S q
  | exc c fs ρ => exact fun cls od H' B2 e2 S q => h cls od H' B2 (e.trans e2) S q
  | bad => exact h
theorem LPost.mono {r : R (List Th)} {Q : List V → Hp → Prop} (e : Ext B B') (h : LPost X PN σ0 W F B σ r Q) : LPost X PN σ0 W F B' σ r Q := by
  cases r with
  | ok s ρ => exact fun v H' B2 e2 S l q => h v H' B2 (e.trans e2) S l q
  | exc c fs ρ => exact fun cls od H' B2 e2 S q => h cls od H' B2 (e.trans e2) S q
  | bad => exact h
theorem SPost.mono {r : R Fl} {D' : Ends} (e : Ext B B') (h : SPost X PN σ0 W F B r D') : SPost X PN σ0 W F B' r D' := by
  cases r with
  | ok f ρ =>
    cases f with
    | nx => exact fun σ' H' B2 e2 S => h σ' H' B2 (e.trans e2) S
    | bk => exact fun σ' H' B2 e2 S => h σ' H' B2 (e.trans e2) S
    | ct => exact fun σ' H' B2 e2 S => h σ' H' B2 (e.trans e2) S
    | rt s => exact fun v σ' H' B2 e2 S q => h v σ' H' B2 (e.trans e2) S q
  | exc c fs ρ => exact fun cls od σ' H' B2 e2 S q => h cls od σ' H' B2 (e.trans e2) S q
  | bad => exact h
theorem LRep.mono {H : Hp} {v : V} {d : D} (h : Rep X.K X.mg B v d) : LRep X B H v d := .inl h

/-! ### expressions -/
def xC (d : D) : FX := fun ρ => .ok (.fz d) ρ
def xV (i : Nat) : FX := fun ρ => match ρ[i]? with
  | some (.fz d) => .ok (.fz d) ρ
  | some (.ow d) => .ok (.fz d) (ρ.set i (.fz d))
  | some (.dp t) => .ok (.fz t.strip) (ρ.set i (.fz t.strip))
  | _ => .bad
def xM (i : Nat) : FX := fun ρ => match ρ[i]? with
  | some (.fz d) => .ok (.fz d) ρ
  | some (.ow d) => .ok (.ow d) (ρ.set i .no)
  | some (.dp t) => .ok (.fz t.strip) (ρ.set i (.fz t.strip))
  | _ => .bad
theorem fe_c {e : Expr} {v : V} {d : D} (h : PE X e (tC v)) (r : ∀ B, Rep X.K X.mg B v d) : FE X PN σ0 W e (xC d) :=
  ⟨_, h, fun F B H σ ρ Q S q => q v H B (Ext.refl B) S (r B)⟩
theorem fe_int {i j pos} : FE X PN σ0 W (.Constant (.int i) j pos) (xC (.int i)) := fe_c pe_int fun _ => .int i
theorem fe_bl {b j pos} : FE X PN σ0 W (.Constant (.bool b) j pos) (xC (.bl b)) := fe_c pe_bl fun _ => .bl b
theorem fe_non {j pos} : FE X PN σ0 W (.Constant .none j pos) (xC .non) := fe_c pe_non fun _ => .non
theorem fe_str {x j pos} : FE X PN σ0 W (.Constant (.str x) j pos) (xC (.str x)) := fe_c pe_str fun _ => .str x
/-- the names of a def: M, which may be read; L, which may be stored -/
structure NamesOk (X : Cx) (M L : List Bool) : Prop where
  vis : ∀ (i : Nat) (x : Str), X.N[i]? = some x → M[i]? = some true → Vis X.env.scope x
  loc : ∀ (i : Nat) (x : Str), X.N[i]? = some x → L[i]? = some true → Loc X.env.scope x
  fn : ∀ (i : Nat) (x : Str), X.N[i]? = some x → L[i]? = some true → X.fn x = true ∨ X.env.scope.names.lookup x = some .local
  db : ∀ x ∈ X.N, (x == ("__debug__" : Str)) = false
  cd : ∀ x ∈ X.N, (x == ("__classdict__" : Str)) = false
  nd : X.N.Nodup
variable {M L : List Bool}
theorem NamesOk.pe (V : NamesOk X M L) (i : Nat) {x : Str} {pos : Pos} (h : X.N[i]? = some x := by rfl) (hm : M[i]? = some true := by rfl) : PE X (.Name x pos) (tVar i) :=
  pe_var h (V.vis i x h hm) (V.db x (List.mem_of_getElem? h)) (V.cd x (List.mem_of_getElem? h))
theorem fe_v (V : NamesOk X M L) (i : Nat) {x : Str} {pos : Pos} (h : X.N[i]? = some x := by rfl) (hm : M[i]? = some true := by rfl) : FE X PN σ0 W (.Name x pos) (xV i) := by
  refine ⟨_, V.pe i h hm, fun F B H σ ρ Q S q => ?_⟩
  unfold xV at q
  split at q
  · rename_i d e
    obtain ⟨v, h1, h2⟩ := S.sl i _ e
    exact ⟨v, h1, q v H B (Ext.refl B) S h2⟩
  · rename_i d e
    obtain ⟨v, B', h1, e', S', r⟩ := S.freezeAt e
    exact ⟨v, h1, q v H B' e' S' r⟩
  · rename_i d e
    obtain ⟨v, B', h1, e', S', r⟩ := S.freezeT e
    exact ⟨v, h1, q v H B' e' S' r⟩
  · exact q.elim
theorem fe_m (V : NamesOk X M L) (i : Nat) {x : Str} {pos : Pos} (h : X.N[i]? = some x := by rfl) (hm : M[i]? = some true := by rfl) : FE X PN σ0 W (.Name x pos) (xM i) := by
  refine ⟨_, V.pe i h hm, fun F B H σ ρ Q S q => ?_⟩
  unfold xM at q
  split at q
  · rename_i d e
    obtain ⟨v, h1, h2⟩ := S.sl i _ e
    exact ⟨v, h1, q v H B (Ext.refl B) S h2⟩
  · rename_i d e
    obtain ⟨v, h1, S', r⟩ := S.take e
    exact ⟨v, h1, q v H B (Ext.refl B) S' r⟩
  · rename_i d e
    obtain ⟨v, B', h1, e', S', r⟩ := S.freezeT e
    exact ⟨v, h1, q v H B' e' S' r⟩
  · exact q.elim
/-- frozen -/
def xF (f : FX) : FX := fun ρ => (f ρ).bind fun s ρ' => match s with
  | .fz d => .ok (.fz d) ρ'
  | .ow d => .ok (.fz d) ρ'
  | _ => .bad
theorem fe_f {e : Expr} {f : FX} (h : FE X PN σ0 W e f) : FE X PN σ0 W e (xF f) := by
  obtain ⟨t, ht, hf⟩ := h.ex
  refine ⟨t, ht, fun F B H σ ρ Q S q => hf F B H σ ρ Q S ?_⟩
  unfold xF at q
  cases hr : f ρ with
  | ok s ρ' =>
    rw [hr] at q
    intro v H' B' e S' r
    cases s with
    | no => exact r.elim
    | dp t => exact q.elim
    | fz d => exact q v H' B' e S' r
    | ow d =>
      obtain ⟨B2, e2, S2, r2⟩ := S'.freeze r
      exact q v H' B2 (e.trans e2) S2 r2
  | exc c fs ρ' => rw [hr] at q; exact q
  | bad => rw [hr] at q; exact q

/-! ### operands -/
def aX (f : FX) : En → R Th := fun ρ => (f ρ).bind fun s ρ' => match s with
  | .fz d => .ok (fun _ => some d) ρ'
  | .ow d => .ok (fun _ => some d) ρ'
  | _ => .bad
def rdSl (i : Nat) : Th := fun ρ => match ρ[i]? with
  | some (.fz d) => some d
  | some (.ow d) => some d
  | _ => none
def aR (i : Nat) : En → R Th := fun ρ => match rdSl i ρ with
  | some _ => .ok (rdSl i) ρ
  | none => .bad
theorem fa_x {e : Expr} {f : FX} (h : FE X PN σ0 W e f) : FA X PN σ0 W e (aX f) := by
  obtain ⟨t, ht, hf⟩ := (fe_f h).ex
  refine ⟨t, ht, fun F B H σ ρ Q S q => hf F B H σ ρ Q S ?_⟩
  unfold aX at q
  unfold xF
  cases hr : f ρ with
  | ok s ρ' =>
    rw [hr] at q
    cases s with
    | no => exact q
    | dp t => exact q
    | fz d => exact fun v H' B' e S' r => q v H' B' e S' fun B2 H2 ρ2 d2 e2 S2 h2 => by cases h2; exact .inl (r.mono e2)
    | ow d => exact fun v H' B' e S' r => q v H' B' e S' fun B2 H2 ρ2 d2 e2 S2 h2 => by cases h2; exact .inl (r.mono e2)
  | exc c fs ρ' => rw [hr] at q; exact q
  | bad => rw [hr] at q; exact q
theorem fa_r (V : NamesOk X M L) (i : Nat) {x : Str} {pos : Pos} (h : X.N[i]? = some x := by rfl) (hm : M[i]? = some true := by rfl) : FA X PN σ0 W (.Name x pos) (aR i) := by
  refine ⟨_, V.pe i h hm, fun F B H σ ρ Q S q => ?_⟩
  have key : ∀ (v : L2.V), σ[i]? = some (some v) → ∀ B2 H2 ρ2 d, Sat X.K X.mg PN σ0 F B2 H2 σ ρ2 → rdSl i ρ2 = some d → LRep X B2 H2 v d := fun v hv B2 H2 ρ2 d S2 h2 => by
    unfold rdSl at h2
    split at h2
    · rename_i d' e
      cases h2
      obtain ⟨v', h1, r⟩ := S2.sl i _ e
      rw [hv] at h1; cases h1
      exact .inl r
    · rename_i d' e
      cases h2
      obtain ⟨a, h1, _, _, r⟩ := S2.sl i _ e
      rw [hv] at h1; cases h1
      exact .inr ⟨a, rfl, r⟩
    · cases h2
  have hv : ∃ v, σ[i]? = some (some v) := by
    unfold aR rdSl at q
    cases e : ρ[i]? with
    | none => rw [e] at q; exact q.elim
    | some s =>
      cases s with
      | no => rw [e] at q; exact q.elim
      | dp t => rw [e] at q; exact q.elim
      | fz d => obtain ⟨v, h1, _⟩ := S.sl i _ e; exact ⟨v, h1⟩
      | ow d => obtain ⟨a, h1, _⟩ := S.sl i _ e; exact ⟨_, h1⟩
  obtain ⟨v, hv⟩ := hv
  refine ⟨v, hv, ?_⟩
  unfold aR at q
  cases e : rdSl i ρ with
  | none => rw [e] at q; exact q.elim
  | some d => rw [e] at q; exact q v H B (Ext.refl B) S fun B2 H2 ρ2 d2 e2 S2 h2 => key v hv B2 H2 ρ2 d2 S2 h2
end
end FV

namespace FV
open PySem PySem.Spec PyProof.Rows L2

section
variable {X : Cx} {B H : Hp} {v : L2.V}
theorem LRep.int {i : Int} (h : LRep X B H v (.int i)) : v = .int i := by
  rcases h with h | ⟨a, _, h⟩
  · cases h; rfl
  · exact h.elim
theorem LRep.bl {b : Bool} (h : LRep X B H v (.bl b)) : v = .bl b := by
  rcases h with h | ⟨a, _, h⟩
  · cases h; rfl
  · exact h.elim
theorem LRep.str {x : Str} (h : LRep X B H v (.str x)) : v = .str x := by
  rcases h with h | ⟨a, _, h⟩
  · cases h; rfl
  · exact h.elim
theorem LRep.non (h : LRep X B H v .non) : v = .non := by
  rcases h with h | ⟨a, _, h⟩
  · cases h; rfl
  · exact h.elim
theorem LRep.lst {ds : List D} (bh : ∀ b o, B b = some o → H b = some o) (h : LRep X B H v (.lst ds)) : ∃ a xs, v = V.ref a ∧ H a = some (.lst xs) ∧ RepL X.K X.mg B xs ds := by
  rcases h with h | ⟨a, rfl, xs, h1, h2⟩
  · cases h with
    | lst h1 h2 => exact ⟨_, _, rfl, bh _ _ h1, h2⟩
  · exact ⟨a, xs, rfl, h1, h2⟩
theorem LRep.tup {ds : List D} (bh : ∀ b o, B b = some o → H b = some o) (h : LRep X B H v (.tup ds)) : ∃ a xs, v = V.ref a ∧ H a = some (.tup xs) ∧ RepL X.K X.mg B xs ds := by
  rcases h with h | ⟨a, rfl, h⟩
  · cases h with
    | tup h1 h2 => exact ⟨_, _, rfl, bh _ _ h1, h2⟩
  · exact h.elim
theorem LRep.dic {kds : List (Key × D)} (bh : ∀ b o, B b = some o → H b = some o) (h : LRep X B H v (.dic kds)) :
    ∃ a kvs, v = V.ref a ∧ Rd H a (.dK kvs) ∧ kvs.map (·.1) = kds.map (·.1) ∧ RepL X.K X.mg B (kvs.map (·.2)) (kds.map (·.2)) := by
  rcases h with h | ⟨a, rfl, kvs, h1, h2, h3⟩
  · cases h with
    | dic h1 h2 h3 =>
      refine ⟨_, _, rfl, ?_, h2, h3⟩
      rcases h1 with h1 | ⟨od, h1⟩
      · exact .inl (bh _ _ h1)
      · exact .inr ⟨od, bh _ _ h1⟩
  · exact ⟨a, kvs, rfl, .inl h1, h2, h3⟩
theorem LRep.ins {c : Str} {fs : List (Str × D)} (bh : ∀ b o, B b = some o → H b = some o) (h : LRep X B H v (.ins c fs)) :
    ∃ a C dx vs, v = V.ref a ∧ X.mg c = some (Value.ref C) ∧ H a = some (.ins C dx vs) ∧ ∀ f d, fs.lookup f = some d → ∃ u, vs.lookup f = some u ∧ Rep X.K X.mg B u d := by
  rcases h with h | ⟨a, rfl, C, dx, vs, h1, h2, h3, h4, h5⟩
  · cases h with
    | ins h1 h2 h3 h4 => exact ⟨_, _, _, _, rfl, h1, bh _ _ h2, fun f d e => h4.get e⟩
  · exact ⟨a, C, dx, vs, rfl, h1, h2, fun f d e => lookup_paired h3 h5 e⟩
end

/-! ### what is done with values -/
abbrev G2 := D → D → Option Sl
def Fin (X : Cx) (PN : List Nat) (σ0 : Gs) (F B : Hp) (σ : L2.St) (ρ : En) (s : Sl) (Q : VK) : Prop := ∀ v H' B', Ext B B' → Sat X.K X.mg PN σ0 F B' H' σ ρ → VOk X.K X.mg F B' H' σ ρ v s → Q v H'
def Op2 (X : Cx) (r : R2) (g : G2) : Prop := ∀ PN σ0 F B H σ ρ x y dx dy s Q, Sat X.K X.mg PN σ0 F B H σ ρ → LRep X B H x dx → LRep X B H y dy → g dx dy = some s → Fin X PN σ0 F B σ ρ s Q → r x y H Q
def OpN (X : Cx) (r : List L2.V → Hp → VK → Prop) (g : List D → Option Sl) : Prop := ∀ PN σ0 F B H σ ρ vs ds s Q, Sat X.K X.mg PN σ0 F B H σ ρ → Paired (LRep X B H) vs ds → g ds = some s → Fin X PN σ0 F B σ ρ s Q → r vs H Q
def Op1 (X : Cx) (r : L2.V → Hp → VK → Prop) (g : D → Option Sl) : Prop := ∀ PN σ0 F B H σ ρ x dx s Q, Sat X.K X.mg PN σ0 F B H σ ρ → LRep X B H x dx → g dx = some s → Fin X PN σ0 F B σ ρ s Q → r x H Q
section
variable {X : Cx} {PN : List Nat} {σ0 : Gs} {W : WX} {F B B' H : Hp} {σ : L2.St} {ρ : En} {s : Sl} {Q : VK}
theorem Fin.flat {d : D} {v : L2.V} (S : Sat X.K X.mg PN σ0 F B H σ ρ) (h : Fin X PN σ0 F B σ ρ (.fz d) Q) (r : Rep X.K X.mg B v d) : Q v H := h v H B (Ext.refl B) S r
theorem Fin.newL {xs : List L2.V} {ds : List D} (S : Sat X.K X.mg PN σ0 F B H σ ρ) (h : Fin X PN σ0 F B σ ρ (.ow (.lst ds)) Q) (r : RepL X.K X.mg B xs ds) : ∀ p, H p = none → Q (.ref p) (upd H p (.lst xs)) := fun p n =>
  h _ _ B (Ext.refl B) (S.alloc n) ⟨p, rfl, S.fn n, S.bn n, ⟨xs, upd_same, r⟩, S.apart n, S.apartU n⟩
theorem Fin.newT {xs : List L2.V} {ds : List D} (S : Sat X.K X.mg PN σ0 F B H σ ρ) (h : Fin X PN σ0 F B σ ρ (.fz (.tup ds)) Q) (r : RepL X.K X.mg B xs ds) : ∀ p, H p = none → Q (.ref p) (upd H p (.tup xs)) := fun p n =>
  h _ _ (upd B p (.tup xs)) (Ext.new (S.bn n)) ((S.alloc n).join (S.fn n) (S.bn n) (S.apart n) (S.apartU n) upd_same) (.tup upd_same (r.mono (Ext.new (S.bn n))))
theorem Op2.or {r r' : R2} {g g' : G2} (h : Op2 X r g) (h' : Op2 X r' g') : Op2 X (fun x y H Q => r x y H Q ∨ r' x y H Q) (fun d e => (g d e).or (g' d e)) := fun PN σ0 F B H σ ρ x y dx dy s Q S hx hy hg q => by
  replace hg : (g dx dy).or (g' dx dy) = some s := hg
  cases e : g dx dy with
  | some t => rw [e] at hg; cases hg; exact .inl (h PN σ0 F B H σ ρ x y dx dy _ Q S hx hy e q)
  | none => rw [e] at hg; exact .inr (h' PN σ0 F B H σ ρ x y dx dy _ Q S hx hy hg q)
theorem OpN.or {r r' : List L2.V → Hp → VK → Prop} {g g' : List D → Option Sl} (h : OpN X r g) (h' : OpN X r' g') : OpN X (fun x H Q => r x H Q ∨ r' x H Q) (fun d => (g d).or (g' d)) := fun PN σ0 F B H σ ρ x dx s Q S hx hg q => by
  replace hg : (g dx).or (g' dx) = some s := hg
  cases e : g dx with
  | some t => rw [e] at hg; cases hg; exact .inl (h PN σ0 F B H σ ρ x dx _ Q S hx e q)
  | none => rw [e] at hg; exact .inr (h' PN σ0 F B H σ ρ x dx _ Q S hx hg q)

/-! ### operands, one after another -/
def ofO (o : Option Sl) (ρ : En) : R Sl := match o with
  | some s => .ok s ρ
  | none => .bad
theorem ofO_some {s : Sl} {ρ : En} : ofO (some s) ρ = .ok s ρ := rfl
def xB (g : G2) (a b : En → R Th) : FX := fun ρ => (a ρ).bind fun t1 ρ1 => (b ρ1).bind fun t2 ρ2 => ofO ((t1 ρ2).bind fun d1 => (t2 ρ2).bind fun d2 => g d1 d2) ρ2
def xU (g : D → Option Sl) (a : En → R Th) : FX := fun ρ => (a ρ).bind fun t1 ρ1 => ofO ((t1 ρ1).bind g) ρ1
theorem fin2 {ta tb : TE} {a b : En → R Th} {r : R2} {g : G2} (hr : Op2 X r g)
    (ha : ∀ F B H σ ρ Q, Sat X.K X.mg PN σ0 F B H σ ρ → APost X PN σ0 W F B σ (a ρ) Q → ta σ H Q)
    (hb : ∀ F B H σ ρ Q, Sat X.K X.mg PN σ0 F B H σ ρ → APost X PN σ0 W F B σ (b ρ) Q → tb σ H Q)
    (S : Sat X.K X.mg PN σ0 F B H σ ρ) (q : EPost X PN σ0 W F B σ (xB g a b ρ) Q) : tOp r ta tb σ H Q := by
  unfold xB at q
  refine ha F B H σ ρ _ S ?_
  cases ea : a ρ with
  | bad => rw [ea] at q; exact q
  | exc c fs ρ1 => rw [ea] at q; exact q
  | ok t1 ρ1 =>
    rw [ea] at q
    intro x H1 B1 e1 S1 k1
    refine hb F B1 H1 σ ρ1 _ S1 ?_
    simp only [R.bind] at q
    cases eb : b ρ1 with
    | bad => rw [eb] at q; exact q
    | exc c fs ρ2 => rw [eb] at q; exact fun cls od H' B' e S' z => q cls od H' B' (e1.trans e) S' z
    | ok t2 ρ2 =>
      rw [eb] at q
      intro y H2 B2 e2 S2 k2
      simp only at q
      cases h1 : t1 ρ2 with
      | none => rw [h1] at q; exact q.elim
      | some d1 =>
        cases h2 : t2 ρ2 with
        | none => rw [h1, h2] at q; exact q.elim
        | some d2 =>
          rw [h1, h2] at q
          simp only [Option.bind_some] at q
          cases hg : g d1 d2 with
          | none => rw [hg] at q; exact q.elim
          | some s =>
            rw [hg] at q
            exact hr PN σ0 F B2 H2 σ ρ2 x y d1 d2 s Q S2 (k1 B2 H2 ρ2 d1 e2 S2 h1) (k2 B2 H2 ρ2 d2 (Ext.refl B2) S2 h2) hg fun v H' B' e S' z => q v H' B' ((e1.trans e2).trans e) S' z
theorem fe_bin {a b : Expr} {op : Operator} {pos : Pos} {ga gb : En → R Th} {r : R2} {g : G2} (ho : OpR X (binaryOp op) r) (hr : Op2 X r g) (ha : FA X PN σ0 W a ga) (hb : FA X PN σ0 W b gb) : FE X PN σ0 W (.BinOp a op b pos) (xB g ga gb) := by
  obtain ⟨ta, pa, qa⟩ := ha.ex
  obtain ⟨tb, pb, qb⟩ := hb.ex
  exact ⟨_, pe_op ho pa pb, fun F B H σ ρ Q S q => fin2 hr qa qb S q⟩
theorem fe_cmp {a b : Expr} {op : CmpOp} {pos : Pos} {ga gb : En → R Th} {r : R2} {g : G2} (ho : OpR X (compareOp op) r) (hr : Op2 X r g) (ha : FA X PN σ0 W a ga) (hb : FA X PN σ0 W b gb) (hm : behindInMarks op b = false := by rfl) : FE X PN σ0 W (.Compare a [op] [b] pos) (xB g ga gb) := by
  obtain ⟨ta, pa, qa⟩ := ha.ex
  obtain ⟨tb, pb, qb⟩ := hb.ex
  exact ⟨_, pe_cmpR ho pa pb hm, fun F B H σ ρ Q S q => fin2 hr qa qb S q⟩
/-- from an expression's end to a test's -/
theorem toT {r : R Sl} {Q : Bool → Hp → Prop} (h : TPost X PN σ0 W F B σ r Q) : EPost X PN σ0 W F B σ r (fun v H' => ∃ k, v = L2.V.bl k ∧ Q k H') := by
  cases r with
  | bad => exact h
  | exc c fs ρ => exact h
  | ok s ρ =>
    cases s with
    | no => exact h.elim
    | ow d => exact h.elim
    | dp t => exact h.elim
    | fz d =>
      cases d with
      | bl b => exact fun v H' B' e S r => by cases r; exact ⟨b, rfl, h H' B' e S⟩
      | _ => exact h.elim
theorem ft_cmp {a b : Expr} {op : CmpOp} {pos : Pos} {ga gb : En → R Th} {r : R2} {g : G2} (ho : OpR X (compareOp op) r) (hr : Op2 X r g) (ha : FA X PN σ0 W a ga) (hb : FA X PN σ0 W b gb) (hm : behindInMarks op b = false := by rfl) : FT X PN σ0 W (.Compare a [op] [b] pos) (xB g ga gb) := by
  obtain ⟨ta, pa, qa⟩ := ha.ex
  obtain ⟨tb, pb, qb⟩ := hb.ex
  exact ⟨_, pt_cmpR ho pa pb hm, fun F B H σ ρ Q S q => fin2 hr qa qb S (toT q)⟩
/-- an expression as a test -/
theorem ft_e {e : Expr} {f : FX} (h : FE X PN σ0 W e f) (he : ∀ whole, isTrue e X.env whole = (do let v ← whole; standAt e.pos; holding [v] (truthy v)) := by intro _; rfl) : FT X PN σ0 W e f := by
  obtain ⟨t, pt, qt⟩ := h.ex
  exact ⟨_, pt_val pt he, fun F B H σ ρ Q S q => qt F B H σ ρ _ S (toT q)⟩
def xNot (f : FX) : FX := fun ρ => (f ρ).bind fun s ρ' => match s with
  | .fz (.bl b) => .ok (.fz (.bl (!b))) ρ'
  | _ => .bad
theorem ft_not {e : Expr} {f : FX} {pos : Pos} (h : FT X PN σ0 W e f) : FT X PN σ0 W (.UnaryOp .Not e pos) (xNot f) := by
  obtain ⟨t, pt, qt⟩ := h.ex
  refine ⟨_, pt_not pt, fun F B H σ ρ Q S q => qt F B H σ ρ _ S ?_⟩
  unfold xNot at q
  cases hr : f ρ with
  | bad => rw [hr] at q; exact q
  | exc c fs ρ => rw [hr] at q; exact q
  | ok s ρ' =>
    rw [hr] at q
    cases s with
    | no => exact q.elim
    | ow d => exact q.elim
    | dp t => exact q.elim
    | fz d =>
      cases d with
      | bl b => exact q
      | _ => exact q.elim
def xAnd (f g : FX) : FX := fun ρ => (f ρ).bind fun s ρ' => match s with
  | .fz (.bl true) => g ρ'
  | .fz (.bl false) => .ok (.fz (.bl false)) ρ'
  | _ => .bad
def xOr (f g : FX) : FX := fun ρ => (f ρ).bind fun s ρ' => match s with
  | .fz (.bl false) => g ρ'
  | .fz (.bl true) => .ok (.fz (.bl true)) ρ'
  | _ => .bad
section
variable {a b : Expr} {rest : List Expr} {pos : Pos} {f g : FX}
theorem fw_and1 (h : FT X PN σ0 W a f) : FW X PN σ0 W (.BoolOp .And [a] pos) f := by
  obtain ⟨t, pt, qt⟩ := h.ex
  exact ⟨_, pw_and1 pt, qt⟩
theorem fw_or1 (h : FT X PN σ0 W a f) : FW X PN σ0 W (.BoolOp .Or [a] pos) f := by
  obtain ⟨t, pt, qt⟩ := h.ex
  exact ⟨_, pw_or1 pt, qt⟩
theorem fw_and (h : FT X PN σ0 W a f) (k : FW X PN σ0 W (.BoolOp .And (b :: rest) pos) g) : FW X PN σ0 W (.BoolOp .And (a :: b :: rest) pos) (xAnd f g) := by
  obtain ⟨t, pt, qt⟩ := h.ex
  obtain ⟨u, pu, qu⟩ := k.ex
  refine ⟨_, pw_and pt pu, fun F B H σ ρ Q S q => qt F B H σ ρ _ S ?_⟩
  unfold xAnd at q
  cases hr : f ρ with
  | bad => rw [hr] at q; exact q
  | exc c fs ρ => rw [hr] at q; exact q
  | ok s ρ' =>
    rw [hr] at q
    cases s with
    | no => exact q.elim
    | ow d => exact q.elim
    | dp t => exact q.elim
    | fz d =>
      cases d with
      | bl b =>
        cases b with
        | true => exact fun H' B' e S' => iteT (qu F B' H' σ ρ' Q S' (TPost.mono e q))
        | false => exact fun H' B' e S' => iteF (q H' B' e S')
      | _ => exact q.elim
theorem fw_or (h : FT X PN σ0 W a f) (k : FW X PN σ0 W (.BoolOp .Or (b :: rest) pos) g) : FW X PN σ0 W (.BoolOp .Or (a :: b :: rest) pos) (xOr f g) := by
  obtain ⟨t, pt, qt⟩ := h.ex
  obtain ⟨u, pu, qu⟩ := k.ex
  refine ⟨_, pw_or pt pu, fun F B H σ ρ Q S q => qt F B H σ ρ _ S ?_⟩
  unfold xOr at q
  cases hr : f ρ with
  | bad => rw [hr] at q; exact q
  | exc c fs ρ => rw [hr] at q; exact q
  | ok s ρ' =>
    rw [hr] at q
    cases s with
    | no => exact q.elim
    | ow d => exact q.elim
    | dp t => exact q.elim
    | fz d =>
      cases d with
      | bl b =>
        cases b with
        | false => exact fun H' B' e S' => iteF (qu F B' H' σ ρ' Q S' (TPost.mono e q))
        | true => exact fun H' B' e S' => iteT (q H' B' e S')
      | _ => exact q.elim
theorem ft_w (h : FW X PN σ0 W a f) : FT X PN σ0 W a f := by
  obtain ⟨t, pt, qt⟩ := h.ex
  exact ⟨_, pt.pt, qt⟩
/-! ### the same as values -/
theorem fe_one {op} (h : FE X PN σ0 W a f) : FE X PN σ0 W (.BoolOp op [a] pos) f := by
  obtain ⟨t, pt, qt⟩ := h.ex
  exact ⟨_, pe_one pt, qt⟩
theorem fe_and (h : FE X PN σ0 W a f) (k : FE X PN σ0 W (.BoolOp .And (b :: rest) pos) g) : FE X PN σ0 W (.BoolOp .And (a :: b :: rest) pos) (xAnd f g) := by
  obtain ⟨t, pt, qt⟩ := h.ex
  obtain ⟨u, pu, qu⟩ := k.ex
  refine ⟨_, pe_and pt pu, fun F B H σ ρ Q S q => qt F B H σ ρ _ S ?_⟩
  unfold xAnd at q
  cases hr : f ρ with
  | bad => rw [hr] at q; exact q
  | exc c fs ρ => rw [hr] at q; exact q
  | ok s ρ' =>
    rw [hr] at q
    cases s with
    | no => exact q.elim
    | ow d => exact q.elim
    | dp t => exact q.elim
    | fz d =>
      cases d with
      | bl b =>
        cases b with
        | true => exact fun v H' B' e S' r => by cases r; exact ⟨true, rfl, iteT (qu F B' H' σ ρ' Q S' (EPost.mono e q))⟩
        | false => exact fun v H' B' e S' r => by cases r; exact ⟨false, rfl, iteF (q _ H' B' e S' (.bl false))⟩
      | _ => exact q.elim
theorem fe_or (h : FE X PN σ0 W a f) (k : FE X PN σ0 W (.BoolOp .Or (b :: rest) pos) g) : FE X PN σ0 W (.BoolOp .Or (a :: b :: rest) pos) (xOr f g) := by
  obtain ⟨t, pt, qt⟩ := h.ex
  obtain ⟨u, pu, qu⟩ := k.ex
  refine ⟨_, pe_or pt pu, fun F B H σ ρ Q S q => qt F B H σ ρ _ S ?_⟩
  unfold xOr at q
  cases hr : f ρ with
  | bad => rw [hr] at q; exact q
  | exc c fs ρ => rw [hr] at q; exact q
  | ok s ρ' =>
    rw [hr] at q
    cases s with
    | no => exact q.elim
    | ow d => exact q.elim
    | dp t => exact q.elim
    | fz d =>
      cases d with
      | bl b =>
        cases b with
        | false => exact fun v H' B' e S' r => by cases r; exact ⟨false, rfl, iteF (qu F B' H' σ ρ' Q S' (EPost.mono e q))⟩
        | true => exact fun v H' B' e S' r => by cases r; exact ⟨true, rfl, iteT (q _ H' B' e S' (.bl true))⟩
      | _ => exact q.elim
theorem fe_not (h : FE X PN σ0 W a f) : FE X PN σ0 W (.UnaryOp .Not a pos) (xNot f) := by
  obtain ⟨t, pt, qt⟩ := h.ex
  refine ⟨_, pe_not pt, fun F B H σ ρ Q S q => qt F B H σ ρ _ S ?_⟩
  unfold xNot at q
  cases hr : f ρ with
  | bad => rw [hr] at q; exact q
  | exc c fs ρ => rw [hr] at q; exact q
  | ok s ρ' =>
    rw [hr] at q
    cases s with
    | no => exact q.elim
    | ow d => exact q.elim
    | dp t => exact q.elim
    | fz d =>
      cases d with
      | bl b => exact fun v H' B' e S' r => by cases r; exact ⟨b, rfl, q _ H' B' e S' (.bl _)⟩
      | _ => exact q.elim
/-- a if t else b -/
def xIf (t f g : FX) : FX := fun ρ => (t ρ).bind fun s ρ' => match s with
  | .fz (.bl true) => f ρ'
  | .fz (.bl false) => g ρ'
  | _ => .bad
theorem fe_if {c : Expr} {t : FX} (hc : FT X PN σ0 W c t) (h : FE X PN σ0 W a f) (k : FE X PN σ0 W b g) : FE X PN σ0 W (.IfExp c a b pos) (xIf t f g) := by
  obtain ⟨tc, pc, qc⟩ := hc.ex
  obtain ⟨ta, pa, qa⟩ := h.ex
  obtain ⟨tb, pb, qb⟩ := k.ex
  refine ⟨_, pe_ifExp pc pa pb, fun F B H σ ρ Q S q => qc F B H σ ρ _ S ?_⟩
  unfold xIf at q
  cases hr : t ρ with
  | bad => rw [hr] at q; exact q
  | exc c fs ρ => rw [hr] at q; exact q
  | ok s ρ' =>
    rw [hr] at q
    cases s with
    | no => exact q.elim
    | ow d => exact q.elim
    | dp t => exact q.elim
    | fz d =>
      cases d with
      | bl b =>
        cases b with
        | true => exact fun H' B' e S' => iteT (qa F B' H' σ ρ' Q S' (EPost.mono e q))
        | false => exact fun H' B' e S' => iteF (qb F B' H' σ ρ' Q S' (EPost.mono e q))
      | _ => exact q.elim
end
/-! ### one operand, argument lists -/
theorem fin1 {ta : TE} {a : En → R Th} {r : L2.V → Hp → VK → Prop} {g : D → Option Sl} (hr : Op1 X r g)
    (ha : ∀ F B H σ ρ Q, Sat X.K X.mg PN σ0 F B H σ ρ → APost X PN σ0 W F B σ (a ρ) Q → ta σ H Q)
    (S : Sat X.K X.mg PN σ0 F B H σ ρ) (q : EPost X PN σ0 W F B σ (xU g a ρ) Q) : ta σ H (fun x H1 => r x H1 Q) := by
  unfold xU at q
  refine ha F B H σ ρ _ S ?_
  cases ea : a ρ with
  | bad => rw [ea] at q; exact q
  | exc c fs ρ1 => rw [ea] at q; exact q
  | ok t1 ρ1 =>
    rw [ea, R.bind_ok] at q
    intro x H1 B1 e1 S1 k1
    cases h1 : t1 ρ1 with
    | none => rw [h1] at q; exact q.elim
    | some d1 =>
      rw [h1] at q
      simp only [Option.bind_some] at q
      cases hg : g d1 with
      | none => rw [hg] at q; exact q.elim
      | some s =>
        rw [hg] at q
        exact hr PN σ0 F B1 H1 σ ρ1 x d1 s Q S1 (k1 B1 H1 ρ1 d1 (Ext.refl B1) S1 h1) hg fun v H' B' e S' z => q v H' B' (e1.trans e) S' z
theorem fe_un {a : Expr} {op : UnaryOp} {pos : Pos} {ga : En → R Th} {r : L2.V → Hp → VK → Prop} {g : D → Option Sl} (ho : UnR X (unaryOp op) r) (hr : Op1 X r g) (ha : FA X PN σ0 W a ga) : FE X PN σ0 W (.UnaryOp op a pos) (xU g ga) := by
  obtain ⟨ta, pa, qa⟩ := ha.ex
  exact ⟨_, pe_un ho pa, fun F B H σ ρ Q S q => fin1 hr qa S q⟩
def lNil : En → R (List Th) := fun ρ => .ok [] ρ
def lCons (a : En → R Th) (l : En → R (List Th)) : En → R (List Th) := fun ρ => (a ρ).bind fun t ρ1 => (l ρ1).bind fun ts ρ2 => .ok (t :: ts) ρ2
theorem fl_nil : FL X PN σ0 W [] lNil := ⟨_, pa_nil, fun F B H σ ρ Q S q => q [] H B (Ext.refl B) S rfl fun i v th h => by simp at h⟩
theorem fl_cons {e : Expr} {es : List Expr} {a : En → R Th} {l : En → R (List Th)} (ha : FA X PN σ0 W e a) (hl : FL X PN σ0 W es l) (hs : starEach (e :: es) X.env = (false, eval e X.env) :: starEach es X.env := by rfl) : FL X PN σ0 W (e :: es) (lCons a l) := by
  obtain ⟨ta, pa, qa⟩ := ha.ex
  obtain ⟨tl, pl, ql⟩ := hl.ex
  refine ⟨_, pa_cons pa pl hs, fun F B H σ ρ Q S q => qa F B H σ ρ _ S ?_⟩
  unfold lCons at q
  cases ea : a ρ with
  | bad => rw [ea] at q; exact q
  | exc c fs ρ1 => rw [ea] at q; exact q
  | ok t1 ρ1 =>
    rw [ea] at q
    intro x H1 B1 e1 S1 k1
    refine ql F B1 H1 σ ρ1 _ S1 ?_
    simp only [R.bind] at q
    cases el : l ρ1 with
    | bad => rw [el] at q; exact q
    | exc c fs ρ2 => rw [el] at q; exact fun cls od H' B' e S' z => q cls od H' B' (e1.trans e) S' z
    | ok ts ρ2 =>
      rw [el] at q
      intro vs H2 B2 e2 S2 hl k2
      refine q (x :: vs) H2 B2 (e1.trans e2) S2 (by simp [hl]) fun i v th hv ht => ?_
      cases i with
      | zero =>
        simp at hv ht
        subst hv ht
        exact fun B3 H3 ρ3 d e3 S3 h => k1 B3 H3 ρ3 d (e2.trans e3) S3 h
      | succ i => exact k2 i v th (by simpa using hv) (by simpa using ht)
def evTh : List Th → En → Option (List D)
  | [], _ => some []
  | t :: ts, ρ => (t ρ).bind fun d => (evTh ts ρ).bind fun ds => some (d :: ds)
def xL (g : List D → Option Sl) (l : En → R (List Th)) : FX := fun ρ => (l ρ).bind fun ts ρ1 => ofO ((evTh ts ρ1).bind g) ρ1
theorem paired_of {B H : Hp} {ρ : En} : ∀ {vs : List L2.V} {ts : List Th} {ds : List D}, vs.length = ts.length → (∀ (i : Nat) (v : L2.V) (th : Th), vs[i]? = some v → ts[i]? = some th → ∀ d, th ρ = some d → LRep X B H v d) → evTh ts ρ = some ds → Paired (LRep X B H) vs ds
  | [], [], ds, _, _, h => by cases h; exact .nil
  | [], _ :: _, _, hl, _, _ => by simp at hl
  | _ :: _, [], _, hl, _, _ => by simp at hl
  | v :: vs, t :: ts, ds, hl, k, h => by
    unfold evTh at h
    cases e1 : t ρ with
    | none => rw [e1] at h; cases h
    | some d =>
      rw [e1] at h
      cases e2 : evTh ts ρ with
      | none => rw [e2] at h; cases h
      | some ds' =>
        rw [e2] at h
        cases h
        exact .cons (k 0 v t rfl rfl d e1) (paired_of (by simpa using hl) (fun i v' th h1 h2 => k (i + 1) v' th (by simpa using h1) (by simpa using h2)) e2)
theorem finL {t : TA} {l : En → R (List Th)} {r : List L2.V → Hp → VK → Prop} {g : List D → Option Sl} (hr : OpN X r g)
    (hl : ∀ F B H σ ρ Q, Sat X.K X.mg PN σ0 F B H σ ρ → LPost X PN σ0 W F B σ (l ρ) Q → t σ H Q)
    (S : Sat X.K X.mg PN σ0 F B H σ ρ) (q : EPost X PN σ0 W F B σ (xL g l ρ) Q) : t σ H (fun vs H1 => r vs H1 Q) := by
  unfold xL at q
  refine hl F B H σ ρ _ S ?_
  cases el : l ρ with
  | bad => rw [el] at q; exact q
  | exc c fs ρ1 => rw [el] at q; exact q
  | ok ts ρ1 =>
    rw [el, R.bind_ok] at q
    intro vs H1 B1 e1 S1 hl k1
    cases h1 : evTh ts ρ1 with
    | none => rw [h1] at q; exact q.elim
    | some ds =>
      rw [h1] at q
      simp only [Option.bind_some] at q
      cases hg : g ds with
      | none => rw [hg] at q; exact q.elim
      | some s =>
        rw [hg] at q
        exact hr PN σ0 F B1 H1 σ ρ1 vs ds s Q S1 (paired_of hl (fun i v th a b d hd => k1 i v th a b B1 H1 ρ1 d (Ext.refl B1) S1 hd) h1) hg fun v H' B' e S' z => q v H' B' (e1.trans e) S' z
/-- a built-in's name that the module leaves -/
structure Blt (X : Cx) (x : Str) : Prop where
  gl : Gl X x
  no : X.mg x = none
theorem fe_callB {x : Str} {p pos : Pos} {e : Expr} {es : List Expr} {id : String} {r : List L2.V → Hp → VK → Prop} {g : List D → Option Sl} {l : En → R (List Th)} (hc : CallR X (.builtin id) r) (hr : OpN X r g) (b : Blt X x) (hv : bootBuiltins x = some (.builtin id)) (ha : FL X PN σ0 W (e :: es) l)
    (hn : x ≠ "__name__" := by decide) (hdb : (x == ("__debug__" : Str)) = false := by decide)
    (he : starEach (e :: es) X.env = (false, eval e X.env) :: starEach es X.env := by rfl) (hpl : (backTo pos (starEach es X.env)).any (·.1) = false := by rfl) : FE X PN σ0 W (.Call (.Name x p) (e :: es) [] pos) (xL g l) := by
  obtain ⟨t, pt, qt⟩ := ha.ex
  exact ⟨_, pe_callB hc b.gl b.no hv pt hn hdb he hpl, fun F B H σ ρ Q S q => finL hr qt S q⟩
theorem fe_callT {x : Str} {p pos : Pos} {e : Expr} {es : List Expr} {T : String} {r : List L2.V → Hp → VK → Prop} {g : List D → Option Sl} {l : En → R (List Th)} (hc : CallR X (.type T) r) (hr : OpN X r g) (b : Blt X x) (hv : bootBuiltins x = some (.type T)) (ha : FL X PN σ0 W (e :: es) l)
    (hn : x ≠ "__name__" := by decide) (hdb : (x == ("__debug__" : Str)) = false := by decide)
    (he : starEach (e :: es) X.env = (false, eval e X.env) :: starEach es X.env := by rfl) (hpl : (backTo pos (starEach es X.env)).any (·.1) = false := by rfl) : FE X PN σ0 W (.Call (.Name x p) (e :: es) [] pos) (xL g l) := by
  obtain ⟨t, pt, qt⟩ := ha.ex
  exact ⟨_, pe_callTy hc b.gl b.no hv pt hn hdb he hpl, fun F B H σ ρ Q S q => finL hr qt S q⟩
/-- [a, b], (a, b) -/
theorem repL_of {B : Hp} : ∀ {vs : List L2.V} {ds : List D}, Paired (fun v d => Rep X.K X.mg B v d) vs ds → RepL X.K X.mg B vs ds
  | _, _, .nil => .nil
  | _, _, .cons p q => .cons p (repL_of q)
end
end FV

namespace FV
open PySem PySem.Spec PyProof.Rows L2

/-! ### arguments of an own def: frozen data, or a held thing lent -/
inductive Ar where
  | fz (d : D) | sl (i : Nat)
def ArOk (X : Cx) (B : Hp) (σ : L2.St) (v : L2.V) : Ar → Prop
  | .fz d => Rep X.K X.mg B v d
  | .sl i => σ[i]? = some (some v)
def CPost (X : Cx) (PN : List Nat) (σ0 : Gs) (W : WX) (F B : Hp) (σ : L2.St) (r : R (List Ar)) (Q : List L2.V → Hp → Prop) : Prop := match r with
  | .ok ars ρ' => ∀ vs H' B', Ext B B' → Sat X.K X.mg PN σ0 F B' H' σ ρ' → Paired (ArOk X B' σ) vs ars → Q vs H'
  | .exc c fs ρ' => ∀ cls od H' B', Ext B B' → Sat X.K X.mg PN σ0 F B' H' σ ρ' → ExcOk X.K X.mg B' c fs cls od → W cls od σ H'
  | .bad => False
structure FC (X : Cx) (PN : List Nat) (σ0 : Gs) (W : WX) (es : List Expr) (g : En → R (List Ar)) : Prop where
  ex : ∃ t : TA, PA X es t ∧ ∀ F B H σ ρ Q, Sat X.K X.mg PN σ0 F B H σ ρ → CPost X PN σ0 W F B σ (g ρ) Q → t σ H Q
section
variable {X : Cx} {PN : List Nat} {σ0 : Gs} {W : WX} {F B B' H : Hp} {σ : L2.St} {ρ : En} {s : Sl} {Q : VK}
theorem ArOk.mono {v : L2.V} {a : Ar} (e : Ext B B') (h : ArOk X B σ v a) : ArOk X B' σ v a := by
  cases a with
  | fz d => exact Rep.mono e h
  | sl i => exact h
def cNil : En → R (List Ar) := fun ρ => .ok [] ρ
def cX (f : FX) (l : En → R (List Ar)) : En → R (List Ar) := fun ρ => (f ρ).bind fun s ρ1 => match s with
  | .fz d => (l ρ1).bind fun ars ρ2 => .ok (.fz d :: ars) ρ2
  | .ow d => (l ρ1).bind fun ars ρ2 => .ok (.fz d :: ars) ρ2
  | _ => .bad
def cO (i : Nat) (l : En → R (List Ar)) : En → R (List Ar) := fun ρ => match ρ[i]? with
  | some (.ow _) => (l ρ).bind fun ars ρ2 => .ok (.sl i :: ars) ρ2
  | some (.dp _) => (l ρ).bind fun ars ρ2 => .ok (.sl i :: ars) ρ2
  | _ => .bad
theorem fc_nil : FC X PN σ0 W [] cNil := ⟨_, pa_nil, fun F B H σ ρ Q S q => q [] H B (Ext.refl B) S .nil⟩
theorem fc_x {e : Expr} {es : List Expr} {f : FX} {l : En → R (List Ar)} (ha : FE X PN σ0 W e f) (hl : FC X PN σ0 W es l) (hs : starEach (e :: es) X.env = (false, eval e X.env) :: starEach es X.env := by rfl) : FC X PN σ0 W (e :: es) (cX f l) := by
  obtain ⟨ta, pa, qa⟩ := (fe_f ha).ex
  obtain ⟨tl, pl, ql⟩ := hl.ex
  refine ⟨_, pa_cons pa pl hs, fun F B H σ ρ Q S q => qa F B H σ ρ _ S ?_⟩
  unfold cX at q
  unfold xF
  cases ea : f ρ with
  | bad => rw [ea] at q; exact q
  | exc c fs ρ1 => rw [ea] at q; exact q
  | ok s ρ1 =>
    rw [ea, R.bind_ok] at q
    rw [R.bind_ok]
    have key : ∀ d, CPost X PN σ0 W F B σ ((l ρ1).bind fun ars ρ2 => .ok (.fz d :: ars) ρ2) Q → EPost X PN σ0 W F B σ (.ok (.fz d) ρ1) (fun x H1 => tl σ H1 fun xs H2 => Q (x :: xs) H2) := fun d q => by
      intro x H1 B1 e1 S1 k1
      refine ql F B1 H1 σ ρ1 _ S1 ?_
      cases el : l ρ1 with
      | bad => rw [el] at q; exact q
      | exc c fs ρ2 => rw [el] at q; exact fun cls od H' B' e S' z => q cls od H' B' (e1.trans e) S' z
      | ok ts ρ2 =>
        rw [el] at q
        intro vs H2 B2 e2 S2 k2
        exact q (x :: vs) H2 B2 (e1.trans e2) S2 (.cons (Rep.mono e2 k1) k2)
    cases s with
    | no => exact q.elim
    | dp t => exact q.elim
    | fz d => exact key d q
    | ow d => exact key d q
theorem fc_o {M L : List Bool} (N : NamesOk X M L) (i : Nat) {x : Str} {pos : Pos} {es : List Expr} {l : En → R (List Ar)} (hl : FC X PN σ0 W es l) (h : X.N[i]? = some x := by rfl) (hm : M[i]? = some true := by rfl)
    (hs : starEach (.Name x pos :: es) X.env = (false, eval (.Name x pos) X.env) :: starEach es X.env := by rfl) : FC X PN σ0 W (.Name x pos :: es) (cO i l) := by
  obtain ⟨tl, pl, ql⟩ := hl.ex
  refine ⟨_, pa_cons (N.pe i h hm) pl hs, fun F B H σ ρ Q S q => ?_⟩
  unfold cO at q
  split at q
  · rename_i d e
    obtain ⟨a, h1, _⟩ := S.sl i _ e
    refine ⟨_, h1, ql F B H σ ρ _ S ?_⟩
    cases el : l ρ with
    | bad => rw [el] at q; exact q
    | exc c fs ρ2 => rw [el] at q; exact q
    | ok ts ρ2 =>
      rw [el] at q
      exact fun vs H2 B2 e2 S2 k2 => q (_ :: vs) H2 B2 e2 S2 (.cons h1 k2)
  · rename_i d e
    obtain ⟨a, h1, _⟩ := S.sl i _ e
    refine ⟨_, h1, ql F B H σ ρ _ S ?_⟩
    cases el : l ρ with
    | bad => rw [el] at q; exact q
    | exc c fs ρ2 => rw [el] at q; exact q
    | ok ts ρ2 =>
      rw [el] at q
      exact fun vs H2 B2 e2 S2 k2 => q (_ :: vs) H2 B2 e2 S2 (.cons h1 k2)
  · exact q.elim

/-! ### displays -/
def dsOf : List Ar → Option (List D)
  | [] => some []
  | .fz d :: r => (dsOf r).bind fun ds => some (d :: ds)
  | .sl _ :: _ => none
theorem dsOf_rep : ∀ {vs : List L2.V} {ars : List Ar} {ds : List D}, Paired (ArOk X B σ) vs ars → dsOf ars = some ds → RepL X.K X.mg B vs ds
  | _, _, _, .nil, h => by cases h; exact .nil
  | _, _, _, .cons (b := a) p q, h => by
    cases a with
    | sl i => cases h
    | fz d =>
      unfold dsOf at h
      rename_i ars
      cases e : dsOf ars with
      | none => rw [e] at h; cases h
      | some ds' => rw [e] at h; cases h; exact .cons p (dsOf_rep q e)
def xLst (l : En → R (List Ar)) : FX := fun ρ => (l ρ).bind fun ars ρ1 => match dsOf ars with
  | some ds => if ds.length ≤ 1000 then .ok (.ow (.lst ds)) ρ1 else .bad
  | none => .bad
def xTup (l : En → R (List Ar)) : FX := fun ρ => (l ρ).bind fun ars ρ1 => match dsOf ars with
  | some ds => if ds.length ≤ 1000 then .ok (.fz (.tup ds)) ρ1 else .bad
  | none => .bad
theorem fe_lst {es : List Expr} {pos : Pos} {l : En → R (List Ar)} (h : FC X PN σ0 W es l) : FE X PN σ0 W (.List es pos) (xLst l) := by
  obtain ⟨t, pt, qt⟩ := h.ex
  refine ⟨_, pe_lst pt, fun F B H σ ρ Q S q => qt F B H σ ρ _ S ?_⟩
  unfold xLst at q
  cases el : l ρ with
  | bad => rw [el] at q; exact q
  | exc c fs ρ2 => rw [el] at q; exact q
  | ok ars ρ1 =>
    rw [el, R.bind_ok] at q
    intro vs H1 B1 e1 S1 k1
    cases ed : dsOf ars with
    | none => rw [ed] at q; exact q.elim
    | some ds =>
      rw [ed] at q
      simp only at q
      have r := dsOf_rep k1 ed
      split at q
      · rename_i hz
        exact ⟨by rw [r.length]; exact Nat.le_trans hz (by decide), Fin.newL S1 (fun v H' B' e S' z => q v H' B' (e1.trans e) S' z) r⟩
      · exact q.elim
theorem fe_tup {es : List Expr} {x1 : Nat} {pos : Pos} {l : En → R (List Ar)} (h : FC X PN σ0 W es l) : FE X PN σ0 W (.Tuple es x1 pos) (xTup l) := by
  obtain ⟨t, pt, qt⟩ := h.ex
  refine ⟨_, pe_tup pt, fun F B H σ ρ Q S q => qt F B H σ ρ _ S ?_⟩
  unfold xTup at q
  cases el : l ρ with
  | bad => rw [el] at q; exact q
  | exc c fs ρ2 => rw [el] at q; exact q
  | ok ars ρ1 =>
    rw [el, R.bind_ok] at q
    intro vs H1 B1 e1 S1 k1
    cases ed : dsOf ars with
    | none => rw [ed] at q; exact q.elim
    | some ds =>
      rw [ed] at q
      simp only at q
      have r := dsOf_rep k1 ed
      split at q
      · rename_i hz
        exact ⟨by rw [r.length]; exact Nat.le_trans hz (by decide), Fin.newT S1 (fun v H' B' e S' z => q v H' B' (e1.trans e) S' z) r⟩
      · exact q.elim
end

/-! ### what a def promises -/
abbrev GF := En → R Fl
def spF (K : PySem.W.Frag) (mg : Str → Option Value) (own : List Bool) (G : GF) : Sp := fun vs H Q E =>
  vs.length = own.length ∧ ∃ F B ρ, ρ.length = own.length ∧ Sat K mg [] {} F B H (vs.map some) ρ ∧ (∀ (i : Nat) (d : D), ρ[i]? = some (Sl.ow d) → own[i]? = some true) ∧
    match G ρ with
    | .ok .nx ρ' => ∀ H' B', Ext B B' → Sat K mg [] {} F B' H' (vs.map some) ρ' → Q .non H'
    | .ok (.rt s) ρ' => ∀ v H' B', Ext B B' → Sat K mg [] {} F B' H' (vs.map some) ρ' → VOk K mg F B' H' (vs.map some) ρ' v s → Q v H'
    | .ok _ _ => False
    | .exc c fs ρ' => ∀ cls od H' B', Ext B B' → Sat K mg [] {} F B' H' (vs.map some) ρ' → ExcOk K mg B' c fs cls od → E cls od H'
    | .bad => False
def slots : List Ar → List Nat
  | [] => []
  | .fz _ :: r => slots r
  | .sl i :: r => i :: slots r
theorem mem_slots : ∀ {ars : List Ar} {i : Nat}, i ∈ slots ars ↔ ∃ j : Nat, ars[j]? = some (Ar.sl i)
  | [], i => by simp [slots]
  | .fz d :: r, i => by
    rw [slots, mem_slots]
    constructor
    · rintro ⟨j, h⟩; exact ⟨j + 1, by simpa using h⟩
    · rintro ⟨j, h⟩
      cases j with
      | zero => simp at h
      | succ j => exact ⟨j, by simpa using h⟩
  | .sl k :: r, i => by
    rw [slots, List.mem_cons, mem_slots]
    constructor
    · rintro (h | ⟨j, h⟩)
      · exact ⟨0, by simp [h]⟩
      · exact ⟨j + 1, by simpa using h⟩
    · rintro ⟨j, h⟩
      cases j with
      | zero => simp at h; exact .inl h.symm
      | succ j => exact .inr ⟨j, by simpa using h⟩
theorem slots_inj : ∀ {ars : List Ar} {i j k : Nat}, (slots ars).Nodup → ars[j]? = some (Ar.sl i) → ars[k]? = some (Ar.sl i) → j = k
  | [], i, j, k, _, h, _ => by simp at h
  | .fz d :: r, i, j, k, nd, h1, h2 => by
    cases j with
    | zero => simp at h1
    | succ j =>
      cases k with
      | zero => simp at h2
      | succ k =>
        have z := slots_inj (ars := r) (i := i) (j := j) (k := k) nd (by simpa using h1) (by simpa using h2)
        rw [z]
  | .sl m :: r, i, j, k, nd, h1, h2 => by
    rw [slots, List.nodup_cons] at nd
    cases j with
    | zero =>
      cases k with
      | zero => rfl
      | succ k =>
        simp at h1 h2
        subst h1
        exact (nd.1 (mem_slots.mpr ⟨k, h2⟩)).elim
    | succ j =>
      cases k with
      | zero =>
        simp at h1 h2
        subst h2
        exact (nd.1 (mem_slots.mpr ⟨j, h1⟩)).elim
      | succ k =>
        have z := slots_inj (ars := r) (i := i) (j := j) (k := k) nd.2 (by simpa using h1) (by simpa using h2)
        rw [z]
def argEn1 (ρ : En) : Ar → Option Sl
  | .fz d => some (.fz d)
  | .sl i => match ρ[i]? with
    | some (.ow d) => some (.ow d)
    | some (.dp t) => some (.dp t)
    | _ => none
theorem argEn1_sl {ρ : En} {i : Nat} {s : Sl} (h : argEn1 ρ (.sl i) = some s) : ρ[i]? = some s ∧ ((∃ d, s = .ow d) ∨ ∃ t, s = .dp t) := by
  have h' : (match ρ[i]? with
    | some (Sl.ow d) => some (Sl.ow d)
    | some (Sl.dp t) => some (Sl.dp t)
    | _ => none) = some s := h
  split at h'
  · rename_i d e
    rw [← Option.some.inj h']
    exact ⟨e, .inl ⟨d, rfl⟩⟩
  · rename_i d e
    rw [← Option.some.inj h']
    exact ⟨e, .inr ⟨d, rfl⟩⟩
  · cases h'
theorem argEn1_fz {ρ : En} {d : D} {s : Sl} (h : argEn1 ρ (.fz d) = some s) : s = .fz d := (Option.some.inj h).symm
def argEn : List Ar → En → Option En
  | [], _ => some []
  | a :: r, ρ => (argEn1 ρ a).bind fun s => (argEn r ρ).bind fun l => some (s :: l)
theorem argEn_get : ∀ {ars : List Ar} {ρ ρa : En} {j : Nat} {s : Sl}, argEn ars ρ = some ρa → ρa[j]? = some s → ∃ a, ars[j]? = some a ∧ argEn1 ρ a = some s
  | [], ρ, ρa, j, s, h, k => by cases h; simp at k
  | a :: r, ρ, ρa, j, s, h, k => by
    unfold argEn at h
    cases e1 : argEn1 ρ a with
    | none => rw [e1] at h; cases h
    | some t =>
      rw [e1] at h
      cases e2 : argEn r ρ with
      | none => rw [e2] at h; cases h
      | some l =>
        rw [e2] at h
        cases h
        cases j with
        | zero => simp at k; subst k; exact ⟨a, rfl, e1⟩
        | succ j =>
          obtain ⟨b, h1, h2⟩ := argEn_get (j := j) (s := s) e2 (by simpa using k)
          exact ⟨b, by simpa using h1, h2⟩
theorem argEn_len : ∀ {ars : List Ar} {ρ ρa : En}, argEn ars ρ = some ρa → ρa.length = ars.length
  | [], ρ, ρa, h => by cases h; rfl
  | a :: r, ρ, ρa, h => by
    unfold argEn at h
    cases e1 : argEn1 ρ a with
    | none => rw [e1] at h; cases h
    | some t =>
      rw [e1] at h
      cases e2 : argEn r ρ with
      | none => rw [e2] at h; cases h
      | some l =>
        rw [e2] at h
        cases h
        simp [argEn_len e2]
/-- what was lent comes back -/
def back : List Ar → En → En → En
  | [], _, ρ => ρ
  | .fz _ :: r, ρa, ρ => back r ρa.tail ρ
  | .sl i :: r, ρa, ρ => back r ρa.tail (ρ.set i (ρa.headD .no))
theorem back_len : ∀ {ars : List Ar} {ρa ρ : En}, (back ars ρa ρ).length = ρ.length
  | [], _, _ => rfl
  | .fz _ :: r, ρa, ρ => back_len (ars := r)
  | .sl i :: r, ρa, ρ => by rw [back, back_len (ars := r), List.length_set]
theorem back_get : ∀ {ars : List Ar} {ρa ρ : En} {i : Nat} {s : Sl}, (back ars ρa ρ)[i]? = some s → (i ∉ slots ars ∧ ρ[i]? = some s) ∨ (∃ j : Nat, ars[j]? = some (Ar.sl i) ∧ (s = .no ∨ ρa[j]? = some s))
  | [], ρa, ρ, i, s, h => .inl ⟨by simp [slots], h⟩
  | .fz _ :: r, ρa, ρ, i, s, h => by
    rcases back_get (ars := r) h with ⟨h1, h2⟩ | ⟨j, h1, h2⟩
    · exact .inl ⟨h1, h2⟩
    · refine .inr ⟨j + 1, by simpa using h1, h2.imp id fun h2 => ?_⟩
      cases ρa with
      | nil => simp at h2
      | cons x xs => simpa using h2
  | .sl k :: r, ρa, ρ, i, s, h => by
    rcases back_get (ars := r) h with ⟨h1, h2⟩ | ⟨j, h1, h2⟩
    · by_cases e : k = i
      · subst e
        rw [List.getElem?_set_self'] at h2
        cases q : ρ[k]? with
        | none => rw [q] at h2; cases h2
        | some t =>
          rw [q] at h2
          cases h2
          refine .inr ⟨0, rfl, ?_⟩
          cases ρa with
          | nil => exact .inl rfl
          | cons x xs => exact .inr rfl
      · rw [List.getElem?_set_ne e] at h2
        exact .inl ⟨by rw [slots, List.mem_cons]; rintro (z | z); exact e z.symm; exact h1 z, h2⟩
    · refine .inr ⟨j + 1, by simpa using h1, h2.imp id fun h2 => ?_⟩
      cases ρa with
      | nil => simp at h2
      | cons x xs => simpa using h2
def arsOk : List Bool → List Ar → Bool
  | [], [] => true
  | _ :: bs, .fz _ :: r => arsOk bs r
  | true :: bs, .sl _ :: r => arsOk bs r
  | _, _ => false
theorem arsOk_len : ∀ {own : List Bool} {ars : List Ar}, arsOk own ars = true → ars.length = own.length
  | [], [], _ => rfl
  | [], .fz _ :: _, h => by simp [arsOk] at h
  | [], .sl _ :: _, h => by simp [arsOk] at h
  | _ :: _, [], h => by simp [arsOk] at h
  | b :: bs, .fz d :: r, h => by
    have h' : arsOk bs r = true := by cases b <;> exact h
    simp [arsOk_len h']
  | true :: bs, .sl i :: r, h => by simp [arsOk_len (own := bs) (ars := r) h]
  | false :: bs, .sl i :: r, h => by simp [arsOk] at h
theorem arsOk_at : ∀ {own : List Bool} {ars : List Ar} {i j : Nat}, arsOk own ars = true → ars[j]? = some (Ar.sl i) → own[j]? = some true
  | [], [], _, _, _, h => by simp at h
  | [], .fz _ :: _, _, _, h, _ => by simp [arsOk] at h
  | [], .sl _ :: _, _, _, h, _ => by simp [arsOk] at h
  | _ :: _, [], _, _, h, _ => by simp [arsOk] at h
  | b :: bs, .fz d :: r, i, j, h, k => by
    have h' : arsOk bs r = true := by cases b <;> exact h
    cases j with
    | zero => simp at k
    | succ j => simpa using arsOk_at (own := bs) (ars := r) (j := j) h' (by simpa using k)
  | true :: bs, .sl m :: r, i, j, h, k => by
    cases j with
    | zero => rfl
    | succ j => simpa using arsOk_at (own := bs) (ars := r) (j := j) h (by simpa using k)
  | false :: bs, .sl m :: r, _, _, h, _ => by simp [arsOk] at h
/-- a def's end, at the caller -/
def endC (ars : List Ar) (ρ1 : En) (r : R Fl) : R Sl := match r with
  | .ok .nx ρa' => .ok (.fz .non) (back ars ρa' ρ1)
  | .ok (.rt s) ρa' => .ok s (back ars ρa' ρ1)
  | .ok _ _ => .bad
  | .exc c fs ρa' => .exc c fs (back ars ρa' ρ1)
  | .bad => .bad
def goC (own : List Bool) (G : GF) (ars : List Ar) (ρ1 : En) : R Sl :=
  if arsOk own ars = true ∧ (slots ars).Nodup then match argEn ars ρ1 with
  | none => .bad
  | some ρa => endC ars ρ1 (G ρa)
  else .bad
def xCall (own : List Bool) (G : GF) (l : En → R (List Ar)) : FX := fun ρ => (l ρ).bind fun ars ρ1 => goC own G ars ρ1

section
variable {X : Cx} {PN : List Nat} {σ0 : Gs} {W : WX} {F B B' H H' : Hp} {σ : L2.St} {ρ ρa ρa' : En} {s : Sl} {Q : VK} {vs : List L2.V} {ars : List Ar}
theorem paired_at {α β : Type} {G : α → β → Prop} {l₁ : List α} {l₂ : List β} (h : Paired G l₁ l₂) : ∀ {i : Nat} {b : β}, l₂[i]? = some b → ∃ a, l₁[i]? = some a ∧ G a b := by
  induction h with
  | nil => intro i b e; simp at e
  | cons p q ih =>
    intro i b e
    cases i with
    | zero => simp at e; subst e; exact ⟨_, rfl, p⟩
    | succ i =>
      obtain ⟨a, h1, h2⟩ := ih (i := i) (b := b) (by simpa using e)
      exact ⟨a, by simpa using h1, h2⟩
/-- another held thing of the caller's -/
def Oth (H : Hp) (σ : L2.St) (ρ : En) (ars : List Ar) (b : Addr) : Prop := ∃ i s, ρ[i]? = some s ∧ b ∈ fpS H σ i s ∧ i ∉ slots ars
open Classical in
noncomputable def foreign (F H : Hp) (σ : L2.St) (ρ : En) (ars : List Ar) : Hp := fun b => if Oth H σ ρ ars b then H b else F b
theorem map_some_get {vs : List L2.V} {j : Nat} {v : L2.V} : (vs.map some)[j]? = some (some v) ↔ vs[j]? = some v := by
  rw [List.getElem?_map]
  cases vs[j]? <;> simp
theorem Sat.lend (S : Sat X.K X.mg PN σ0 F B H σ ρ) (k : Paired (ArOk X B σ) vs ars) (nd : (slots ars).Nodup) (ha : argEn ars ρ = some ρa) : Sat X.K X.mg [] {} (foreign F H σ ρ ars) B H (vs.map some) ρa := by
  have hown : ∀ (j : Nat) (s : Sl), ρa[j]? = some s → (∃ d v, s = .fz d ∧ vs[j]? = some v ∧ Rep X.K X.mg B v d) ∨ ∃ i v, ars[j]? = some (Ar.sl i) ∧ ρ[i]? = some s ∧ vs[j]? = some v ∧ σ[i]? = some (some v) := fun j s h => by
    obtain ⟨a, h1, h2⟩ := argEn_get ha h
    obtain ⟨v, hv, hσ⟩ := paired_at k h1
    cases a with
    | fz d' =>
      cases argEn1_fz h2
      exact .inl ⟨_, v, rfl, hv, hσ⟩
    | sl i => exact .inr ⟨i, v, h1, (argEn1_sl h2).1, hv, hσ⟩
  have hsep : ∀ (i j : Nat) (s s' : Sl) (x : Addr), ρa[i]? = some s → ρa[j]? = some s' → x ∈ fpS H (vs.map some) i s → x ∈ fpS H (vs.map some) j s' → i = j := fun i j s s' x h1 h2 m1 m2 => by
    rcases hown i s h1 with ⟨d, v, e, _⟩ | ⟨m, v, a1, a2, a3, a4⟩
    · subst e; cases m1
    · rcases hown j s' h2 with ⟨d, v', e, _⟩ | ⟨n, v', b1, b2, b3, b4⟩
      · subst e; cases m2
      · rw [fpS_move ((map_some_get.mpr a3).trans a4.symm)] at m1
        rw [fpS_move ((map_some_get.mpr b3).trans b4.symm)] at m2
        have := S.sep a2 b2 m1 m2
        subst this
        exact slots_inj nd a1 b1
  refine ⟨?_, fun i h => by simp at h, fun p h => by simp at h, S.bh, fun b o h => ?_, fun j s h => ?_, (sep_dj hsep).1, (sep_dj hsep).2, fun q hq => by cases hq⟩
  · rw [List.length_map, argEn_len ha]
    exact Nat.le_of_eq k.length.symm
  · unfold foreign at h
    split at h
    · rename_i ho
      obtain ⟨i, s, g1, g2, g3⟩ := ho
      exact ⟨h, ((S.sl i _ g1).free g2).2⟩
    · exact S.fh b o h
  · rcases hown j s h with ⟨d, v, rfl, h1, r⟩ | ⟨i, v, h1, h2, h3, h4⟩
    · exact ⟨v, map_some_get.mpr h1, r⟩
    · refine (S.sl i s h2).move ((map_some_get.mpr h3).trans h4.symm) fun x hx => ?_
      unfold foreign
      rw [if_neg]
      · exact ((S.sl i s h2).free hx).1
      · rintro ⟨i', s', g1, g2, g3⟩
        have := S.sep h2 g1 hx g2
        subst this
        exact g3 (mem_slots.mpr ⟨j, h1⟩)
theorem Sat.unlend (S : Sat X.K X.mg PN σ0 F B H σ ρ) (k : Paired (ArOk X B σ) vs ars) (nd : (slots ars).Nodup) (e : Ext B B') (C : Sat X.K X.mg [] {} (foreign F H σ ρ ars) B' H' (vs.map some) ρa') :
    Sat X.K X.mg PN σ0 F B' H' σ (back ars ρa' ρ) ∧ ∀ v, VOk X.K X.mg (foreign F H σ ρ ars) B' H' (vs.map some) ρa' v s → VOk X.K X.mg F B' H' σ (back ars ρa' ρ) v s := by
  have foth : ∀ b, Oth H σ ρ ars b → ∃ o, H b = some o ∧ foreign F H σ ρ ars b = some o ∧ H' b = some o ∧ B' b = none := fun b ho => by
    obtain ⟨i, s, g1, g2, g3⟩ := id ho
    obtain ⟨o, h⟩ := (S.sl i _ g1).there g2
    have hf : foreign F H σ ρ ars b = some o := by unfold foreign; rw [if_pos ho]; exact h
    exact ⟨o, h, hf, (C.fh b o hf).1, (C.fh b o hf).2⟩
  have fno : ∀ b, foreign F H σ ρ ars b = none → ¬ Oth H σ ρ ars b ∧ F b = none := fun b h => by
    have h1 : ¬ Oth H σ ρ ars b := fun ho => by
      obtain ⟨o, _, z, _⟩ := foth b ho
      rw [h] at z; cases z
    refine ⟨h1, ?_⟩
    unfold foreign at h
    rw [if_neg h1] at h
    exact h
  -- a slot that was not lent; a slot that was
  have lent : ∀ (i : Nat) (s : Sl), (back ars ρa' ρ)[i]? = some s → (i ∉ slots ars ∧ ρ[i]? = some s ∧ SlOk X.K X.mg F B' H' σ i s ∧ fpS H' σ i s = fpS H σ i s) ∨
      (s = .no) ∨ ∃ (j : Nat), ars[j]? = some (Ar.sl i) ∧ ρa'[j]? = some s ∧ (vs.map some)[j]? = σ[i]? := fun i s h => by
    rcases back_get h with ⟨h1, h2⟩ | ⟨j, h1, h2⟩
    · have q := S.sl i s h2
      refine .inl ⟨h1, h2, q.later e fun x hx => ?_, q.fp_at fun x hx => ?_⟩
      · obtain ⟨o, z1, z2, z3, z4⟩ := foth x ⟨i, s, h2, hx, h1⟩
        exact ⟨z3.trans z1.symm, z4⟩
      · obtain ⟨o, z1, z2, z3, z4⟩ := foth x ⟨i, s, h2, hx, h1⟩
        exact z3.trans z1.symm
    · rcases h2 with h2 | h2
      · exact .inr (.inl h2)
      · obtain ⟨v, hv, hσ⟩ := paired_at k h1
        have hσ' : σ[i]? = some (some v) := hσ
        exact .inr (.inr ⟨j, h1, h2, (map_some_get.mpr hv).trans hσ'.symm⟩)
  have hsep : ∀ (i j : Nat) (s s' : Sl) (x : Addr), (back ars ρa' ρ)[i]? = some s → (back ars ρa' ρ)[j]? = some s' → x ∈ fpS H' σ i s → x ∈ fpS H' σ j s' → i = j := fun i j s s' x h1 h2 m1 m2 => by
    rcases lent i s h1 with ⟨a1, a2, a3, a4⟩ | z | ⟨j1, a1, a2, a3⟩
    · rw [a4] at m1
      rcases lent j s' h2 with ⟨b1, b2, b3, b4⟩ | z | ⟨j2, b1, b2, b3⟩
      · rw [b4] at m2
        exact S.sep a2 b2 m1 m2
      · subst z; cases m2
      · rw [← fpS_move b3] at m2
        exact ((fno x ((C.sl j2 _ b2).free m2).1).1 ⟨i, s, a2, m1, a1⟩).elim
    · subst z; cases m1
    · rw [← fpS_move a3] at m1
      rcases lent j s' h2 with ⟨b1, b2, b3, b4⟩ | z | ⟨j2, b1, b2, b3⟩
      · rw [b4] at m2
        exact ((fno x ((C.sl j1 _ a2).free m1).1).1 ⟨j, s', b2, m2, b1⟩).elim
      · subst z; cases m2
      · rw [← fpS_move b3] at m2
        have := C.sep a2 b2 m1 m2
        subst this
        rw [a1] at b1
        cases b1
        rfl
  refine ⟨⟨?_, S.pin, fun p hp => ⟨e.xd (S.gh p hp).1, (S.gh p hp).2.mono e⟩, C.bh, fun b o h => ?_, fun i t h => ?_, (sep_dj hsep).1, (sep_dj hsep).2, fun q hq => (S.vw q hq).mono e⟩, fun v hv => ?_⟩
  · rw [back_len]; exact S.len
  · have hn : ¬ Oth H σ ρ ars b := fun ho => by
      obtain ⟨i, s, g1, g2, g3⟩ := id ho
      rw [((S.sl i _ g1).free g2).1] at h; cases h
    have hf : foreign F H σ ρ ars b = some o := by unfold foreign; rw [if_neg hn]; exact h
    exact C.fh b o hf
  · rcases lent i t h with ⟨a1, a2, a3, a4⟩ | z | ⟨j, a1, a2, a3⟩
    · exact a3
    · subst z; trivial
    · exact (C.sl j t a2).move a3.symm fun x hx => (fno x ((C.sl j t a2).free hx).1).2
  · cases s with
    | no => exact hv.elim
    | dp t =>
      refine ⟨hv.1, hv.2.1, fun x hx => ?_⟩
      obtain ⟨g1, g2, g3⟩ := hv.2.2 x hx
      refine ⟨(fno x g1).2, g2, fun i s h m => ?_⟩
      rcases lent i s h with ⟨m1, m2, m3, m4⟩ | z | ⟨j1, m1, m2, m3⟩
      · rw [m4] at m
        exact (fno x g1).1 ⟨i, s, m2, m, m1⟩
      · subst z; cases m
      · rw [← fpS_move m3] at m
        exact g3 j1 s m2 m
    | fz d => exact hv
    | ow d =>
      obtain ⟨a, rfl, g1, g2, g3, g4, g5⟩ := id hv
      obtain ⟨q1, q2⟩ := sep_v (σ := σ) (H := H') (ρ := back ars ρa' ρ) (a := a) fun i s h m => by
        rcases lent i s h with ⟨m1, m2, m3, m4⟩ | z | ⟨j1, m1, m2, m3⟩
        · rw [m4] at m
          exact (fno a g1).1 ⟨i, s, m2, m, m1⟩
        · subst z; cases m
        · rw [← fpS_move m3] at m
          exact VOk.sep hv m2 (C.sl j1 _ m2) m
      exact ⟨a, rfl, (fno a g1).2, g2, g3, q1, q2⟩
/-- a call of an own def -/
theorem call_sp {own : List Bool} {G : GF} (S : Sat X.K X.mg PN σ0 F B H σ ρ) (k : Paired (ArOk X B σ) vs ars) (q : EPost X PN σ0 W F B σ (goC own G ars ρ) Q) :
    spF X.K X.mg own G vs H Q (fun cls od H' => W cls od σ H') := by
  unfold goC at q
  split at q
  · rename_i hc
    obtain ⟨h1, nd⟩ := hc
    split at q
    · exact q.elim
    · rename_i ρa ha
      refine ⟨by rw [k.length]; exact arsOk_len h1, foreign F H σ ρ ars, B, ρa, by rw [argEn_len ha]; exact arsOk_len h1, S.lend k nd ha, fun i d h => ?_, ?_⟩
      · obtain ⟨a, h3, h2⟩ := argEn_get ha h
        cases a with
        | fz d' => cases argEn1_fz h2
        | sl j => exact arsOk_at h1 h3
      · cases eg : G ρa with
        | bad => rw [eg] at q; exact q
        | exc c fs ρa' =>
          rw [eg] at q
          exact fun cls od H' B' e C z => q cls od H' B' e (S.unlend (s := .no) k nd e C).1 z
        | ok f ρa' =>
          cases f with
          | nx =>
            rw [eg] at q
            exact fun H' B' e C => q .non H' B' e (S.unlend (s := .no) k nd e C).1 .non
          | rt s =>
            rw [eg] at q
            exact fun v H' B' e C z => q v H' B' e (S.unlend (s := s) k nd e C).1 ((S.unlend (s := s) k nd e C).2 v z)
          | bk => rw [eg] at q; exact q
          | ct => rw [eg] at q; exact q
  · exact q.elim
/-- where an own def stands -/
structure DefAt (X : Cx) (k : Nat) (x : Str) (ps : List Str) (own : List Bool) (G : GF) : Prop where
  at_ : ∃ f fd, FnOk X.prog X.w X.K X.mg X.base (L2.CX X.prog X.w) k f fd ps (spF X.K X.mg own G) ∧ X.mg x = some (.ref f) ∧ PySem.W.keepIn X.K (.ref f) = true ∧ Binds X.K fd ps []
theorem fe_call {k : Nat} {x : Str} {ps : List Str} {own : List Bool} {G : GF} {p pos : Pos} {e : Expr} {es : List Expr} {l : En → R (List Ar)} (d : DefAt X k x ps own G) (hr : Room k X.A) (tk : Takes X W) (hg : Gl X x) (hl : FC X PN σ0 W (e :: es) l)
    (hdb : (x == ("__debug__" : Str)) = false := by decide) (he : starEach (e :: es) X.env = (false, eval e X.env) :: starEach es X.env := by rfl) (hpl : (backTo pos (starEach es X.env)).any (·.1) = false := by rfl) :
    FE X PN σ0 W (.Call (.Name x p) (e :: es) [] pos) (xCall own G l) := by
  obtain ⟨f, fd, hF, hm, hk, hb⟩ := d.at_
  obtain ⟨t, pt, qt⟩ := hl.ex
  refine ⟨_, pe_callS hF hr hg hm hk hb (fun σ => passAt tk σ) pt hdb he hpl, fun F B H σ ρ Q S q => qt F B H σ ρ _ S ?_⟩
  unfold xCall at q
  cases el : l ρ with
  | bad => rw [el] at q; exact q
  | exc c fs ρ2 => rw [el] at q; exact q
  | ok ars ρ1 =>
    rw [el, R.bind_ok] at q
    intro vs H1 B1 e1 S1 k1
    exact call_sp S1 k1 (EPost.mono e1 q)
end

/-! ### a def by its body -/
/-- what a def hands back of its parameters -/
def keepO : List Bool → En → En
  | [], _ => []
  | b :: bs, ρ => (if b then ρ.headD .no else .no) :: keepO bs ρ.tail
theorem keepO_get : ∀ {own : List Bool} {ρ : En} {i : Nat} {s : Sl}, (keepO own ρ)[i]? = some s → s = .no ∨ (own[i]? = some true ∧ ρ[i]? = some s)
  | [], _, _, _, h => by simp [keepO] at h
  | b :: bs, ρ, 0, s, h => by
    rw [keepO] at h
    simp at h
    subst h
    cases b with
    | false => exact .inl rfl
    | true =>
      cases ρ with
      | nil => exact .inl rfl
      | cons x r => exact .inr ⟨rfl, rfl⟩
  | b :: bs, ρ, i + 1, s, h => by
    rw [keepO] at h
    have h' : (keepO bs ρ.tail)[i]? = some s := by simpa using h
    rcases keepO_get h' with z | ⟨z1, z2⟩
    · exact .inl z
    · refine .inr ⟨by simpa using z1, ?_⟩
      cases ρ with
      | nil => simp at z2
      | cons x r => simpa using z2
theorem keepO_len : ∀ {own : List Bool} {ρ : En}, (keepO own ρ).length = own.length
  | [], _ => rfl
  | b :: bs, ρ => by rw [keepO, List.length_cons, List.length_cons, keepO_len]
def fnF (own : List Bool) (more : Nat) (g : FY) : GF := fun ρ => match g (ρ ++ List.replicate more .no) with
  | .ok f ρ' => .ok f (keepO own ρ')
  | .exc c fs ρ' => .exc c fs (keepO own ρ')
  | .bad => .bad
def pinsOf : Nat → List Bool → List Nat
  | _, [] => []
  | n, b :: bs => if b then n :: pinsOf (n + 1) bs else pinsOf (n + 1) bs
theorem mem_pinsOf : ∀ {own : List Bool} {n i : Nat}, own[i]? = some true → n + i ∈ pinsOf n own
  | [], n, i, h => by simp at h
  | b :: bs, n, 0, h => by simp at h; subst h; simp [pinsOf]
  | b :: bs, n, i + 1, h => by
    have q := mem_pinsOf (own := bs) (n := n + 1) (i := i) (by simpa using h)
    have e : n + (i + 1) = n + 1 + i := by omega
    rw [e]
    unfold pinsOf
    split
    · exact List.mem_cons_of_mem _ q
    · exact q
theorem start_get {N : List Str} {vs : List L2.V} {i : Nat} (h : i < vs.length) : (start N vs)[i]? = (vs.map some)[i]? := by
  unfold L2.start
  rw [List.getElem?_append_left (by simpa using h)]
section
variable {P : Program} {w : World} {K : PySem.W.Frag} {mg : Str → Option Value} {base : Heap}
theorem Sat.leave {own : List Bool} {N : List Str} {vs : List L2.V} {F B H : Hp} {σ : L2.St} {ρ : En} (hl : vs.length = own.length) (S : Sat K mg (pinsOf 0 own) { st := L2.start N vs } F B H σ ρ) :
    Sat K mg [] {} F B H (vs.map some) (keepO own ρ) ∧ ∀ v s, VOk K mg F B H σ ρ v s → VOk K mg F B H (vs.map some) (keepO own ρ) v s := by
  have pin : ∀ (i : Nat), own[i]? = some true → σ[i]? = (vs.map some)[i]? := fun i h => by
    have := mem_pinsOf (n := 0) h
    rw [Nat.zero_add] at this
    rw [S.pin i this]
    exact start_get (by rw [hl]; exact (List.getElem?_eq_some_iff.mp h).1)
  have hget : ∀ (i : Nat) (s : Sl), (keepO own ρ)[i]? = some s → s = .no ∨ (ρ[i]? = some s ∧ (vs.map some)[i]? = σ[i]?) := fun i s h => by
    rcases keepO_get h with z | ⟨z1, z2⟩
    · exact .inl z
    · exact .inr ⟨z2, (pin i z1).symm⟩
  have hsep : ∀ (i j : Nat) (s s' : Sl) (x : Addr), (keepO own ρ)[i]? = some s → (keepO own ρ)[j]? = some s' → x ∈ fpS H (vs.map some) i s → x ∈ fpS H (vs.map some) j s' → i = j := fun i j s s' x h1 h2 m1 m2 => by
    rcases hget i s h1 with z | ⟨a1, a2⟩
    · subst z; cases m1
    · rcases hget j s' h2 with z | ⟨b1, b2⟩
      · subst z; cases m2
      · rw [fpS_move a2] at m1
        rw [fpS_move b2] at m2
        exact S.sep a1 b1 m1 m2
  refine ⟨⟨?_, fun i h => by simp at h, fun p h => by simp at h, S.bh, S.fh, fun i s h => ?_, (sep_dj hsep).1, (sep_dj hsep).2, fun q hq => by cases hq⟩, fun v s h => ?_⟩
  · rw [keepO_len, List.length_map, hl]; exact Nat.le_refl _
  · rcases hget i s h with z | ⟨z1, z2⟩
    · subst z; trivial
    · exact (S.sl i s z1).move z2 fun x hx => ((S.sl i s z1).free hx).1
  · cases s with
    | no => exact h
    | dp t =>
      refine ⟨h.1, h.2.1, fun x hx => ?_⟩
      obtain ⟨g1, g2, g3⟩ := h.2.2 x hx
      refine ⟨g1, g2, fun i s k m => ?_⟩
      rcases hget i s k with z | ⟨z1, z2⟩
      · subst z; cases m
      · rw [fpS_move z2] at m
        exact g3 i s z1 m
    | fz d => exact h
    | ow d =>
      obtain ⟨a, rfl, g1, g2, g3, g4, g5⟩ := id h
      obtain ⟨q1, q2⟩ := sep_v (σ := vs.map some) (H := H) (ρ := keepO own ρ) (a := a) fun i s k m => by
        rcases hget i s k with z | ⟨z1, z2⟩
        · subst z; cases m
        · rw [fpS_move z2] at m
          exact VOk.sep h z1 (S.sl i s z1) m
      exact ⟨a, rfl, g1, g2, g3, q1, q2⟩
/-- THE RULE for a def -/
theorem ok_def {x qual : Str} {st : Stmt} {f : Addr} {fd : FuncData} {N ps : List Str} {k : Nat} {own : List Bool} {more : Nat} {g : FY} (Fn : Fun K x qual st f fd) (S : FnScope N ps (defScope st)) (hps : ps.length = own.length) (hN : N.length = own.length + more)
    (hb : ∀ (cdv : Value) (A : Around) (outer : List Env) (s : Shared) (H : Hp) (vs : List L2.V) (E : XK), Room k (A.deeper (envOfC qual (defScope st) s.heap.objs.size f cdv)) →
      FB (cxOf (L2.CX P w) P w K mg base N qual (defScope st) f cdv A outer s H E) (pinsOf 0 own) { st := L2.start N vs } (fun cls od _ H' => E cls od H') (defBody st) g) :
    FnOk P w K mg base (L2.CX P w) (k + 1) f fd ps (spF K mg own (fnF own more g)) := by
  refine Fn.okX S (fun vs H Q E h => by rw [h.1, hps]) fun cdv A outer s H vs Q E hr h => ?_
  obtain ⟨t, pt, qt⟩ := (hb cdv A outer s H vs E hr).ex
  refine ⟨t, pt, ?_⟩
  obtain ⟨hl, F, B, ρ, hρ, S0, ho, h⟩ := h
  have hgt : ∀ (i : Nat) (s : Sl), (ρ ++ List.replicate more Sl.no)[i]? = some s → s = .no ∨ ρ[i]? = some s := fun i s h => by
    by_cases hi : i < ρ.length
    · rw [List.getElem?_append_left hi] at h; exact .inr h
    · rw [List.getElem?_append_right (by omega), List.getElem?_replicate] at h
      split at h
      · cases h; exact .inl rfl
      · cases h
  have st0 : ∀ {i : Nat} {s : Sl}, ρ[i]? = some s → (start N vs)[i]? = (vs.map some)[i]? := fun {i s} h => start_get (by rw [hl, ← hρ]; exact (List.getElem?_eq_some_iff.mp h).1)
  have S1 : Sat K mg (pinsOf 0 own) { st := L2.start N vs } F B H (L2.start N vs) (ρ ++ List.replicate more .no) := by
    have hsep : ∀ (i j : Nat) (s s' : Sl) (x : Addr), (ρ ++ List.replicate more Sl.no)[i]? = some s → (ρ ++ List.replicate more Sl.no)[j]? = some s' → x ∈ fpS H (L2.start N vs) i s → x ∈ fpS H (L2.start N vs) j s' → i = j := fun i j s s' x h1 h2 m1 m2 => by
      rcases hgt i _ h1 with z | z
      · subst z; cases m1
      · rcases hgt j _ h2 with y | y
        · subst y; cases m2
        · rw [fpS_move (st0 z)] at m1
          rw [fpS_move (st0 y)] at m2
          exact S0.sep z y m1 m2
    refine ⟨?_, fun _ _ => rfl, fun p h => by simp at h, S0.bh, S0.fh, fun i s h => ?_, (sep_dj hsep).1, (sep_dj hsep).2, fun q hq => by cases hq⟩
    · rw [List.length_append, List.length_replicate, hρ]
      unfold L2.start
      rw [List.length_append, List.length_map, List.length_replicate, hN, hl]
      omega
    · rcases hgt i s h with z | z
      · subst z; trivial
      · exact (S0.sl i s z).move (st0 z) fun x hx => ((S0.sl i s z).free hx).1
  refine qt F B H (L2.start N vs) (ρ ++ List.replicate more Sl.no) _ S1 ?_
  unfold fnF at h
  cases eg : g (ρ ++ List.replicate more .no) with
  | bad => rw [eg] at h; exact h
  | exc c fs ρ' => rw [eg] at h; exact fun cls od σ' H' B' e S' z => h cls od H' B' e (Sat.leave hl S').1 z
  | ok f ρ' =>
    cases f with
    | nx => rw [eg] at h; exact fun σ' H' B' e S' => h H' B' e (Sat.leave hl S').1
    | rt s => rw [eg] at h; exact fun v σ' H' B' e S' z => h v H' B' e (Sat.leave hl S').1 ((Sat.leave hl S').2 v s z)
    | bk => rw [eg] at h; exact h.elim
    | ct => rw [eg] at h; exact h.elim
end
end FV

namespace FV
open PySem PySem.Spec PyProof.Rows L2

section
variable {X : Cx} {PN : List Nat} {σ0 : Gs} {W : WX} {F B B' H : Hp} {σ : L2.St} {ρ : En} {s : Sl} {Q : VK}
theorem SPost.nx {D' : Ends} (S : Sat X.K X.mg PN σ0 F B H σ ρ) (h : SPost X PN σ0 W F B (.ok .nx ρ) D') : D'.nx σ H := h σ H B (Ext.refl B) S
/-- a held thing is changed -/
theorem Sat.mutate {i : Nat} {a : Addr} {d d' : D} {o : HO} (S : Sat X.K X.mg PN σ0 F B H σ ρ) (hi : ρ[i]? = some (Sl.ow d)) (ha : σ[i]? = some (some (V.ref a))) (h : OwnD X.K X.mg B (upd H a o) a d') : Sat X.K X.mg PN σ0 F B (upd H a o) σ (ρ.set i (.ow d')) := by
  obtain ⟨a', q1, q2, q3, q4⟩ := S.sl i _ hi
  rw [ha] at q1; cases q1
  have hil : i < ρ.length := (List.getElem?_eq_some_iff.mp hi).1
  have get : ∀ (j : Nat) (s : Sl), (ρ.set i (.ow d'))[j]? = some s → (j = i ∧ s = .ow d') ∨ (j ≠ i ∧ ρ[j]? = some s) := fun j s h => by
    by_cases e : i = j
    · subst e
      rw [List.getElem?_set_self hil] at h
      cases h
      exact .inl ⟨rfl, rfl⟩
    · rw [List.getElem?_set_ne e] at h
      exact .inr ⟨fun z => e z.symm, h⟩
  have ma : a ∈ fpS H σ i (.ow d) := by rw [fpS_ow ha]; exact List.mem_singleton.2 rfl
  have off : ∀ (j : Nat) (s : Sl), j ≠ i → ρ[j]? = some s → ∀ x ∈ fpS H σ j s, upd H a o x = H x ∧ B x = none := fun j s hne hj x hx => by
    refine ⟨upd_ne fun z => ?_, ((S.sl j s hj).free hx).2⟩
    subst z
    exact hne (S.sep hj hi hx ma)
  have fpe : ∀ (j : Nat) (s : Sl), (ρ.set i (.ow d'))[j]? = some s → ∃ s', ρ[j]? = some s' ∧ fpS (upd H a o) σ j s = fpS H σ j s' := fun j s h => by
    rcases get j s h with ⟨rfl, rfl⟩ | ⟨hne, hj⟩
    · exact ⟨_, hi, rfl⟩
    · exact ⟨s, hj, (S.sl j s hj).fp_at fun x hx => (off j s hne hj x hx).1⟩
  have hsep : ∀ (j k : Nat) (s s' : Sl) (x : Addr), (ρ.set i (.ow d'))[j]? = some s → (ρ.set i (.ow d'))[k]? = some s' → x ∈ fpS (upd H a o) σ j s → x ∈ fpS (upd H a o) σ k s' → j = k := fun j k s s' x h1 h2 m1 m2 => by
    obtain ⟨u, g1, g2⟩ := fpe j s h1
    obtain ⟨u', g3, g4⟩ := fpe k s' h2
    rw [g2] at m1
    rw [g4] at m2
    exact S.sep g1 g3 m1 m2
  refine ⟨by rw [List.length_set]; exact S.len, S.pin, S.gh, fun b u hb => ?_, fun b u hb => ?_, fun j s hj => ?_, (sep_dj hsep).1, (sep_dj hsep).2, S.vw⟩
  · rw [upd_ne (ne_of_none hb q3)]; exact S.bh b u hb
  · exact ⟨by rw [upd_ne (ne_of_none hb q2)]; exact (S.fh b u hb).1, (S.fh b u hb).2⟩
  · rcases get j s hj with ⟨rfl, rfl⟩ | ⟨hne, hj⟩
    · exact ⟨a, ha, q2, q3, h⟩
    · exact (S.sl j s hj).later (Ext.refl B) (off j s hne hj)
end

section
variable {X : Cx} {PN : List Nat} {σ0 : Gs} {W : WX} {F B B' H : Hp} {σ : L2.St} {ρ : En} {s : Sl} {Q : VK}
/-! ### blocks -/
def yNil : FY := fun ρ => .ok .nx ρ
def ySeq (f g : FY) : FY := fun ρ => match f ρ with
  | .ok .nx ρ' => g ρ'
  | .ok fl ρ' => .ok fl ρ'
  | .exc c fs ρ' => .exc c fs ρ'
  | .bad => .bad
theorem fb_nil : FB X PN σ0 W [] yNil := ⟨_, pss_nil, fun F B H σ ρ D' S q => q σ H B (Ext.refl B) S⟩
theorem SPost.seq {r : R Fl} {g : FY} {D' : Ends} {u : TS} (hu : ∀ F B H σ ρ D', Sat X.K X.mg PN σ0 F B H σ ρ → SPost X PN σ0 W F B (g ρ) D' → u D' σ H)
    (q : SPost X PN σ0 W F B (match r with
      | .ok .nx ρ' => g ρ'
      | .ok fl ρ' => .ok fl ρ'
      | .exc c fs ρ' => .exc c fs ρ'
      | .bad => .bad) D') : SPost X PN σ0 W F B r { D' with nx := u D' } := by
  cases r with
  | bad => exact q
  | exc c fs ρ' => exact q
  | ok fl ρ' =>
    cases fl with
    | nx => exact fun σ' H' B' e S' => hu F B' H' σ' ρ' D' S' (SPost.mono e q)
    | rt s => exact q
    | bk => exact q
    | ct => exact q
theorem fb_cons {st : Stmt} {rest : List Stmt} {f g : FY} (h : FS X PN σ0 W st f) (k : FB X PN σ0 W rest g) : FB X PN σ0 W (st :: rest) (ySeq f g) := by
  obtain ⟨t, pt, qt⟩ := h.ex
  obtain ⟨u, pu, qu⟩ := k.ex
  exact ⟨_, pss_cons pt pu, fun F B H σ ρ D' S q => qt F B H σ ρ _ S (SPost.seq qu q)⟩
theorem fb_one {st : Stmt} {f : FY} (h : FS X PN σ0 W st f) : FB X PN σ0 W [st] f := by
  obtain ⟨t, pt, qt⟩ := h.ex
  exact ⟨_, pss_one pt, qt⟩
def yBk : FY := fun ρ => .ok .bk ρ
def yCt : FY := fun ρ => .ok .ct ρ
theorem fs_pass {pos} : FS X PN σ0 W (.Pass pos) yNil := ⟨_, ps_pass, fun F B H σ ρ D' S q => q σ H B (Ext.refl B) S⟩
theorem fs_break {pos} : FS X PN σ0 W (.Break pos) yBk := ⟨_, ps_break, fun F B H σ ρ D' S q => q σ H B (Ext.refl B) S⟩
theorem fs_continue {pos} : FS X PN σ0 W (.Continue pos) yCt := ⟨_, ps_continue, fun F B H σ ρ D' S q => q σ H B (Ext.refl B) S⟩
theorem fs_doc {x j pos pos'} : FS X PN σ0 W (.Expr (.Constant (.str x) j pos) pos') yNil := ⟨_, ps_doc, fun F B H σ ρ D' S q => q σ H B (Ext.refl B) S⟩
/-- from an expression's run to a statement's -/
def yE (f : FX) (k : Sl → En → R Fl) : FY := fun ρ => match f ρ with
  | .ok s ρ' => k s ρ'
  | .exc c fs ρ' => .exc c fs ρ'
  | .bad => .bad
theorem EPost.of {r : R Sl} {k : Sl → En → R Fl} {D' : Ends} {Q : VK}
    (hk : ∀ s ρ' v H' B', Ext B B' → Sat X.K X.mg PN σ0 F B' H' σ ρ' → VOk X.K X.mg F B' H' σ ρ' v s → SPost X PN σ0 W F B' (k s ρ') D' → Q v H')
    (q : SPost X PN σ0 W F B (match r with
      | .ok s ρ' => k s ρ'
      | .exc c fs ρ' => .exc c fs ρ'
      | .bad => .bad) D') : EPost X PN σ0 W F B σ r Q := by
  cases r with
  | bad => exact q
  | exc c fs ρ' => exact fun cls od H' B' e S' z => q cls od σ H' B' e S' z
  | ok s ρ' => exact fun v H' B' e S' z => hk s ρ' v H' B' e S' z (SPost.mono e q)
def yX (f : FX) : FY := yE f fun _ ρ' => .ok .nx ρ'
theorem fs_expr {e : Expr} {pos : Pos} {f : FX} (h : FE X PN σ0 W e f) (hs : swapsWith e none pos.line X.env = pure false := by rfl) : FS X PN σ0 W (.Expr e pos) (yX f) := by
  obtain ⟨t, pt, qt⟩ := h.ex
  exact ⟨_, ps_expr pt hs, fun F B H σ ρ D' S q => qt F B H σ ρ _ S (EPost.of (k := fun _ ρ' => .ok .nx ρ') (D' := D') (fun s ρ' v H' B' e S' z q' => q' σ H' B' (Ext.refl B') S') q)⟩
def yRet (f : FX) : FY := yE f fun s ρ' => .ok (.rt s) ρ'
theorem fs_ret {e : Expr} {pos : Pos} {f : FX} (h : FE X PN σ0 W e f) : FS X PN σ0 W (.Return (some e) pos) (yRet f) := by
  obtain ⟨t, pt, qt⟩ := h.ex
  exact ⟨_, ps_ret pt, fun F B H σ ρ D' S q => qt F B H σ ρ _ S (EPost.of (k := fun s ρ' => .ok (.rt s) ρ') (D' := D') (fun s ρ' v H' B' e S' z q' => q' v σ H' B' (Ext.refl B') S' z) q)⟩
def yRetN : FY := fun ρ => .ok (.rt (.fz .non)) ρ
theorem fs_retN {pos : Pos} : FS X PN σ0 W (.Return none pos) yRetN := ⟨_, ps_retN, fun F B H σ ρ D' S q => q .non σ H B (Ext.refl B) S .non⟩
def yIf (t : FX) (f g : FY) : FY := yE t fun s ρ' => match s with
  | .fz (.bl true) => f ρ'
  | .fz (.bl false) => g ρ'
  | _ => .bad
theorem fs_if {c : Expr} {a b : List Stmt} {pos : Pos} {t : FX} {f g : FY} (hc : FT X PN σ0 W c t) (h : FB X PN σ0 W a f) (k : FB X PN σ0 W b g) : FS X PN σ0 W (.If c a b pos) (yIf t f g) := by
  obtain ⟨tc, pc, qc⟩ := hc.ex
  obtain ⟨ta, pa, qa⟩ := h.ex
  obtain ⟨tb, pb, qb⟩ := k.ex
  refine ⟨_, ps_if pc pa pb, fun F B H σ ρ D' S q => qc F B H σ ρ _ S ?_⟩
  unfold yIf yE at q
  cases hr : t ρ with
  | bad => rw [hr] at q; exact q
  | exc c fs ρ => rw [hr] at q; exact fun cls od H' B' e S' z => q cls od σ H' B' e S' z
  | ok s ρ' =>
    rw [hr] at q
    cases s with
    | no => exact q.elim
    | ow d => exact q.elim
    | dp t => exact q.elim
    | fz d =>
      cases d with
      | bl b =>
        cases b with
        | true => exact fun H' B' e S' => iteT (qa F B' H' σ ρ' D' S' (SPost.mono e q))
        | false => exact fun H' B' e S' => iteF (qb F B' H' σ ρ' D' S' (SPost.mono e q))
      | _ => exact q.elim
/-! ### stores -/
def ySet (i : Nat) (f : FX) : FY := yE f fun s ρ' => .ok .nx (ρ'.set i s)
theorem fs_set {M L : List Bool} (N : NamesOk X M L) (i : Nat) {x : Str} {e : Expr} {pos pos' : Pos} {f : FX} (h : FE X PN σ0 W e f) (hp : i ∉ PN := by decide) (hi : X.N[i]? = some x := by rfl) (hm : L[i]? = some true := by rfl)
    (hs : swapsWith e (some (.Name x pos')) pos.line X.env = pure false := by rfl) : FS X PN σ0 W (.Assign [.Name x pos'] e pos) (ySet i f) := by
  obtain ⟨t, pt, qt⟩ := h.ex
  exact ⟨_, ps_set N.nd hi (N.loc i x hi hm) pt hs (N.fn i x hi hm), fun F B H σ ρ D' S q => qt F B H σ ρ _ S (EPost.of (k := fun s ρ' => .ok .nx (ρ'.set i s)) (D' := D') (fun s ρ' v H' B' e S' z q' => q' _ H' B' (Ext.refl B') (S'.store hp z)) q)⟩
/-- name op= e -/
def yAug (i : Nat) (g : G2) (f : FX) : FY := yE (xB g (aR i) (aX f)) fun s ρ' => .ok .nx (ρ'.set i s)
theorem fs_aug {M L : List Bool} (N : NamesOk X M L) (i : Nat) {x : Str} {e : Expr} {op : Operator} {pos pos' : Pos} {f : FX} {r : R2} {g : G2} (ho : OpR X (inplaceOp op) r) (hr : Op2 X r g) (h : FE X PN σ0 W e f) (hp : i ∉ PN := by decide) (hi : X.N[i]? = some x := by rfl) (hm : L[i]? = some true := by rfl)
    (hr' : M[i]? = some true := by rfl) : FS X PN σ0 W (.AugAssign (.Name x pos') op e pos) (yAug i g f) := by
  obtain ⟨t, pt, qt⟩ := (fa_x h).ex
  obtain ⟨ti, pi, qi⟩ := (fa_r (PN := PN) (σ0 := σ0) (W := W) (pos := pos') N i hi hr').ex
  refine ⟨_, ps_aug (ti := r) N.nd hi (N.loc i x hi hm) pt ho (N.fn i x hi hm), fun F B H σ ρ D' S q => ?_⟩
  have hx : ∃ v, σ[i]? = some (some v) := by
    unfold yAug yE xB aR rdSl at q
    cases e : ρ[i]? with
    | none => rw [e] at q; exact q.elim
    | some s =>
      cases s with
      | no => rw [e] at q; exact q.elim
      | dp t => rw [e] at q; exact q.elim
      | fz d => obtain ⟨v, h1, _⟩ := S.sl i _ e; exact ⟨v, h1⟩
      | ow d => obtain ⟨a, h1, _⟩ := S.sl i _ e; exact ⟨_, h1⟩
  obtain ⟨v, hv⟩ := hx
  refine ⟨v, hv, ?_⟩
  have qi' : ∀ F B H σ1 ρ Q, Sat X.K X.mg PN σ0 F B H σ1 ρ → APost X PN σ0 W F B σ1 (aR i ρ) Q → σ1 = σ → Q v H := fun F1 B1 H1 σ1 ρ1 Q1 S1 q1 e1 => by
    have hv' : σ1[i]? = some (some v) := by rw [e1]; exact hv
    unfold aR at q1
    cases e : rdSl i ρ1 with
    | none => rw [e] at q1; exact q1.elim
    | some d =>
      rw [e] at q1
      refine q1 v H1 B1 (Ext.refl B1) S1 fun B2 H2 ρ2 d2 e2 S2 h2 => ?_
      unfold rdSl at h2
      split at h2
      · rename_i d' e
        cases h2
        obtain ⟨v', h1, r⟩ := S2.sl i _ e
        rw [hv'] at h1; cases h1
        exact .inl r
      · rename_i d' e
        cases h2
        obtain ⟨a, h1, _, _, r⟩ := S2.sl i _ e
        rw [hv'] at h1; cases h1
        exact .inr ⟨a, rfl, r⟩
      · cases h2
  have := fin2 (X := X) (PN := PN) (σ0 := σ0) (W := W) (ta := fun σ1 H Q => σ1 = σ → Q v H) (tb := t) (a := aR i) (b := aX f) (Q := fun z H2 => D'.nx (σ.set i (some z)) H2) hr
    qi' qt S (EPost.of (k := fun s ρ' => .ok .nx (ρ'.set i s)) (D' := D') (fun s ρ' v H' B' e S' z q' => q' _ H' B' (Ext.refl B') (S'.store hp z)) q)
  exact this rfl
/-! ### o[i] = e, of a held list or dict -/
def keyOf : D → Option Key
  | .int i => some (.inl i)
  | .str x => some (.inr x)
  | _ => none
def putD (kds : List (Key × D)) (k : Key) (d : D) : List (Key × D) :=
  if (kds.any fun kv => decide (kv.1 = k)) then kds.map (fun kv => if kv.1 = k then (kv.1, d) else kv) else kds ++ [(k, d)]
def valD (kds : List (Key × D)) (k : Key) : Option D := (kds.find? fun kv => decide (kv.1 = k)).map (·.2)
def setD (dk d : D) : D → Option D
  | .lst ds => match dk with
    | .int k => (ixN ds.length k).bind fun j => some (.lst (ds.set j d))
    | _ => none
  | .dic kds => (keyOf dk).bind fun k => if kds.length < 1000000 then some (.dic (putD kds k d)) else none
  | _ => none
def kSetI (i : Nat) (d : D) (s2 : Sl) (ρ2 : En) : R Fl := match s2 with
  | .fz dk => match ρ2[i]? with
    | some (.ow c) => match setD dk d c with
      | some c' => .ok .nx (ρ2.set i (.ow c'))
      | none => .bad
    | _ => .bad
  | _ => .bad
def ySetI (i : Nat) (fk fe : FX) : FY := yE (xF fe) fun s ρ1 => match s with
  | .fz d => match rdSl i ρ1 with
    | some _ => yE (xF fk) (kSetI i d) ρ1
    | none => .bad
  | _ => .bad
theorem key_rep {v : L2.V} {dk : D} {k : Key} (h : Rep X.K X.mg B v dk) (e : keyOf dk = some k) : v = kV k := by
  cases dk <;> simp [keyOf] at e
  · subst e; cases h; rfl
  · subst e; cases h; rfl
theorem put_rep {kvs : List (Key × L2.V)} {kds : List (Key × D)} {k : Key} {v : L2.V} {d : D} (hv : Rep X.K X.mg B v d) (e : kvs.map (·.1) = kds.map (·.1)) (r : RepL X.K X.mg B (kvs.map (·.2)) (kds.map (·.2))) :
    (putK kvs k v).map (·.1) = (putD kds k d).map (·.1) ∧ RepL X.K X.mg B ((putK kvs k v).map (·.2)) ((putD kds k d).map (·.2)) := by
  have ha : (kvs.any fun kv => decide (kv.1 = k)) = kds.any fun kv => decide (kv.1 = k) := by
    have h1 : (kvs.any fun kv => decide (kv.1 = k)) = (kvs.map (·.1)).any fun x => decide (x = k) := by rw [List.any_map]; rfl
    have h2 : (kds.any fun kv => decide (kv.1 = k)) = (kds.map (·.1)).any fun x => decide (x = k) := by rw [List.any_map]; rfl
    rw [h1, h2, e]
  have hm : (kvs.map fun kv => if kv.1 = k then (kv.1, v) else kv).map (·.1) = (kds.map fun kv => if kv.1 = k then (kv.1, d) else kv).map (·.1) ∧
      RepL X.K X.mg B ((kvs.map fun kv => if kv.1 = k then (kv.1, v) else kv).map (·.2)) ((kds.map fun kv => if kv.1 = k then (kv.1, d) else kv).map (·.2)) := by
    clear ha
    induction kvs generalizing kds with
    | nil =>
      cases kds with
      | nil => exact ⟨rfl, .nil⟩
      | cons q kds => simp at e
    | cons p kvs ih =>
      cases kds with
      | nil => simp at e
      | cons q kds =>
        simp only [List.map_cons, List.cons.injEq] at e
        obtain ⟨e1, e2⟩ := e
        cases r with
        | cons r1 r2 =>
          obtain ⟨j1, j2⟩ := ih e2 r2
          simp only [List.map_cons]
          by_cases z : p.1 = k
          · rw [if_pos z, if_pos (e1 ▸ z)]
            exact ⟨by rw [e1, j1], .cons hv j2⟩
          · rw [if_neg z, if_neg (e1 ▸ z)]
            exact ⟨by rw [e1, j1], .cons r1 j2⟩
  unfold putK putD
  rw [ha]
  split
  · exact hm
  · exact ⟨by simp [e], by simpa using r.append (.cons hv .nil)⟩
theorem map_set2 {α β : Type} (f : α → β) (l : List α) (j : Nat) (x : α) : (l.set j x).map f = (l.map f).set j (f x) := List.map_set ..
def rSetU : TSet := fun o i v H Q => rSetL o i v H Q ∨ rSetD o i v H Q
theorem set_u (hu : X.A.units + 1 < cLine) : PSet X rSetU := by
  intro pins s σ H o i v ov iv u Q I ro ri rv h
  rcases h with h | h
  · exact set_list pins s σ H o i v ov iv u Q I ro ri rv h
  · exact set_dict hu pins s σ H o i v ov iv u Q I ro ri rv h
theorem fs_setI {M L : List Bool} (N : NamesOk X M L) (i : Nat) (hu : X.A.units + 1 < cLine) {x : Str} {ei e : Expr} {p pos pos' : Pos} {fk fe : FX} (h : FE X PN σ0 W e fe) (hk : FE X PN σ0 W ei fk) (hi : X.N[i]? = some x := by rfl) (hm : M[i]? = some true := by rfl)
    (ha : ∀ v, assign (.Subscript (.Name x p) ei pos') X.env v = (do
      let ov ← holding [v] (eval (.Name x p) X.env)
      let iv ← holding [v, ov] (eval ei X.env)
      standAt pos'
      holding [v, ov, iv] (setItem ov iv v)
      release [v, ov, iv] []) := by intro _; rfl)
    (hs : swapsWithSole [.Subscript (.Name x p) ei pos'] e pos.line X.env = pure false := by rfl) (hw : swappedStores [.Subscript (.Name x p) ei pos'] e X.env = pure none := by rfl)
    (h1 : (assignEach [.Subscript (.Name x p) ei pos'] X.env).map (·.2) = [assign (.Subscript (.Name x p) ei pos') X.env] := by rfl) : FS X PN σ0 W (.Assign [.Subscript (.Name x p) ei pos'] e pos) (ySetI i fk fe) := by
  obtain ⟨te, pe, qe⟩ := (fe_f h).ex
  obtain ⟨tk, pk, qk⟩ := (fe_f hk).ex
  refine ⟨_, ps_asg pe (pg_sub (N.pe i hi hm) pk (set_u hu) ha) hs hw h1, fun F B H σ ρ D' S q => qe F B H σ ρ _ S (EPost.of (D' := D') (k := fun s ρ1 => match s with
    | .fz d => match rdSl i ρ1 with
      | some _ => yE (xF fk) (kSetI i d) ρ1
      | none => .bad
    | _ => .bad) (fun s ρ1 v H1 B1 e1 S1 z q1 => ?_) q)⟩
  cases s with
  | no => exact z.elim
  | ow d => exact q1.elim
  | dp t => exact q1.elim
  | fz d =>
    simp only at q1
    split at q1
    · rename_i dd hrd
      have hσ : ∃ w', σ[i]? = some (some w') := by
        unfold rdSl at hrd
        cases e : ρ1[i]? with
        | none => rw [e] at hrd; cases hrd
        | some s =>
          cases s with
          | no => rw [e] at hrd; cases hrd
          | dp t => rw [e] at hrd; cases hrd
          | fz d => obtain ⟨v, h1, _⟩ := S1.sl i _ e; exact ⟨v, h1⟩
          | ow d => obtain ⟨a, h1, _⟩ := S1.sl i _ e; exact ⟨_, h1⟩
      obtain ⟨w', hw'⟩ := hσ
      refine ⟨w', hw', qk F B1 H1 σ ρ1 _ S1 (EPost.of (D' := D') (k := kSetI i d) (fun s2 ρ2 v2 H2 B2 e2 S2 z2 q2 => ?_) q1)⟩
      unfold kSetI at q2
      split at q2
      · rename_i dk
        split at q2
        · rename_i c hc
          split at q2
          · rename_i c' hset
            obtain ⟨a, g1, g2, g3, g4⟩ := S2.sl i _ hc
            rw [hw'] at g1; cases g1
            have hvd : Rep X.K X.mg B2 v d := Rep.mono e2 z
            cases c with
            | lst ds =>
              obtain ⟨xs, k1, k2⟩ := id g4
              simp only [setD] at hset
              cases dk with
              | int k =>
                simp only at hset
                cases hj : ixN ds.length k with
                | none => rw [hj] at hset; cases hset
                | some j =>
                  rw [hj] at hset
                  cases hset
                  cases z2
                  refine .inl ⟨a, xs, k, j, rfl, rfl, k1, by rw [k2.length]; exact hj, ?_⟩
                  exact q2 σ _ B2 (Ext.refl B2) (S2.mutate hc hw' ⟨_, upd_same, k2.set hvd j⟩)
              | _ => cases hset
            | dic kds =>
              obtain ⟨kvs, k1, k2, k3⟩ := id g4
              simp only [setD] at hset
              cases hk : keyOf dk with
              | none => rw [hk] at hset; cases hset
              | some k =>
                rw [hk, Option.bind_some] at hset
                split at hset
                · rename_i hlen
                  cases hset
                  have ek := key_rep z2 hk
                  subst ek
                  have hl : kvs.length = kds.length := by simpa using congrArg List.length k2
                  obtain ⟨p1, p2⟩ := put_rep (k := k) hvd k2 k3
                  refine .inr ⟨a, _, rfl, DPut.k k1 (by rw [hl]; exact Nat.lt_of_lt_of_le hlen (by decide)), ?_⟩
                  exact q2 σ _ B2 (Ext.refl B2) (S2.mutate hc hw' ⟨_, upd_same, p1, p2⟩)
                · cases hset
            | _ => cases hset
          · exact q2.elim
        · exact q2.elim
      · exact q2.elim
    · exact q1.elim
end
end FV

namespace FV
open PySem PySem.Spec PyProof.Rows L2

/-- where one stands: k calls deep may be called -/
structure Cok (X : Cx) (W : WX) (k : Nat) : Prop where
  calm : X.calm = true
  tk : Takes X W
  po : PassesOwn (model X.prog X.w) X.A X.env X.xe
  hr : Room k X.A
section
variable {X : Cx} {PN : List Nat} {σ0 : Gs} {W : WX} {k : Nat}
theorem Cok.hu (C : Cok X W k) : X.A.units + 1 < cLine := hu_of C.hr
theorem Cok.hu64 (C : Cok X W k) : X.A.units + 64 < cLine := C.hr.units

/-! ### targets -/
abbrev GG := D → En → Option En
structure FG (X : Cx) (PN : List Nat) (σ0 : Gs) (tg : Expr) (g : GG) (ts : List Nat) : Prop where
  ex : ∃ t : TG, PG X tg t ∧ ∀ F B H σ ρ v d ρ' Q, Sat X.K X.mg PN σ0 F B H σ ρ → Rep X.K X.mg B v d → g d ρ = some ρ' → (∀ σ', σ'.length = σ.length → (∀ (i : Nat), i ∉ ts → σ'[i]? = σ[i]?) → Sat X.K X.mg PN σ0 F B H σ' ρ' → Q σ' H) → t v σ H Q
structure FGs (X : Cx) (PN : List Nat) (σ0 : Gs) (tgs : List Expr) (g : List D → En → Option En) (ts : List Nat) : Prop where
  ex : ∃ t : TGs, PGs X tgs t ∧ ∀ F B H σ ρ vs ds ρ' Q, Sat X.K X.mg PN σ0 F B H σ ρ → RepL X.K X.mg B vs ds → g ds ρ = some ρ' → (∀ σ', σ'.length = σ.length → (∀ (i : Nat), i ∉ ts → σ'[i]? = σ[i]?) → Sat X.K X.mg PN σ0 F B H σ' ρ' → Q σ' H) → t vs σ H Q
def tgN (i : Nat) : GG := fun d ρ => some (ρ.set i (.fz d))
theorem fg_n {M L : List Bool} (N : NamesOk X M L) (i : Nat) {x : Str} {pos : Pos} (hp : i ∉ PN := by decide) (hi : X.N[i]? = some x := by rfl) (hm : L[i]? = some true := by rfl) : FG X PN σ0 (.Name x pos) (tgN i) [i] :=
  ⟨_, pg_name N.nd hi (N.loc i x hi hm) (N.fn i x hi hm), fun F B H σ ρ v d ρ' Q S r e q => by
    cases e
    exact q _ (by rw [List.length_set]) (fun j hj => by rw [List.getElem?_set_ne (fun z => hj (by simp [z]))]) (S.store (v := v) (s := .fz d) hp r)⟩
def tgsNil : List D → En → Option En
  | [], ρ => some ρ
  | _ :: _, _ => none
def tgsCons (g : GG) (gs : List D → En → Option En) : List D → En → Option En
  | [], _ => none
  | d :: ds, ρ => (g d ρ).bind fun ρ1 => gs ds ρ1
theorem fgs_nil : FGs X PN σ0 [] tgsNil [] := ⟨_, pgs_nil, fun F B H σ ρ vs ds ρ' Q S r e q => by
  cases r with
  | nil => cases e; exact ⟨rfl, q σ rfl (fun _ _ => rfl) S⟩
  | cons _ _ => cases e⟩
theorem fgs_cons {e : Expr} {es : List Expr} {g : GG} {gs : List D → En → Option En} {ts ts' : List Nat} (h : FG X PN σ0 e g ts) (k : FGs X PN σ0 es gs ts')
    (hs : (assignEach (e :: es) X.env).map (·.2) = assign e X.env :: (assignEach es X.env).map (·.2) := by rfl) : FGs X PN σ0 (e :: es) (tgsCons g gs) (ts ++ ts') := by
  obtain ⟨t, pt, qt⟩ := h.ex
  obtain ⟨u, pu, qu⟩ := k.ex
  refine ⟨_, pgs_cons pt pu hs, fun F B H σ ρ vs ds ρ' Q S r e q => ?_⟩
  cases r with
  | nil => cases e
  | cons r1 r2 =>
    rename_i v vs d ds
    replace e : (g d ρ).bind (fun ρ1 => gs ds ρ1) = some ρ' := e
    cases e1 : g d ρ with
    | none => rw [e1] at e; cases e
    | some ρ1 =>
      rw [e1] at e
      exact ⟨v, vs, rfl, qt F B H σ ρ v d ρ1 _ S r1 e1 fun σ' hl hs' S' => qu F B H σ' ρ1 vs ds ρ' Q S' r2 e fun σ2 h2 hs2 S2 => q σ2 (h2.trans hl) (fun j hj => (hs2 j fun z => hj (List.mem_append_right _ z)).trans (hs' j fun z => hj (List.mem_append_left _ z))) S2⟩
def tgT (n : Nat) (gs : List D → En → Option En) : GG := fun d ρ => match d with
  | .tup ds => if ds.length = n then gs ds ρ else none
  | _ => none
theorem fg_t {es : List Expr} {m : Nat} {pos : Pos} {n : Nat} {gs : List D → En → Option En} {ts : List Nat} (hc : X.calm = true) (h : FGs X PN σ0 es gs ts)
    (hn : (assignEach es X.env).length = n := by rfl) (hst : (assignEach es X.env).findIdx? (·.1) = none := by rfl) : FG X PN σ0 (.Tuple es m pos) (tgT n gs) ts := by
  obtain ⟨t, pt, qt⟩ := h.ex
  refine ⟨_, pg_tup hc pt hn hst, fun F B H σ ρ v d ρ' Q S r e q => ?_⟩
  unfold tgT at e
  split at e
  · split at e
    · rename_i hl
      cases r with
      | tup h1 h2 => exact ⟨_, _, rfl, .inl (.inl (S.bh _ _ h1)), by rw [h2.length]; exact hl, qt F B H σ ρ _ _ ρ' Q S h2 e q⟩
    · cases e
  · cases e
def yAsg (g : GG) (f : FX) : FY := yE (xF f) fun s ρ1 => match s with
  | .fz d => match g d ρ1 with
    | some ρ' => .ok .nx ρ'
    | none => .bad
  | _ => .bad
/-- a, b = e -/
theorem fs_asg {tg e : Expr} {pos : Pos} {g : GG} {ts : List Nat} {f : FX} (he : FE X PN σ0 W e f) (hg : FG X PN σ0 tg g ts) (hs : swapsWithSole [tg] e pos.line X.env = pure false := by rfl) (hw : swappedStores [tg] e X.env = pure none := by rfl)
    (h1 : (assignEach [tg] X.env).map (·.2) = [assign tg X.env] := by rfl) : FS X PN σ0 W (.Assign [tg] e pos) (yAsg g f) := by
  obtain ⟨te, pe, qe⟩ := (fe_f he).ex
  obtain ⟨tg', pg, qg⟩ := hg.ex
  refine ⟨_, ps_asg pe pg hs hw h1, fun F B H σ ρ D' S q => qe F B H σ ρ _ S (EPost.of (D' := D') (k := fun s ρ1 => match s with
    | .fz d => match g d ρ1 with
      | some ρ' => .ok .nx ρ'
      | none => .bad
    | _ => .bad) (fun s ρ1 v H1 B1 e1 S1 z q1 => ?_) q)⟩
  cases s with
  | no => exact z.elim
  | ow d => exact q1.elim
  | dp t => exact q1.elim
  | fz d =>
    simp only at q1
    split at q1
    · rename_i ρ' e
      exact qg F B1 H1 σ ρ1 v d ρ' _ S1 z e fun σ' _ _ S' => q1 σ' H1 B1 (Ext.refl B1) S'
    · exact q1.elim

/-! ### what is walked -/
structure ItOk (K : PySem.W.Frag) (mg : Str → Option Value) (Fo : Hp) (J : It) (B : Hp) (xs : List D) : Prop where
  go : ∀ (i : Nat) (d : D), xs[i]? = some d → ∀ B' H' : Hp, Ext B B' → (∀ b o, B' b = some o → H' b = some o) → (∀ b o, Fo b = some o → H' b = some o) → J.go i H' ∧ ∀ x H2, J.yld i H' x H2 → ∀ PN σ0 F σ ρ, Sat K mg PN σ0 F B' H' σ ρ →
    ∃ B2, Ext B' B2 ∧ Sat K mg PN σ0 F B2 H2 σ ρ ∧ Rep K mg B2 x d
  stop : ∀ B' H' : Hp, Ext B B' → (∀ b o, B' b = some o → H' b = some o) → (∀ b o, Fo b = some o → H' b = some o) → J.stop xs.length H'
def IPost (X : Cx) (PN : List Nat) (σ0 : Gs) (W : WX) (F B : Hp) (σ : L2.St) (r : R (List D)) (Rr : It → Hp → Prop) : Prop := match r with
  | .ok xs ρ' => ∀ J H' B', Ext B B' → Sat X.K X.mg PN σ0 F B' H' σ ρ' → ItOk X.K X.mg (fun _ => none) J B' xs → Rr J H'
  | .exc c fs ρ' => ∀ cls od H' B', Ext B B' → Sat X.K X.mg PN σ0 F B' H' σ ρ' → ExcOk X.K X.mg B' c fs cls od → W cls od σ H'
  | .bad => False
/-- .. where what others hold stands still, too -/
def IPostF (X : Cx) (PN : List Nat) (σ0 : Gs) (W : WX) (F B : Hp) (σ : L2.St) (r : R (List D)) (Rr : It → Hp → Prop) : Prop := match r with
  | .ok xs ρ' => ∀ J H' B', Ext B B' → Sat X.K X.mg PN σ0 F B' H' σ ρ' → ItOk X.K X.mg F J B' xs → Rr J H'
  | .exc c fs ρ' => ∀ cls od H' B', Ext B B' → Sat X.K X.mg PN σ0 F B' H' σ ρ' → ExcOk X.K X.mg B' c fs cls od → W cls od σ H'
  | .bad => False
structure FJ (X : Cx) (PN : List Nat) (σ0 : Gs) (W : WX) (tg iter : Expr) (gi : En → R (List D)) : Prop where
  ex : ∃ t : TI, PI X tg iter t ∧ ∀ F B H σ ρ Rr, Sat X.K X.mg PN σ0 F B H σ ρ → IPostF X PN σ0 W F B σ (gi ρ) Rr → t σ H Rr
theorem ItOk.any {K : PySem.W.Frag} {mg : Str → Option Value} {Fo : Hp} {J : It} {B : Hp} {xs : List D} (h : ItOk K mg (fun _ => none) J B xs) : ItOk K mg Fo J B xs :=
  ⟨fun i d hd B' H' e bh _ => h.go i d hd B' H' e bh (fun _ _ z => by cases z), fun B' H' e bh _ => h.stop B' H' e bh (fun _ _ z => by cases z)⟩
structure FI (X : Cx) (PN : List Nat) (σ0 : Gs) (W : WX) (tg iter : Expr) (gi : En → R (List D)) : Prop where
  ex : ∃ t : TI, PI X tg iter t ∧ ∀ F B H σ ρ Rr, Sat X.K X.mg PN σ0 F B H σ ρ → IPost X PN σ0 W F B σ (gi ρ) Rr → t σ H Rr
theorem FI.fj {X : Cx} {PN : List Nat} {σ0 : Gs} {W : WX} {tg iter : Expr} {gi : En → R (List D)} (h : FI X PN σ0 W tg iter gi) : FJ X PN σ0 W tg iter gi := by
  obtain ⟨t, pt, qt⟩ := h.ex
  refine ⟨t, pt, fun F B H σ ρ Rr S q => qt F B H σ ρ Rr S ?_⟩
  cases eg : gi ρ with
  | bad => rw [eg] at q; exact q
  | exc c fs ρ1 => rw [eg] at q; exact q
  | ok xs ρ1 => rw [eg] at q; exact fun J H' B' e S' hJ => q J H' B' e S' hJ.any
/-- a list, a tuple, a text -/
def itemsD : D → Option (List D)
  | .lst ds => some ds
  | .tup ds => some ds
  | .str x => some (x.cps.toList.map fun c => .str ⟨#[c]⟩)
  | _ => none
def iAny (te : TE) : TI := fun σ H Rr => te σ H fun v H1 => (∃ a, v = .ref a ∧ (∃ xs, H1 a = some (.lst xs)) ∧ Rr (Itl X.K a) H1) ∨ (∃ a, v = .ref a ∧ (∃ xs, H1 a = some (.tup xs)) ∧ Rr (Itt X.K a) H1) ∨ ∃ x, v = .str x ∧ Rr (Its x) H1
theorem pi_any {tg e : Expr} {te : TE} (he : PE X e te) : PI X tg e (iAny (X := X) te) := by
  refine ⟨fun pins s σ H Rr I h => ?_⟩
  refine thn (he.run pins s σ H _ I h) fun v s1 ⟨y, H1, I1, r1, q⟩ => ?_
  rcases q with ⟨a, e, ⟨xs, hx⟩, q⟩ | ⟨a, e, ⟨xs, hx⟩, q⟩ | ⟨x, e, q⟩
  · subst e
    cases r1
    obtain ⟨its, rv, p, hz⟩ := I1.list (xs := xs) (.inl (.inl hx))
    refine wpAny_pyIter_list p.isList ?_
    refine ⟨s1.heap.objs.size, [s1.heap.objs.size], _, _, H1, rfl, I1.kept (t' := s1.toks) fun b o e => Heap.get?_push_of_some _ e, turn_list a _, ⟨_, Heap.get?_push_size _ rfl, rfl, rfl⟩, fun b hb => ?_, q⟩
    have e : b = s1.heap.objs.size := by simpa using hb
    subst e
    exact I1.fpOk (Nat.le_refl _) (I1.hok.fresh (Nat.le_refl _))
  · subst e
    cases r1
    obtain ⟨its, rv, p, hz⟩ := I1.tuple (xs := xs) (.inl (.inl hx))
    refine wpAny_pyIter_tuple (show s1.heap.IsTuple a its.toArray from p) ?_
    refine ⟨s1.heap.objs.size, [s1.heap.objs.size], _, _, H1, rfl, I1.kept (t' := s1.toks) fun b o e => Heap.get?_push_of_some _ e, turn_tuple a _, ⟨_, Heap.get?_push_size _ rfl, rfl, rfl⟩, fun b hb => ?_, q⟩
    have e : b = s1.heap.objs.size := by simpa using hb
    subst e
    exact I1.fpOk (Nat.le_refl _) (I1.hok.fresh (Nat.le_refl _))
  · subst e
    obtain ⟨t, rfl⟩ := r1
    cases ha : x.cps.all (· < 128)
    · exact wpAny_pyIter_wide ha (pi_one (tk := s1.toks) I1 _ (turn_str _ x t "str_iterator" (.inr rfl)) ⟨_, Heap.get?_push_size _ rfl, rfl, rfl⟩ q)
    · exact wpAny_pyIter_ascii ha (pi_one (tk := s1.toks) I1 _ (turn_str _ x t "str_ascii_iterator" (.inl rfl)) ⟨_, Heap.get?_push_size _ rfl, rfl, rfl⟩ q)
section
variable {K : PySem.W.Frag} {mg : Str → Option Value} {B Fo : Hp}
theorem itOk_list {a : Addr} {vs : List L2.V} {ds : List D} (h : B a = some (.lst vs)) (r : RepL K mg B vs ds) : ItOk K mg Fo (Itl K a) B ds where
  go := fun i d hd B' H' e bh _ => by
    have h' : SqL K H' a vs := .inl (.inl (bh _ _ (e.lst h)))
    obtain ⟨v, hv, rv⟩ := r.get hd
    refine ⟨⟨vs, v, h', hv⟩, fun x H2 hy PN σ0 F σ ρ S => ?_⟩
    obtain ⟨rfl, hy⟩ := hy
    have := hy vs h'
    rw [hv] at this; cases this
    exact ⟨B', Ext.refl B', S, rv.mono e⟩
  stop := fun B' H' e bh _ => ⟨vs, .inl (.inl (bh _ _ (e.lst h))), Nat.le_of_eq r.length⟩
theorem itOk_tup {a : Addr} {vs : List L2.V} {ds : List D} (h : B a = some (.tup vs)) (r : RepL K mg B vs ds) : ItOk K mg Fo (Itt K a) B ds where
  go := fun i d hd B' H' e bh _ => by
    have h' : SqT K H' a vs := .inl (.inl (bh _ _ (e.tup h)))
    obtain ⟨v, hv, rv⟩ := r.get hd
    refine ⟨⟨vs, v, h', hv⟩, fun x H2 hy PN σ0 F σ ρ S => ?_⟩
    obtain ⟨rfl, hy⟩ := hy
    have := hy vs h'
    rw [hv] at this; cases this
    exact ⟨B', Ext.refl B', S, rv.mono e⟩
  stop := fun B' H' e bh _ => ⟨vs, .inl (.inl (bh _ _ (e.tup h))), Nat.le_of_eq r.length⟩
theorem itOk_str (x : Str) : ItOk K mg Fo (Its x) B (x.cps.toList.map fun c => .str ⟨#[c]⟩) where
  go := fun i d hd B' H' e bh _ => by
    rw [List.getElem?_map] at hd
    cases hc : x.cps.toList[i]? with
    | none => rw [hc] at hd; cases hd
    | some c =>
      rw [hc] at hd
      cases hd
      have hi : i < x.cps.size := by simpa using (List.getElem?_eq_some_iff.mp hc).1
      refine ⟨hi, fun y H2 hy PN σ0 F σ ρ S => ?_⟩
      obtain ⟨rfl, c', hc', rfl⟩ := hy
      have : x.cps.toList[i]? = some c' := by simpa using hc'
      rw [hc] at this; cases this
      exact ⟨B', Ext.refl B', S, .str _⟩
  stop := fun B' H' e bh _ => by
    show x.cps.size ≤ _
    simp
theorem itOk_range (lo : Int) (n : Nat) : ItOk K mg Fo (Itr lo n) B ((List.range n).map fun (i : Nat) => .int (lo + i)) where
  go := fun i d hd B' H' e bh _ => by
    rw [List.getElem?_map] at hd
    cases hc : (List.range n)[i]? with
    | none => rw [hc] at hd; cases hd
    | some c =>
      rw [hc] at hd
      cases hd
      obtain ⟨h1, h2⟩ := List.getElem?_eq_some_iff.mp hc
      rw [List.getElem_range] at h2
      subst h2
      refine ⟨show i < n by simpa using h1, fun y H2 hy PN σ0 F σ ρ S => ?_⟩
      obtain ⟨rfl, rfl⟩ := hy
      exact ⟨B', Ext.refl B', S, .int _⟩
  stop := fun B' H' e bh _ => by
    show n ≤ _
    simp
end
def wIt (f : FX) : En → R (List D) := fun ρ => (xF f ρ).bind fun s ρ1 => match s with
  | .fz d => match itemsD d with
    | some xs => .ok xs ρ1
    | none => .bad
  | _ => .bad
theorem fi_it {tg e : Expr} {f : FX} (h : FE X PN σ0 W e f) : FI X PN σ0 W tg e (wIt f) := by
  obtain ⟨t, pt, qt⟩ := (fe_f h).ex
  refine ⟨_, pi_any pt, fun F B H σ ρ Rr S q => qt F B H σ ρ _ S ?_⟩
  unfold wIt at q
  cases er : xF f ρ with
  | bad => rw [er] at q; exact q
  | exc c fs ρ1 => rw [er] at q; exact q
  | ok s ρ1 =>
    rw [er, R.bind_ok] at q
    intro v H1 B1 e1 S1 z
    cases s with
    | no => exact z.elim
    | ow d => exact q.elim
    | dp t => exact q.elim
    | fz d =>
      cases d with
      | lst ds =>
        cases z with
        | lst h1 h2 => exact .inl ⟨_, rfl, ⟨_, S1.bh _ _ h1⟩, q _ _ B1 e1 S1 (itOk_list h1 h2)⟩
      | tup ds =>
        cases z with
        | tup h1 h2 => exact .inr (.inl ⟨_, rfl, ⟨_, S1.bh _ _ h1⟩, q _ _ B1 e1 S1 (itOk_tup h1 h2)⟩)
      | str x => cases z; exact .inr (.inr ⟨x, rfl, q _ _ B1 e1 S1 (itOk_str x)⟩)
      | _ => exact q.elim
/-- the range's ends -/
def wR (g : List D → Option (List D)) (l : En → R (List Th)) : En → R (List D) := fun ρ => (l ρ).bind fun ts ρ1 => match (evTh ts ρ1).bind g with
  | some xs => .ok xs ρ1
  | none => .bad
/-- within the range that is walked; never to be reckoned at an open number -/
def okR (i : Int) : Bool := decide (i.natAbs.log2 < 60)
theorem okR_lt {i : Int} (h : okR i = true) : -(2 ^ 60) < i ∧ i < 2 ^ 60 := by
  have h : i.natAbs.log2 < 60 := of_decide_eq_true h
  by_cases h0 : i.natAbs = 0
  · omega
  · have := (Nat.log2_lt h0).1 h
    omega
theorem okR_of {i : Int} (h : -(2 ^ 60) < i ∧ i < 2 ^ 60) : okR i = true := by
  refine decide_eq_true ?_
  by_cases h0 : i.natAbs = 0
  · rw [h0]; decide
  · refine (Nat.log2_lt h0).2 ?_
    omega
def rng1 : List D → Option (List D)
  | [.int j] => if okR j = true then some ((List.range j.toNat).map fun (i : Nat) => .int (0 + i)) else none
  | _ => none
def rng2 : List D → Option (List D)
  | [.int i, .int j] => if (okR i && okR j) = true then some ((List.range (j - i).toNat).map fun (n : Nat) => .int (i + n)) else none
  | _ => none
theorem paired1 {X : Cx} {B H : Hp} {vs : List L2.V} {d : D} (h : Paired (LRep X B H) vs [d]) : ∃ v, vs = [v] ∧ LRep X B H v d := by
  cases h with
  | cons p q => cases q; exact ⟨_, rfl, p⟩
theorem paired2 {X : Cx} {B H : Hp} {vs : List L2.V} {d e : D} (h : Paired (LRep X B H) vs [d, e]) : ∃ v w, vs = [v, w] ∧ LRep X B H v d ∧ LRep X B H w e := by
  cases h with
  | cons p q =>
    obtain ⟨w, rfl, r⟩ := paired1 q
    exact ⟨_, w, rfl, p, r⟩
theorem fi_rng1 {tg a : Expr} {p pos : Pos} {l : En → R (List Th)} (b : Blt X "range") (h : FL X PN σ0 W [a] l) (hs : starEach [a] X.env = [(false, eval a X.env)] := by rfl) : FI X PN σ0 W tg (.Call (.Name "range" p) [a] [] pos) (wR rng1 l) := by
  obtain ⟨t, pt, qt⟩ := h.ex
  refine ⟨_, pi_range1 b.gl b.no pt hs, fun F B H σ ρ Rr S q => qt F B H σ ρ _ S ?_⟩
  unfold wR at q
  cases el : l ρ with
  | bad => rw [el] at q; exact q
  | exc c fs ρ1 => rw [el] at q; exact q
  | ok ts ρ1 =>
    rw [el, R.bind_ok] at q
    intro vs H1 B1 e1 S1 hl k1
    cases h1 : evTh ts ρ1 with
    | none => rw [h1] at q; exact q.elim
    | some ds =>
      rw [h1, Option.bind_some] at q
      have pr := paired_of hl (fun i v th a b d hd => k1 i v th a b B1 H1 ρ1 d (Ext.refl B1) S1 hd) h1
      unfold rng1 at q
      split at q
      · rename_i xs hx
        split at hx
        · rename_i j
          split at hx
          · rename_i hj
            cases hx
            obtain ⟨v, rfl, r⟩ := paired1 pr
            have := r.int
            subst this
            have hj := okR_lt hj
            exact ⟨j, rfl, by omega, by omega, q _ _ B1 e1 S1 (itOk_range 0 _)⟩
          · cases hx
        · cases hx
      · exact q.elim
theorem fi_rng2 {tg a a2 : Expr} {p pos : Pos} {l : En → R (List Th)} (b : Blt X "range") (h : FL X PN σ0 W [a, a2] l) (hs : starEach [a, a2] X.env = [(false, eval a X.env), (false, eval a2 X.env)] := by rfl) (hs2 : starEach [a2] X.env = [(false, eval a2 X.env)] := by rfl) : FI X PN σ0 W tg (.Call (.Name "range" p) [a, a2] [] pos) (wR rng2 l) := by
  obtain ⟨t, pt, qt⟩ := h.ex
  refine ⟨_, pi_range2 b.gl b.no pt hs hs2, fun F B H σ ρ Rr S q => qt F B H σ ρ _ S ?_⟩
  unfold wR at q
  cases el : l ρ with
  | bad => rw [el] at q; exact q
  | exc c fs ρ1 => rw [el] at q; exact q
  | ok ts ρ1 =>
    rw [el, R.bind_ok] at q
    intro vs H1 B1 e1 S1 hl k1
    cases h1 : evTh ts ρ1 with
    | none => rw [h1] at q; exact q.elim
    | some ds =>
      rw [h1, Option.bind_some] at q
      have pr := paired_of hl (fun i v th a b d hd => k1 i v th a b B1 H1 ρ1 d (Ext.refl B1) S1 hd) h1
      unfold rng2 at q
      split at q
      · rename_i xs hx
        split at hx
        · rename_i i j
          split at hx
          · rename_i hj
            cases hx
            obtain ⟨v, w, rfl, r, r2⟩ := paired2 pr
            have := r.int
            subst this
            have := r2.int
            subst this
            rw [Bool.and_eq_true] at hj
            have h1 := okR_lt hj.1
            have h2 := okR_lt hj.2
            exact ⟨i, j, rfl, (by omega), q _ _ B1 e1 S1 (itOk_range i _)⟩
          · cases hx
        · cases hx
      · exact q.elim
end

/-! ### for -/
def forL (fg : List Nat) (g : GG) (f : FY) : List D → En → R Fl
  | [], ρ => .ok .nx (forget fg ρ)
  | d :: ds, ρ => match g d (forget fg ρ) with
    | none => .bad
    | some ρ1 => match f ρ1 with
      | .ok .nx ρ2 => forL fg g f ds ρ2
      | .ok .ct ρ2 => forL fg g f ds ρ2
      | .ok .bk ρ2 => .ok .nx (forget fg ρ2)
      | .ok (.rt s) ρ2 => .ok (.rt s) ρ2
      | .exc c fs ρ2 => .exc c fs ρ2
      | .bad => .bad
def yFor (fg : List Nat) (gi : En → R (List D)) (g : GG) (f : FY) : FY := fun ρ => match gi ρ with
  | .ok xs ρ1 => forL fg g f xs ρ1
  | .exc c fs ρ1 => .exc c fs ρ1
  | .bad => .bad
section
variable {X : Cx} {PN : List Nat} {σ0 : Gs} {W : WX} {k : Nat}
theorem fs_for {tg iter : Expr} {body : List Stmt} {pos : Pos} {gi : En → R (List D)} {g : GG} {ts : List Nat} {f : FY} (fg : List Nat) (C : Cok X W k) (hi : FJ X PN σ0 W tg iter gi) (hg : FG X PN σ0 tg g ts) (hb : FB X PN σ0 W body f)
    (hs : ∀ x, foldedSetIterable iter X.env x = pure x := by intro _; rfl) : FS X PN σ0 W (.For tg iter body [] pos) (yFor fg gi g f) := by
  obtain ⟨ti, pi, qi⟩ := hi.ex
  obtain ⟨tg', pg, qg⟩ := hg.ex
  obtain ⟨tb, pb, qb⟩ := hb.ex
  refine ⟨_, ps_for C.po C.calm pi pg pb hs, fun F B H σ ρ D' S q => qi F B H σ ρ _ S ?_⟩
  unfold yFor at q
  cases er : gi ρ with
  | bad => rw [er] at q; exact q
  | exc c fs ρ1 => rw [er] at q; exact fun cls od H' B' e S' z => q cls od σ H' B' e S' z
  | ok xs ρ1 =>
    rw [er] at q
    intro J H1 B1 e1 S1 hJ
    refine ⟨fun i m σ' H' => m = xs.length - i ∧ i ≤ xs.length ∧ ∃ B' ρ', Ext B1 B' ∧ Sat X.K X.mg PN σ0 F B' H' σ' ρ' ∧ SPost X PN σ0 W F B' (forL fg g f (xs.drop i) ρ') D', ⟨xs.length, rfl, Nat.zero_le _, B1, ρ1, Ext.refl B1, S1, SPost.mono e1 q⟩, ?_⟩
    rintro i m σ' H' ⟨rfl, hi, B', ρ', e', S', q'⟩
    by_cases hlt : i < xs.length
    · obtain ⟨d, hd⟩ : ∃ d, xs[i]? = some d := ⟨_, List.getElem?_eq_getElem hlt⟩
      have hdr : xs.drop i = d :: xs.drop (i + 1) := by
        rw [List.drop_eq_getElem_cons hlt]
        rw [List.getElem?_eq_getElem hlt] at hd
        rw [Option.some.inj hd]
      rw [hdr, forL] at q'
      obtain ⟨hgo, hy⟩ := hJ.go i d hd B' H' e' S'.bh (fun b o h => (S'.fh b o h).1)
      refine .inr ⟨hgo, fun σ2 H2 => ∃ B2 ρ2, Ext B1 B2 ∧ Sat X.K X.mg PN σ0 F B2 H2 σ2 ρ2 ∧ SPost X PN σ0 W F B2 (forL fg g f (xs.drop (i + 1)) ρ2) D', fun σ2 H2 ⟨B2, ρ2, e2, S2, q2⟩ => ⟨xs.length - (i + 1), by omega, rfl, hlt, B2, ρ2, e2, S2, q2⟩, fun x H2 hx => ?_⟩
      obtain ⟨B2, e2, S2, r2⟩ := hy x H2 hx PN σ0 F σ' _ (S'.forget fg)
      cases eg : g d (forget fg ρ') with
      | none => rw [eg] at q'; exact q'.elim
      | some ρ3 =>
        rw [eg] at q'
        simp only at q'
        refine qg F B2 H2 σ' _ x d ρ3 _ S2 r2 eg fun σ3 _ _ S3 => qb F B2 H2 σ3 ρ3 _ S3 ?_
        have q' := SPost.mono e2 q'
        cases ef : f ρ3 with
        | bad => rw [ef] at q'; exact q'
        | exc c fs ρ4 => rw [ef] at q'; exact q'
        | ok fl ρ4 =>
          rw [ef] at q'
          cases fl with
          | nx => exact fun σ4 H4 B4 e4 S4 => ⟨B4, ρ4, (e'.trans e2).trans e4, S4, SPost.mono e4 q'⟩
          | ct => exact fun σ4 H4 B4 e4 S4 => ⟨B4, ρ4, (e'.trans e2).trans e4, S4, SPost.mono e4 q'⟩
          | bk => exact fun σ4 H4 B4 e4 S4 => q' σ4 H4 B4 e4 (S4.forget fg)
          | rt s => exact q'
    · have hie : i = xs.length := by omega
      subst hie
      rw [List.drop_length, forL] at q'
      exact .inl ⟨hJ.stop B' H' e' S'.bh (fun b o h => (S'.fh b o h).1), q' σ' H' B' (Ext.refl B') (S'.forget fg)⟩

/-! ### while -/
def whF (fg : List Nat) (c : FX) (f : FY) : Nat → En → R Fl
  | 0, _ => .bad
  | n + 1, ρ => match c (forget fg ρ) with
    | .ok (.fz (.bl true)) ρ1 => match f ρ1 with
      | .ok .nx ρ2 => whF fg c f n ρ2
      | .ok .ct ρ2 => whF fg c f n ρ2
      | .ok .bk ρ2 => .ok .nx (forget fg ρ2)
      | .ok (.rt s) ρ2 => .ok (.rt s) ρ2
      | .exc c fs ρ2 => .exc c fs ρ2
      | .bad => .bad
    | .ok (.fz (.bl false)) ρ1 => .ok .nx (forget fg ρ1)
    | .ok _ _ => .bad
    | .exc c fs ρ1 => .exc c fs ρ1
    | .bad => .bad
theorem whF_mono (fg : List Nat) (c : FX) (f : FY) : ∀ (n : Nat) (ρ : En), whF fg c f n ρ ≠ .bad → whF fg c f (n + 1) ρ = whF fg c f n ρ
  | 0, ρ, h => (h rfl).elim
  | n + 1, ρ, h => by
    rw [whF] at h ⊢
    rw [whF]
    cases ec : c (forget fg ρ) with
    | bad => rfl
    | exc c fs ρ1 => rfl
    | ok s ρ1 =>
      rw [ec] at h
      cases s with
      | no => rfl
      | ow d => rfl
      | dp t => rfl
      | fz d =>
        cases d with
        | bl b =>
          cases b with
          | false => rfl
          | true =>
            simp only at h ⊢
            cases ef : f ρ1 with
            | bad => rfl
            | exc c fs ρ2 => rfl
            | ok fl ρ2 =>
              rw [ef] at h
              cases fl with
              | nx => exact whF_mono fg c f n ρ2 h
              | ct => exact whF_mono fg c f n ρ2 h
              | bk => rfl
              | rt s => rfl
        | _ => rfl
theorem whF_add (fg : List Nat) (c : FX) (f : FY) (n : Nat) (ρ : En) (h : whF fg c f n ρ ≠ .bad) : ∀ m, whF fg c f (n + m) ρ = whF fg c f n ρ
  | 0 => rfl
  | m + 1 => by
    have ih := whF_add fg c f n ρ h m
    rw [← ih]
    exact whF_mono fg c f (n + m) ρ (by rw [ih]; exact h)
open Classical in
noncomputable def yWh (fg : List Nat) (c : FX) (f : FY) : FY := fun ρ => if h : ∃ n, whF fg c f n ρ ≠ .bad then whF fg c f (Classical.choose h) ρ else .bad
theorem yWh_of {fg : List Nat} {c : FX} {f : FY} {n : Nat} {ρ : En} {r : R Fl} (h : whF fg c f n ρ = r) (hb : r ≠ .bad) : yWh fg c f ρ = r := by
  have hn : whF fg c f n ρ ≠ .bad := by rw [h]; exact hb
  have hex : ∃ n, whF fg c f n ρ ≠ .bad := ⟨n, hn⟩
  unfold yWh
  rw [dif_pos hex]
  have hm := Classical.choose_spec hex
  rw [← h]
  rcases Nat.le_total n (Classical.choose hex) with q | q
  · obtain ⟨m, e⟩ := Nat.le.dest q
    rw [← e]
    exact whF_add fg c f n ρ hn m
  · obtain ⟨m, e⟩ := Nat.le.dest q
    conv => rhs; rw [← e]
    exact (whF_add fg c f _ ρ hm m).symm
theorem fs_while {c : Expr} {body : List Stmt} {pos : Pos} {fc : FX} {f : FY} (fg : List Nat) (C : Cok X W k) (hc : FT X PN σ0 W c fc) (hb : FB X PN σ0 W body f) : FS X PN σ0 W (.While c body [] pos) (yWh fg fc f) := by
  obtain ⟨tc, pc, qc⟩ := hc.ex
  obtain ⟨tb, pb, qb⟩ := hb.ex
  refine ⟨_, ps_while C.po pc pb, fun F B H σ ρ D' S q => ?_⟩
  unfold yWh at q
  split at q
  · rename_i h
    generalize Classical.choose h = n at q
    clear h
    refine ⟨fun m σ' H' => ∃ B' ρ', Ext B B' ∧ Sat X.K X.mg PN σ0 F B' H' σ' ρ' ∧ SPost X PN σ0 W F B' (whF fg fc f m ρ') D', ⟨n, B, ρ, Ext.refl B, S, q⟩, ?_⟩
    rintro m σ' H' ⟨B', ρ', e', S', q'⟩
    cases m with
    | zero => exact q'.elim
    | succ m =>
      rw [whF] at q'
      refine qc F B' H' σ' _ _ (S'.forget fg) ?_
      cases ec : fc (forget fg ρ') with
      | bad => rw [ec] at q'; exact q'
      | exc c fs ρ1 => rw [ec] at q'; exact fun cls od H2 B2 e2 S2 z => q' cls od σ' H2 B2 e2 S2 z
      | ok s ρ1 =>
        rw [ec] at q'
        cases s with
        | no => exact q'.elim
        | ow d => exact q'.elim
        | dp t => exact q'.elim
        | fz d =>
          cases d with
          | bl b =>
            cases b with
            | false => exact fun H2 B2 e2 S2 => iteF (q' σ' H2 B2 e2 (S2.forget fg))
            | true =>
              simp only at q'
              intro H2 B2 e2 S2
              refine iteT ⟨fun σ3 H3 => ∃ B3 ρ3, Ext B B3 ∧ Sat X.K X.mg PN σ0 F B3 H3 σ3 ρ3 ∧ SPost X PN σ0 W F B3 (whF fg fc f m ρ3) D', fun σ3 H3 h3 => ⟨m, Nat.lt_succ_self m, h3⟩, qb F B2 H2 σ' ρ1 _ S2 ?_⟩
              have q' := SPost.mono e2 q'
              cases ef : f ρ1 with
              | bad => rw [ef] at q'; exact q'
              | exc c fs ρ4 => rw [ef] at q'; exact q'
              | ok fl ρ4 =>
                rw [ef] at q'
                cases fl with
                | nx => exact fun σ4 H4 B4 e4 S4 => ⟨B4, ρ4, (e'.trans e2).trans e4, S4, SPost.mono e4 q'⟩
                | ct => exact fun σ4 H4 B4 e4 S4 => ⟨B4, ρ4, (e'.trans e2).trans e4, S4, SPost.mono e4 q'⟩
                | bk => exact fun σ4 H4 B4 e4 S4 => q' σ4 H4 B4 e4 (S4.forget fg)
                | rt s => exact q'
          | _ => exact q'.elim
  · exact q.elim
end
end FV

namespace FV
open PySem PySem.Spec PyProof.Rows L2

section
variable {X : Cx}
/-! ### ints -/
def gI (C : Int → Int → Bool) (f : Int → Int → D) : G2
  | .int i, .int j => if C i j then some (.fz (f i j)) else none
  | _, _ => none
theorem op2_I {C : Int → Int → Prop} {c : Int → Int → Bool} {f : Int → Int → D} {g : Int → Int → L2.V} (hc : ∀ i j, c i j = true → C i j) (hf : ∀ B i j, Rep X.K X.mg B (g i j) (f i j)) : Op2 X (rI C g) (gI c f) := by
  intro PN σ0 F B H σ ρ x y dx dy s Q S hx hy hg q
  unfold gI at hg
  split at hg
  · split at hg
    · rename_i i j h
      cases hg
      exact ⟨i, j, hx.int, hy.int, hc i j h, q.flat S (hf B i j)⟩
    · cases hg
  · cases hg
def gI0 (f : Int → Int → D) : G2
  | .int i, .int j => some (.fz (f i j))
  | _, _ => none
theorem op2_I0 {f : Int → Int → D} {g : Int → Int → L2.V} (hf : ∀ B i j, Rep X.K X.mg B (g i j) (f i j)) : Op2 X (rI0 g) (gI0 f) := by
  intro PN σ0 F B H σ ρ x y dx dy s Q S hx hy hg q
  unfold gI0 at hg
  split at hg
  · rename_i i j
    cases hg
    exact ⟨i, j, hx.int, hy.int, q.flat S (hf B i j)⟩
  · cases hg
def cMul (i j : Int) : Bool := decide (i.natAbs.log2 + j.natAbs.log2 < 1000000)
def cDiv (_ j : Int) : Bool := decide (0 < j) && decide (j.natAbs.log2 < 9000)
def cMod (_ j : Int) : Bool := decide (0 < j)
def cPow (i j : Int) : Bool := decide (0 ≤ j) && decide (j ≤ 1000000) && decide (i.natAbs < 2 ^ 64)
def cShr (_ j : Int) : Bool := decide (0 ≤ j)
def gStrCat : G2
  | .str x, .str y => if x.length + y.length ≤ 1000000 then some (.fz (.str (x ++ y))) else none
  | _, _ => none
theorem line_le {n : Nat} (h : n ≤ 1000000) : n ≤ sizeLine := Nat.le_trans h (by decide)
theorem line_lt {n : Nat} (h : n < 1000000) : n < sizeLine := Nat.lt_of_lt_of_le h (by decide)
theorem op2_strcat : Op2 X (fun x y H Q => ∃ i j, x = .str i ∧ y = .str j ∧ i.length + j.length ≤ sizeLine ∧ Q (.str (i ++ j)) H) gStrCat := by
  intro PN σ0 F B H σ ρ x y dx dy s Q S hx hy hg q
  unfold gStrCat at hg
  split at hg
  · split at hg
    · rename_i i j h
      cases hg
      exact ⟨i, j, hx.str, hy.str, line_le h, q.flat S (.str _)⟩
    · cases hg
  · cases hg
def gLstCat : G2
  | .lst x, .lst y => if x.length + y.length ≤ 1000000 then some (.ow (.lst (x ++ y))) else none
  | _, _ => none
theorem op2_lstcat : Op2 X rCat gLstCat := by
  intro PN σ0 F B H σ ρ x y dx dy s Q S hx hy hg q
  unfold gLstCat at hg
  split at hg
  · split at hg
    · rename_i a b h
      cases hg
      obtain ⟨l, xs, e1, h1, r1⟩ := hx.lst S.bh
      obtain ⟨m, ys, e2, h2, r2⟩ := hy.lst S.bh
      exact ⟨l, m, xs, ys, e1, e2, h1, h2, by rw [r1.length, r2.length]; exact line_le h, q.newL S (r1.append r2)⟩
    · cases hg
  · cases hg
def gTupCat : G2
  | .tup x, .tup y => if x.length + y.length ≤ 1000000 ∧ x ≠ [] ∧ y ≠ [] then some (.fz (.tup (x ++ y))) else none
  | _, _ => none
theorem op2_tupcat : Op2 X (rCatT X.K) gTupCat := by
  intro PN σ0 F B H σ ρ x y dx dy s Q S hx hy hg q
  unfold gTupCat at hg
  split at hg
  · split at hg
    · rename_i a b h
      cases hg
      obtain ⟨l, xs, e1, h1, r1⟩ := hx.tup S.bh
      obtain ⟨m, ys, e2, h2, r2⟩ := hy.tup S.bh
      refine ⟨l, m, xs, ys, e1, e2, .inl (.inl h1), .inl (.inl h2), fun z => ?_, by rw [r1.length, r2.length]; exact line_le h.1, fun z => ?_, fun _ => q.newT S (r1.append r2)⟩
      · subst z
        have := r1.length
        exact h.2.1 (List.length_eq_zero_iff.mp this.symm)
      · subst z
        have := r2.length
        exact (h.2.2 (List.length_eq_zero_iff.mp this.symm)).elim
    · cases hg
  · cases hg
def gAdd : G2 := fun d e => (gI0 (fun i j => .int (i + j)) d e).or ((gStrCat d e).or ((gLstCat d e).or (gTupCat d e)))
theorem bo_add : ∃ r, OpR X (binaryOp .Add) r ∧ Op2 X r gAdd := ⟨_, op_add.or (op_add_str.or (op_cat.or op_catT)), (op2_I0 fun B i j => .int _).or (op2_strcat.or (op2_lstcat.or op2_tupcat))⟩
theorem bo_sub : ∃ r, OpR X (binaryOp .Sub) r ∧ Op2 X r (gI0 fun i j => .int (i - j)) := ⟨_, op_sub, op2_I0 fun B i j => .int _⟩
def gLstRep : G2
  | .lst x, .int k => if -(2 ^ 63) ≤ k ∧ k < 2 ^ 63 ∧ x.length * k.toNat ≤ 1000000 then some (.ow (.lst (List.replicate k.toNat x).flatten)) else none
  | _, _ => none
theorem RepL.rep {K : PySem.W.Frag} {mg : Str → Option Value} {B : Hp} {xs : List L2.V} {ds : List D} (h : RepL K mg B xs ds) : ∀ k : Nat, RepL K mg B (List.replicate k xs).flatten (List.replicate k ds).flatten
  | 0 => .nil
  | k + 1 => by rw [List.replicate_succ, List.flatten_cons, List.replicate_succ, List.flatten_cons]; exact h.append (RepL.rep h k)
theorem op2_lstrep : Op2 X rRep gLstRep := by
  intro PN σ0 F B H σ ρ x y dx dy s Q S hx hy hg q
  unfold gLstRep at hg
  split at hg
  · split at hg
    · rename_i a k h
      cases hg
      obtain ⟨l, xs, e1, h1, r1⟩ := hx.lst S.bh
      exact ⟨l, k, xs, e1, hy.int, h1, h.1, h.2.1, by rw [r1.length]; exact line_le h.2.2, q.newL S (r1.rep _)⟩
    · cases hg
  · cases hg
def gMul : G2 := fun d e => (gI cMul (fun i j => .int (i * j)) d e).or (gLstRep d e)
theorem bo_mul : ∃ r, OpR X (binaryOp .Mult) r ∧ Op2 X r gMul := ⟨_, op_mulW.or op_rep, (op2_I (fun i j h => by simp only [cMul, decide_eq_true_eq] at h; exact h) fun B i j => .int _).or op2_lstrep⟩
abbrev gDiv : G2 := gI cDiv fun i j => .int (i / j)
theorem bo_div : ∃ r, OpR X (binaryOp .FloorDiv) r ∧ Op2 X r gDiv := ⟨_, op_fdivW, op2_I (fun i j h => by simp [cDiv] at h; exact h) fun B i j => .int _⟩
abbrev gMod : G2 := gI cMod fun i j => .int (i % j)
theorem bo_mod : ∃ r, OpR X (binaryOp .Mod) r ∧ Op2 X r gMod := ⟨_, op_mod, op2_I (fun i j h => of_decide_eq_true h) fun B i j => .int _⟩
abbrev gPow : G2 := gI cPow fun i j => .int (i ^ j.toNat)
theorem bo_pow : ∃ r, OpR X (binaryOp .Pow) r ∧ Op2 X r gPow := ⟨_, op_pow, op2_I (fun i j h => by simp only [cPow, Bool.and_eq_true, decide_eq_true_eq] at h; exact ⟨h.1.1, h.1.2, h.2⟩) fun B i j => .int _⟩
abbrev gShl : G2 := gI cPow fun i j => .int (i * 2 ^ j.toNat)
theorem bo_shl : ∃ r, OpR X (binaryOp .LShift) r ∧ Op2 X r gShl := ⟨_, op_shl, op2_I (fun i j h => by simp only [cPow, Bool.and_eq_true, decide_eq_true_eq] at h; exact ⟨h.1.1, h.1.2, h.2⟩) fun B i j => .int _⟩
abbrev gShr : G2 := gI cShr fun i j => .int (i / 2 ^ j.toNat)
theorem bo_shr : ∃ r, OpR X (binaryOp .RShift) r ∧ Op2 X r gShr := ⟨_, op_shr, op2_I (fun i j h => of_decide_eq_true h) fun B i j => .int _⟩
theorem bo_and : ∃ r, OpR X (binaryOp .BitAnd) r ∧ Op2 X r (gI0 fun i j => .int (Builtin.bitAnd i j)) := ⟨_, op_and, op2_I0 fun B i j => .int _⟩
theorem bo_or : ∃ r, OpR X (binaryOp .BitOr) r ∧ Op2 X r (gI0 fun i j => .int (Builtin.bitOr i j)) := ⟨_, op_or, op2_I0 fun B i j => .int _⟩
theorem bo_xor : ∃ r, OpR X (binaryOp .BitXor) r ∧ Op2 X r (gI0 fun i j => .int (Builtin.bitXor i j)) := ⟨_, op_xor, op2_I0 fun B i j => .int _⟩
/-! ### in place -/
def gAddI : G2 := fun d e => (gI0 (fun i j => .int (i + j)) d e).or (gStrCat d e)
theorem ip_add' : ∃ r, OpR X (inplaceOp .Add) r ∧ Op2 X r gAddI := ⟨_, iop_add.or iop_add_str, (op2_I0 fun B i j => .int _).or op2_strcat⟩
theorem ip_sub' : ∃ r, OpR X (inplaceOp .Sub) r ∧ Op2 X r (gI0 fun i j => .int (i - j)) := ⟨_, iop_sub, op2_I0 fun B i j => .int _⟩
/-! ### one place -/
def gNeg : D → Option Sl
  | .int i => some (.fz (.int (-i)))
  | _ => none
theorem uo_neg : ∃ r, UnR X (unaryOp .USub) r ∧ Op1 X r gNeg := ⟨_, un_neg, fun PN σ0 F B H σ ρ x dx s Q S hx hg q => by
  unfold gNeg at hg
  split at hg
  · rename_i i; cases hg; exact ⟨i, hx.int, q.flat S (.int _)⟩
  · cases hg⟩
def gInv : D → Option Sl
  | .int i => some (.fz (.int (Builtin.bitNot i)))
  | _ => none
theorem uo_inv : ∃ r, UnR X (unaryOp .Invert) r ∧ Op1 X r gInv := ⟨_, un_inv, fun PN σ0 F B H σ ρ x dx s Q S hx hg q => by
  unfold gInv at hg
  split at hg
  · rename_i i; cases hg; exact ⟨i, hx.int, q.flat S (.int _)⟩
  · cases hg⟩
/-! ### order -/
abbrev gCmp (p : Int → Int → Bool) : G2 := gI0 fun i j => .bl (p i j)
theorem co_lt : ∃ r, OpR X (compareOp .Lt) r ∧ Op2 X r (gCmp fun i j => decide (i < j)) := ⟨_, op_lt, op2_I0 fun B i j => .bl _⟩
theorem co_le : ∃ r, OpR X (compareOp .LtE) r ∧ Op2 X r (gCmp fun i j => decide (i ≤ j)) := ⟨_, op_le, op2_I0 fun B i j => .bl _⟩
theorem co_gt : ∃ r, OpR X (compareOp .Gt) r ∧ Op2 X r (gCmp fun i j => decide (j < i)) := ⟨_, op_gt, op2_I0 fun B i j => .bl _⟩
theorem co_ge : ∃ r, OpR X (compareOp .GtE) r ∧ Op2 X r (gCmp fun i j => decide (j ≤ i)) := ⟨_, op_ge, op2_I0 fun B i j => .bl _⟩
/-! ### equality -/
mutual
def toPy : D → Option PyData
  | .non => some .none
  | .bl b => some (.bool b)
  | .int i => some (.int i)
  | .str x => some (.str x)
  | .lst ds => (toPyL ds).map .list
  | .tup ds => (toPyL ds).map .tuple
  | _ => none
def toPyL : List D → Option (List PyData)
  | [] => some []
  | d :: ds => (toPy d).bind fun p => (toPyL ds).map fun ps => p :: ps
end
mutual
theorem dp_of {B H : Hp} (bh : ∀ b o, B b = some o → H b = some o) : ∀ (d : D) (v : L2.V) (p : PyData), Rep X.K X.mg B v d → toPy d = some p → Dp X.K H v p
  | .non, v, p, h, e => by simp [toPy] at e; subst e; cases h; exact .non
  | .bl b, v, p, h, e => by simp [toPy] at e; subst e; cases h; exact .bl b
  | .int i, v, p, h, e => by simp [toPy] at e; subst e; cases h; exact .int i
  | .str x, v, p, h, e => by simp [toPy] at e; subst e; cases h; exact .str x
  | .lst ds, v, p, h, e => by
    simp only [toPy] at e
    cases e1 : toPyL ds with
    | none => rw [e1] at e; cases e
    | some ps =>
      rw [e1] at e; cases e
      cases h with
      | lst h1 h2 => exact .lst (.inl (.inl (bh _ _ h1))) (dpl_of bh ds _ ps h2 e1)
  | .tup ds, v, p, h, e => by
    simp only [toPy] at e
    cases e1 : toPyL ds with
    | none => rw [e1] at e; cases e
    | some ps =>
      rw [e1] at e; cases e
      cases h with
      | tup h1 h2 => exact .tup (.inl (.inl (bh _ _ h1))) (dpl_of bh ds _ ps h2 e1)
  | .dic _, _, _, _, e => by simp [toPy] at e
  | .ins _ _, _, _, _, e => by simp [toPy] at e
  | .scr _, _, _, _, e => by simp [toPy] at e
  | .ty _, _, _, _, e => by simp [toPy] at e
  | .cls _, _, _, _, e => by simp [toPy] at e
theorem dpl_of {B H : Hp} (bh : ∀ b o, B b = some o → H b = some o) : ∀ (ds : List D) (vs : List L2.V) (ps : List PyData), RepL X.K X.mg B vs ds → toPyL ds = some ps → DpAll X.K H vs ps
  | [], vs, ps, h, e => by simp [toPyL] at e; subst e; cases h; exact .nil
  | d :: ds, vs, ps, h, e => by
    simp only [toPyL] at e
    cases e1 : toPy d with
    | none => rw [e1] at e; cases e
    | some p =>
      rw [e1] at e
      cases e2 : toPyL ds with
      | none => rw [e2] at e; cases e
      | some qs =>
        rw [e2] at e; cases e
        cases h with
        | cons h1 h2 => exact .cons (dp_of bh d _ p h1 e1) (dpl_of bh ds _ qs h2 e2)
end
theorem ldp_of {B H : Hp} {v : L2.V} {d : D} {p : PyData} (bh : ∀ b o, B b = some o → H b = some o) (h : LRep X B H v d) (e : toPy d = some p) : Dp X.K H v p := by
  cases d with
  | lst ds =>
    obtain ⟨a, xs, rfl, h1, h2⟩ := h.lst bh
    simp only [toPy] at e
    cases e1 : toPyL ds with
    | none => rw [e1] at e; cases e
    | some ps => rw [e1] at e; cases e; exact .lst (.inl (.inl h1)) (dpl_of bh ds _ ps h2 e1)
  | _ =>
    rcases h with h | ⟨a, _, h⟩
    · exact dp_of bh _ v p h e
    · first | exact h.elim | (simp [toPy] at e)
/-- scalars that are compared at once -/
def eqS : D → D → Option Bool
  | .non, .non => some true
  | .non, .int _ => some false
  | .int _, .non => some false
  | .non, .bl _ => some false
  | .bl _, .non => some false
  | .non, .str _ => some false
  | .str _, .non => some false
  | .int i, .int j => some (i == j)
  | .bl i, .bl j => some (i == j)
  | .str i, .str j => some (decide (i = j))
  | .int _, .str _ => some false
  | .str _, .int _ => some false
  | .bl _, .str _ => some false
  | .str _, .bl _ => some false
  | _, _ => none
theorem eqS_V {B H : Hp} {x y : L2.V} {d e : D} {b : Bool} (hx : LRep X B H x d) (hy : LRep X B H y e) (h : eqS d e = some b) : scal x y = true ∧ decide (x = y) = b := by
  cases d <;> cases e <;> simp only [eqS, Option.some.injEq, reduceCtorEq] at h <;> first | (cases h; done) | skip
  all_goals first
    | (cases hx.non; cases hy.non; subst h; exact ⟨rfl, by simp⟩)
    | (cases hx.non; cases hy.int; subst h; exact ⟨rfl, by simp⟩)
    | (cases hx.int; cases hy.non; subst h; exact ⟨rfl, by simp⟩)
    | (cases hx.non; cases hy.bl; subst h; exact ⟨rfl, by simp⟩)
    | (cases hx.bl; cases hy.non; subst h; exact ⟨rfl, by simp⟩)
    | (cases hx.non; cases hy.str; subst h; exact ⟨rfl, by simp⟩)
    | (cases hx.str; cases hy.non; subst h; exact ⟨rfl, by simp⟩)
    | (cases hx.int; cases hy.int; subst h; exact ⟨rfl, dec_int⟩)
    | (cases hx.bl; cases hy.bl; subst h; exact ⟨rfl, dec_bl⟩)
    | (cases hx.str; cases hy.str; subst h; exact ⟨rfl, by simp⟩)
    | (cases hx.int; cases hy.str; subst h; exact ⟨rfl, by simp⟩)
    | (cases hx.str; cases hy.int; subst h; exact ⟨rfl, by simp⟩)
    | (cases hx.bl; cases hy.str; subst h; exact ⟨rfl, by simp⟩)
    | (cases hx.str; cases hy.bl; subst h; exact ⟨rfl, by simp⟩)
def eqDeep (d e : D) : Option Bool := (toPy d).bind fun p => (toPy e).bind fun q => if SeqAt.shaped p && SeqAt.shaped q then some (PyData.eqv p q) else none
def eqD (d e : D) : Option Bool := (eqS d e).or (eqDeep d e)
def gEq : G2 := fun d e => (eqD d e).map fun b => .fz (.bl b)
def gNe : G2 := fun d e => (eqD d e).map fun b => .fz (.bl (!b))
theorem eqDeep_some {d e : D} {b : Bool} (h : eqDeep d e = some b) : ∃ p q, toPy d = some p ∧ toPy e = some q ∧ SeqAt.shaped p = true ∧ SeqAt.shaped q = true ∧ PyData.eqv p q = b := by
  unfold eqDeep at h
  cases e1 : toPy d with
  | none => rw [e1] at h; cases h
  | some p =>
    cases e2 : toPy e with
    | none => rw [e1, e2] at h; cases h
    | some q =>
      rw [e1, e2] at h
      simp only [Option.bind_some] at h
      split at h
      · rename_i hs
        rw [Bool.and_eq_true] at hs
        exact ⟨p, q, rfl, rfl, hs.1, hs.2, Option.some.inj h⟩
      · cases h
theorem co_eq (hu : X.A.units + 64 < cLine) : ∃ r, OpR X (compareOp .Eq) r ∧ Op2 X r gEq := by
  refine ⟨_, op_eq.or (op_eqD hu), fun PN σ0 F B H σ ρ x y dx dy s Q S hx hy hg q => ?_⟩
  unfold gEq eqD at hg
  cases e1 : eqS dx dy with
  | some b =>
    rw [e1] at hg; cases hg
    obtain ⟨h1, h2⟩ := eqS_V hx hy e1
    exact .inl ⟨h1, by rw [h2]; exact q.flat S (.bl _)⟩
  | none =>
    rw [e1] at hg
    cases e2 : eqDeep dx dy with
    | none => rw [e2] at hg; cases hg
    | some b =>
      rw [e2] at hg; cases hg
      obtain ⟨p, p', g1, g2, g3, g4, g5⟩ := eqDeep_some e2
      exact .inr ⟨p, p', ldp_of S.bh hx g1, ldp_of S.bh hy g2, g3, g4, by rw [g5]; exact q.flat S (.bl _)⟩
theorem co_ne (hu : X.A.units + 64 < cLine) : ∃ r, OpR X (compareOp .NotEq) r ∧ Op2 X r gNe := by
  refine ⟨_, op_ne.or (op_neD hu), fun PN σ0 F B H σ ρ x y dx dy s Q S hx hy hg q => ?_⟩
  unfold gNe eqD at hg
  cases e1 : eqS dx dy with
  | some b =>
    rw [e1] at hg; cases hg
    obtain ⟨h1, h2⟩ := eqS_V hx hy e1
    exact .inl ⟨h1, by rw [h2]; exact q.flat S (.bl _)⟩
  | none =>
    rw [e1] at hg
    cases e2 : eqDeep dx dy with
    | none => rw [e2] at hg; cases hg
    | some b =>
      rw [e2] at hg; cases hg
      obtain ⟨p, p', g1, g2, g3, g4, g5⟩ := eqDeep_some e2
      exact .inr ⟨p, p', ldp_of S.bh hx g1, ldp_of S.bh hy g2, g3, g4, by rw [g5]; exact q.flat S (.bl _)⟩
def isN : D → Bool
  | .non => true
  | _ => false
theorem isN_V {B H : Hp} {x : L2.V} {d : D} (hx : LRep X B H x d) : decide (x = .non) = isN d := by
  rcases hx with h | ⟨a, rfl, h⟩
  · cases h <;> simp [isN]
  · cases d with
    | non => exact h.elim
    | _ => simp [isN]
def gIsN : G2
  | d, .non => some (.fz (.bl (isN d)))
  | _, _ => none
def gNotN : G2
  | d, .non => some (.fz (.bl (!isN d)))
  | _, _ => none
theorem co_isN : ∃ r, OpR X (compareOp .Is) r ∧ Op2 X r gIsN := ⟨_, op_isN, fun PN σ0 F B H σ ρ x y dx dy s Q S hx hy hg q => by
  unfold gIsN at hg
  split at hg
  · cases hg; exact ⟨hy.non, by rw [isN_V hx]; exact q.flat S (.bl _)⟩
  · cases hg⟩
theorem co_notN : ∃ r, OpR X (compareOp .IsNot) r ∧ Op2 X r gNotN := ⟨_, op_notN, fun PN σ0 F B H σ ρ x y dx dy s Q S hx hy hg q => by
  unfold gNotN at hg
  split at hg
  · cases hg; exact ⟨hy.non, by rw [isN_V hx]; exact q.flat S (.bl _)⟩
  · cases hg⟩
end
section
variable {X : Cx} {PN : List Nat} {σ0 : Gs} {W : WX} {a b : Expr} {ga gb : En → R Th} {pos : Pos}
theorem fe_bo {op : Operator} {g : G2} (h : ∃ r, OpR X (binaryOp op) r ∧ Op2 X r g) (ha : FA X PN σ0 W a ga) (hb : FA X PN σ0 W b gb) : FE X PN σ0 W (.BinOp a op b pos) (xB g ga gb) := by
  obtain ⟨r, h1, h2⟩ := h
  exact fe_bin h1 h2 ha hb
theorem fe_co {op : CmpOp} {g : G2} (h : ∃ r, OpR X (compareOp op) r ∧ Op2 X r g) (ha : FA X PN σ0 W a ga) (hb : FA X PN σ0 W b gb) (hm : behindInMarks op b = false := by rfl) : FE X PN σ0 W (.Compare a [op] [b] pos) (xB g ga gb) := by
  obtain ⟨r, h1, h2⟩ := h
  exact fe_cmp h1 h2 ha hb hm
theorem ft_co {op : CmpOp} {g : G2} (h : ∃ r, OpR X (compareOp op) r ∧ Op2 X r g) (ha : FA X PN σ0 W a ga) (hb : FA X PN σ0 W b gb) (hm : behindInMarks op b = false := by rfl) : FT X PN σ0 W (.Compare a [op] [b] pos) (xB g ga gb) := by
  obtain ⟨r, h1, h2⟩ := h
  exact ft_cmp h1 h2 ha hb hm
theorem fe_uo {op : UnaryOp} {g : D → Option Sl} (h : ∃ r, UnR X (unaryOp op) r ∧ Op1 X r g) (ha : FA X PN σ0 W a ga) : FE X PN σ0 W (.UnaryOp op a pos) (xU g ga) := by
  obtain ⟨r, h1, h2⟩ := h
  exact fe_un h1 h2 ha
theorem fs_au {M L : List Bool} (N : NamesOk X M L) (i : Nat) {x : Str} {e : Expr} {op : Operator} {pos pos' : Pos} {f : FX} {g : G2} (h : ∃ r, OpR X (inplaceOp op) r ∧ Op2 X r g) (he : FE X PN σ0 W e f) (hp : i ∉ PN := by decide) (hi : X.N[i]? = some x := by rfl) (hm : L[i]? = some true := by rfl)
    (hr' : M[i]? = some true := by rfl) : FS X PN σ0 W (.AugAssign (.Name x pos') op e pos) (yAug i g f) := by
  obtain ⟨r, h1, h2⟩ := h
  exact fs_aug N i h1 h2 he hp hi hm hr'
/-! ### subscripts -/
def ixD : G2
  | .lst ds, .int i => (atI ds i).map .fz
  | .tup ds, .int i => (atI ds i).map .fz
  | .str x, .int i => if x.length ≤ 1000000 then (atI x.cps.toList i).map fun c => .fz (.str ⟨#[c]⟩) else none
  | .dic kds, dk => (keyOf dk).bind fun k => (valD kds k).map .fz
  | _, _ => none
theorem val_rep {B : Hp} {kvs : List (Key × L2.V)} {kds : List (Key × D)} {k : Key} (e : kvs.map (·.1) = kds.map (·.1)) (r : RepL X.K X.mg B (kvs.map (·.2)) (kds.map (·.2))) :
    (valD kds k = none ∧ valV kvs k = none) ∨ ∃ d v, valD kds k = some d ∧ valV kvs k = some v ∧ Rep X.K X.mg B v d := by
  induction kvs generalizing kds with
  | nil =>
    cases kds with
    | nil => exact .inl ⟨rfl, rfl⟩
    | cons q kds => simp at e
  | cons p kvs ih =>
    cases kds with
    | nil => simp at e
    | cons q kds =>
      simp only [List.map_cons, List.cons.injEq] at e
      obtain ⟨e1, e2⟩ := e
      cases r with
      | cons r1 r2 =>
        by_cases z : p.1 = k
        · refine .inr ⟨q.2, p.2, ?_, valV_pos z, r1⟩
          simp [valD, List.find?_cons, e1 ▸ z]
        · rw [valV_neg z]
          have : valD (q :: kds) k = valD kds k := by simp [valD, List.find?_cons, e1 ▸ z]
          rw [this]
          exact ih e2 r2
theorem ix_dict (hu : X.A.units + 1 < cLine) : IxR X (fun x y H Q => ∃ a v, x = .ref a ∧ DGet H a y (some v) ∧ Q v H) := by
  intro value slice pins s σ H x y v u Q I rx ry h hs
  obtain ⟨a, v', rfl, g, q⟩ := h
  cases rx
  have hT := dict_typeIs I g
  unfold subscriptTail
  refine wpAny_bind ?_
  rw [getitemInPython_of_ne hT.not_modules]
  refine wpAny_bind (wpAny_specialOf hT PySem.F.slot_dict_getitem.lookup ?_)
  have fin : wpAny (model X.prog X.w) X.A (subscripted slice false (.ref a) u) (fun r s₃ => wpAny (model X.prog X.w) X.A (letTemporaryGo value (.ref a) r >>= fun _ => pure r) (EP X pins σ Q) X.xe s₃) X.xe s := by
    rw [hs]
    exact wpAny_operating (d_getItem hu I g ry fun w' s3 I3 rw' => wpAny_bind (wpAny_letTemporaryGo (wpAny_pure ⟨v', H, I3, rw', q⟩)))
  first
    | exact wpAny_pure (wpAny_bind fin)
    | exact wpAny_bind (wpAny_pure (wpAny_bind fin))
    | exact wpAny_bind fin
theorem fe_ix (hu : X.A.units + 1 < cLine) (ha : FA X PN σ0 W a ga) (hb : FA X PN σ0 W b gb) (hs : PlainIx b := by intro _ _; rfl) : FE X PN σ0 W (.Subscript a b pos) (xB ixD ga gb) := by
  obtain ⟨ta, pa, qa⟩ := ha.ex
  obtain ⟨tb, pb, qb⟩ := hb.ex
  refine ⟨_, pe_ix (ix_seq.or (ix_dict hu)) pa pb hs, fun F B H σ ρ Q S q => fin2 (fun PN σ0 F B H σ ρ x y dx dy s Q S hx hy hg q => ?_) qa qb S q⟩
  unfold ixD at hg
  split at hg
  · rename_i ds i
    cases e : atI ds i with
    | none => rw [e] at hg; cases hg
    | some d =>
      rw [e] at hg; cases hg
      obtain ⟨l, xs, e1, h1, r1⟩ := hx.lst S.bh
      have e' := e
      unfold atI at e'
      cases ej : ixN ds.length i with
      | none => rw [ej] at e'; cases e'
      | some j =>
        rw [ej] at e'
        obtain ⟨v, hv, rv⟩ := r1.get e'
        exact .inl (.inl ⟨l, xs, i, v, e1, hy.int, .inl (.inl h1), by unfold atI; rw [r1.length, ej]; exact hv, q.flat S rv⟩)
  · rename_i ds i
    cases e : atI ds i with
    | none => rw [e] at hg; cases hg
    | some d =>
      rw [e] at hg; cases hg
      obtain ⟨l, xs, e1, h1, r1⟩ := hx.tup S.bh
      have e' := e
      unfold atI at e'
      cases ej : ixN ds.length i with
      | none => rw [ej] at e'; cases e'
      | some j =>
        rw [ej] at e'
        obtain ⟨v, hv, rv⟩ := r1.get e'
        exact .inl (.inr (.inl ⟨l, xs, i, v, e1, hy.int, .inl (.inl h1), by unfold atI; rw [r1.length, ej]; exact hv, q.flat S rv⟩))
  · rename_i z i
    split at hg
    · rename_i hl
      cases e : atI z.cps.toList i with
      | none => rw [e] at hg; cases hg
      | some c => rw [e] at hg; cases hg; exact .inl (.inr (.inr ⟨z, i, c, hx.str, hy.int, line_le hl, e, q.flat S (.str _)⟩))
    · cases hg
  · rename_i kds dk
    cases ek : keyOf dy with
    | none => rw [ek] at hg; cases hg
    | some k =>
      rw [ek, Option.bind_some] at hg
      obtain ⟨l, kvs, e1, h1, h2, r1⟩ := hx.dic S.bh
      have ey : y = kV k := by
        rcases hy with hy | ⟨a, _, hy⟩
        · exact key_rep hy ek
        · cases dy <;> first | exact hy.elim | simp [keyOf] at ek
      rcases val_rep (k := k) h2 r1 with ⟨z, _⟩ | ⟨d, v, z1, z2, z3⟩
      · rw [z] at hg; cases hg
      · rw [z1] at hg; cases hg
        refine .inr ⟨l, v, e1, ?_, q.flat S z3⟩
        rw [ey, ← z2]
        exact .inl ⟨kvs, k, h1, rfl, rfl⟩
  · cases hg
end
end FV

namespace FV
open PySem PySem.Spec PyProof.Rows L2

section
variable {X : Cx}
/-! ### built-in functions -/
def gLen : List D → Option Sl
  | [.str x] => if x.length ≤ 1000000 then some (.fz (.int x.length)) else none
  | [.lst ds] => some (.fz (.int ds.length))
  | [.tup ds] => some (.fz (.int ds.length))
  | [.dic kds] => some (.fz (.int kds.length))
  | _ => none
theorem call_lenD' : CallR X (.builtin "len") (fun xs H Q => ∃ a kvs, xs = [.ref a] ∧ Rd H a (.dK kvs) ∧ Q (.int kvs.length) H) := by
  intro pins s σ H xs us Q I r h
  obtain ⟨a, kvs, rfl, hd, q⟩ := h
  obtain ⟨u, rfl, ru⟩ := vals1 r
  cases ru
  exact d_len I hd fun t s' I' => ⟨.int kvs.length, H, I', ⟨_, rfl⟩, q⟩
theorem cb_len : ∃ r, CallR X (.builtin "len") r ∧ OpN X r gLen := by
  refine ⟨_, call_len.or call_lenD', fun PN σ0 F B H σ ρ vs ds s Q S hp hg q => ?_⟩
  unfold gLen at hg
  split at hg
  · split at hg
    · rename_i x h
      cases hg
      obtain ⟨v, rfl, r⟩ := paired1 hp
      cases r.str
      exact .inl ⟨.str x, x.length, rfl, ⟨line_le h, rfl⟩, q.flat S (.int _)⟩
    · cases hg
  · cases hg
    obtain ⟨v, rfl, r⟩ := paired1 hp
    obtain ⟨a, xs, rfl, h1, h2⟩ := r.lst S.bh
    exact .inl ⟨.ref a, xs.length, rfl, .inl ⟨xs, .inl (.inl h1), rfl⟩, by rw [h2.length]; exact q.flat S (.int _)⟩
  · cases hg
    obtain ⟨v, rfl, r⟩ := paired1 hp
    obtain ⟨a, xs, rfl, h1, h2⟩ := r.tup S.bh
    exact .inl ⟨.ref a, xs.length, rfl, .inr ⟨xs, .inl (.inl h1), rfl⟩, by rw [h2.length]; exact q.flat S (.int _)⟩
  · cases hg
    obtain ⟨v, rfl, r⟩ := paired1 hp
    obtain ⟨a, kvs, rfl, h1, h2, h3⟩ := r.dic S.bh
    exact .inr ⟨a, kvs, rfl, h1, by rw [show kvs.length = _ by simpa using congrArg List.length h2]; exact q.flat S (.int _)⟩
  · cases hg
def gAbs : List D → Option Sl
  | [.int i] => some (.fz (.int (if i < 0 then -i else i)))
  | _ => none
theorem cb_abs : ∃ r, CallR X (.builtin "abs") r ∧ OpN X r gAbs := ⟨_, call_abs, fun PN σ0 F B H σ ρ vs ds s Q S hp hg q => by
  unfold gAbs at hg
  split at hg
  · cases hg
    obtain ⟨v, rfl, r⟩ := paired1 hp
    cases r.int
    exact ⟨_, rfl, q.flat S (.int _)⟩
  · cases hg⟩
def gInt : List D → Option Sl
  | [.int i] => some (.fz (.int i))
  | [.bl b] => some (.fz (.int (if b then 1 else 0)))
  | _ => none
theorem cb_int : ∃ r, CallR X (.type "int") r ∧ OpN X r gInt := ⟨_, call_int1, fun PN σ0 F B H σ ρ vs ds s Q S hp hg q => by
  unfold gInt at hg
  split at hg
  · cases hg
    obtain ⟨v, rfl, r⟩ := paired1 hp
    cases r.int
    exact .inl ⟨_, rfl, q.flat S (.int _)⟩
  · cases hg
    obtain ⟨v, rfl, r⟩ := paired1 hp
    cases r.bl
    exact .inr ⟨_, rfl, q.flat S (.int _)⟩
  · cases hg⟩
def gMax2 : List D → Option Sl
  | [.int i, .int j] => some (.fz (.int (if j > i then j else i)))
  | _ => none
def gMin2 : List D → Option Sl
  | [.int i, .int j] => some (.fz (.int (if j < i then j else i)))
  | _ => none
theorem cb_max2 (hc : X.calm = true) : ∃ r, CallR X (.builtin "max") r ∧ OpN X r gMax2 := ⟨_, call_max2 hc, fun PN σ0 F B H σ ρ vs ds s Q S hp hg q => by
  unfold gMax2 at hg
  split at hg
  · cases hg
    obtain ⟨v, w, rfl, r, r2⟩ := paired2 hp
    cases r.int
    cases r2.int
    exact ⟨_, _, rfl, q.flat S (.int _)⟩
  · cases hg⟩
theorem cb_min2 (hc : X.calm = true) : ∃ r, CallR X (.builtin "min") r ∧ OpN X r gMin2 := ⟨_, call_min2 hc, fun PN σ0 F B H σ ρ vs ds s Q S hp hg q => by
  unfold gMin2 at hg
  split at hg
  · cases hg
    obtain ⟨v, w, rfl, r, r2⟩ := paired2 hp
    cases r.int
    cases r2.int
    exact ⟨_, _, rfl, q.flat S (.int _)⟩
  · cases hg⟩
def tyD : D → Option String
  | .non => some "NoneType"
  | .bl _ => some "bool"
  | .int _ => some "int"
  | .str _ => some "str"
  | .lst _ => some "list"
  | .tup _ => some "tuple"
  | .dic _ => some "dict"
  | _ => none
theorem ty_V {B H : Hp} {v : L2.V} {d : D} {t : String} (bh : ∀ b o, B b = some o → H b = some o) (h : LRep X B H v d) (e : tyD d = some t) : TyX X.K H v (.type t) := by
  cases d with
  | non => cases e; cases h.non; exact .base .non
  | bl b => cases e; cases h.bl; exact .base (.bl b)
  | int i => cases e; cases h.int; exact .base (.int i)
  | str x => cases e; cases h.str; exact .base (.str x)
  | lst ds => cases e; obtain ⟨a, xs, rfl, h1, _⟩ := h.lst bh; exact .base (.lst h1)
  | tup ds => cases e; obtain ⟨a, xs, rfl, h1, _⟩ := h.tup bh; exact .base (.tup h1)
  | dic kds =>
    cases e
    obtain ⟨a, kvs, rfl, h1, _⟩ := h.dic bh
    rcases h1 with h1 | ⟨od, h1⟩
    · exact .base (.dK h1)
    · exact .fDict h1
  | _ => cases e
def gIsi : List D → Option Sl
  | [d, .ty b] => (tyD d).bind fun a => (kitB a b).map fun r => .fz (.bl r)
  | _ => none
theorem LRep.ty {B H : Hp} {v : L2.V} {n : String} (h : LRep X B H v (.ty n)) : v = .ty n := by
  rcases h with h | ⟨a, _, h⟩
  · cases h; rfl
  · exact h.elim
theorem cb_isi : ∃ r, CallR X (.builtin "isinstance") r ∧ OpN X r gIsi := ⟨_, call_isi, fun PN σ0 F B H σ ρ vs ds s Q S hp hg q => by
  unfold gIsi at hg
  split at hg
  · rename_i d b
    cases e1 : tyD d with
    | none => rw [e1] at hg; cases hg
    | some a =>
      rw [e1, Option.bind_some] at hg
      cases e2 : kitB a b with
      | none => rw [e2] at hg; cases hg
      | some r =>
        rw [e2] at hg
        cases hg
        obtain ⟨v, w, rfl, r1, r2⟩ := paired2 hp
        cases r2.ty
        exact ⟨v, .ty b, _, _, r, rfl, .ty b, ty_V S.bh r1 e1, kit_ty e2, q.flat S (.bl _)⟩
  · cases hg⟩
/-- list(x), tuple(x) -/
def gList : List D → Option Sl
  | [.lst ds] => some (.ow (.lst ds))
  | [.tup ds] => some (.ow (.lst ds))
  | _ => none
theorem cb_list : ∃ r, CallR X (.type "list") r ∧ OpN X r gList := ⟨_, call_list_of, fun PN σ0 F B H σ ρ vs ds s Q S hp hg q => by
  unfold gList at hg
  split at hg
  · cases hg
    obtain ⟨v, rfl, r⟩ := paired1 hp
    obtain ⟨a, xs, rfl, h1, h2⟩ := r.lst S.bh
    exact ⟨a, xs, rfl, .inl (.inl (.inl h1)), q.newL S h2⟩
  · cases hg
    obtain ⟨v, rfl, r⟩ := paired1 hp
    obtain ⟨a, xs, rfl, h1, h2⟩ := r.tup S.bh
    exact ⟨a, xs, rfl, .inr (.inl (.inl h1)), q.newL S h2⟩
  · cases hg⟩
def gTuple : List D → Option Sl
  | [.lst ds] => some (.fz (.tup ds))
  | [.tup ds] => some (.fz (.tup ds))
  | _ => none
theorem cb_tuple : ∃ r, CallR X (.type "tuple") r ∧ OpN X r gTuple := ⟨_, call_tuple_of, fun PN σ0 F B H σ ρ vs ds s Q S hp hg q => by
  unfold gTuple at hg
  split at hg
  · cases hg
    obtain ⟨v, rfl, r⟩ := paired1 hp
    obtain ⟨a, xs, rfl, h1, h2⟩ := r.lst S.bh
    exact ⟨a, xs, rfl, .inl ⟨.inl (.inl h1), q.newT S h2⟩⟩
  · cases hg
    obtain ⟨v, rfl, r⟩ := paired1 hp
    rcases r with r | ⟨a, rfl, r⟩
    · cases r with
      | tup h1 h2 => exact ⟨_, _, rfl, .inr ⟨.inl (.inl (S.bh _ _ h1)), q.flat S (.tup h1 h2)⟩⟩
    · exact r.elim
  · cases hg⟩
end
section
variable {X : Cx} {PN : List Nat} {σ0 : Gs} {W : WX} {k : Nat}
theorem fe_cb {x : Str} {p pos : Pos} {e : Expr} {es : List Expr} {id : String} {g : List D → Option Sl} {l : En → R (List Th)} (h : ∃ r, CallR X (.builtin id) r ∧ OpN X r g) (b : Blt X x) (hv : bootBuiltins x = some (.builtin id)) (ha : FL X PN σ0 W (e :: es) l)
    (hn : x ≠ "__name__" := by decide) (hdb : (x == ("__debug__" : Str)) = false := by decide)
    (he : starEach (e :: es) X.env = (false, eval e X.env) :: starEach es X.env := by rfl) (hpl : (backTo pos (starEach es X.env)).any (·.1) = false := by rfl) : FE X PN σ0 W (.Call (.Name x p) (e :: es) [] pos) (xL g l) := by
  obtain ⟨r, h1, h2⟩ := h
  exact fe_callB h1 h2 b hv ha hn hdb he hpl
theorem fe_ct {x : Str} {p pos : Pos} {e : Expr} {es : List Expr} {T : String} {g : List D → Option Sl} {l : En → R (List Th)} (h : ∃ r, CallR X (.type T) r ∧ OpN X r g) (b : Blt X x) (hv : bootBuiltins x = some (.type T)) (ha : FL X PN σ0 W (e :: es) l)
    (hn : x ≠ "__name__" := by decide) (hdb : (x == ("__debug__" : Str)) = false := by decide)
    (he : starEach (e :: es) X.env = (false, eval e X.env) :: starEach es X.env := by rfl) (hpl : (backTo pos (starEach es X.env)).any (·.1) = false := by rfl) : FE X PN σ0 W (.Call (.Name x p) (e :: es) [] pos) (xL g l) := by
  obtain ⟨r, h1, h2⟩ := h
  exact fe_callT h1 h2 b hv ha hn hdb he hpl
/-- a built-in class as a value -/
theorem fe_ty {x : Str} {p : Pos} {T : String} (b : Blt X x) (hv : bootBuiltins x = some (.type T)) (hn : x ≠ "__name__" := by decide) (hdb : (x == ("__debug__" : Str)) = false := by decide) : FE X PN σ0 W (.Name x p) (xC (.ty T)) :=
  fe_c (pe_bltn b.gl b.no hv (show RelV (.ty T) (.type T) from rfl) hn hdb) fun _ => .ty T
/-- a constant of the module -/
theorem fe_gi {x : Str} {p : Pos} {i : Int} (hg : Gl X x) (hm : ∃ t, X.mg x = some (.int i t)) (hdb : (x == ("__debug__" : Str)) = false := by decide) : FE X PN σ0 W (.Name x p) (xC (.int i)) := by
  obtain ⟨t, hm⟩ := hm
  exact fe_c (pe_glob hg hm (v := .int i) ⟨t, rfl⟩ hdb) fun _ => .int i
theorem fe_gs {x : Str} {p : Pos} {y : Str} (hg : Gl X x) (hm : ∃ t, X.mg x = some (.str y t)) (hdb : (x == ("__debug__" : Str)) = false := by decide) : FE X PN σ0 W (.Name x p) (xC (.str y)) := by
  obtain ⟨t, hm⟩ := hm
  exact fe_c (pe_glob hg hm (v := .str y) ⟨t, rfl⟩ hdb) fun _ => .str y
/-! ### slices -/
structure FP (X : Cx) (PN : List Nat) (σ0 : Gs) (W : WX) (e : Option Expr) (g : En → R (Option Int)) : Prop where
  ex : ∃ t : TO, PO X e t ∧ ∀ F B H σ ρ Q, Sat X.K X.mg PN σ0 F B H σ ρ → (match g ρ with
    | .ok o ρ' => ∀ H' B', Ext B B' → Sat X.K X.mg PN σ0 F B' H' σ ρ' → Q o H'
    | .exc c fs ρ' => ∀ cls od H' B', Ext B B' → Sat X.K X.mg PN σ0 F B' H' σ ρ' → ExcOk X.K X.mg B' c fs cls od → W cls od σ H'
    | .bad => False) → t σ H Q
def pN : En → R (Option Int) := fun ρ => .ok none ρ
def pS (f : FX) : En → R (Option Int) := fun ρ => (f ρ).bind fun s ρ' => match s with
  | .fz (.int i) => .ok (some i) ρ'
  | _ => .bad
theorem fp_n : FP X PN σ0 W none pN := ⟨_, po_none, fun F B H σ ρ Q S q => q H B (Ext.refl B) S⟩
theorem fp_s {e : Expr} {f : FX} (h : FE X PN σ0 W e f) : FP X PN σ0 W (some e) (pS f) := by
  obtain ⟨t, pt, qt⟩ := h.ex
  refine ⟨_, po_some pt, fun F B H σ ρ Q S q => qt F B H σ ρ _ S ?_⟩
  unfold pS at q
  cases er : f ρ with
  | bad => rw [er] at q; exact q
  | exc c fs ρ1 => rw [er] at q; exact q
  | ok s ρ1 =>
    rw [er, R.bind_ok] at q
    intro v H1 B1 e1 S1 z
    cases s with
    | no => exact z.elim
    | ow d => exact q.elim
    | dp t => exact q.elim
    | fz d =>
      cases d with
      | int i => cases z; exact ⟨i, rfl, q H1 B1 e1 S1⟩
      | _ => exact q.elim
def cutD {α : Type} (xs : List α) (lo hi : Option Int) : List α := (xs.drop (HT.sIx xs.length 0 lo)).take (HT.sIx xs.length xs.length hi - HT.sIx xs.length 0 lo)
def slD (lo hi : Option Int) : D → Option Sl
  | .str x => if x.length ≤ 1000000 then some (.fz (.str (cutS x lo hi))) else none
  | .lst ds => some (.ow (.lst (cutD ds lo hi)))
  | .tup ds => if HT.sIx ds.length 0 lo = 0 ∧ HT.sIx ds.length ds.length hi = ds.length then none else some (.fz (.tup (cutD ds lo hi)))
  | .scr ns => some (.ow (.lst ((cutD ns lo hi).map .int)))
  | _ => none
def xSl (a : En → R Th) (pl ph : En → R (Option Int)) : FX := fun ρ => (a ρ).bind fun t ρ1 => (pl ρ1).bind fun lo ρ2 => (ph ρ2).bind fun hi ρ3 => ofO ((t ρ3).bind (slD lo hi)) ρ3
theorem RepL.cut {K : PySem.W.Frag} {mg : Str → Option Value} {B : Hp} {xs : List L2.V} {ds : List D} (h : RepL K mg B xs ds) (lo hi : Option Int) : RepL K mg B (cutV xs lo hi) (cutD ds lo hi) := by
  unfold cutV cutD
  rw [h.length]
  exact (h.drop _).take _
theorem fe_sl {a : Expr} {lo hi : Option Expr} {p2 pos : Pos} {ga : En → R Th} {gl gh : En → R (Option Int)} (ha : FA X PN σ0 W a ga) (hl : FP X PN σ0 W lo gl) (hh : FP X PN σ0 W hi gh) : FE X PN σ0 W (.Subscript a (.Slice lo hi none p2) pos) (xSl ga gl gh) := by
  obtain ⟨ta, pa, qa⟩ := ha.ex
  obtain ⟨tl, pl, ql⟩ := hl.ex
  obtain ⟨th, ph, qh⟩ := hh.ex
  refine ⟨_, pe_slice (sl_list.or (sl_tup.or sl_str)) pa pl ph, fun F B H σ ρ Q S q => qa F B H σ ρ _ S ?_⟩
  unfold xSl at q
  cases ea : ga ρ with
  | bad => rw [ea] at q; exact q
  | exc c fs ρ1 => rw [ea] at q; exact q
  | ok t ρ1 =>
    rw [ea, R.bind_ok] at q
    intro x H1 B1 e1 S1 k1
    refine ql F B1 H1 σ ρ1 _ S1 ?_
    cases el : gl ρ1 with
    | bad => rw [el] at q; exact q
    | exc c fs ρ2 => rw [el] at q; exact fun cls od H' B' e S' z => q cls od H' B' (e1.trans e) S' z
    | ok ol ρ2 =>
      rw [el, R.bind_ok] at q
      intro H2 B2 e2 S2
      refine qh F B2 H2 σ ρ2 _ S2 ?_
      cases eh : gh ρ2 with
      | bad => rw [eh] at q; exact q
      | exc c fs ρ3 => rw [eh] at q; exact fun cls od H' B' e S' z => q cls od H' B' ((e1.trans e2).trans e) S' z
      | ok oh ρ3 =>
        rw [eh, R.bind_ok] at q
        intro H3 B3 e3 S3
        cases et : t ρ3 with
        | none => rw [et] at q; exact q.elim
        | some d =>
          rw [et, Option.bind_some] at q
          have r := k1 B3 H3 ρ3 d (e2.trans e3) S3 et
          have q := EPost.mono ((e1.trans e2).trans e3) q
          cases es : slD ol oh d with
          | none => rw [es] at q; exact q.elim
          | some s =>
            rw [es] at q
            replace q : Fin X PN σ0 F B3 σ ρ3 s Q := q
            unfold slD at es
            split at es
            · split at es
              · rename_i hz
                cases es
                exact .inr (.inr ⟨_, r.str, line_le hz, q.flat S3 (.str _)⟩)
              · cases es
            · cases es
              obtain ⟨a, xs, rfl, h1, h2⟩ := r.lst S3.bh
              exact .inl ⟨a, xs, rfl, .inl (.inl h1), q.newL S3 (h2.cut _ _)⟩
            · split at es
              · cases es
              · rename_i hz
                cases es
                obtain ⟨a, xs, rfl, h1, h2⟩ := r.tup S3.bh
                exact .inr (.inl ⟨a, xs, rfl, .inl (.inl h1), by rw [h2.length]; exact hz, q.newT S3 (h2.cut _ _)⟩)
            · rename_i ns
              cases es
              rcases r with r | ⟨a, rfl, r⟩
              · cases r with
                | @scr a0 _ h =>
                  have h' : SqL X.K H3 a0 (ns.map V.int) := by
                    rcases h with (h | ⟨o, h⟩) | h
                    · exact .inl (.inl (S3.bh _ _ h))
                    · exact .inl (.inr ⟨o, S3.bh _ _ h⟩)
                    · exact .inr h
                  refine .inl ⟨_, _, rfl, h', ?_⟩
                  have e : cutV (ns.map V.int) ol oh = (cutD ns ol oh).map V.int := by
                    unfold cutV cutD
                    rw [List.length_map, List.map_take, List.map_drop]
                  rw [e]
                  exact q.newL S3 (RepL.map (fun i => .int i) _)
              · exact r.elim
            · cases es
end
end FV

namespace FV
open PySem PySem.Spec PyProof.Rows L2

section
variable {X : Cx} {PN : List Nat} {σ0 : Gs} {W : WX} {k : Nat}
/-! ### methods of built-in values that are read -/
def gBits : D → Option Sl
  | .int i => some (.fz (.int (Builtin.Int.intBits i : Nat)))
  | _ => none
theorem fe_bits {o : Expr} {g : En → R Th} {apos pos : Pos} (h : FA X PN σ0 W o g) (hbase : attributeBase o "bit_length" X.env (eval o X.env) = eval o X.env := by rfl) (hline : (apos.endLine == pos.line) = true := by rfl) :
    FE X PN σ0 W (.Call (.Attribute o "bit_length" apos) [] [] pos) (xU gBits g) := by
  obtain ⟨t, pt, qt⟩ := h.ex
  refine ⟨_, pe_bits pt hbase hline, fun F B H σ ρ Q S q => ?_⟩
  refine fin1 (r := fun x H1 Q => ∃ i : Int, x = .int i ∧ Q (.int (Builtin.Int.intBits i : Nat)) H1) (fun PN σ0 F B H σ ρ x dx s Q S hx hg q => ?_) qt S q
  unfold gBits at hg
  split at hg
  · rename_i i
    cases hg
    exact ⟨i, hx.int, q.flat S (.int _)⟩
  · cases hg

/-! ### methods that change a held list -/
abbrev GM := List D → List D → Option (List D × D)
def MutOk (X : Cx) (r : L2.V → List L2.V → Hp → VK → Prop) (g : GM) : Prop := ∀ (B H : Hp) (a : Addr) (xs vs : List L2.V) (ds es ds' : List D) (d : D) (Q : VK), (∀ b o, B b = some o → H b = some o) → H a = some (.lst xs) → RepL X.K X.mg B xs ds → RepL X.K X.mg B vs es → g ds es = some (ds', d) →
  (∀ xs' v, RepL X.K X.mg B xs' ds' → Rep X.K X.mg B v d → Q v (upd H a (.lst xs'))) → r (.ref a) vs H Q
def isOwL (i : Nat) (ρ : En) : Bool := match ρ[i]? with
  | some (.ow (.lst _)) => true
  | _ => false
def goM (i : Nat) (g : GM) (ars : List Ar) (ρ1 : En) : R Sl := match dsOf ars with
  | some es => match ρ1[i]? with
    | some (.ow (.lst ds)) => match g ds es with
      | some (ds', d) => .ok (.fz d) (ρ1.set i (.ow (.lst ds')))
      | none => .bad
    | _ => .bad
  | none => .bad
def xMu (i : Nat) (g : GM) (l : En → R (List Ar)) : FX := fun ρ => if isOwL i ρ = true then (l ρ).bind fun ars ρ1 => goM i g ars ρ1 else .bad
theorem isOwL_at {i : Nat} {F B H : Hp} {σ : L2.St} {ρ : En} (S : Sat X.K X.mg PN σ0 F B H σ ρ) (h : isOwL i ρ = true) : ∃ a xs, σ[i]? = some (some (V.ref a)) ∧ H a = some (.lst xs) := by
  unfold isOwL at h
  split at h
  · rename_i ds e
    obtain ⟨a, h1, _, _, xs, h4, _⟩ := S.sl i _ e
    exact ⟨a, xs, h1, h4⟩
  · cases h
theorem goM_ok {i : Nat} {g : GM} {r : L2.V → List L2.V → Hp → VK → Prop} (hr : MutOk X r g) {F B H : Hp} {σ : L2.St} {ρ : En} {Q : VK} {a : Addr} {vs : List L2.V} {ars : List Ar} (S : Sat X.K X.mg PN σ0 F B H σ ρ) (ha : σ[i]? = some (some (V.ref a))) (k1 : Paired (ArOk X B σ) vs ars)
    (q : EPost X PN σ0 W F B σ (goM i g ars ρ) Q) : r (.ref a) vs H Q := by
  unfold goM at q
  split at q
  · rename_i es hes
    split at q
    · rename_i ds e
      split at q
      · rename_i ds' d hg
        obtain ⟨a', h1, h2, h3, xs, h4, h5⟩ := S.sl i _ e
        rw [ha] at h1; cases h1
        exact hr B H a xs vs ds es ds' d Q S.bh h4 h5 (dsOf_rep k1 hes) hg fun xs' v r1 r2 => q v _ B (Ext.refl B) (S.mutate e ha ⟨xs', upd_same, r1⟩) r2
      · exact q.elim
    · exact q.elim
  · exact q.elim
theorem fe_mu {M L : List Bool} (N : NamesOk X M L) (i : Nat) {x : Str} {p apos pos : Pos} {e : Expr} {es : List Expr} {name : Str} {id : String} {g : GM} {l : En → R (List Ar)} (slot : Slot "list" name id) (hty : typeOf (.builtin id) = pure (.type "method_descriptor"))
    (h : ∃ r, MtR X id r ∧ MutOk X r g) (hl : FC X PN σ0 W (e :: es) l) (hi : X.N[i]? = some x := by rfl) (hm : M[i]? = some true := by rfl)
    (hbase : attributeBase (.Name x p) name X.env (eval (.Name x p) X.env) = eval (.Name x p) X.env := by rfl)
    (hfew : ((backTo pos (starEach (e :: es) X.env)).all (fun x => !x.1) && (backToKw pos (keywordEach [] X.env)).all (fun x => x.1.isSome)
      && decide ((e :: es).length + ([] : List Keyword).length + (if ([] : List Keyword).isEmpty then 0 else 1) < 30)) = true := by rfl)
    (hline : (apos.endLine == pos.line) = true := by rfl) (hs : starEach (e :: es) X.env = (false, eval e X.env) :: starEach es X.env := by rfl) (hplain : (backTo pos (starEach es X.env)).any (·.1) = false := by rfl) :
    FE X PN σ0 W (.Call (.Attribute (.Name x p) name apos) (e :: es) [] pos) (xMu i g l) := by
  obtain ⟨r, h1, h2⟩ := h
  obtain ⟨t, pt, qt⟩ := hl.ex
  refine ⟨_, pe_bm PySem.F.plainAttrs_list slot hty h1 (N.pe i hi hm) pt hbase hfew hline hs hplain, fun F B H σ ρ Q S q => ?_⟩
  unfold xMu at q
  split at q
  · rename_i ho
    obtain ⟨a, xs, ha, hx⟩ := isOwL_at S ho
    refine ⟨.ref a, ha, .inl ⟨rfl, xs, .inl (.inl hx)⟩, qt F B H σ ρ _ S ?_⟩
    cases el : l ρ with
    | bad => rw [el] at q; exact q
    | exc c fs ρ2 => rw [el] at q; exact q
    | ok ars ρ1 =>
      rw [el, R.bind_ok] at q
      exact fun vs H1 B1 e1 S1 k1 => goM_ok h2 S1 ha k1 (EPost.mono e1 q)
  · exact q.elim
theorem fe_mu0 {M L : List Bool} (N : NamesOk X M L) (i : Nat) {x : Str} {p apos pos : Pos} {name : Str} {id : String} {g : GM} (slot : Slot "list" name id) (hty : typeOf (.builtin id) = pure (.type "method_descriptor"))
    (h : ∃ r, MtR X id r ∧ MutOk X r g) (hi : X.N[i]? = some x := by rfl) (hm : M[i]? = some true := by rfl)
    (hbase : attributeBase (.Name x p) name X.env (eval (.Name x p) X.env) = eval (.Name x p) X.env := by rfl) (hline : (apos.endLine == pos.line) = true := by rfl) :
    FE X PN σ0 W (.Call (.Attribute (.Name x p) name apos) [] [] pos) (xMu i g cNil) := by
  obtain ⟨r, h1, h2⟩ := h
  refine ⟨_, pe_bm0 PySem.F.plainAttrs_list slot hty h1 (N.pe i hi hm) hbase hline, fun F B H σ ρ Q S q => ?_⟩
  unfold xMu at q
  split at q
  · rename_i ho
    obtain ⟨a, xs, ha, hx⟩ := isOwL_at S ho
    exact ⟨.ref a, ha, .inl ⟨rfl, xs, .inl (.inl hx)⟩, goM_ok h2 S ha .nil q⟩
  · exact q.elim
def mApp : GM
  | ds, [d] => if ds.length < 1000000 then some (ds ++ [d], .non) else none
  | _, _ => none
theorem mu_app : ∃ r, MtR X "list.append" r ∧ MutOk X r mApp := ⟨_, mt_append, fun B H a xs vs ds es ds' d Q bh hx hr hv hg q => by
  unfold mApp at hg
  split at hg
  · split at hg
    · rename_i d0 hz
      cases hg
      cases hv with
      | cons r1 r2 =>
        cases r2
        exact ⟨a, xs, _, rfl, rfl, hx, by rw [hr.length]; exact line_lt hz, q _ _ (hr.append (.cons r1 .nil)) .non⟩
    · cases hg
  · cases hg⟩
def mExt : GM
  | ds, [.lst es] => if ds.length + es.length ≤ 1000000 then some (ds ++ es, .non) else none
  | _, _ => none
theorem mu_ext : ∃ r, MtR X "list.extend" r ∧ MutOk X r mExt := ⟨_, mt_extend, fun B H a xs vs ds es ds' d Q bh hx hr hv hg q => by
  unfold mExt at hg
  split at hg
  · split at hg
    · rename_i d0 hz
      cases hg
      cases hv with
      | cons r1 r2 =>
        cases r2
        cases r1 with
        | lst h1 h2 => exact ⟨a, _, xs, _, rfl, rfl, hx, bh _ _ h1, by rw [hr.length, h2.length]; exact line_le hz, q _ _ (hr.append h2) .non⟩
    · cases hg
  · cases hg⟩
theorem RepL.dropLast {K : PySem.W.Frag} {mg : Str → Option Value} {B : Hp} {xs : List L2.V} {ds : List D} (h : RepL K mg B xs ds) : RepL K mg B xs.dropLast ds.dropLast := by
  rw [List.dropLast_eq_take, List.dropLast_eq_take, h.length]
  exact h.take _
def mPop : GM
  | ds, [] => (ds[ds.length - 1]?).map fun d => (ds.dropLast, d)
  | _, _ => none
theorem mu_pop : ∃ r, MtR X "list.pop" r ∧ MutOk X r mPop := ⟨_, mt_pop, fun B H a xs vs ds es ds' d Q bh hx hr hv hg q => by
  unfold mPop at hg
  split at hg
  · cases hv
    cases e : ds[ds.length - 1]? with
    | none => rw [e] at hg; cases hg
    | some d0 =>
      rw [e] at hg
      cases hg
      obtain ⟨v, hv, rv⟩ := hr.get e
      exact ⟨a, xs, v, rfl, rfl, hx, by rw [hr.length]; exact hv, q _ _ hr.dropLast rv⟩
  · cases hg⟩
def mRev : GM
  | ds, [] => some (ds.reverse, .non)
  | _, _ => none
theorem mu_rev : ∃ r, MtR X "list.reverse" r ∧ MutOk X r mRev := ⟨_, mt_reverse, fun B H a xs vs ds es ds' d Q bh hx hr hv hg q => by
  unfold mRev at hg
  split at hg
  · cases hv
    cases hg
    exact ⟨a, xs, rfl, rfl, hx, q _ _ hr.reverse .non⟩
  · cases hg⟩
def mClr : GM
  | ds, [] => some ([], .non)
  | _, _ => none
theorem mu_clr : ∃ r, MtR X "list.clear" r ∧ MutOk X r mClr := ⟨_, mt_clear, fun B H a xs vs ds es ds' d Q bh hx hr hv hg q => by
  unfold mClr at hg
  split at hg
  · cases hv
    cases hg
    exact ⟨a, xs, rfl, rfl, hx, q _ _ .nil .non⟩
  · cases hg⟩
end

/-! ### the canonical readings -/
section
variable {X : Cx} {PN : List Nat} {σ0 : Gs} {W : WX} {k : Nat}
def cE (X : Cx) (PN : List Nat) (σ0 : Gs) (W : WX) (f : FX) : TE := fun σ H Q => ∃ F B ρ, Sat X.K X.mg PN σ0 F B H σ ρ ∧ EPost X PN σ0 W F B σ (f ρ) Q
theorem FE.pe {e : Expr} {f : FX} (h : FE X PN σ0 W e f) : PE X e (cE X PN σ0 W f) := by
  obtain ⟨t, pt, qt⟩ := h.ex
  exact ⟨fun pins s σ H Q I ⟨F, B, ρ, S, q⟩ => pt.run pins s σ H Q I (qt F B H σ ρ Q S q)⟩
def cT (X : Cx) (PN : List Nat) (σ0 : Gs) (W : WX) (f : FX) : TT := fun σ H Q => ∃ F B ρ, Sat X.K X.mg PN σ0 F B H σ ρ ∧ TPost X PN σ0 W F B σ (f ρ) Q
theorem FT.pt {e : Expr} {f : FX} (h : FT X PN σ0 W e f) : PT X e (cT X PN σ0 W f) := by
  obtain ⟨t, pt, qt⟩ := h.ex
  exact ⟨fun pins s σ H Q I ⟨F, B, ρ, S, q⟩ => pt.run pins s σ H Q I (qt F B H σ ρ Q S q)⟩
def cG (X : Cx) (PN : List Nat) (σ0 : Gs) (g : GG) (ts : List Nat) : TG := fun v σ H Q => ∃ F B ρ d ρ', Sat X.K X.mg PN σ0 F B H σ ρ ∧ Rep X.K X.mg B v d ∧ g d ρ = some ρ' ∧ ∀ σ', σ'.length = σ.length → (∀ (i : Nat), i ∉ ts → σ'[i]? = σ[i]?) → Sat X.K X.mg PN σ0 F B H σ' ρ' → Q σ' H
theorem FG.pg {e : Expr} {g : GG} {ts : List Nat} (h : FG X PN σ0 e g ts) : PG X e (cG X PN σ0 g ts) := by
  obtain ⟨t, pt, qt⟩ := h.ex
  exact ⟨fun pins s σ H v u Q I r ⟨F, B, ρ, d, ρ', S, rd, e, q⟩ => pt.run pins s σ H v u Q I r (qt F B H σ ρ v d ρ' Q S rd e q)⟩
def cS (X : Cx) (PN : List Nat) (σ0 : Gs) (W : WX) (f : FY) : TS := fun D' σ H => ∃ F B ρ, Sat X.K X.mg PN σ0 F B H σ ρ ∧ SPost X PN σ0 W F B (f ρ) D'
theorem FB.ps {e : List Stmt} {f : FY} (h : FB X PN σ0 W e f) : PSs X e (cS X PN σ0 W f) := by
  obtain ⟨t, pt, qt⟩ := h.ex
  exact ⟨fun pins s σ H D' I ⟨F, B, ρ, S, q⟩ => pt.run pins s σ H D' I (qt F B H σ ρ D' S q)⟩

/-! ### comprehensions -/
abbrev W0 : WX := fun _ _ _ _ => False
/-- the tests of a comprehension -/
structure FTs (X : Cx) (PN : List Nat) (σ0 : Gs) (W : WX) (ifs : List Expr) (f : FX) : Prop where
  pt : PTs X ifs (cT X PN σ0 W f)
def xYes : FX := fun ρ => .ok (.fz (.bl true)) ρ
theorem fts_nil : FTs X PN σ0 W [] xYes := ⟨⟨fun pins s σ H Q I ⟨F, B, ρ, S, q⟩ => (pts_nil (X := X)).run pins s σ H Q I (q H B (Ext.refl B) S)⟩⟩
theorem fts_one {c : Expr} {f : FX} (h : FT X PN σ0 W c f) : FTs X PN σ0 W [c] f := ⟨pts_one h.pt⟩
/-- one turn and the rest -/
def lcL (own : List Nat) (g : GG) (c f : FX) : List D → List D → En → R (List D)
  | [], acc, ρ => .ok acc ρ
  | d :: ds, acc, ρ => match g d ρ with
    | none => .bad
    | some ρ1 => match c ρ1 with
      | .ok (.fz (.bl true)) ρ2 => match xF f ρ2 with
        | .ok (.fz x) ρ3 => if acc.length < 1000000 then lcL own g c f ds (acc ++ [x]) (forget own ρ3) else .bad
        | _ => .bad
      | .ok (.fz (.bl false)) ρ2 => lcL own g c f ds acc (forget own ρ2)
      | _ => .bad
def xLc (own : List Nat) (gi : En → R (List D)) (g : GG) (c f : FX) : FX := fun ρ => match gi ρ with
  | .ok xs ρ1 => match lcL own g c f xs [] (forget own ρ1) with
    | .ok acc ρ2 => .ok (.ow (.lst acc)) ρ2
    | _ => .bad
  | .exc c fs ρ1 => .exc c fs ρ1
  | .bad => .bad
theorem forget_get {own : List Nat} : ∀ {ρ : En} {i : Nat} {s : Sl}, (forget own ρ)[i]? = some s → (i ∈ own ∧ s = .no) ∨ (i ∉ own ∧ ρ[i]? = some s) := by
  induction own with
  | nil => intro ρ i s h; exact .inr ⟨by simp, h⟩
  | cons j own ih =>
    intro ρ i s h
    rcases ih (ρ := ρ.set j .no) h with ⟨h1, h2⟩ | ⟨h1, h2⟩
    · exact .inl ⟨List.mem_cons_of_mem _ h1, h2⟩
    · by_cases e : j = i
      · subst e
        rw [List.getElem?_set_self'] at h2
        cases q : ρ[j]? with
        | none => rw [q] at h2; cases h2
        | some t => rw [q] at h2; cases h2; exact .inl ⟨List.mem_cons_self, rfl⟩
      · rw [List.getElem?_set_ne e] at h2
        exact .inr ⟨by rw [List.mem_cons]; rintro (z | z); exact e z.symm; exact h1 z, h2⟩
theorem forget_len {own : List Nat} : ∀ {ρ : En}, (forget own ρ).length = ρ.length := by
  induction own with
  | nil => intro ρ; rfl
  | cons j own ih => intro ρ; show (forget own (ρ.set j .no)).length = _; rw [ih, List.length_set]
theorem wipe_get {σ : L2.St} {i : Nat} : ∀ {vs : List Nat}, i ∉ vs → (wipe σ vs)[i]? = σ[i]? := fun h => wipe_out h
theorem Sat.swapSep {own : List Nat} {F B H : Hp} {σ σ' : L2.St} {ρ : En} (S : Sat X.K X.mg PN σ0 F B H σ (FV.forget own ρ)) (hs : ∀ (i : Nat), i ∉ own → σ'[i]? = σ[i]?) :
    ∀ (i j : Nat) (s s' : Sl) (x : Addr), (FV.forget own ρ)[i]? = some s → (FV.forget own ρ)[j]? = some s' → x ∈ fpS H σ' i s → x ∈ fpS H σ' j s' → i = j := fun i j s s' x h1 h2 m1 m2 => by
  rcases forget_get h1 with ⟨_, z⟩ | ⟨z1, _⟩
  · subst z; cases m1
  · rcases forget_get h2 with ⟨_, z⟩ | ⟨y1, _⟩
    · subst z; cases m2
    · rw [fpS_move (hs i z1)] at m1
      rw [fpS_move (hs j y1)] at m2
      exact S.sep h1 h2 m1 m2
/-- the same slots but those of own -/
theorem Sat.swap {own : List Nat} {F B H : Hp} {σ σ' : L2.St} {ρ : En} (hpn : ∀ i ∈ own, i ∉ PN) (S : Sat X.K X.mg PN σ0 F B H σ (FV.forget own ρ)) (hl : σ'.length = σ.length) (hs : ∀ (i : Nat), i ∉ own → σ'[i]? = σ[i]?) : Sat X.K X.mg PN σ0 F B H σ' (FV.forget own ρ) where
  len := by rw [hl]; exact S.len
  pin := fun i hi => by rw [hs i fun h => hpn i h hi]; exact S.pin i hi
  gh := S.gh
  bh := S.bh
  fh := S.fh
  sl := fun i s h => by
    rcases forget_get h with ⟨h1, h2⟩ | ⟨h1, h2⟩
    · subst h2; trivial
    · exact (S.sl i s h).move (hs i h1) fun x hx => ((S.sl i s h).free hx).1
  dj := (sep_dj (Sat.swapSep S hs)).1
  dq := (sep_dj (Sat.swapSep S hs)).2
  vw := S.vw
/-- a foreign object more -/
theorem Sat.more {F B H : Hp} {σ : L2.St} {ρ : En} {p : Addr} {o : HO} (S : Sat X.K X.mg PN σ0 F B H σ ρ) (n : H p = none) : Sat X.K X.mg PN σ0 (upd F p o) B (upd H p o) σ ρ := by
  have S1 := S.alloc (o := o) n
  refine ⟨S1.len, S1.pin, S1.gh, S1.bh, fun b u h => ?_, fun i s h => ?_, S1.dj, S1.dq, fun q hq => ⟨(S1.vw q hq).1, fun b u e => by
    have := (S1.vw q hq).2 b u e
    rw [upd_ne (ne_of_none this (S.fn n))]
    exact this⟩⟩
  · by_cases e : b = p
    · subst e; rw [upd_same] at h; cases h; exact ⟨upd_same, S.bn n⟩
    · rw [upd_ne e] at h; exact S1.fh b u h
  · refine (S1.sl i s h).move rfl fun x hx => ?_
    have q := S.sl i s h
    have e := q.fp_at (H' := upd H p o) fun x hx => by
      obtain ⟨u, hu⟩ := q.there hx
      exact upd_ne (ne_of_none hu n)
    rw [e] at hx
    rw [upd_ne]
    · exact (q.free hx).1
    · rintro rfl
      obtain ⟨u, hu⟩ := q.there hx
      rw [hu] at n; cases n
/-- the foreign object changes -/
theorem Sat.grow {F B H : Hp} {σ : L2.St} {ρ : En} {p : Addr} {o o' : HO} (S : Sat X.K X.mg PN σ0 (upd F p o) B H σ ρ) (hv : ∀ q ∈ σ0.vw, q.2.2.2 p = none) : Sat X.K X.mg PN σ0 (upd F p o') B (upd H p o') σ ρ := by
  have hp := S.fh p o upd_same
  have off : ∀ (i : Nat) (s : Sl), ρ[i]? = some s → ∀ x ∈ fpS H σ i s, x ≠ p := fun i s h x hx z => by
    subst z
    have := ((S.sl i s h).free hx).1
    rw [upd_same] at this; cases this
  have fpe : ∀ (i : Nat) (s : Sl), ρ[i]? = some s → fpS (upd H p o') σ i s = fpS H σ i s := fun i s h => (S.sl i s h).fp_at fun x hx => upd_ne (off i s h x hx)
  have hsep : ∀ (i j : Nat) (s s' : Sl) (x : Addr), ρ[i]? = some s → ρ[j]? = some s' → x ∈ fpS (upd H p o') σ i s → x ∈ fpS (upd H p o') σ j s' → i = j := fun i j s s' x h1 h2 m1 m2 => by
    rw [fpe i s h1] at m1
    rw [fpe j s' h2] at m2
    exact S.sep h1 h2 m1 m2
  refine ⟨S.len, S.pin, S.gh, fun b u h => ?_, fun b u h => ?_, fun i s h => ?_, (sep_dj hsep).1, (sep_dj hsep).2, fun q hq => ⟨(S.vw q hq).1, fun b u e => by
    have := (S.vw q hq).2 b u e
    rw [upd_ne (ne_of_none e (hv q hq))] at this ⊢
    exact this⟩⟩
  · rw [upd_ne (ne_of_none h hp.2)]; exact S.bh b u h
  · by_cases e : b = p
    · subst e; rw [upd_same] at h; cases h; exact ⟨upd_same, hp.2⟩
    · rw [upd_ne e] at h ⊢
      exact S.fh b u (by rw [upd_ne e]; exact h)
  · have q := (S.sl i s h).later (H' := upd H p o') (Ext.refl B) fun x hx => ⟨upd_ne (off i s h x hx), ((S.sl i s h).free hx).2⟩
    refine q.move rfl fun x hx => ?_
    rw [fpe i s h] at hx
    have := ((S.sl i s h).free hx).1
    rw [upd_ne (off i s h x hx)] at this ⊢
    exact this
/-- .. is the def's own again -/
theorem Sat.less {F B H : Hp} {σ : L2.St} {ρ : En} {p : Addr} {o : HO} (S : Sat X.K X.mg PN σ0 (upd F p o) B H σ ρ) (hF : F p = none) (hv : ∀ q ∈ σ0.vw, q.2.2.2 p = none) : Sat X.K X.mg PN σ0 F B H σ ρ ∧ H p = some o ∧ B p = none ∧ ∀ (i : Nat) (s : Sl), ρ[i]? = some s → p ∉ fpS H σ i s := by
  have hp := S.fh p o upd_same
  have off : ∀ (i : Nat) (s : Sl), ρ[i]? = some s → ∀ x ∈ fpS H σ i s, x ≠ p := fun i s h x hx z => by
    subst z
    have := ((S.sl i s h).free hx).1
    rw [upd_same] at this; cases this
  refine ⟨⟨S.len, S.pin, S.gh, S.bh, fun b u h => S.fh b u (by rw [upd_ne (ne_of_none h hF)]; exact h), fun i s h => ?_, S.dj, S.dq, fun q hq => ⟨(S.vw q hq).1, fun b u e => by
    have := (S.vw q hq).2 b u e
    rw [upd_ne (ne_of_none e (hv q hq))] at this
    exact this⟩⟩, hp.1, hp.2, fun i s h m => off i s h p m rfl⟩
  refine (S.sl i s h).move rfl fun x hx => ?_
  have := ((S.sl i s h).free hx).1
  rw [upd_ne (off i s h x hx)] at this
  exact this
theorem wipe_same {vs : List Nat} {σ σ2 : L2.St} (hl : σ2.length = σ.length) (h : ∀ (i : Nat), i ∉ vs → σ2[i]? = (wipe σ vs)[i]?) : wipe σ2 vs = wipe σ vs := by
  apply List.ext_getElem?
  intro i
  by_cases hi : i ∈ vs
  · have key : ∀ τ : L2.St, (wipe τ vs)[i]? = if i < τ.length then some none else none := fun τ => by
      have hw := wipe_length τ vs
      by_cases hlt : i < τ.length
      · rw [if_pos hlt]
        have h1 : i < (wipe τ vs).length := by rw [hw]; exact hlt
        rw [List.getElem?_eq_getElem h1]
        cases q : (wipe τ vs)[i] with
        | none => rfl
        | some x =>
          have := (wipe_some (σ := τ) (i := i) (x := x) (vs := vs) (by rw [List.getElem?_eq_getElem h1, q])).2
          exact (this hi).elim
      · rw [if_neg hlt, List.getElem?_eq_none (by rw [hw]; omega)]
    rw [key, key, hl]
  · rw [wipe_get hi, h i hi]
theorem lc_red {ov : List Nat} {ti : TI} {gi : En → R (List D)} {g : GG} {ts : List Nat} {c f : FX} (qi : ∀ F B H σ ρ Rr, Sat X.K X.mg PN σ0 F B H σ ρ → IPostF X PN σ0 W F B σ (gi ρ) Rr → ti σ H Rr)
    (hts : ∀ i ∈ ts, i ∈ ov) (hpn : ∀ i ∈ ov, i ∉ PN) {F B H : Hp} {σ : L2.St} {ρ : En} {Q : VK} (S : Sat X.K X.mg PN σ0 F B H σ ρ) (q : EPost X PN σ0 W F B σ (xLc ov gi g c f ρ) Q) :
    tLc ti (cG X PN σ0 g ts) (cT X PN σ0 W0 c) (cE X PN σ0 W0 f) ov σ H Q := by
  refine qi F B H σ ρ _ S ?_
  unfold xLc at q
  cases er : gi ρ with
  | bad => rw [er] at q; exact q
  | exc c fs ρ1 => rw [er] at q; exact q
  | ok xs ρ1 =>
    rw [er] at q
    intro J H1 B1 e1 S1 hJ L hL
    have hvL : ∀ q ∈ σ0.vw, q.2.2.2 L = none := fun q hq => by
      cases e : q.2.2.2 L with
      | none => rfl
      | some o =>
        have := (S1.vw q hq).2 L o e
        rw [S1.fn hL] at this; cases this
    simp only at q
    split at q
    · rename_i accF ρ2 hlc
      have S1w : Sat X.K X.mg PN σ0 F B1 H1 (wipe σ ov) (forget ov ρ1) := Sat.swap hpn (S1.forget ov) (wipe_length σ ov) fun i hi => wipe_get hi
      refine ⟨fun i m H' => m = xs.length - i ∧ i ≤ xs.length ∧ ∃ acc vs B' ρ', Ext B1 B' ∧ Sat X.K X.mg PN σ0 (upd F L (.lst vs)) B' H' (wipe σ ov) (forget ov ρ') ∧ RepL X.K X.mg B' vs acc ∧ lcL ov g c f (xs.drop i) acc (forget ov ρ') = .ok accF ρ2,
        ⟨xs.length, rfl, Nat.zero_le _, [], [], B1, ρ1, Ext.refl B1, S1w.more hL, .nil, hlc⟩, ?_⟩
      rintro i m H' ⟨rfl, hi, acc, vs, B', ρ', e', S', r', hl'⟩
      by_cases hlt : i < xs.length
      · obtain ⟨d, hd⟩ : ∃ d, xs[i]? = some d := ⟨_, List.getElem?_eq_getElem hlt⟩
        have hdr : xs.drop i = d :: xs.drop (i + 1) := by
          rw [List.drop_eq_getElem_cons hlt]
          rw [List.getElem?_eq_getElem hlt] at hd
          rw [Option.some.inj hd]
        rw [hdr, lcL] at hl'
        obtain ⟨hgo, hy⟩ := hJ.go i d hd B' H' e' S'.bh (fun b o h => (S'.fh b o (by rw [upd_ne (ne_of_none h (S1.fn hL))]; exact h)).1)
        refine .inr ⟨hgo, fun H2 => ∃ acc vs B2 ρ2', Ext B1 B2 ∧ Sat X.K X.mg PN σ0 (upd F L (.lst vs)) B2 H2 (wipe σ ov) (forget ov ρ2') ∧ RepL X.K X.mg B2 vs acc ∧ lcL ov g c f (xs.drop (i + 1)) acc (forget ov ρ2') = .ok accF ρ2, fun H2 h2 => ⟨xs.length - (i + 1), by omega, rfl, hlt, h2⟩, fun x H2 hx => ?_⟩
        obtain ⟨B2, e2, S2, r2⟩ := hy x H2 hx PN σ0 _ _ _ S'
        cases eg : g d (forget ov ρ') with
        | none => rw [eg] at hl'; cases hl'
        | some ρ3 =>
          rw [eg] at hl'
          simp only at hl'
          refine ⟨_, B2, _, d, ρ3, S2, r2, eg, fun σ3 hl3 hs3 S3 => ⟨wipe_same (by rw [hl3, wipe_length]) fun j hj => hs3 j fun z => hj (hts j z), ?_⟩⟩
          have hσ3 : wipe σ3 ov = wipe σ ov := wipe_same (by rw [hl3, wipe_length]) fun j hj => hs3 j fun z => hj (hts j z)
          refine ⟨_, B2, ρ3, S3, ?_⟩
          have swp : ∀ {F4 B4 H4 : Hp} {ρ4 : En}, Sat X.K X.mg PN σ0 F4 B4 H4 σ3 ρ4 → Sat X.K X.mg PN σ0 F4 B4 H4 (wipe σ ov) (forget ov ρ4) := fun S4 =>
            Sat.swap hpn (S4.forget ov) (by rw [hl3]) fun j hj => (hs3 j fun z => hj (hts j z)).symm
          cases ec : c ρ3 with
          | bad => rw [ec] at hl'; cases hl'
          | exc c fs ρ4 => rw [ec] at hl'; cases hl'
          | ok s4 ρ4 =>
            rw [ec] at hl'
            cases s4 with
            | no => cases hl'
            | dp d4 => cases hl'
            | ow d4 => cases hl'
            | fz d4 =>
              cases d4 with
              | bl b =>
                cases b with
                | false =>
                  intro H4 B4 e4 S4
                  exact iteF ⟨acc, vs, B4, ρ4, (e'.trans e2).trans e4, swp S4, r'.mono (e2.trans e4), hl'⟩
                | true =>
                  simp only at hl'
                  intro H4 B4 e4 S4
                  refine iteT ⟨_, B4, ρ4, S4, ?_⟩
                  unfold xF at hl'
                  cases ef : f ρ4 with
                  | bad => rw [ef] at hl'; cases hl'
                  | exc c fs ρ5 => rw [ef] at hl'; cases hl'
                  | ok s5 ρ5 =>
                    rw [ef, R.bind_ok] at hl'
                    have key : ∀ d5, (if acc.length < 1000000 then lcL ov g c f (xs.drop (i + 1)) (acc ++ [d5]) (forget ov ρ5) else .bad) = .ok accF ρ2 → ∀ y H5 B5, Ext B4 B5 → Sat X.K X.mg PN σ0 (upd F L (.lst vs)) B5 H5 σ3 ρ5 → Rep X.K X.mg B5 y d5 →
                        ∃ acc', H5 L = some (.lst acc') ∧ acc'.length < sizeLine ∧ ∃ acc2 vs2 B2 ρ2', Ext B1 B2 ∧ Sat X.K X.mg PN σ0 (upd F L (.lst vs2)) B2 (upd H5 L (.lst (acc' ++ [y]))) (wipe σ ov) (forget ov ρ2') ∧ RepL X.K X.mg B2 vs2 acc2 ∧ lcL ov g c f (xs.drop (i + 1)) acc2 (forget ov ρ2') = .ok accF ρ2 := fun d5 hl' y H5 B5 e5 S5 r5 => by
                      split at hl'
                      · rename_i hz
                        have rv := r'.mono ((e2.trans e4).trans e5)
                        exact ⟨vs, (S5.fh L _ upd_same).1, by rw [rv.length]; exact line_lt hz, acc ++ [d5], vs ++ [y], B5, ρ5, ((e'.trans e2).trans e4).trans e5, (swp S5).grow hvL, rv.append (.cons r5 .nil), hl'⟩
                      · cases hl'
                    cases s5 with
                    | no => cases hl'
                    | dp d5 => cases hl'
                    | fz d5 => exact fun y H5 B5 e5 S5 r5 => key d5 hl' y H5 B5 e5 S5 r5
                    | ow d5 =>
                      intro y H5 B5 e5 S5 r5
                      obtain ⟨B6, e6, S6, r6⟩ := S5.freeze r5
                      exact key d5 hl' y H5 B6 (e5.trans e6) S6 r6
              | _ => cases hl'
      · have hie : i = xs.length := by omega
        subst hie
        rw [List.drop_length, lcL] at hl'
        cases hl'
        obtain ⟨S6, h6, h7, h8⟩ := S'.less (S1.fn hL) hvL
        refine .inl ⟨hJ.stop B' H' e' S'.bh (fun b o h => (S'.fh b o (by rw [upd_ne (ne_of_none h (S1.fn hL))]; exact h)).1), q _ H' B' (e1.trans e') (Sat.swap hpn S6 (wipe_length σ ov).symm fun j hj => (wipe_get hj).symm) ⟨L, rfl, S1.fn hL, h7, ⟨vs, h6, r'⟩, sep_v fun j s hj m => ?_⟩⟩
        rcases forget_get hj with ⟨_, z⟩ | ⟨z1, _⟩
        · subst z; cases m
        · exact h8 j s hj (by rw [fpS_move (wipe_get z1)]; exact m)
    · exact q.elim
theorem fe_lc {Mb Lb : List Bool} {elt tg iter : Expr} {ifs : List Expr} {scope : Scope} {own : List (Str × Nat)} {pos : Pos} {gi : En → R (List D)} {g : GG} {ts : List Nat} {c f : FX} (C : Cok X W k) (hN : X.N.Nodup) (hi : FJ X PN σ0 W tg iter gi) (ok : BlkOk X.N X.env.scope scope own)
    (hn : ∀ (s : Shared) (H : Hp) (C : Addr) (cl : List (Str × Addr)) (fp : List Addr), NamesOk (X.blk s H scope (compEnvC scope cl C X.env) fp) Mb Lb)
    (hg' : ∀ (s : Shared) (H : Hp) (C : Addr) (cl : List (Str × Addr)) (fp : List Addr), NamesOk (X.blk s H scope (compEnvC scope cl C X.env) fp) Mb Lb → FG (X.blk s H scope (compEnvC scope cl C X.env) fp) PN σ0 tg g ts) (ht' : ∀ (s : Shared) (H : Hp) (C : Addr) (cl : List (Str × Addr)) (fp : List Addr), NamesOk (X.blk s H scope (compEnvC scope cl C X.env) fp) Mb Lb → FTs (X.blk s H scope (compEnvC scope cl C X.env) fp) PN σ0 W0 ifs c)
    (he' : ∀ (s : Shared) (H : Hp) (C : Addr) (cl : List (Str × Addr)) (fp : List Addr), NamesOk (X.blk s H scope (compEnvC scope cl C X.env) fp) Mb Lb → FE (X.blk s H scope (compEnvC scope cl C X.env) fp) PN σ0 W0 elt f)
    (hts : ∀ i ∈ ts, i ∈ own.map (·.2) := by decide) (hpn : ∀ i ∈ own.map (·.2), i ∉ PN := by decide) (hs : ∀ x, foldedSetIterable iter X.env x = pure x := by intro _; rfl) :
    FE X PN σ0 W (.ListComp elt [⟨tg, iter, ifs, 0⟩] scope pos) (xLc (own.map (·.2)) gi g c f) := by
  have hg := fun s H C cl fp => hg' s H C cl fp (hn s H C cl fp)
  have ht := fun s H C cl fp => ht' s H C cl fp (hn s H C cl fp)
  have he := fun s H C cl fp => he' s H C cl fp (hn s H C cl fp)
  obtain ⟨ti, pi, qi⟩ := hi.ex
  exact ⟨_, pe_lc (g := cG X PN σ0 g ts) (tt := cT X PN σ0 W0 c) (te := cE X PN σ0 W0 f) C.calm hN pi ok (fun s H C cl fp => (hg s H C cl fp).pg) (fun s H C cl fp => (ht s H C cl fp).pt) (fun s H C cl fp => (he s H C cl fp).pe) hs, fun F B H σ ρ Q S q => lc_red qi hts hpn S q⟩
/-- name = [..] -/
theorem fs_setLc {Mb Lb M Ls : List Bool} (N : NamesOk X M Ls) (i : Nat) {y : Str} {py spos : Pos} {elt tg iter : Expr} {ifs : List Expr} {scope : Scope} {own : List (Str × Nat)} {pos : Pos} {gi : En → R (List D)} {g : GG} {ts : List Nat} {c f : FX} (C : Cok X W k) (hi : FJ X PN σ0 W tg iter gi) (ok : BlkOk X.N X.env.scope scope own)
    (hn : ∀ (s : Shared) (H : Hp) (C : Addr) (cl : List (Str × Addr)) (fp : List Addr), NamesOk (X.blk s H scope (compEnvC scope cl C X.env) fp) Mb Lb)
    (hg' : ∀ (s : Shared) (H : Hp) (C : Addr) (cl : List (Str × Addr)) (fp : List Addr), NamesOk (X.blk s H scope (compEnvC scope cl C X.env) fp) Mb Lb → FG (X.blk s H scope (compEnvC scope cl C X.env) fp) PN σ0 tg g ts) (ht' : ∀ (s : Shared) (H : Hp) (C : Addr) (cl : List (Str × Addr)) (fp : List Addr), NamesOk (X.blk s H scope (compEnvC scope cl C X.env) fp) Mb Lb → FTs (X.blk s H scope (compEnvC scope cl C X.env) fp) PN σ0 W0 ifs c)
    (he' : ∀ (s : Shared) (H : Hp) (C : Addr) (cl : List (Str × Addr)) (fp : List Addr), NamesOk (X.blk s H scope (compEnvC scope cl C X.env) fp) Mb Lb → FE (X.blk s H scope (compEnvC scope cl C X.env) fp) PN σ0 W0 elt f)
    (hyl : X.env.scope.names.lookup y = some .local) (hsw : swapsWith (.ListComp elt [⟨tg, iter, ifs, 0⟩] scope pos) (some (.Name y py)) spos.line X.env = pure true)
    (hts : ∀ i ∈ ts, i ∈ own.map (·.2) := by decide) (hpn : ∀ i ∈ own.map (·.2), i ∉ PN := by decide) (hp : i ∉ PN := by decide) (hy : X.N[i]? = some y := by rfl) (hs : ∀ x, foldedSetIterable iter X.env x = pure x := by intro _; rfl) :
    FS X PN σ0 W (.Assign [.Name y py] (.ListComp elt [⟨tg, iter, ifs, 0⟩] scope pos) spos) (ySet i (xLc (own.map (·.2)) gi g c f)) := by
  have hg := fun s H C cl fp => hg' s H C cl fp (hn s H C cl fp)
  have ht := fun s H C cl fp => ht' s H C cl fp (hn s H C cl fp)
  have he := fun s H C cl fp => he' s H C cl fp (hn s H C cl fp)
  obtain ⟨ti, pi, qi⟩ := hi.ex
  exact ⟨_, ps_setLc (g := cG X PN σ0 g ts) (tt := cT X PN σ0 W0 c) (te := cE X PN σ0 W0 f) C.calm N.nd hy hyl hsw pi ok (fun s H C cl fp => (hg s H C cl fp).pg) (fun s H C cl fp => (ht s H C cl fp).pt) (fun s H C cl fp => (he s H C cl fp).pe) hs, fun F B H σ ρ D' S q => lc_red qi hts hpn S
    (EPost.of (k := fun s ρ' => .ok .nx (ρ'.set i s)) (D' := D') (fun s ρ' v H' B' e S' z q' => q' _ H' B' (Ext.refl B') (S'.store hp z)) q)⟩
end
end FV

namespace FV
open PySem PySem.Spec PyProof.Rows L2

section
variable {X : Cx} {PN : List Nat} {σ0 : Gs} {W : WX} {k : Nat}
/-! ### raise -/
abbrev veB : List Value := [.type "ValueError", .type "Exception", .type "BaseException", .type "object"]
structure ExcAt (X : Cx) (c : Str) : Prop where
  ex : ∃ C, X.mg c = some (.ref C) ∧ PySem.W.excIn X.K C veB "ValueError.__new__" = true ∧ PySem.W.keepIn X.K (.ref C) = true ∧ PySem.W.subIn X.K (.ref C) (.type "BaseException") = some true ∧ PySem.W.typeIn X.K (.ref C) = some (.type "type")
theorem pmk_own0 {C : Addr} {bmB : List Value} {B newId initId : String} {x : Str} {p pos : Pos} (F : ExcBaseFacts B newId initId bmB) (q : PySem.W.excIn X.K C bmB newId = true) (gC : X.mg x = some (.ref C))
    (kC : PySem.W.keepIn X.K (.ref C) = true) (r : Raises X (.ref C)) (hg : Gl X x) (hdb : (x == ("__debug__" : Str)) = false := by decide) :
    PMk X (.Call (.Name x p) [] [] pos) (fun σ H Q => Q (.ref C) none H) := by
  intro pins s σ H Q I h
  refine wpAny_Call_Name_kw (ld_glob I hg gC ?_ hdb)
  refine PySem.W.callWith_K0 (first := []) I.kIn kC ?_
  show wpAny _ _ (call (.ref C) []) _ _ _
  obtain ⟨bm, N, nm, qn, bs, hdct, sn, sub, ab, col, dd, k0, k1, k2, k3, k5, mN, hC, hN, hni, T⟩ := exc_obj I.kIn q
  refine wpAny_call_exc_subT F T hC hN hni (fun h' e hm => ?_) (Nat.zero_le _)
  exact mk_of I hm r h (I.hok.gone hm.new)
def yRaise (c : Str) : FY := fun ρ => .exc c [] ρ
theorem fs_raise {x : Str} {p pos pos' : Pos} (C : Cok X W k) (e : ExcAt X x) (hg : Gl X x) (hdb : (x == ("__debug__" : Str)) = false := by decide) : FS X PN σ0 W (.Raise (some (.Call (.Name x p) [] [] pos)) none pos') (yRaise x) := by
  obtain ⟨A, h1, h2, h3, h4, h5⟩ := e.ex
  exact ⟨_, ps_raise C.calm C.tk (pmk_own0 PySem.F.excBase_ValueError h2 h1 h3 (raises_own h4 h5) hg hdb), fun F B H σ ρ D' S q => q _ none σ H B (Ext.refl B) S ⟨A, h1, rfl, rfl⟩⟩

/-! ### try -/
theorem NamesOk.tr {M L : List Bool} (N : NamesOk X M L) {pn : List (Addr × Obj)} {xe : Value → Shared → Prop} : NamesOk (X.tr pn xe) M L := ⟨N.vis, N.loc, N.fn, N.db, N.cd, N.nd⟩
theorem NamesOk.suite {M L : List Bool} (N : NamesOk X M L) {a : Addr} {pn : List (Addr × Obj)} : NamesOk (X.suite a pn) M L := ⟨N.vis, N.loc, N.fn, N.db, N.cd, N.nd⟩
theorem DefAt.tr {x : Str} {ps : List Str} {own : List Bool} {G : GF} (d : DefAt X k x ps own G) {pn : List (Addr × Obj)} {xe : Value → Shared → Prop} : DefAt (X.tr pn xe) k x ps own G := ⟨d.at_⟩
theorem ExcAt.tr {x : Str} (d : ExcAt X x) {pn : List (Addr × Obj)} {xe : Value → Shared → Prop} : ExcAt (X.tr pn xe) x := ⟨d.ex⟩
theorem Cok.toTry (C : Cok X W k) {W' : WX} {pn : List (Addr × Obj)} {xe : Value → Shared → Prop} (tk : Takes (X.tr pn xe) W') (po : PassesOwn (model X.prog X.w) X.A X.env xe) : Cok (X.tr pn xe) W' k := ⟨C.calm, tk, po, C.hr⟩
/-- which handler takes -/
abbrev Mt := Str → Option Bool
def MtOk (X : Cx) (hc : Value) (mt : Mt) : Prop := ∀ c b C, mt c = some b → X.mg c = some (.ref C) → PySem.W.exmOne X.K (.ref C) hc = some b
/-- what is known of the caught exception -/
def Caught (σ0 : Gs) (fs : List (Str × D)) (od : Option Addr) : Prop := match fs with
  | [] => od = none
  | fs => ∃ dd vs, od = some dd ∧ (dd, vs, fs) ∈ σ0.gh
def endT (i : Nat) (r : R Fl) : R Fl := match r with
  | .ok fl ρ2 => .ok fl (ρ2.set i .no)
  | _ => .bad
def yTryAs (i : Nat) (mt : Mt) (g : FY) (gs : Str → List (Str × D) → FY) : FY := fun ρ => match g ρ with
  | .exc c fs ρ1 => match mt c with
    | some true => if i < ρ1.length then endT i (gs c fs (ρ1.set i .no)) else .bad
    | some false => .exc c fs ρ1
    | none => .bad
  | .ok fl ρ1 => .ok fl ρ1
  | .bad => .bad
theorem set_no_get {ρ : En} {i j : Nat} {s : Sl} (h : (ρ.set i .no)[j]? = some s) : s = .no ∨ (j ≠ i ∧ ρ[j]? = some s) := by
  by_cases e : i = j
  · subst e
    rw [List.getElem?_set_self'] at h
    cases q : ρ[i]? with
    | none => rw [q] at h; cases h
    | some t => rw [q] at h; cases h; exact .inl rfl
  · rw [List.getElem?_set_ne e] at h
    exact .inr ⟨fun z => e z.symm, h⟩
theorem Sat.pokeSep {F B H : Hp} {σ : L2.St} {ρ : En} {i : Nat} {o : Option L2.V} (S : Sat X.K X.mg PN σ0 F B H σ ρ) :
    ∀ (j k : Nat) (s s' : Sl) (x : Addr), (ρ.set i .no)[j]? = some s → (ρ.set i .no)[k]? = some s' → x ∈ fpS H (σ.set i o) j s → x ∈ fpS H (σ.set i o) k s' → j = k := fun j k s s' x h1 h2 m1 m2 => by
  rcases set_no_get h1 with z | ⟨n1, h1⟩
  · subst z; cases m1
  · rcases set_no_get h2 with z | ⟨n2, h2⟩
    · subst z; cases m2
    · rw [fpS_move (List.getElem?_set_ne (Ne.symm n1))] at m1
      rw [fpS_move (List.getElem?_set_ne (Ne.symm n2))] at m2
      exact S.sep h1 h2 m1 m2
/-- slot i is of no account -/
theorem Sat.poke {PN' : List Nat} {σ0' : Gs} {F B H : Hp} {σ : L2.St} {ρ : En} {i : Nat} {o : Option L2.V} (S : Sat X.K X.mg PN σ0 F B H σ ρ) (hp : ∀ j ∈ PN', (σ.set i o)[j]? = σ0'.st[j]?) (hg : ∀ p ∈ σ0'.gh, B p.1 = some (.xd p.2.1) ∧ RepF X.K X.mg B p.2.1 p.2.2) (hw : ∀ q ∈ σ0'.vw, VwOk X.K X.mg B F q) : Sat X.K X.mg PN' σ0' F B H (σ.set i o) (ρ.set i .no) where
  len := by rw [List.length_set, List.length_set]; exact S.len
  pin := hp
  gh := hg
  bh := S.bh
  fh := S.fh
  sl := fun j s h => by
    rcases set_no_get h with e | ⟨hne, h⟩
    · subst e; trivial
    · exact (S.sl j s h).move (List.getElem?_set_ne (Ne.symm hne)) fun x hx => ((S.sl j s h).free hx).1
  dj := (sep_dj (Sat.pokeSep S)).1
  dq := (sep_dj (Sat.pokeSep S)).2
  vw := hw
theorem VOk.poke {F B H : Hp} {σ : L2.St} {ρ : En} {i : Nat} {o : Option L2.V} {v : L2.V} {s : Sl} (h : VOk X.K X.mg F B H σ ρ v s) : VOk X.K X.mg F B H (σ.set i o) (ρ.set i .no) v s := by
  cases s with
  | no => exact h
  | fz d => exact h
  | dp t =>
    refine ⟨h.1, h.2.1, fun x hx => ?_⟩
    obtain ⟨g1, g2, g3⟩ := h.2.2 x hx
    refine ⟨g1, g2, fun j s hj m => ?_⟩
    rcases set_no_get hj with z | ⟨n, hj⟩
    · subst z; cases m
    · rw [fpS_move (List.getElem?_set_ne (Ne.symm n))] at m
      exact g3 j s hj m
  | ow d =>
    obtain ⟨a, rfl, g1, g2, g3, g4, g5⟩ := h
    refine ⟨a, rfl, g1, g2, g3, fun j d' hj e => ?_, fun j t v hj e => ?_⟩
    · rcases set_no_get hj with z | ⟨n, hj⟩
      · cases z
      · rw [List.getElem?_set_ne (Ne.symm n)] at e
        exact g4 j d' hj e
    · rcases set_no_get hj with z | ⟨n, hj⟩
      · cases z
      · rw [List.getElem?_set_ne (Ne.symm n)] at e
        exact g5 j t v hj e
theorem fs_tryAs {M L : List Bool} (N : NamesOk X M L) (i : Nat) {x n : Str} {hc : Value} {body suite : List Stmt} {b₀ : Stmt} {np pos pos' : Pos} {mt : Mt} {g : FY} {gs : Str → List (Str × D) → FY} (C : Cok X W k) (hs : X.stack = X.env :: X.outer) (hf : X.env.frame = some X.env.locals) (hnm : Names X x hc) (hmt : MtOk X hc mt)
    (hb : ∀ (W' : WX) (pn : List (Addr × Obj)) (xe : Value → Shared → Prop), Cok (X.tr pn xe) W' k → FB (X.tr pn xe) PN σ0 W' body g)
    (hsu : ∀ (c : Str) (fs : List (Str × D)) (Ca a : Addr) (oe : Obj) (od : Option Addr) (pn : List (Addr × Obj)) (σ0' : Gs), mt c = some true → X.mg c = some (.ref Ca) → Zc (.ref Ca) od oe → (∃ vs, oe.data = .fields vs) → σ0'.st[i]? = some (some (V.ref a)) → Caught σ0' fs od → FB (X.suite a ((a, oe) :: pn)) (i :: PN) σ0' W0 (b₀ :: suite) (gs c fs))
    (hln : X.env.kindOf n = some .local) (hp : i ∉ PN := by decide) (hi : X.N[i]? = some n := by rfl) : FS X PN σ0 W (.Try body [.ExceptHandler (some (.Name x np)) (some n) (b₀ :: suite) pos'] [] [] pos) (yTryAs i mt g gs) := by
  refine ⟨_, ps_try_as (tb := fun W' => cS X PN σ0 W' g) (ts := fun a cls od => fun D' σ H => ∃ c fs Ca σ0', mt c = some true ∧ X.mg c = some (.ref Ca) ∧ cls = .ref Ca ∧ σ0'.st[i]? = some (some (V.ref a)) ∧ Caught σ0' fs od ∧ cS X (i :: PN) σ0' W0 (gs c fs) D' σ H) hs hf N.nd hi hln hnm C.tk
    (fun W' pn xe tk po => (hb W' pn xe (C.toTry tk po)).ps) (fun a oe cls od pn hz hv => ⟨fun pins s σ H D' I ⟨c, fs, Ca, σ0', h1, h2, h3, h4, h5, h6⟩ => ?_⟩), fun F B H σ ρ D' S q => ?_⟩
  · subst h3
    exact (hsu c fs Ca a oe od pn σ0' h1 h2 hz hv h4 h5).ps.run pins s σ H D' I h6
  · refine ⟨F, B, ρ, S, ?_⟩
    unfold yTryAs at q
    cases eg : g ρ with
    | bad => rw [eg] at q; exact q
    | ok fl ρ1 =>
      rw [eg] at q
      cases fl with
      | nx => exact q
      | bk => exact q
      | ct => exact q
      | rt s => exact q
    | exc c fs ρ1 =>
      rw [eg] at q
      intro cls od σ' H' B' e' S' z
      obtain ⟨Ca, z1, z2, z3⟩ := z
      subst z2
      simp only at q
      cases em : mt c with
      | none => rw [em] at q; exact q.elim
      | some b =>
        rw [em] at q
        refine ⟨b, hmt c b Ca em z1, fun hb a ha => ?_, fun hb => ?_⟩
        · subst hb
          simp only at q
          split at q
          case isFalse => exact q.elim
          rename_i hir
          have hlt : i < σ'.length := Nat.lt_of_lt_of_le hir S'.len
          obtain ⟨gh', hgh1, hgh2, hgh3⟩ : ∃ gh' : List (Addr × List (Str × L2.V) × List (Str × D)), (∀ p ∈ σ0.gh, p ∈ gh') ∧ (∀ p ∈ gh', B' p.1 = some (.xd p.2.1) ∧ RepF X.K X.mg B' p.2.1 p.2.2) ∧ Caught { st := σ'.set i (some (.ref a)), gh := gh', vw := σ0.vw } fs od := by
            cases fs with
            | nil => exact ⟨σ0.gh, fun p hp => hp, S'.gh, z3⟩
            | cons f fs =>
              obtain ⟨dd, vs, y1, y2, y3⟩ := z3
              refine ⟨(dd, vs, f :: fs) :: σ0.gh, fun p hp => List.mem_cons_of_mem _ hp, fun p hp => ?_, dd, vs, y1, List.mem_cons_self⟩
              rcases List.mem_cons.mp hp with y | y
              · subst y; exact ⟨y2, y3⟩
              · exact S'.gh p y
          refine ⟨c, fs, Ca, { st := σ'.set i (some (.ref a)), gh := gh', vw := σ0.vw }, em, z1, rfl, by rw [List.getElem?_set_self hlt], hgh3, F, B', ρ1.set i .no, S'.poke (fun _ _ => rfl) hgh2 S'.vw, ?_⟩
          have q := SPost.mono e' q
          have down : ∀ {B2 H2 : Hp} {σ2 : L2.St} {ρ2 : En}, Ext B' B2 → Sat X.K X.mg (i :: PN) { st := σ'.set i (some (.ref a)), gh := gh', vw := σ0.vw } F B2 H2 σ2 ρ2 → Sat X.K X.mg PN σ0 F B2 H2 (σ2.set i none) (ρ2.set i .no) := fun {B2 H2 σ2 ρ2} e2 S2 =>
            S2.poke (fun j hj => by
              have hne : i ≠ j := fun z => hp (by rw [z]; exact hj)
              rw [List.getElem?_set_ne hne, S2.pin j (List.mem_cons_of_mem _ hj), ← S'.pin j hj]
              show (σ'.set i (some (.ref a)))[j]? = _
              rw [List.getElem?_set_ne hne]) (fun p hp => S2.gh p (hgh1 p hp)) S2.vw
          cases es : gs c fs (ρ1.set i .no) with
          | bad => rw [es] at q; exact q.elim
          | exc c2 fs2 ρ2 => rw [es] at q; exact q.elim
          | ok fl ρ2 =>
            rw [es] at q
            cases fl with
            | nx => exact fun σ2 H2 B2 e2 S2 => q _ H2 B2 e2 (down e2 S2)
            | bk => exact fun σ2 H2 B2 e2 S2 => q _ H2 B2 e2 (down e2 S2)
            | ct => exact fun σ2 H2 B2 e2 S2 => q _ H2 B2 e2 (down e2 S2)
            | rt s => exact fun v σ2 H2 B2 e2 S2 y => q v _ H2 B2 e2 (down e2 S2) y.poke
        · subst hb
          exact q _ od σ' H' B' e' S' ⟨Ca, z1, rfl, z3⟩
/-! ### what a suite says of the exception -/
/-- isinstance(e, C): r for each class that may be caught -/
theorem fe_exIs {M L : List Bool} {a D : Addr} {oe : Obj} {pn : List (Addr × Obj)} (N : NamesOk (X.suite a ((a, oe) :: pn)) M L) (i : Nat) {e y : Str} {pe pc pis pos : Pos} {c : L2.V} {cv : Value} {b : Bool} (T : ExcC X.K D) (hz : Zc (.ref D) none oe) (hf : ∃ vs, oe.data = .fields vs) (hst : σ0.st[i]? = some (some (V.ref a)))
    (bi : Blt (X.suite a ((a, oe) :: pn)) "isinstance") (hc : PE (X.suite a ((a, oe) :: pn)) (.Name y pc) (tC c)) (hcv : ∀ u, RelV c u → u = cv) (hk : PySem.W.kitOne X.K (.ref D) cv = some b)
    (hi : (X.suite a ((a, oe) :: pn)).N[i]? = some e := by rfl) (hm : M[i]? = some true := by rfl) :
    FE (X.suite a ((a, oe) :: pn)) (i :: PN) σ0 W (.Call (.Name "isinstance" pis) [.Name e pe, .Name y pc] [] pos) (xC (.bl b)) := by
  refine ⟨_, pe_callB (call_isE T hz hf) bi.gl bi.no (by decide +kernel) (pa_cons (N.pe i hi hm) (pa_cons hc pa_nil)), fun F B H σ ρ Q S q => ?_⟩
  have h1 : σ[i]? = some (some (V.ref a)) := by rw [S.pin i List.mem_cons_self]; exact hst
  exact ⟨.ref a, h1, c, cv, b, rfl, hcv, hk, q _ H B (Ext.refl B) S (.bl b)⟩
end
end FV

namespace FV
open PySem PySem.Spec PyProof.Rows L2

/-! ### what a text's proof says of its parts -/
structure FunAt (K : PySem.W.Frag) (mg : Str → Option Value) (x : Str) (st : Stmt) (ps : List Str) : Prop where
  ex : ∃ f fd, Fun K x x st f fd ∧ mg x = some (.ref f) ∧ Binds K fd ps []
abbrev DF (P : Program) (w : World) (K : PySem.W.Frag) (mg : Str → Option Value) (base : Heap) (k : Nat) (x : Str) (ps : List Str) (own : List Bool) (G : GF) : Prop :=
  ∃ f fd, FnOk P w K mg base (L2.CX P w) k f fd ps (spF K mg own G) ∧ mg x = some (.ref f) ∧ PySem.W.keepIn K (.ref f) = true ∧ Binds K fd ps []
structure ExcAtK (K : PySem.W.Frag) (mg : Str → Option Value) (c : Str) : Prop where
  ex : ∃ C, mg c = some (.ref C) ∧ PySem.W.excIn K C veB "ValueError.__new__" = true ∧ PySem.W.keepIn K (.ref C) = true ∧ PySem.W.subIn K (.ref C) (.type "BaseException") = some true ∧ PySem.W.typeIn K (.ref C) = some (.type "type")
/-- handler h's answers -/
def MtK (K : PySem.W.Frag) (mg : Str → Option Value) (h : Str) (tab : List (Str × Bool)) : Prop := ∀ Ch, mg h = some (.ref Ch) → ∀ c b C, tab.lookup c = some b → mg c = some (.ref C) → PySem.W.exmOne K (.ref C) (.ref Ch) = some b
theorem MtK.ok {X : Cx} {h : Str} {tab : List (Str × Bool)} {Ch : Addr} (m : MtK X.K X.mg h tab) (g : X.mg h = some (.ref Ch)) : MtOk X (.ref Ch) (fun c => tab.lookup c) := fun c b C e hc => m Ch g c b C e hc
/-- isinstance(e, h) -/
def IsK (K : PySem.W.Frag) (mg : Str → Option Value) (h : Str) (tab : List (Str × Bool)) : Prop := ∃ Ch, mg h = some (.ref Ch) ∧ ∀ c b C, tab.lookup c = some b → mg c = some (.ref C) → ExcC K C ∧ PySem.W.kitOne K (.ref C) (.ref Ch) = some b
def xEx (tab : List (Str × Bool)) (c : Str) (fs : List (Str × D)) : FX := fun ρ => match fs with
  | [] => (match tab.lookup c with
    | some b => .ok (.fz (.bl b)) ρ
    | none => .bad)
  | _ => .bad
/-! ### names by one look -/
def nmB (sc : Scope) (fnb : Str → Bool) : List Str → List Bool → List Bool → Bool
  | [], _, _ => true
  | x :: N, M, L => (!(M.headD false) || (match sc.names.lookup x with | some .local => true | some .cell => true | some .free => true | _ => false)) &&
      (!(L.headD false) || (match sc.names.lookup x with | some .local => true | some .cell => fnb x | _ => false)) && (!(x == ("__debug__" : Str))) && (!(x == ("__classdict__" : Str))) && nmB sc fnb N M.tail L.tail
theorem nmB_at {sc : Scope} {fnb : Str → Bool} : ∀ {N : List Str} {M L : List Bool}, nmB sc fnb N M L = true → ∀ (i : Nat) (x : Str), N[i]? = some x →
    (M[i]? = some true → Vis sc x) ∧ (L[i]? = some true → Loc sc x ∧ (fnb x = true ∨ sc.names.lookup x = some .local)) ∧ (x == ("__debug__" : Str)) = false ∧ (x == ("__classdict__" : Str)) = false
  | [], M, L, _, i, x, h => by simp at h
  | y :: N, M, L, h, i, x, hx => by
    unfold nmB at h
    simp only [Bool.and_eq_true] at h
    obtain ⟨⟨⟨⟨h1, h2⟩, h3⟩, h4⟩, h5⟩ := h
    cases i with
    | zero =>
      simp at hx
      subst hx
      refine ⟨fun hm => ?_, fun hl => ?_, by simpa using h3, by simpa using h4⟩
      · have e : M.headD false = true := by
          cases M with
          | nil => simp at hm
          | cons a r => simpa using hm
        rw [e] at h1
        simp only [Bool.not_true, Bool.false_or] at h1
        unfold Vis
        split at h1 <;> simp_all
      · have e : L.headD false = true := by
          cases L with
          | nil => simp at hl
          | cons a r => simpa using hl
        rw [e] at h2
        simp only [Bool.not_true, Bool.false_or] at h2
        unfold L2.Loc
        split at h2 <;> simp_all
    | succ i =>
      have hx' : N[i]? = some x := by simpa using hx
      obtain ⟨g1, g2, g3, g4⟩ := nmB_at h5 i x hx'
      refine ⟨fun hm => g1 ?_, fun hl => g2 ?_, g3, g4⟩
      · cases M with
        | nil => simp at hm
        | cons a r => simpa using hm
      · cases L with
        | nil => simp at hl
        | cons a r => simpa using hl
theorem namesOk_gen {X : Cx} {N : List Str} {sc : Scope} {fnb : Str → Bool} {M L : List Bool} (hN : X.N = N) (hs : X.env.scope = sc) (hf : ∀ x, fnb x = true → X.fn x = true) (nd : N.Nodup) (h : nmB sc fnb N M L = true) : NamesOk X M L := by
  subst hN hs
  refine ⟨fun i x hx hm => ((nmB_at h i x hx).1 hm), fun i x hx hm => ((nmB_at h i x hx).2.1 hm).1, fun i x hx hm => ?_, fun x hx => ?_, fun x hx => ?_, nd⟩
  · exact ((nmB_at h i x hx).2.1 hm).2.imp (hf x) id
  · obtain ⟨i, hi⟩ := List.mem_iff_getElem?.mp hx
    exact (nmB_at h i x hi).2.2.1
  · obtain ⟨i, hi⟩ := List.mem_iff_getElem?.mp hx
    exact (nmB_at h i x hi).2.2.2
theorem namesOk_of {X : Cx} {N : List Str} {sc : Scope} {M L : List Bool} (hN : X.N = N) (hs : X.env.scope = sc) (hf : ∀ x, X.fn x = true) (nd : N.Nodup) (h : nmB sc (fun _ => true) N M L = true) : NamesOk X M L := namesOk_gen hN hs (fun x _ => hf x) nd h
theorem namesOk_blk {X : Cx} {N : List Str} {sc scope : Scope} {M L : List Bool} {s : Shared} {H : Hp} {C : Addr} {cl : List (Str × Addr)} {fp : List Addr} (hN : X.N = N) (hs : X.env.scope = sc) (nd : N.Nodup) (h : nmB (relS scope sc) (fun x => scope.names.lookup x == some .cell) N M L = true) :
    NamesOk (X.blk s H scope (compEnvC scope cl C X.env) fp) M L := by
  subst hs
  exact namesOk_gen (fnb := fun x => scope.names.lookup x == some .cell) hN rfl (fun x h => h) nd h
theorem blkOk_of {X : Cx} {N : List Str} {sc scope : Scope} {own : List (Str × Nat)} (hN : X.N = N) (hs : X.env.scope = sc) (h : blkC N sc scope own = true) : BlkOk X.N X.env.scope scope own := by
  subst hN hs
  exact blkOk_by h
theorem loc_of {X : Cx} {sc : Scope} {y : Str} (hs : X.env.scope = sc) (h : sc.names.lookup y = some .local) : X.env.scope.names.lookup y = some .local := by
  subst hs
  exact h
abbrev gSub : G2 := gI0 fun i j => .int (i - j)
abbrev gAnd : G2 := gI0 fun i j => .int (Builtin.bitAnd i j)
abbrev gOr : G2 := gI0 fun i j => .int (Builtin.bitOr i j)
abbrev gXor : G2 := gI0 fun i j => .int (Builtin.bitXor i j)
abbrev gLt : G2 := gCmp fun i j => decide (i < j)
abbrev gLe : G2 := gCmp fun i j => decide (i ≤ j)
abbrev gGt : G2 := gCmp fun i j => decide (j < i)
abbrev gGe : G2 := gCmp fun i j => decide (j ≤ i)
section
variable {X : Cx} {PN : List Nat} {σ0 : Gs} {W : WX} {k : Nat}
theorem fe_isE {M L : List Bool} {a Ca : Addr} {oe : Obj} {od : Option Addr} {pn : List (Addr × Obj)} {c h : Str} {fs : List (Str × D)} {tab : List (Str × Bool)} (N : NamesOk (X.suite a ((a, oe) :: pn)) M L) (i : Nat) {e : Str} {pe pc pis pos : Pos} (T : IsK X.K X.mg h tab)
    (hC : X.mg c = some (.ref Ca)) (hz : Zc (.ref Ca) od oe) (hf : ∃ vs, oe.data = .fields vs) (hst : σ0.st[i]? = some (some (V.ref a))) (hcau : Caught σ0 fs od) (bi : Blt (X.suite a ((a, oe) :: pn)) "isinstance") (hg : Gl (X.suite a ((a, oe) :: pn)) h) (hdb : (h == ("__debug__" : Str)) = false := by decide)
    (hi : (X.suite a ((a, oe) :: pn)).N[i]? = some e := by rfl) (hm : M[i]? = some true := by rfl) :
    FE (X.suite a ((a, oe) :: pn)) (i :: PN) σ0 W (.Call (.Name "isinstance" pis) [.Name e pe, .Name h pc] [] pos) (xEx tab c fs) := by
  obtain ⟨Ch, hh, T⟩ := T
  cases fs with
  | cons f fs =>
    have hp : PE (X.suite a ((a, oe) :: pn)) (.Call (.Name "isinstance" pis) [.Name e pe, .Name h pc] [] pos) (fun _ _ _ => False) := ⟨fun _ _ _ _ _ _ h => h.elim⟩
    exact ⟨_, hp, fun F B H σ ρ Q S q => q⟩
  | nil =>
    cases ht : tab.lookup c with
    | none =>
      have hp : PE (X.suite a ((a, oe) :: pn)) (.Call (.Name "isinstance" pis) [.Name e pe, .Name h pc] [] pos) (fun _ _ _ => False) := ⟨fun _ _ _ _ _ _ h => h.elim⟩
      refine ⟨_, hp, fun F B H σ ρ Q S q => ?_⟩
      unfold xEx at q
      rw [ht] at q
      exact q
    | some b =>
      obtain ⟨t1, t2⟩ := T c b Ca ht hC
      have hod : od = none := hcau
      subst hod
      have := fe_exIs (PN := PN) (W := W) (pe := pe) (pc := pc) (pis := pis) (pos := pos) N i t1 hz hf hst bi (pe_glob hg hh (v := .ref Ch) rfl hdb) (fun u r => r) t2 hi hm
      obtain ⟨t, pt, qt⟩ := this.ex
      refine ⟨t, pt, fun F B H σ ρ Q S q => qt F B H σ ρ Q S ?_⟩
      unfold xEx at q
      rw [ht] at q
      exact q
end
end FV

namespace FV
open PySem PySem.Spec PyProof.Rows L2

/-! ### how the functions of environments are reckoned: first-order, so that nothing is looked into before its turn -/
def kSeq (q : FY) (r : R Fl) : R Fl := match r with
  | .ok .nx ρ' => q ρ'
  | .ok fl ρ' => .ok fl ρ'
  | .exc c fs ρ' => .exc c fs ρ'
  | .bad => .bad
def kFin (own : List Bool) (r : R Fl) : R Fl := match r with
  | .ok f ρ' => .ok f (keepO own ρ')
  | .exc c fs ρ' => .exc c fs (keepO own ρ')
  | .bad => .bad
def kX (r : R Sl) : R Fl := match r with
  | .ok _ ρ' => .ok .nx ρ'
  | .exc c fs ρ' => .exc c fs ρ'
  | .bad => .bad
def kRet (r : R Sl) : R Fl := match r with
  | .ok s ρ' => .ok (.rt s) ρ'
  | .exc c fs ρ' => .exc c fs ρ'
  | .bad => .bad
def kSet (i : Nat) (r : R Sl) : R Fl := match r with
  | .ok s ρ' => .ok .nx (ρ'.set i s)
  | .exc c fs ρ' => .exc c fs ρ'
  | .bad => .bad
def kIf (p q : FY) (r : R Sl) : R Fl := match r with
  | .ok (.fz (.bl b)) ρ' => if b = true then p ρ' else q ρ'
  | .ok _ _ => .bad
  | .exc c fs ρ' => .exc c fs ρ'
  | .bad => .bad
def kIfx (p q : FX) (r : R Sl) : R Sl := match r with
  | .ok (.fz (.bl b)) ρ' => if b = true then p ρ' else q ρ'
  | .ok _ _ => .bad
  | .exc c fs ρ' => .exc c fs ρ'
  | .bad => .bad
def kAnd (q : FX) (r : R Sl) : R Sl := match r with
  | .ok (.fz (.bl b)) ρ' => if b = true then q ρ' else .ok (.fz (.bl false)) ρ'
  | .ok _ _ => .bad
  | .exc c fs ρ' => .exc c fs ρ'
  | .bad => .bad
def kOr (q : FX) (r : R Sl) : R Sl := match r with
  | .ok (.fz (.bl b)) ρ' => if b = true then .ok (.fz (.bl true)) ρ' else q ρ'
  | .ok _ _ => .bad
  | .exc c fs ρ' => .exc c fs ρ'
  | .bad => .bad
def kNot (r : R Sl) : R Sl := match r with
  | .ok (.fz (.bl b)) ρ' => .ok (.fz (.bl (!b))) ρ'
  | .ok _ _ => .bad
  | .exc c fs ρ' => .exc c fs ρ'
  | .bad => .bad
def kF (r : R Sl) : R Sl := match r with
  | .ok (.fz d) ρ' => .ok (.fz d) ρ'
  | .ok (.ow d) ρ' => .ok (.fz d) ρ'
  | .ok _ _ => .bad
  | .exc c fs ρ' => .exc c fs ρ'
  | .bad => .bad
def cst (d : D) : Th := fun _ => some d
def kA (r : R Sl) : R Th := match r with
  | .ok (.fz d) ρ' => .ok (cst d) ρ'
  | .ok (.ow d) ρ' => .ok (cst d) ρ'
  | .ok _ _ => .bad
  | .exc c fs ρ' => .exc c fs ρ'
  | .bad => .bad
def slD' (s : Sl) : Option D := match s with
  | .fz d => some d
  | .ow d => some d
  | _ => none
def rd (i : Nat) : Th := fun ρ => slD' ((ρ[i]?).getD .no)
def kR (s : Sl) (i : Nat) (ρ : En) : R Th := match s with
  | .no => .bad
  | .dp _ => .bad
  | _ => .ok (rd i) ρ
def kV (s : Sl) (i : Nat) (ρ : En) : R Sl := match s with
  | .fz d => .ok (.fz d) ρ
  | .ow d => .ok (.fz d) (ρ.set i (.fz d))
  | .dp t => .ok (.fz t.strip) (ρ.set i (.fz t.strip))
  | .no => .bad
def kM (s : Sl) (i : Nat) (ρ : En) : R Sl := match s with
  | .fz d => .ok (.fz d) ρ
  | .ow d => .ok (.ow d) (ρ.set i .no)
  | .dp t => .ok (.fz t.strip) (ρ.set i (.fz t.strip))
  | .no => .bad
def ap2 (g : G2) (a b : Option D) : Option Sl := a.bind fun d => b.bind fun e => g d e
def ap1 (g : D → Option Sl) (a : Option D) : Option Sl := a.bind g
def apL (g : List D → Option Sl) (a : Option (List D)) : Option Sl := a.bind g
def kB2 (g : G2) (t : Th) (r : R Th) : R Sl := match r with
  | .ok u ρ' => ofO (ap2 g (t ρ') (u ρ')) ρ'
  | .exc c fs ρ' => .exc c fs ρ'
  | .bad => .bad
def kB1 (g : G2) (b : En → R Th) (r : R Th) : R Sl := match r with
  | .ok t ρ' => kB2 g t (b ρ')
  | .exc c fs ρ' => .exc c fs ρ'
  | .bad => .bad
def kU (g : D → Option Sl) (r : R Th) : R Sl := match r with
  | .ok t ρ' => ofO (ap1 g (t ρ')) ρ'
  | .exc c fs ρ' => .exc c fs ρ'
  | .bad => .bad
def kL (g : List D → Option Sl) (r : R (List Th)) : R Sl := match r with
  | .ok t ρ' => ofO (apL g (evTh t ρ')) ρ'
  | .exc c fs ρ' => .exc c fs ρ'
  | .bad => .bad
def kLc2 (t : Th) (r : R (List Th)) : R (List Th) := match r with
  | .ok ts ρ' => .ok (t :: ts) ρ'
  | .exc c fs ρ' => .exc c fs ρ'
  | .bad => .bad
def kLc1 (l : En → R (List Th)) (r : R Th) : R (List Th) := match r with
  | .ok t ρ' => kLc2 t (l ρ')
  | .exc c fs ρ' => .exc c fs ρ'
  | .bad => .bad
def co1 (a : Option D) (b : Option (List D)) : Option (List D) := a.bind fun d => b.bind fun ds => some (d :: ds)
def kCc2 (a : Ar) (r : R (List Ar)) : R (List Ar) := match r with
  | .ok ts ρ' => .ok (a :: ts) ρ'
  | .exc c fs ρ' => .exc c fs ρ'
  | .bad => .bad
def kCc1 (l : En → R (List Ar)) (r : R Sl) : R (List Ar) := match r with
  | .ok (.fz d) ρ' => kCc2 (.fz d) (l ρ')
  | .ok (.ow d) ρ' => kCc2 (.fz d) (l ρ')
  | .ok _ _ => .bad
  | .exc c fs ρ' => .exc c fs ρ'
  | .bad => .bad
def kCo (s : Sl) (i : Nat) (l : En → R (List Ar)) (ρ : En) : R (List Ar) := match s with
  | .ow _ => kCc2 (.sl i) (l ρ)
  | .dp _ => kCc2 (.sl i) (l ρ)
  | _ => .bad
def nodB (l : List Nat) : Bool := decide l.Nodup
theorem nod0 : nodB [] = true := by decide
theorem nod1 {i : Nat} : nodB [i] = true := decide_eq_true (by simp)
theorem nod2 {i j : Nat} (h : i ≠ j) : nodB [i, j] = true := decide_eq_true (by simp [h])
def arsB (own : List Bool) (ars : List Ar) : Bool := arsOk own ars && decide (slots ars).Nodup
def kArg (G : GF) (ars : List Ar) (ρ : En) (b : Bool) (o : Option En) : R Sl := match b, o with
  | true, some ρa => endC ars ρ (G ρa)
  | _, _ => .bad
def kCall (own : List Bool) (G : GF) (r : R (List Ar)) : R Sl := match r with
  | .ok ars ρ => kArg G ars ρ (arsB own ars) (argEn ars ρ)
  | .exc c fs ρ' => .exc c fs ρ'
  | .bad => .bad
def sla (s : Sl) : Option Sl := match s with
  | .ow d => some (.ow d)
  | .dp t => some (.dp t)
  | _ => none
def coE (a : Option Sl) (b : Option En) : Option En := a.bind fun s => b.bind fun l => some (s :: l)
def coD (d : D) (b : Option (List D)) : Option (List D) := b.bind fun ds => some (d :: ds)
def kDs (o : Option (List D)) (f : List D → Sl) (ρ : En) : R Sl := match o with
  | some ds => if ds.length ≤ 1000 then .ok (f ds) ρ else .bad
  | none => .bad
def kLst (f : List D → Sl) (r : R (List Ar)) : R Sl := match r with
  | .ok ars ρ => kDs (dsOf ars) f ρ
  | .exc c fs ρ' => .exc c fs ρ'
  | .bad => .bad
def fOwL (ds : List D) : Sl := .ow (.lst ds)
def fFzT (ds : List D) : Sl := .fz (.tup ds)
def kW (gg : GG) (fg : List Nat) (y : FY) (r : R (List D)) : R Fl := match r with
  | .ok xs ρ => forL fg gg y xs ρ
  | .exc c fs ρ' => .exc c fs ρ'
  | .bad => .bad
def apW (g : List D → Option (List D)) (a : Option (List D)) : Option (List D) := a.bind g
def ofW (o : Option (List D)) (ρ : En) : R (List D) := match o with
  | some xs => .ok xs ρ
  | none => .bad
def kWR (g : List D → Option (List D)) (r : R (List Th)) : R (List D) := match r with
  | .ok ts ρ => ofW (apW g (evTh ts ρ)) ρ
  | .exc c fs ρ' => .exc c fs ρ'
  | .bad => .bad
def kWI (r : R Sl) : R (List D) := match r with
  | .ok (.fz d) ρ => ofW (itemsD d) ρ
  | .ok (.ow d) ρ => ofW (itemsD d) ρ
  | .ok _ _ => .bad
  | .exc c fs ρ' => .exc c fs ρ'
  | .bad => .bad
def kAsg2 (o : Option En) : R Fl := match o with
  | some ρ => .ok .nx ρ
  | none => .bad
def kAsg (g : GG) (r : R Sl) : R Fl := match r with
  | .ok (.fz d) ρ => kAsg2 (g d ρ)
  | .ok (.ow d) ρ => kAsg2 (g d ρ)
  | .ok _ _ => .bad
  | .exc c fs ρ' => .exc c fs ρ'
  | .bad => .bad
def kSI4 (o : Option D) (i : Nat) (ρ : En) : R Fl := match o with
  | some c' => .ok .nx (ρ.set i (.ow c'))
  | none => .bad
def kSI3 (s : Sl) (i : Nat) (d dk : D) (ρ : En) : R Fl := match s with
  | .ow c => kSI4 (setD dk d c) i ρ
  | _ => .bad
def kSI2 (i : Nat) (d : D) (r : R Sl) : R Fl := match r with
  | .ok (.fz dk) ρ => kSI3 ((ρ[i]?).getD .no) i d dk ρ
  | .ok (.ow dk) ρ => kSI3 ((ρ[i]?).getD .no) i d dk ρ
  | .ok _ _ => .bad
  | .exc c fs ρ' => .exc c fs ρ'
  | .bad => .bad
def kSI1b (o : Option D) (i : Nat) (d : D) (fk : FX) (ρ : En) : R Fl := match o with
  | some _ => kSI2 i d (fk ρ)
  | none => .bad
def kSI1 (i : Nat) (fk : FX) (r : R Sl) : R Fl := match r with
  | .ok (.fz d) ρ => kSI1b (slD' ((ρ[i]?).getD .no)) i d fk ρ
  | .ok (.ow d) ρ => kSI1b (slD' ((ρ[i]?).getD .no)) i d fk ρ
  | .ok _ _ => .bad
  | .exc c fs ρ' => .exc c fs ρ'
  | .bad => .bad
def kP (r : R Sl) : R (Option Int) := match r with
  | .ok (.fz (.int i)) ρ' => .ok (some i) ρ'
  | .ok _ _ => .bad
  | .exc c fs ρ' => .exc c fs ρ'
  | .bad => .bad
def kSl3 (t : Th) (lo : Option Int) (r : R (Option Int)) : R Sl := match r with
  | .ok hi ρ => ofO (ap1 (slD lo hi) (t ρ)) ρ
  | .exc c fs ρ' => .exc c fs ρ'
  | .bad => .bad
def kSl2 (t : Th) (ph : En → R (Option Int)) (r : R (Option Int)) : R Sl := match r with
  | .ok lo ρ => kSl3 t lo (ph ρ)
  | .exc c fs ρ' => .exc c fs ρ'
  | .bad => .bad
def kSl1 (pl ph : En → R (Option Int)) (r : R Th) : R Sl := match r with
  | .ok t ρ => kSl2 t ph (pl ρ)
  | .exc c fs ρ' => .exc c fs ρ'
  | .bad => .bad
def kLC2 (r : R (List D)) : R Sl := match r with
  | .ok acc ρ2 => .ok (.ow (.lst acc)) ρ2
  | _ => .bad
def kLC (ow : List Nat) (gg : GG) (t f : FX) (r : R (List D)) : R Sl := match r with
  | .ok xs ρ1 => kLC2 (lcL ow gg t f xs [] (forget ow ρ1))
  | .exc c fs ρ1 => .exc c fs ρ1
  | .bad => .bad
def isOL (s : Sl) : Bool := match s with
  | .ow (.lst _) => true
  | _ => false
def kMu5 (o : Option (List D × D)) (i : Nat) (ρ : En) : R Sl := match o with
  | some (ds', d) => .ok (.fz d) (ρ.set i (.ow (.lst ds')))
  | none => .bad
def kMu4 (i : Nat) (gm : GM) (es : List D) (s : Sl) (ρ : En) : R Sl := match s with
  | .ow (.lst ds) => kMu5 (gm ds es) i ρ
  | _ => .bad
def kMu3 (i : Nat) (gm : GM) (o : Option (List D)) (ρ : En) : R Sl := match o with
  | some es => kMu4 i gm es ((ρ[i]?).getD .no) ρ
  | none => .bad
def kMu2 (i : Nat) (gm : GM) (r : R (List Ar)) : R Sl := match r with
  | .ok ars ρ => kMu3 i gm (dsOf ars) ρ
  | .exc c fs ρ' => .exc c fs ρ'
  | .bad => .bad
def kMu (i : Nat) (gm : GM) (l : En → R (List Ar)) (ρ : En) (b : Bool) : R Sl := if b = true then kMu2 i gm (l ρ) else .bad
def kTry2 (i : Nat) (gs : Str → List (Str × D) → FY) (c : Str) (fs : List (Str × D)) (ρ1 : En) (o : Option Bool) : R Fl := match o with
  | some true => if i < ρ1.length then endT i (gs c fs (ρ1.set i .no)) else .bad
  | some false => .exc c fs ρ1
  | none => .bad
def kEx (o : Option Bool) (ρ : En) : R Sl := match o with
  | some b => R.ok (Sl.fz (.bl b)) ρ
  | none => R.bad
def kTry (i : Nat) (mt : Mt) (gs : Str → List (Str × D) → FY) (r : R Fl) : R Fl := match r with
  | .exc c fs ρ1 => kTry2 i gs c fs ρ1 (mt c)
  | .ok fl ρ1 => .ok fl ρ1
  | .bad => .bad
section
variable {f g t : FX} {p q y : FY} {ρ ρ' ρa : En} {s : Sl} {i n : Nat} {z : Int} {d e : D} {ds es xs : List D} {b c : Bool} {bs own : List Bool} {cn : Str} {fs : List (Str × D)} {fl : Fl} {gg : G2} {tg : GG} {gm : GM} {gu : D → Option Sl} {gl : List D → Option Sl} {gw : List D → Option (List D)} {a a2 : En → R Th} {th th2 : Th} {ths : List Th} {ll : En → R (List Th)} {la : En → R (List Ar)} {ar : Ar} {ars : List Ar} {G : GF} {ow fg : List Nat} {pl ph : En → R (Option Int)} {lo hi : Option Int} {wi : En → R (List D)} {o : Option Bool} {mt : Mt} {gs : Str → List (Str × D) → FY} {fd : List D → Sl}

theorem ev_fnF {m : Nat} : fnF own m y ρ = kFin own (y (ρ ++ List.replicate m .no)) := by unfold fnF kFin; cases y (ρ ++ List.replicate m .no) <;> rfl
theorem ev_nil : yNil ρ = .ok .nx ρ := rfl
theorem ev_bk : yBk ρ = .ok .bk ρ := rfl
theorem ev_ct : yCt ρ = .ok .ct ρ := rfl
theorem ev_seq : ySeq p q ρ = kSeq q (p ρ) := by unfold ySeq kSeq; rfl
theorem ev_x : yX f ρ = kX (f ρ) := by unfold yX yE kX; cases f ρ <;> rfl
theorem ev_ret : yRet f ρ = kRet (f ρ) := by unfold yRet yE kRet; cases f ρ <;> rfl
theorem ev_retN : yRetN ρ = .ok (.rt (.fz .non)) ρ := rfl
theorem ev_set : ySet i f ρ = kSet i (f ρ) := by unfold ySet yE kSet; cases f ρ <;> rfl
theorem ev_if : yIf t p q ρ = kIf p q (t ρ) := by
  unfold yIf yE kIf
  cases t ρ with
  | ok s ρ =>
    cases s with
    | fz d =>
      cases d with
      | bl b => cases b <;> rfl
      | _ => rfl
    | _ => rfl
  | _ => rfl
theorem ev_aug : yAug i gg f ρ = kSet i (xB gg (aR i) (aX f) ρ) := by unfold yAug yE kSet; cases xB gg (aR i) (aX f) ρ <;> rfl
theorem ev_raise : yRaise cn ρ = .exc cn [] ρ := rfl
theorem ev_c : xC d ρ = .ok (.fz d) ρ := rfl
theorem ev_v : xV i ρ = kV ((ρ[i]?).getD .no) i ρ := by
  unfold xV kV
  cases ρ[i]? with
  | none => rfl
  | some s => cases s <;> rfl
theorem ev_m : xM i ρ = kM ((ρ[i]?).getD .no) i ρ := by
  unfold xM kM
  cases ρ[i]? with
  | none => rfl
  | some s => cases s <;> rfl
theorem ev_f : xF f ρ = kF (f ρ) := by
  unfold xF kF
  cases f ρ with
  | ok s ρ => cases s <;> rfl
  | _ => rfl
theorem ev_ax : aX f ρ = kA (f ρ) := by
  unfold aX kA
  cases f ρ with
  | ok s ρ => cases s <;> rfl
  | _ => rfl
theorem ev_rd : rdSl i = rd i := by
  funext ρ
  unfold rdSl rd slD'
  cases ρ[i]? with
  | none => rfl
  | some s => cases s <;> rfl
theorem ev_ar : aR i ρ = kR ((ρ[i]?).getD .no) i ρ := by
  unfold aR kR
  rw [ev_rd]
  unfold rd slD'
  cases ρ[i]? with
  | none => rfl
  | some s => cases s <;> rfl
theorem rd_at : rd i ρ = slD' ((ρ[i]?).getD .no) := rfl
theorem ev_b : xB gg a a2 ρ = kB1 gg a2 (a ρ) := by
  unfold xB kB1
  cases a ρ with
  | ok t ρ1 => simp only [R.bind, kB2] <;> cases a2 ρ1 <;> rfl
  | _ => rfl
theorem ev_u : xU gu a ρ = kU gu (a ρ) := by unfold xU kU; cases a ρ <;> rfl
theorem ev_l : xL gl ll ρ = kL gl (ll ρ) := by unfold xL kL; cases ll ρ <;> rfl
theorem ev_lnil : lNil ρ = .ok [] ρ := rfl
theorem ev_lcons : lCons a ll ρ = kLc1 ll (a ρ) := by
  unfold lCons kLc1
  cases a ρ with
  | ok t ρ1 => simp only [R.bind, kLc2] <;> cases ll ρ1 <;> rfl
  | _ => rfl
theorem ev_th0 : evTh [] ρ = some [] := rfl
theorem ev_th1 : evTh (th :: ths) ρ = co1 (th ρ) (evTh ths ρ) := rfl
theorem co1_some : co1 (some d) (some ds) = some (d :: ds) := rfl
theorem cst_at : cst d ρ = some d := rfl
theorem ev_not : xNot f ρ = kNot (f ρ) := by
  unfold xNot kNot
  cases f ρ with
  | ok s ρ =>
    cases s with
    | fz d => cases d <;> rfl
    | _ => rfl
  | _ => rfl
theorem ev_and : xAnd f g ρ = kAnd g (f ρ) := by
  unfold xAnd kAnd
  cases f ρ with
  | ok s ρ =>
    cases s with
    | fz d =>
      cases d with
      | bl b => cases b <;> rfl
      | _ => rfl
    | _ => rfl
  | _ => rfl
theorem ev_or : xOr f g ρ = kOr g (f ρ) := by
  unfold xOr kOr
  cases f ρ with
  | ok s ρ =>
    cases s with
    | fz d =>
      cases d with
      | bl b => cases b <;> rfl
      | _ => rfl
    | _ => rfl
  | _ => rfl
theorem ev_ife : xIf t f g ρ = kIfx f g (t ρ) := by
  unfold xIf kIfx
  cases t ρ with
  | ok s ρ =>
    cases s with
    | fz d =>
      cases d with
      | bl b => cases b <;> rfl
      | _ => rfl
    | _ => rfl
  | _ => rfl
theorem ev_call : xCall own G la ρ = kCall own G (la ρ) := by
  unfold xCall kCall
  cases la ρ with
  | ok ars ρ1 =>
    simp only [R.bind]
    unfold goC kArg arsB
    by_cases h1 : arsOk own ars = true
    · by_cases h2 : (slots ars).Nodup
      · rw [if_pos ⟨h1, h2⟩, h1, decide_eq_true h2]
        cases argEn ars ρ1 <;> rfl
      · rw [if_neg (fun h => h2 h.2), decide_eq_false h2, Bool.and_false]
    · rw [if_neg (fun h => h1 h.1), Bool.eq_false_iff.mpr h1, Bool.false_and]
  | _ => rfl
theorem ev_cnil : cNil ρ = .ok [] ρ := rfl
theorem ev_cx : cX f la ρ = kCc1 la (f ρ) := by
  unfold cX kCc1
  cases f ρ with
  | ok s ρ1 =>
    cases s with
    | no => rfl
    | dp t => rfl
    | fz d => simp only [R.bind, kCc2] <;> cases la ρ1 <;> rfl
    | ow d => simp only [R.bind, kCc2] <;> cases la ρ1 <;> rfl
  | _ => rfl
theorem ev_co : cO i la ρ = kCo ((ρ[i]?).getD .no) i la ρ := by
  unfold cO kCo
  cases ρ[i]? with
  | none => rfl
  | some s =>
    cases s with
    | ow d => simp only [Option.getD_some, kCc2] <;> cases la ρ <;> rfl
    | dp d => simp only [Option.getD_some, kCc2] <;> cases la ρ <;> rfl
    | _ => rfl
theorem ars0 : arsOk [] [] = true := rfl
theorem ars1 : arsOk (b :: bs) (.fz d :: ars) = arsOk bs ars := by cases b <;> rfl
theorem ars2 : arsOk (true :: bs) (.sl i :: ars) = arsOk bs ars := rfl
theorem slots0 : slots [] = [] := rfl
theorem slots1 : slots (.fz d :: ars) = slots ars := rfl
theorem slots2 : slots (.sl i :: ars) = i :: slots ars := rfl
theorem arsB_eq : arsB own ars = (arsOk own ars && nodB (slots ars)) := rfl
theorem arg0 : argEn [] ρ = some [] := rfl
theorem arg1 : argEn (.fz d :: ars) ρ = coE (some (.fz d)) (argEn ars ρ) := rfl
theorem arg2 : argEn (.sl i :: ars) ρ = coE (sla ((ρ[i]?).getD .no)) (argEn ars ρ) := by
  show (match ρ[i]? with
    | some (Sl.ow d) => some (Sl.ow d)
    | some (Sl.dp d) => some (Sl.dp d)
    | _ => none).bind _ = _
  unfold coE sla
  generalize ρ[i]? = o
  cases o with
  | none => rfl
  | some s => cases s <;> rfl
theorem coE_some : coE (some s) (some ρ) = some (s :: ρ) := rfl
theorem sla_dp {t : T} : sla (.dp t) = some (.dp t) := rfl
theorem sla_ow : sla (.ow d) = some (.ow d) := rfl
theorem endC_rt : endC ars ρ (.ok (.rt s) ρa) = .ok s (back ars ρa ρ) := rfl
theorem endC_nx : endC ars ρ (.ok .nx ρa) = .ok (.fz .non) (back ars ρa ρ) := rfl
theorem endC_exc : endC ars ρ (.exc cn fs ρa) = .exc cn fs (back ars ρa ρ) := rfl
theorem back0 : back [] ρa ρ = ρ := rfl
theorem back1 : back (.fz d :: ars) (s :: ρa) ρ = back ars ρa ρ := rfl
theorem back2 : back (.sl i :: ars) (s :: ρa) ρ = back ars ρa (ρ.set i s) := rfl
theorem keepO0 : keepO [] ρ = [] := rfl
theorem keepO1 : keepO (true :: bs) (s :: ρ) = s :: keepO bs ρ := rfl
theorem keepO2 : keepO (false :: bs) (s :: ρ) = .no :: keepO bs ρ := rfl
theorem ev_lst : xLst la ρ = kLst fOwL (la ρ) := by
  unfold xLst kLst
  cases la ρ with
  | ok ars ρ1 => simp only [R.bind, kDs] <;> cases dsOf ars <;> rfl
  | _ => rfl
theorem ev_tup : xTup la ρ = kLst fFzT (la ρ) := by
  unfold xTup kLst
  cases la ρ with
  | ok ars ρ1 => simp only [R.bind, kDs] <;> cases dsOf ars <;> rfl
  | _ => rfl
theorem ds0 : dsOf [] = some [] := rfl
theorem ds1 : dsOf (.fz d :: ars) = coD d (dsOf ars) := rfl
theorem coD_some : coD d (some ds) = some (d :: ds) := rfl
theorem fOwL_eq : fOwL ds = .ow (.lst ds) := rfl
theorem fFzT_eq : fFzT ds = .fz (.tup ds) := rfl
theorem kDs_ok (h : ds.length ≤ 1000) : kDs (some ds) fd ρ = .ok (fd ds) ρ := if_pos h
theorem ev_for : yFor fg wi tg y ρ = kW tg fg y (wi ρ) := by unfold yFor kW; cases wi ρ <;> rfl
theorem ev_wr : wR gw ll ρ = kWR gw (ll ρ) := by
  unfold wR kWR
  cases ll ρ with
  | ok ts ρ1 => simp only [R.bind, ofW, apW] <;> cases (evTh ts ρ1).bind gw <;> rfl
  | _ => rfl
theorem ev_wi : wIt f ρ = kWI (f ρ) := by
  unfold wIt kWI
  rw [ev_f]
  unfold kF
  cases f ρ with
  | ok s ρ1 =>
    cases s with
    | no => rfl
    | dp t => rfl
    | fz d => simp only [R.bind, ofW] <;> cases itemsD d <;> rfl
    | ow d => simp only [R.bind, ofW] <;> cases itemsD d <;> rfl
  | _ => rfl
theorem ev_asg : yAsg tg f ρ = kAsg tg (f ρ) := by
  unfold yAsg yE kAsg
  rw [ev_f]
  unfold kF
  cases f ρ with
  | ok s ρ1 =>
    cases s with
    | no => rfl
    | dp t => rfl
    | fz d => simp only [kAsg2] <;> cases tg d ρ1 <;> rfl
    | ow d => simp only [kAsg2] <;> cases tg d ρ1 <;> rfl
  | _ => rfl
theorem kAsg2_some : kAsg2 (some ρ) = .ok .nx ρ := rfl
theorem tgN_at : tgN i d ρ = some (ρ.set i (.fz d)) := rfl
theorem tgT_at {gs : List D → En → Option En} (h : ds.length = n) : tgT n gs (.tup ds) ρ = gs ds ρ := by unfold tgT; simp only [h, if_pos]
theorem tgs0 : tgsNil [] ρ = some ρ := rfl
theorem tgs1 {gs : List D → En → Option En} : tgsCons tg gs (d :: ds) ρ = (tg d ρ).bind (gs ds) := rfl
theorem ev_si {fk fe : FX} : ySetI i fk fe ρ = kSI1 i fk (fe ρ) := by
  unfold ySetI yE kSI1
  rw [ev_f]
  have key : ∀ (d : D) (ρ1 : En), (match rdSl i ρ1 with
      | some _ => yE (xF fk) (kSetI i d) ρ1
      | none => R.bad) = kSI1b (slD' ((ρ1[i]?).getD .no)) i d fk ρ1 := by
    intro d ρ1
    rw [ev_rd]
    unfold rd kSI1b
    cases slD' ((ρ1[i]?).getD .no) with
    | none => rfl
    | some x =>
      have two : ∀ (dk : D) (ρ2 : En), kSetI i d (.fz dk) ρ2 = kSI3 ((ρ2[i]?).getD .no) i d dk ρ2 := by
        intro dk ρ2
        unfold kSetI kSI3 kSI4
        simp only
        cases ρ2[i]? with
        | none => rfl
        | some s =>
          cases s with
          | ow c => simp only [Option.getD_some] <;> cases setD dk d c <;> rfl
          | _ => rfl
      simp only
      unfold yE kSI2
      rw [ev_f]
      unfold kF
      cases fk ρ1 with
      | ok s ρ2 =>
        cases s with
        | no => rfl
        | dp t => rfl
        | fz dk => exact two dk ρ2
        | ow dk => exact two dk ρ2
      | _ => rfl
  unfold kF
  cases fe ρ with
  | ok s ρ1 =>
    cases s with
    | no => rfl
    | dp t => rfl
    | fz d => exact key d ρ1
    | ow d => exact key d ρ1
  | _ => rfl
theorem ev_sl : xSl a pl ph ρ = kSl1 pl ph (a ρ) := by
  unfold xSl kSl1
  cases a ρ with
  | ok t ρ1 =>
    simp only [R.bind]
    unfold kSl2
    cases pl ρ1 with
    | ok lo ρ2 => simp only; unfold kSl3; cases ph ρ2 <;> rfl
    | _ => rfl
  | _ => rfl
theorem ev_pn : pN ρ = .ok none ρ := rfl
theorem ev_ps : pS f ρ = kP (f ρ) := by
  unfold pS kP
  cases f ρ with
  | ok s ρ =>
    cases s with
    | fz d => cases d <;> rfl
    | _ => rfl
  | _ => rfl
theorem ev_lc : xLc ow wi tg t f ρ = kLC ow tg t f (wi ρ) := by
  unfold xLc kLC
  cases wi ρ with
  | ok xs ρ1 => simp only [kLC2] <;> cases lcL ow tg t f xs [] (forget ow ρ1) <;> rfl
  | _ => rfl
theorem ev_yes : xYes ρ = .ok (.fz (.bl true)) ρ := rfl
theorem ev_mu : xMu i gm la ρ = kMu i gm la ρ (isOL ((ρ[i]?).getD .no)) := by
  have h1 : isOwL i ρ = isOL ((ρ[i]?).getD .no) := by
    unfold isOwL isOL
    cases ρ[i]? with
    | none => rfl
    | some s =>
      cases s with
      | ow d => cases d <;> rfl
      | _ => rfl
  unfold xMu kMu
  rw [h1]
  cases isOL ((ρ[i]?).getD .no) with
  | false => rfl
  | true =>
    simp only [if_true]
    unfold kMu2
    cases la ρ with
    | ok ars ρ1 =>
      simp only [R.bind]
      unfold goM kMu3
      cases dsOf ars with
      | none => rfl
      | some es =>
        simp only
        unfold kMu4
        cases ρ1[i]? with
        | none => rfl
        | some s =>
          cases s with
          | ow d =>
            cases d with
            | lst ds => simp only [Option.getD_some]; unfold kMu5; cases gm ds es <;> rfl
            | _ => rfl
          | _ => rfl
    | _ => rfl
theorem isOL_ow : isOL (.ow (.lst ds)) = true := rfl
theorem ev_try : yTryAs i mt p gs ρ = kTry i mt gs (p ρ) := by
  unfold yTryAs kTry
  cases p ρ with
  | exc c fs ρ1 => simp only [kTry2] <;> rcases mt c with _ | b <;> first | rfl | (cases b <;> rfl)
  | _ => rfl
theorem kTry2_t (h : i < ρ.length) : kTry2 i gs cn fs ρ (some true) = endT i (gs cn fs (ρ.set i .no)) := if_pos h
theorem kTry2_f : kTry2 i gs cn fs ρ (some false) = .exc cn fs ρ := rfl
theorem endT_ok : endT i (.ok fl ρ) = .ok fl (ρ.set i .no) := rfl
theorem ev_ex {tab : List (Str × Bool)} : xEx tab cn [] ρ = kEx (tab.lookup cn) ρ := rfl
theorem kEx_some : kEx (some b) ρ = .ok (.fz (.bl b)) ρ := rfl
theorem kSeq_nx : kSeq q (.ok .nx ρ) = q ρ := rfl
theorem kSeq_rt : kSeq q (.ok (.rt s) ρ) = .ok (.rt s) ρ := rfl
theorem kSeq_bk : kSeq q (.ok .bk ρ) = .ok .bk ρ := rfl
theorem kSeq_ct : kSeq q (.ok .ct ρ) = .ok .ct ρ := rfl
theorem kSeq_exc : kSeq q (.exc cn fs ρ : R Fl) = .exc cn fs ρ := rfl
theorem kFin_ok : kFin own (.ok fl ρ) = .ok fl (keepO own ρ) := rfl
theorem kFin_exc : kFin own (.exc cn fs ρ) = .exc cn fs (keepO own ρ) := rfl
theorem kX_ok : kX (.ok s ρ) = .ok .nx ρ := rfl
theorem kX_exc : kX  (.exc cn fs ρ : R Sl) = .exc cn fs ρ := rfl
theorem kRet_ok : kRet (.ok s ρ) = .ok (.rt s) ρ := rfl
theorem kRet_exc : kRet  (.exc cn fs ρ : R Sl) = .exc cn fs ρ := rfl
theorem kSet_ok : kSet i (.ok s ρ) = .ok .nx (ρ.set i s) := rfl
theorem kSet_exc : kSet i (.exc cn fs ρ : R Sl) = .exc cn fs ρ := rfl
theorem kIf_ok : kIf p q (.ok (.fz (.bl b)) ρ) = if b = true then p ρ else q ρ := rfl
theorem kIf_t : kIf p q (.ok (.fz (.bl true)) ρ) = p ρ := rfl
theorem kIf_f : kIf p q (.ok (.fz (.bl false)) ρ) = q ρ := rfl
theorem kIf_exc : kIf p q (.exc cn fs ρ : R Sl) = .exc cn fs ρ := rfl
theorem kIfx_ok : kIfx f g (.ok (.fz (.bl b)) ρ) = if b = true then f ρ else g ρ := rfl
theorem kIfx_t : kIfx f g (.ok (.fz (.bl true)) ρ) = f ρ := rfl
theorem kIfx_f : kIfx f g (.ok (.fz (.bl false)) ρ) = g ρ := rfl
theorem kIfx_exc : kIfx f g (.exc cn fs ρ : R Sl) = .exc cn fs ρ := rfl
theorem kAnd_ok : kAnd g (.ok (.fz (.bl b)) ρ) = if b = true then g ρ else .ok (.fz (.bl false)) ρ := rfl
theorem kAnd_t : kAnd g (.ok (.fz (.bl true)) ρ) = g ρ := rfl
theorem kAnd_f : kAnd g (.ok (.fz (.bl false)) ρ) = .ok (.fz (.bl false)) ρ := rfl
theorem kAnd_exc : kAnd g (.exc cn fs ρ : R Sl) = .exc cn fs ρ := rfl
theorem kOr_ok : kOr g (.ok (.fz (.bl b)) ρ) = if b = true then .ok (.fz (.bl true)) ρ else g ρ := rfl
theorem kOr_t : kOr g (.ok (.fz (.bl true)) ρ) = .ok (.fz (.bl true)) ρ := rfl
theorem kOr_f : kOr g (.ok (.fz (.bl false)) ρ) = g ρ := rfl
theorem kOr_exc : kOr g (.exc cn fs ρ : R Sl) = .exc cn fs ρ := rfl
theorem kNot_ok : kNot (.ok (.fz (.bl b)) ρ) = .ok (.fz (.bl (!b))) ρ := rfl
theorem kNot_exc : kNot  (.exc cn fs ρ : R Sl) = .exc cn fs ρ := rfl
theorem kF_fz : kF (.ok (.fz d) ρ) = .ok (.fz d) ρ := rfl
theorem kF_ow : kF (.ok (.ow d) ρ) = .ok (.fz d) ρ := rfl
theorem kF_exc : kF  (.exc cn fs ρ : R Sl) = .exc cn fs ρ := rfl
theorem kA_fz : kA (.ok (.fz d) ρ) = .ok (cst d) ρ := rfl
theorem kA_ow : kA (.ok (.ow d) ρ) = .ok (cst d) ρ := rfl
theorem kA_exc : kA  (.exc cn fs ρ : R Sl) = .exc cn fs ρ := rfl
theorem slDp_fz : slD' (.fz d) = some d := rfl
theorem slDp_ow : slD' (.ow d) = some d := rfl
theorem kR_fz : kR (.fz d) i ρ = .ok (rd i) ρ := rfl
theorem kR_ow : kR (.ow d) i ρ = .ok (rd i) ρ := rfl
theorem kV_fz : kV (.fz d) i ρ = .ok (.fz d) ρ := rfl
theorem kV_ow : kV (.ow d) i ρ = .ok (.fz d) (ρ.set i (.fz d)) := rfl
theorem kV_dp {t : T} : kV (.dp t) i ρ = .ok (.fz t.strip) (ρ.set i (.fz t.strip)) := rfl
theorem kM_fz : kM (.fz d) i ρ = .ok (.fz d) ρ := rfl
theorem kM_ow : kM (.ow d) i ρ = .ok (.ow d) (ρ.set i .no) := rfl
theorem ap2_some : ap2 gg (some d) (some e) = gg d e := rfl
theorem ap1_some : ap1 gu (some d) = gu d := rfl
theorem apL_some : apL gl (some ds) = gl ds := rfl
theorem ofO_some_ : ofO (some s) ρ = .ok s ρ := rfl
theorem kB2_ok : kB2 gg th (.ok th2 ρ) = ofO (ap2 gg (th ρ) (th2 ρ)) ρ := rfl
theorem kB2_exc : kB2 gg th (.exc cn fs ρ : R Th) = .exc cn fs ρ := rfl
theorem kB1_ok : kB1 gg a (.ok th ρ) = kB2 gg th (a ρ) := rfl
theorem kB1_exc : kB1 gg a (.exc cn fs ρ : R Th) = .exc cn fs ρ := rfl
theorem kU_ok : kU gu (.ok th ρ) = ofO (ap1 gu (th ρ)) ρ := rfl
theorem kU_exc : kU gu (.exc cn fs ρ : R Th) = .exc cn fs ρ := rfl
theorem kL_ok : kL gl (.ok ths ρ) = ofO (apL gl (evTh ths ρ)) ρ := rfl
theorem kL_exc : kL gl (.exc cn fs ρ : R (List Th)) = .exc cn fs ρ := rfl
theorem kLc2_ok : kLc2 th (.ok ths ρ) = .ok (th :: ths) ρ := rfl
theorem kLc2_exc : kLc2 th (.exc cn fs ρ : R (List Th)) = .exc cn fs ρ := rfl
theorem kLc1_ok : kLc1 ll (.ok th ρ) = kLc2 th (ll ρ) := rfl
theorem kLc1_exc : kLc1 ll (.exc cn fs ρ : R Th) = .exc cn fs ρ := rfl
theorem kCc2_ok : kCc2 ar (.ok ars ρ) = .ok (ar :: ars) ρ := rfl
theorem kCc2_exc : kCc2 ar (.exc cn fs ρ : R (List Ar)) = .exc cn fs ρ := rfl
theorem kCc1_fz : kCc1 la (.ok (.fz d) ρ) = kCc2 (.fz d) (la ρ) := rfl
theorem kCc1_ow : kCc1 la (.ok (.ow d) ρ) = kCc2 (.fz d) (la ρ) := rfl
theorem kCc1_exc : kCc1 la (.exc cn fs ρ : R Sl) = .exc cn fs ρ := rfl
theorem kCo_dp {t : T} : kCo (.dp t) i la ρ = kCc2 (.sl i) (la ρ) := rfl
theorem kCo_ow : kCo (.ow d) i la ρ = kCc2 (.sl i) (la ρ) := rfl
theorem kCall_ok : kCall own G (.ok ars ρ) = kArg G ars ρ (arsB own ars) (argEn ars ρ) := rfl
theorem kCall_exc : kCall own G (.exc cn fs ρ : R (List Ar)) = .exc cn fs ρ := rfl
theorem kArg_ok : kArg G ars ρ true (some ρa) = endC ars ρ (G ρa) := rfl
theorem kLst_ok : kLst fd (.ok ars ρ) = kDs (dsOf ars) fd ρ := rfl
theorem kLst_exc : kLst fd (.exc cn fs ρ : R (List Ar)) = .exc cn fs ρ := rfl
theorem kW_ok : kW tg fg y (.ok xs ρ) = forL fg tg y xs ρ := rfl
theorem kW_exc : kW tg fg y (.exc cn fs ρ : R (List D)) = .exc cn fs ρ := rfl
theorem apW_some : apW gw (some ds) = gw ds := rfl
theorem ofW_some : ofW (some ds) ρ = .ok ds ρ := rfl
theorem kWR_ok : kWR gw (.ok ths ρ) = ofW (apW gw (evTh ths ρ)) ρ := rfl
theorem kWR_exc : kWR gw (.exc cn fs ρ : R (List Th)) = .exc cn fs ρ := rfl
theorem kWI_fz : kWI (.ok (.fz d) ρ) = ofW (itemsD d) ρ := rfl
theorem kWI_ow : kWI (.ok (.ow d) ρ) = ofW (itemsD d) ρ := rfl
theorem kWI_exc : kWI  (.exc cn fs ρ : R Sl) = .exc cn fs ρ := rfl
theorem kAsg_fz : kAsg tg (.ok (.fz d) ρ) = kAsg2 (tg d ρ) := rfl
theorem kAsg_ow : kAsg tg (.ok (.ow d) ρ) = kAsg2 (tg d ρ) := rfl
theorem kAsg_exc : kAsg tg (.exc cn fs ρ : R Sl) = .exc cn fs ρ := rfl
theorem kSI1_fz : kSI1 i f (.ok (.fz d) ρ) = kSI1b (slD' ((ρ[i]?).getD .no)) i d f ρ := rfl
theorem kSI1_ow : kSI1 i f (.ok (.ow d) ρ) = kSI1b (slD' ((ρ[i]?).getD .no)) i d f ρ := rfl
theorem kSI1_exc : kSI1 i f (.exc cn fs ρ : R Sl) = .exc cn fs ρ := rfl
theorem kSI1b_some : kSI1b (some e) i d f ρ = kSI2 i d (f ρ) := rfl
theorem kSI2_fz : kSI2 i d (.ok (.fz e) ρ) = kSI3 ((ρ[i]?).getD .no) i d e ρ := rfl
theorem kSI2_exc : kSI2 i d (.exc cn fs ρ : R Sl) = .exc cn fs ρ := rfl
theorem kSI3_ow {dk : D} : kSI3 (.ow e) i d dk ρ = kSI4 (setD dk d e) i ρ := rfl
theorem kSI4_some : kSI4 (some e) i ρ = .ok .nx (ρ.set i (.ow e)) := rfl
theorem kP_int : kP (.ok (.fz (.int z)) ρ) = .ok (some z) ρ := rfl
theorem kP_exc : kP  (.exc cn fs ρ : R Sl) = .exc cn fs ρ := rfl
theorem kSl3_ok : kSl3 th lo (.ok hi ρ) = ofO (ap1 (slD lo hi) (th ρ)) ρ := rfl
theorem kSl2_ok : kSl2 th ph (.ok lo ρ) = kSl3 th lo (ph ρ) := rfl
theorem kSl1_ok : kSl1 pl ph (.ok th ρ) = kSl2 th ph (pl ρ) := rfl
theorem kLC_ok : kLC ow tg t f (.ok xs ρ) = kLC2 (lcL ow tg t f xs [] (forget ow ρ)) := rfl
theorem kLC_exc : kLC ow tg t f (.exc cn fs ρ : R (List D)) = .exc cn fs ρ := rfl
theorem kLC2_ok : kLC2 (.ok xs ρ) = .ok (.ow (.lst xs)) ρ := rfl
theorem kMu_t : kMu i gm la ρ true = kMu2 i gm (la ρ) := rfl
theorem kMu2_ok : kMu2 i gm (.ok ars ρ) = kMu3 i gm (dsOf ars) ρ := rfl
theorem kMu2_exc : kMu2 i gm (.exc cn fs ρ : R (List Ar)) = .exc cn fs ρ := rfl
theorem kMu3_some : kMu3 i gm (some es) ρ = kMu4 i gm es ((ρ[i]?).getD .no) ρ := rfl
theorem kMu4_ow : kMu4 i gm es (.ow (.lst ds)) ρ = kMu5 (gm ds es) i ρ := rfl
theorem kMu5_some : kMu5 (some (ds, d)) i ρ = .ok (.fz d) (ρ.set i (.ow (.lst ds))) := rfl
theorem kTry_ok : kTry i mt gs (.ok fl ρ) = .ok fl ρ := rfl
theorem kTry_exc : kTry i mt gs (.exc cn fs ρ) = kTry2 i gs cn fs ρ (mt cn) := rfl
theorem forget0 : forget [] ρ = ρ := rfl
theorem forget1 : forget (i :: fg) ρ = forget fg (ρ.set i .no) := rfl
/-- what a whole run ends in -/
structure Ret (r : R Fl) (Q : Sl → En → Prop) : Prop where
  ex : ∃ s ρ, r = .ok (.rt s) ρ ∧ Q s ρ
structure Nx (r : R Fl) (Q : En → Prop) : Prop where
  ex : ∃ ρ, (r = .ok .nx ρ ∨ r = .ok .ct ρ) ∧ Q ρ
theorem Ret_ok {Q : Sl → En → Prop} : Ret (.ok (.rt s) ρ) Q = Q s ρ := propext ⟨fun h => (by obtain ⟨s, ρ, e, q⟩ := h.ex; cases e; exact q), fun q => ⟨_, _, rfl, q⟩⟩
theorem Nx_nx {Q : En → Prop} : Nx (.ok .nx ρ) Q = Q ρ := propext ⟨fun h => (by obtain ⟨ρ, e, q⟩ := h.ex; rcases e with e | e <;> cases e; exact q), fun q => ⟨_, .inl rfl, q⟩⟩
theorem Nx_ct {Q : En → Prop} : Nx (.ok .ct ρ) Q = Q ρ := propext ⟨fun h => (by obtain ⟨ρ, e, q⟩ := h.ex; rcases e with e | e <;> cases e; exact q), fun q => ⟨_, .inr rfl, q⟩⟩
theorem gAdd_ii {i j : Int} : gAdd (.int i) (.int j) = some (.fz (.int (i + j))) := rfl
theorem gAddI_ii {i j : Int} : gAddI (.int i) (.int j) = some (.fz (.int (i + j))) := rfl
theorem gSub_ii {i j : Int} : gSub (.int i) (.int j) = some (.fz (.int (i - j))) := rfl
theorem gMul_ii {i j : Int} (h : cMul i j = true) : gMul (.int i) (.int j) = some (.fz (.int (i * j))) := by unfold gMul gI; simp only [h, if_true, Option.some_or]
theorem gDiv_ii {i j : Int} (h : cDiv i j = true) : gDiv (.int i) (.int j) = some (.fz (.int (i / j))) := by unfold gDiv gI; simp only [h, if_true]
theorem gMod_ii {i j : Int} (h : cMod i j = true) : gMod (.int i) (.int j) = some (.fz (.int (i % j))) := by unfold gMod gI; simp only [h, if_true]
theorem gPow_ii {i j : Int} (h : cPow i j = true) : gPow (.int i) (.int j) = some (.fz (.int (i ^ j.toNat))) := by unfold gPow gI; simp only [h, if_true]
theorem gLt_ii {i j : Int} : gLt (.int i) (.int j) = some (.fz (.bl (decide (i < j)))) := rfl
theorem gLe_ii {i j : Int} : gLe (.int i) (.int j) = some (.fz (.bl (decide (i ≤ j)))) := rfl
theorem gGt_ii {i j : Int} : gGt (.int i) (.int j) = some (.fz (.bl (decide (j < i)))) := rfl
theorem gGe_ii {i j : Int} : gGe (.int i) (.int j) = some (.fz (.bl (decide (j ≤ i)))) := rfl
theorem gEq_ii {i j : Int} : gEq (.int i) (.int j) = some (.fz (.bl (decide (i = j)))) := rfl
theorem gNe_ii {i j : Int} : gNe (.int i) (.int j) = some (.fz (.bl (!decide (i = j)))) := rfl
theorem gEq_ss {i j : Str} : gEq (.str i) (.str j) = some (.fz (.bl (decide (i = j)))) := rfl
theorem gNe_ss {i j : Str} : gNe (.str i) (.str j) = some (.fz (.bl (!decide (i = j)))) := rfl
theorem gEq_bb {i j : Bool} : gEq (.bl i) (.bl j) = some (.fz (.bl (i == j))) := rfl
theorem gNeg_i {i : Int} : gNeg (.int i) = some (.fz (.int (-i))) := rfl
theorem gLen_l : gLen [.lst ds] = some (.fz (.int ds.length)) := rfl
theorem gLen_t : gLen [.tup ds] = some (.fz (.int ds.length)) := rfl
theorem gLen_s {x : Str} (h : x.length ≤ 1000000) : gLen [.str x] = some (.fz (.int x.length)) := by unfold gLen; simp only [h, if_true]
theorem gAbs_i {i : Int} : gAbs [.int i] = some (.fz (.int (if i < 0 then -i else i))) := rfl
theorem gInt_i {i : Int} : gInt [.int i] = some (.fz (.int i)) := rfl
theorem gMax2_i {i j : Int} : gMax2 [.int i, .int j] = some (.fz (.int (if j > i then j else i))) := rfl
theorem gMin2_i {i j : Int} : gMin2 [.int i, .int j] = some (.fz (.int (if j < i then j else i))) := rfl
theorem gList_l : gList [.lst ds] = some (.ow (.lst ds)) := rfl
theorem gList_t : gList [.tup ds] = some (.ow (.lst ds)) := rfl
theorem gTuple_l : gTuple [.lst ds] = some (.fz (.tup ds)) := rfl
theorem gTuple_t : gTuple [.tup ds] = some (.fz (.tup ds)) := rfl
theorem gBits_i {i : Int} : gBits (.int i) = some (.fz (.int (Builtin.Int.intBits i : Nat))) := rfl
theorem ixD_l {i : Int} : ixD (.lst ds) (.int i) = (atI ds i).map .fz := rfl
theorem ixD_t {i : Int} : ixD (.tup ds) (.int i) = (atI ds i).map .fz := rfl
theorem rng1_i {j : Int} (h : -(2 ^ 60) < j ∧ j < 2 ^ 60) : rng1 [.int j] = some ((List.range j.toNat).map fun (i : Nat) => .int (0 + i)) := if_pos (okR_of h)
theorem rng2_i {i j : Int} (h : -(2 ^ 60) < i ∧ i < 2 ^ 60 ∧ -(2 ^ 60) < j ∧ j < 2 ^ 60) : rng2 [.int i, .int j] = some ((List.range (j - i).toNat).map fun (n : Nat) => .int (i + n)) := if_pos (by rw [okR_of ⟨h.1, h.2.1⟩, okR_of ⟨h.2.2.1, h.2.2.2⟩]; rfl)
theorem items_l : itemsD (.lst ds) = some ds := rfl
theorem items_t : itemsD (.tup ds) = some ds := rfl
theorem slD_l : slD lo hi (.lst ds) = some (.ow (.lst (cutD ds lo hi))) := rfl
theorem slD_r {ns : List Int} : slD lo hi (.scr ns) = some (.ow (.lst ((cutD ns lo hi).map .int))) := rfl
theorem setD_l {k : Int} : setD (.int k) d (.lst ds) = (ixN ds.length k).bind fun j => some (.lst (ds.set j d)) := rfl
theorem isi_int_int : gIsi [.int z, .ty "int"] = some (.fz (.bl true)) := by first | rfl | (unfold gIsi; simp only [tyD, Option.bind_some]; decide +kernel)
theorem isi_bool_int : gIsi [.bl b, .ty "int"] = some (.fz (.bl true)) := by first | rfl | (unfold gIsi; simp only [tyD, Option.bind_some]; decide +kernel)
theorem isi_str_int : gIsi [.str cn, .ty "int"] = some (.fz (.bl false)) := by first | rfl | (unfold gIsi; simp only [tyD, Option.bind_some]; decide +kernel)
theorem isi_list_int : gIsi [.lst ds, .ty "int"] = some (.fz (.bl false)) := by first | rfl | (unfold gIsi; simp only [tyD, Option.bind_some]; decide +kernel)
theorem isi_tuple_int : gIsi [.tup ds, .ty "int"] = some (.fz (.bl false)) := by first | rfl | (unfold gIsi; simp only [tyD, Option.bind_some]; decide +kernel)
theorem isi_NoneType_int : gIsi [.non, .ty "int"] = some (.fz (.bl false)) := by first | rfl | (unfold gIsi; simp only [tyD, Option.bind_some]; decide +kernel)
theorem isi_int_bool : gIsi [.int z, .ty "bool"] = some (.fz (.bl false)) := by first | rfl | (unfold gIsi; simp only [tyD, Option.bind_some]; decide +kernel)
theorem isi_bool_bool : gIsi [.bl b, .ty "bool"] = some (.fz (.bl true)) := by first | rfl | (unfold gIsi; simp only [tyD, Option.bind_some]; decide +kernel)
theorem isi_str_bool : gIsi [.str cn, .ty "bool"] = some (.fz (.bl false)) := by first | rfl | (unfold gIsi; simp only [tyD, Option.bind_some]; decide +kernel)
theorem isi_list_bool : gIsi [.lst ds, .ty "bool"] = some (.fz (.bl false)) := by first | rfl | (unfold gIsi; simp only [tyD, Option.bind_some]; decide +kernel)
theorem isi_tuple_bool : gIsi [.tup ds, .ty "bool"] = some (.fz (.bl false)) := by first | rfl | (unfold gIsi; simp only [tyD, Option.bind_some]; decide +kernel)
theorem isi_NoneType_bool : gIsi [.non, .ty "bool"] = some (.fz (.bl false)) := by first | rfl | (unfold gIsi; simp only [tyD, Option.bind_some]; decide +kernel)
theorem isi_int_str : gIsi [.int z, .ty "str"] = some (.fz (.bl false)) := by first | rfl | (unfold gIsi; simp only [tyD, Option.bind_some]; decide +kernel)
theorem isi_bool_str : gIsi [.bl b, .ty "str"] = some (.fz (.bl false)) := by first | rfl | (unfold gIsi; simp only [tyD, Option.bind_some]; decide +kernel)
theorem isi_str_str : gIsi [.str cn, .ty "str"] = some (.fz (.bl true)) := by first | rfl | (unfold gIsi; simp only [tyD, Option.bind_some]; decide +kernel)
theorem isi_list_str : gIsi [.lst ds, .ty "str"] = some (.fz (.bl false)) := by first | rfl | (unfold gIsi; simp only [tyD, Option.bind_some]; decide +kernel)
theorem isi_tuple_str : gIsi [.tup ds, .ty "str"] = some (.fz (.bl false)) := by first | rfl | (unfold gIsi; simp only [tyD, Option.bind_some]; decide +kernel)
theorem isi_NoneType_str : gIsi [.non, .ty "str"] = some (.fz (.bl false)) := by first | rfl | (unfold gIsi; simp only [tyD, Option.bind_some]; decide +kernel)
theorem isi_int_list : gIsi [.int z, .ty "list"] = some (.fz (.bl false)) := by first | rfl | (unfold gIsi; simp only [tyD, Option.bind_some]; decide +kernel)
theorem isi_bool_list : gIsi [.bl b, .ty "list"] = some (.fz (.bl false)) := by first | rfl | (unfold gIsi; simp only [tyD, Option.bind_some]; decide +kernel)
theorem isi_str_list : gIsi [.str cn, .ty "list"] = some (.fz (.bl false)) := by first | rfl | (unfold gIsi; simp only [tyD, Option.bind_some]; decide +kernel)
theorem isi_list_list : gIsi [.lst ds, .ty "list"] = some (.fz (.bl true)) := by first | rfl | (unfold gIsi; simp only [tyD, Option.bind_some]; decide +kernel)
theorem isi_tuple_list : gIsi [.tup ds, .ty "list"] = some (.fz (.bl false)) := by first | rfl | (unfold gIsi; simp only [tyD, Option.bind_some]; decide +kernel)
theorem isi_NoneType_list : gIsi [.non, .ty "list"] = some (.fz (.bl false)) := by first | rfl | (unfold gIsi; simp only [tyD, Option.bind_some]; decide +kernel)
theorem isi_int_tuple : gIsi [.int z, .ty "tuple"] = some (.fz (.bl false)) := by first | rfl | (unfold gIsi; simp only [tyD, Option.bind_some]; decide +kernel)
theorem isi_bool_tuple : gIsi [.bl b, .ty "tuple"] = some (.fz (.bl false)) := by first | rfl | (unfold gIsi; simp only [tyD, Option.bind_some]; decide +kernel)
theorem isi_str_tuple : gIsi [.str cn, .ty "tuple"] = some (.fz (.bl false)) := by first | rfl | (unfold gIsi; simp only [tyD, Option.bind_some]; decide +kernel)
theorem isi_list_tuple : gIsi [.lst ds, .ty "tuple"] = some (.fz (.bl false)) := by first | rfl | (unfold gIsi; simp only [tyD, Option.bind_some]; decide +kernel)
theorem isi_tuple_tuple : gIsi [.tup ds, .ty "tuple"] = some (.fz (.bl true)) := by first | rfl | (unfold gIsi; simp only [tyD, Option.bind_some]; decide +kernel)
theorem isi_NoneType_tuple : gIsi [.non, .ty "tuple"] = some (.fz (.bl false)) := by first | rfl | (unfold gIsi; simp only [tyD, Option.bind_some]; decide +kernel)
theorem isi_int_dict : gIsi [.int z, .ty "dict"] = some (.fz (.bl false)) := by first | rfl | (unfold gIsi; simp only [tyD, Option.bind_some]; decide +kernel)
theorem isi_bool_dict : gIsi [.bl b, .ty "dict"] = some (.fz (.bl false)) := by first | rfl | (unfold gIsi; simp only [tyD, Option.bind_some]; decide +kernel)
theorem isi_str_dict : gIsi [.str cn, .ty "dict"] = some (.fz (.bl false)) := by first | rfl | (unfold gIsi; simp only [tyD, Option.bind_some]; decide +kernel)
theorem isi_list_dict : gIsi [.lst ds, .ty "dict"] = some (.fz (.bl false)) := by first | rfl | (unfold gIsi; simp only [tyD, Option.bind_some]; decide +kernel)
theorem isi_tuple_dict : gIsi [.tup ds, .ty "dict"] = some (.fz (.bl false)) := by first | rfl | (unfold gIsi; simp only [tyD, Option.bind_some]; decide +kernel)
theorem isi_NoneType_dict : gIsi [.non, .ty "dict"] = some (.fz (.bl false)) := by first | rfl | (unfold gIsi; simp only [tyD, Option.bind_some]; decide +kernel)
end
section
variable {f t : FX} {y : FY}
/-- a loop by what holds between its turns -/
theorem forL_inv {fg : List Nat} {gg : GG} {y : FY} (I : Nat → En → Prop) : ∀ (xs : List D) (j : Nat) (ρ : En), I j ρ →
    (∀ (n : Nat) (d : D) (ρ : En), xs[n]? = some d → I (j + n) ρ → ∃ ρ1 ρ2, gg d (forget fg ρ) = some ρ1 ∧ (y ρ1 = .ok .nx ρ2 ∨ y ρ1 = .ok .ct ρ2) ∧ I (j + n + 1) ρ2) → ∃ ρ', forL fg gg y xs ρ = .ok .nx (forget fg ρ') ∧ I (j + xs.length) ρ'
  | [], j, ρ, h0, _ => ⟨ρ, rfl, h0⟩
  | d :: ds, j, ρ, h0, hs => by
    obtain ⟨ρ1, ρ2, e1, e2, h1⟩ := hs 0 d ρ rfl h0
    obtain ⟨ρ', e3, h3⟩ := forL_inv I ds (j + 1) ρ2 h1 fun n d' ρ3 hn h3 => by
      obtain ⟨ρ4, ρ5, g1, g2, g3⟩ := hs (n + 1) d' ρ3 (by simpa using hn) (by rw [show j + (n + 1) = j + 1 + n by omega]; exact h3)
      exact ⟨ρ4, ρ5, g1, g2, by rw [show j + 1 + n + 1 = j + (n + 1) + 1 by omega]; exact g3⟩
    refine ⟨ρ', ?_, by rw [List.length_cons, show j + (ds.length + 1) = j + 1 + ds.length by omega]; exact h3⟩
    rw [forL, e1]
    simp only
    rcases e2 with e2 | e2 <;> rw [e2] <;> exact e3

/-- a comprehension that leaves the names as they are: what it keeps and makes -/
theorem lcL_map {ow : List Nat} {gg : GG} (keep : D → Bool) (mk : D → D) (ρ0 : En) : ∀ (xs acc : List D), acc.length + xs.length ≤ 1000000 →
    (∀ d ∈ xs, ∃ ρ1 ρ2, gg d ρ0 = some ρ1 ∧ t ρ1 = .ok (.fz (.bl (keep d))) ρ2 ∧ (keep d = false → forget ow ρ2 = ρ0) ∧ (keep d = true → ∃ ρ3, xF f ρ2 = .ok (.fz (mk d)) ρ3 ∧ forget ow ρ3 = ρ0)) →
    lcL ow gg t f xs acc ρ0 = .ok (acc ++ (xs.filter keep).map mk) ρ0
  | [], acc, _, _ => by simp [lcL]
  | d :: ds, acc, hl, h => by
    obtain ⟨ρ1, ρ2, e1, e2, e3, e4⟩ := h d List.mem_cons_self
    rw [List.length_cons] at hl
    rw [lcL, e1]
    simp only [e2]
    cases hk : keep d with
    | false =>
      simp only
      rw [e3 hk, lcL_map keep mk ρ0 ds acc (by omega) fun d' hd => h d' (List.mem_cons_of_mem _ hd), List.filter_cons_of_neg (by simp [hk])]
    | true =>
      obtain ⟨ρ3, e5, e6⟩ := e4 hk
      simp only [e5]
      rw [if_pos (by omega), e6, lcL_map keep mk ρ0 ds (acc ++ [mk d]) (by rw [List.length_append, List.length_singleton]; omega) fun d' hd => h d' (List.mem_cons_of_mem _ hd), List.filter_cons_of_pos hk, List.map_cons, List.append_assoc, List.singleton_append]

end
theorem SqL.sub {K : PySem.W.Frag} {H : Hp} {a : Addr} {ns : List Int} {mg : Str → Option Value} (h : SqL K H a (ns.map V.int)) : Rep K mg H (.ref a) (.scr ns) := .scr h
/-- the law's own promise -/
def spLaw (K : PySem.W.Frag) : Sp := fun vs H Q _ => ∃ (a : Addr) (ns : List Int), vs = [.ref a] ∧ SqL K H a (ns.map V.int) ∧ ns.length ≤ 63 ∧ ∀ H', Q (.bl true) H'
theorem law_imp {P : Program} {w : World} {K : PySem.W.Frag} {mg : Str → Option Value} {base : Heap} {k : Nat} {f : Addr} {fd : FuncData} {ps : List Str} {G : GF} (h : FnOk P w K mg base (L2.CX P w) k f fd ps (spF K mg [false] G))
    (hG : ∀ ns : List Int, ns.length ≤ 63 → ∃ ρ', G [.fz (.scr ns)] = .ok (.rt (.fz (.bl true))) ρ') : FnOk P w K mg base (L2.CX P w) k f fd ps (spLaw K) := h.imp fun vs H Q E hs => by
  obtain ⟨a, ns, rfl, hS, hl, q⟩ := hs
  obtain ⟨ρ', e⟩ := hG ns hl
  refine ⟨rfl, fun _ => none, H, [.fz (.scr ns)], rfl, ⟨Nat.le_refl _, fun i h => by simp at h, fun p h => by simp at h, fun b o h => h, fun b o h => by simp at h, fun i s hi => ?_, fun i j a d d' h1 => ?_, fun i j t s v x h1 => ?_, fun q hq => by cases hq⟩, fun i d hi => ?_, ?_⟩
  · cases i with
    | zero => simp at hi; subst hi; exact ⟨.ref a, rfl, .scr hS⟩
    | succ i => simp at hi
  · cases i with
    | zero => simp at h1
    | succ i => simp at h1
  · cases i with
    | zero => simp at h1
    | succ i => simp at h1
  · cases i with
    | zero => simp at hi
    | succ i => simp at hi
  · rw [e]
    intro v H' B' _ _ r
    cases r
    exact q H'

end FV

namespace FV
open PySem PySem.Spec PyProof.Rows L2
/-! ### places and bounds -/
theorem atI_nn {α : Type} {xs : List α} {i : Int} (h : 0 ≤ i) : atI xs i = xs[i.toNat]? := by
  unfold atI ixN
  rw [if_pos h]
  by_cases h1 : i < xs.length
  · rw [if_pos h1, Option.bind_some]
  · rw [if_neg h1, Option.bind_none, List.getElem?_eq_none (by omega)]
theorem ixN_nn {n : Nat} {i : Int} (h : 0 ≤ i) (h1 : i.toNat < n) : ixN n i = some i.toNat := by
  unfold ixN
  rw [if_pos h, if_pos (by omega)]
theorem log2_lt_of {n k : Nat} (h : n < 2 ^ k) (hk : 0 < k) : n.log2 < k := by
  by_cases h0 : n = 0
  · subst h0; simpa [Nat.log2_zero] using hk
  · exact (Nat.log2_lt h0).2 h
theorem abs_lt_of {i : Int} {k : Nat} (h1 : -(2 ^ k) < i) (h2 : i < 2 ^ k) : i.natAbs < 2 ^ k := by
  have e : ((2 ^ k : Nat) : Int) = 2 ^ k := by simp
  omega
theorem cMul_of {i j : Int} (h1 : -(2 ^ 1000) < i) (h2 : i < 2 ^ 1000) (h3 : -(2 ^ 1000) < j) (h4 : j < 2 ^ 1000) : cMul i j = true := by
  unfold cMul
  have a := log2_lt_of (abs_lt_of h1 h2) (by decide)
  have b := log2_lt_of (abs_lt_of h3 h4) (by decide)
  exact decide_eq_true (by omega)
theorem bits_le {i : Int} {k : Nat} (h1 : -(2 ^ k) < i) (h2 : i < 2 ^ k) (hk : 0 < k) : Builtin.Int.intBits i ≤ k := by
  unfold Builtin.Int.intBits
  split
  · omega
  · exact log2_lt_of (abs_lt_of h1 h2) hk
theorem cDiv_of {i j : Int} (h1 : 0 < j) (h2 : j < 2 ^ 1000) : cDiv i j = true := by
  unfold cDiv
  have b := log2_lt_of (abs_lt_of (i := j) (k := 1000) (by omega) h2) (by decide)
  rw [decide_eq_true h1, decide_eq_true (by omega)]
  rfl
theorem cMod_of {i j : Int} (h1 : 0 < j) : cMod i j = true := decide_eq_true h1
/-! ### one step at a time -/
def Nxx (r : R Fl) (I : En → Prop) : Prop := ∃ ρ, r = .ok .nx ρ ∧ I ρ
theorem Nxx.mk {ρ : En} {I : En → Prop} (h : I ρ) : Nxx (.ok .nx ρ) I := ⟨ρ, rfl, h⟩
theorem Ret_seq {p q : FY} {ρ : En} {own : List Bool} {Q : Sl → En → Prop} {I : En → Prop} (h1 : Nxx (p ρ) I) (h2 : ∀ ρ', I ρ' → Ret (kFin own (q ρ')) Q) : Ret (kFin own (kSeq q (p ρ))) Q := by
  obtain ⟨ρ', e, h⟩ := h1
  rw [e, kSeq_nx]
  exact h2 ρ' h
theorem Ret_seq' {p q : FY} {ρ : En} {own : List Bool} {Q : Sl → En → Prop} {I : En → Prop} (h1 : Nxx (p ρ) I) (h2 : ∀ ρ', I ρ' → Ret (kFin own (q ρ')) Q) : Ret (kFin own (ySeq p q ρ)) Q := by
  rw [ev_seq]
  exact Ret_seq h1 h2
theorem Nx_seq {p q : FY} {ρ : En} {Q : En → Prop} {I : En → Prop} (h1 : Nxx (p ρ) I) (h2 : ∀ ρ', I ρ' → Nx (q ρ') Q) : Nx (ySeq p q ρ) Q := by
  obtain ⟨ρ', e, h⟩ := h1
  rw [ev_seq, e, kSeq_nx]
  exact h2 ρ' h
theorem Nxx_seq {p q : FY} {ρ : En} {Q : En → Prop} {I : En → Prop} (h1 : Nxx (p ρ) I) (h2 : ∀ ρ', I ρ' → Nxx (q ρ') Q) : Nxx (ySeq p q ρ) Q := by
  obtain ⟨ρ', e, h⟩ := h1
  rw [ev_seq, e, kSeq_nx]
  exact h2 ρ' h
theorem kSeq_assoc {p q : FY} {r : R Fl} : kSeq q (kSeq p r) = kSeq (ySeq p q) r := by
  cases r with
  | ok fl ρ => cases fl <;> first | rfl | (simp only [kSeq]; rw [ev_seq]; rfl)
  | _ => rfl
theorem Nx_seq' {q : FY} {r : R Fl} {Q : En → Prop} {I : En → Prop} (h1 : Nxx r I) (h2 : ∀ ρ', I ρ' → Nx (q ρ') Q) : Nx (kSeq q r) Q := by
  obtain ⟨ρ', e, h⟩ := h1
  rw [e, kSeq_nx]
  exact h2 ρ' h
theorem Ret_seq2 {q : FY} {r : R Fl} {own : List Bool} {Q : Sl → En → Prop} {I : En → Prop} (h1 : Nxx r I) (h2 : ∀ ρ', I ρ' → Ret (kFin own (q ρ')) Q) : Ret (kFin own (kSeq q r)) Q := by
  obtain ⟨ρ', e, h⟩ := h1
  rw [e, kSeq_nx]
  exact h2 ρ' h
theorem ret_eq {r : R Fl} {s : Sl} {ρ : En} (h : Ret r fun s' ρ' => s' = s ∧ ρ' = ρ) : r = .ok (.rt s) ρ := by
  obtain ⟨s', ρ', e, rfl, rfl⟩ := h.ex
  exact e
/-- a loop whose body only falls through -/
theorem Nxx_for {fg : List Nat} {gg : GG} {y : FY} {xs : List D} {ρ : En} {Q : En → Prop} (I : Nat → En → Prop) (h0 : I 0 ρ)
    (hs : ∀ (n : Nat) (d : D) (ρ : En), xs[n]? = some d → I n ρ → ∃ ρ1, gg d (forget fg ρ) = some ρ1 ∧ Nx (y ρ1) (I (n + 1))) (hq : ∀ ρ', I xs.length ρ' → Q (forget fg ρ')) : Nxx (forL fg gg y xs ρ) Q := by
  obtain ⟨ρ', e, h⟩ := forL_inv (fg := fg) (gg := gg) (y := y) I xs 0 ρ h0 fun n d ρ hn hi => by
    rw [Nat.zero_add] at hi
    obtain ⟨ρ1, e1, h1⟩ := hs n d ρ hn hi
    obtain ⟨ρ2, e2, h2⟩ := h1.ex
    exact ⟨ρ1, ρ2, e1, e2, by rw [Nat.zero_add]; exact h2⟩
  rw [Nat.zero_add] at h
  exact ⟨_, e, hq ρ' h⟩
theorem yWh_f {fg : List Nat} {c : FX} {f : FY} {ρ ρ1 : En} (h : c (forget fg ρ) = .ok (.fz (.bl false)) ρ1) : yWh fg c f ρ = .ok .nx (forget fg ρ1) :=
  yWh_of (n := 1) (by rw [whF, h]) (by intro e; cases e)
theorem yWh_t {fg : List Nat} {c : FX} {f : FY} {ρ ρ1 ρ2 : En} {r : R Fl} (h : c (forget fg ρ) = .ok (.fz (.bl true)) ρ1) (h2 : f ρ1 = .ok .nx ρ2 ∨ f ρ1 = .ok .ct ρ2) (e : yWh fg c f ρ2 = r) (hb : r ≠ .bad) : yWh fg c f ρ = r := by
  have hex : ∃ n, whF fg c f n ρ2 = r := by
    unfold yWh at e
    split at e
    · exact ⟨_, e⟩
    · exact (hb e.symm).elim
  obtain ⟨n, hn⟩ := hex
  refine yWh_of (n := n + 1) ?_ hb
  rw [whF, h]
  rcases h2 with h2 | h2 <;> simp only [h2, hn]
/-- a while loop by a falling count -/
theorem Nxx_while {fg : List Nat} {c : FX} {f : FY} {Q : En → Prop} (I : Nat → En → Prop)
    (hs : ∀ k ρ, I k ρ → (∃ ρ1, c (forget fg ρ) = .ok (.fz (.bl false)) ρ1 ∧ Q (forget fg ρ1)) ∨ ∃ ρ1, c (forget fg ρ) = .ok (.fz (.bl true)) ρ1 ∧ Nx (f ρ1) fun ρ2 => ∃ j, j < k ∧ I j ρ2) :
    ∀ (k : Nat) (ρ : En), I k ρ → Nxx (yWh fg c f ρ) Q := by
  intro k
  induction k using Nat.strongRecOn with
  | _ k ih =>
    intro ρ hi
    rcases hs k ρ hi with ⟨ρ1, e, q⟩ | ⟨ρ1, e, q⟩
    · exact ⟨_, yWh_f e, q⟩
    · obtain ⟨ρ2, e2, j, hj, hi2⟩ := q.ex
      obtain ⟨ρ3, e3, q3⟩ := ih j hj ρ2 hi2
      exact ⟨ρ3, yWh_t e e2 e3 (by intro z; cases z), q3⟩
theorem lcL_of {α : Type} {ow : List Nat} {gg : GG} {t f : FX} (inj : α → D) (keep : α → Bool) (mk : α → D) (ρ0 : En) : ∀ (xs : List α) (acc : List D), acc.length + xs.length ≤ 1000000 →
    (∀ a ∈ xs, ∃ ρ1 ρ2, gg (inj a) ρ0 = some ρ1 ∧ t ρ1 = .ok (.fz (.bl (keep a))) ρ2 ∧ (keep a = false → forget ow ρ2 = ρ0) ∧ (keep a = true → ∃ ρ3, kF (f ρ2) = .ok (.fz (mk a)) ρ3 ∧ forget ow ρ3 = ρ0)) →
    lcL ow gg t f (xs.map inj) acc ρ0 = .ok (acc ++ (xs.filter keep).map mk) ρ0
  | [], acc, _, _ => by simp [lcL]
  | d :: ds, acc, hl, h => by
    obtain ⟨ρ1, ρ2, e1, e2, e3, e4⟩ := h d List.mem_cons_self
    rw [List.length_cons] at hl
    rw [List.map_cons, lcL, e1]
    simp only [e2]
    cases hk : keep d with
    | false =>
      simp only
      rw [e3 hk, lcL_of inj keep mk ρ0 ds acc (by omega) fun d' hd => h d' (List.mem_cons_of_mem _ hd), List.filter_cons_of_neg (by simp [hk])]
    | true =>
      obtain ⟨ρ3, e5, e6⟩ := e4 hk
      rw [← ev_f] at e5
      simp only [e5]
      rw [if_pos (by omega), e6, lcL_of inj keep mk ρ0 ds (acc ++ [mk d]) (by rw [List.length_append, List.length_singleton]; omega) fun d' hd => h d' (List.mem_cons_of_mem _ hd), List.filter_cons_of_pos hk, List.map_cons, List.append_assoc, List.singleton_append]
theorem lcL_yes {α : Type} {ow : List Nat} {gg : GG} {f : FX} (inj : α → D) (mk : α → D) (ρ0 : En) (xs : List α) (hl : xs.length ≤ 1000000)
    (h : ∀ a ∈ xs, ∃ ρ1 ρ3, gg (inj a) ρ0 = some ρ1 ∧ kF (f ρ1) = .ok (.fz (mk a)) ρ3 ∧ forget ow ρ3 = ρ0) :
    lcL ow gg xYes f (xs.map inj) [] ρ0 = .ok (xs.map mk) ρ0 := by
  rw [lcL_of inj (fun _ => true) mk ρ0 xs [] (by simpa using hl) fun a ha => ?_]
  · rw [List.nil_append, List.filter_eq_self.2 (fun _ _ => rfl)]
  · obtain ⟨ρ1, ρ3, e1, e2, e3⟩ := h a ha
    exact ⟨ρ1, ρ1, e1, rfl, (fun z => by cases z), fun _ => ⟨ρ3, e2, e3⟩⟩
theorem filter_yes {α : Type} {l : List α} : l.filter (fun _ => true) = l := List.filter_eq_self.2 fun _ _ => rfl
theorem cut63 {α : Type} (xs : List α) : (FV.cutD xs none (some 63)).length ≤ 63 := by
  unfold FV.cutD
  rw [List.length_take]
  have : HT.sIx xs.length xs.length (some 63) ≤ 63 := by
    show (if (63 : Int) < 0 then ((63 : Int) + (xs.length : Int)).toNat else min (63 : Int).toNat xs.length) ≤ 63
    rw [if_neg (by decide)]
    exact Nat.min_le_left _ _
  omega
/-! ### a law's hand -/
/-- the hand with room for m more draws -/
structure Hd (m : Nat) (h : D) : Prop where
  ex : ∃ (cells : List Int) (a b s c : Int), h = .lst [.lst (cells.map .int), .int a, .int b, .int s, .int c] ∧ (∀ x ∈ cells, 0 ≤ x) ∧ 0 ≤ a ∧ 0 ≤ b ∧ 0 ≤ s ∧ s < 2147483629 ∧ 0 ≤ c ∧ c + m ≤ 2 ^ 60
theorem Hd.mono {m n : Nat} {h : D} (H : Hd n h) (l : m ≤ n) : Hd m h := by
  obtain ⟨cells, a, b, s, c, e, h1, h2, h3, h4, h5, h6, h7⟩ := H.ex
  exact ⟨cells, a, b, s, c, e, h1, h2, h3, h4, h5, h6, by omega⟩
end FV

namespace FV
open PySem PySem.Spec PyProof.Rows L2
/-! ### the end: facts of the written part, read at once -/
inductive Fi where
  | he (f : He.Fa)
  | isc (x : Str)
  | kit (x y : Str) (b : Bool)
def Fi.ok (K : PySem.W.Frag) : Fi → Bool
  | .he f => f.ok K
  | .isc x => He.eqO (PySem.W.findIn K (.ref (He.ga K x)) "__getattribute__") (some (some (.builtin "BaseException.__getattribute__"))) &&
      (He.eqO (PySem.W.findIn K (.ref (He.ga K x)) "__getattr__") (some none) && (decide (PySem.W.subIn K (.ref (He.ga K x)) (.type "BaseException") = some true) && (PySem.W.hasDictIn K (He.ga K x) &&
      (He.eqO (PySem.W.findIn K (.ref (He.ga K x)) "__class__") (some (some (.builtin "object.__class__"))) && (He.eqO (PySem.W.specialIn K (.builtin "object.__class__") "__get__") (some (some (.builtin "getset_descriptor.__get__"))) &&
      (decide (PySem.W.takesIn K (.builtin "object.__class__") = some true) && decide (PySem.W.mroIn K (He.ga K x) (.type "object") = some true)))))))
  | .kit x y b => decide (PySem.W.kitOne K (.ref (He.ga K x)) (.ref (He.ga K y)) = some b)
def fisOk (K : PySem.W.Frag) (l : List Fi) : Bool := l.all fun f => f.ok K
section
variable {K : PySem.W.Frag} {h : Heap} {mg : Str → Option Value} {x y : Str} {b : Bool} {l : List Fi}
theorem fi_at (c : fisOk K l = true) (i : Nat) {f : Fi} (e : l[i]? = some f := by rfl) : f.ok K = true := List.all_eq_true.mp c f (List.mem_of_getElem? e)
theorem fh_at (c : fisOk K l = true) (i : Nat) {f : He.Fa} (e : l[i]? = some (.he f) := by rfl) : f.ok K = true := fi_at c i e
theorem isc_ok (c : (Fi.isc x).ok K = true) : ExcC K (He.ga K x) := by
  obtain ⟨c1, c⟩ := He.ba c
  obtain ⟨c2, c⟩ := He.ba c
  obtain ⟨c3, c⟩ := He.ba c
  obtain ⟨c4, c⟩ := He.ba c
  obtain ⟨c5, c⟩ := He.ba c
  obtain ⟨c6, c⟩ := He.ba c
  obtain ⟨c7, c8⟩ := He.ba c
  exact ⟨He.eqO_ok c1, He.eqO_ok c2, of_decide_eq_true c3, c4, He.eqO_ok c5, He.eqO_ok c6, of_decide_eq_true c7, of_decide_eq_true c8⟩
theorem kit_ok (c : (Fi.kit x y b).ok K = true) : PySem.W.kitOne K (.ref (He.ga K x)) (.ref (He.ga K y)) = some b := of_decide_eq_true c
theorem excAtK_of (X : K.In h) (G : h.Ns mainGlobals mg) (c1 : (He.Fa.glo x).ok K = true) (c2 : (He.Fa.exc x).ok K = true) : ExcAtK K mg x := by
  obtain ⟨q1, q2, q3, q4⟩ := He.exc_ok c2
  exact ⟨_, He.glo_ok X G c1, q1, q2, q3, q4⟩
theorem mtK_of (X : K.In h) (G : h.Ns mainGlobals mg) {tab : List (Str × Bool)} (c1 : (He.Fa.glo y).ok K = true)
    (ht : ∀ p ∈ tab, (He.Fa.glo p.1).ok K = true ∧ (He.Fa.exm p.1 y p.2).ok K = true) : MtK K mg y tab := by
  intro Ch hg c b C e hc
  have hm : (c, b) ∈ tab := by
    clear ht
    induction tab with
    | nil => cases e
    | cons q tab ih =>
      rw [List.lookup_cons] at e
      by_cases hq : c = q.1
      · subst hq
        rw [show (q.1 == q.1) = true by simp] at e
        cases e
        exact List.mem_cons_self
      · rw [show (c == q.1) = false by simpa using hq] at e
        exact List.mem_cons_of_mem _ (ih e)
  obtain ⟨t1, t2⟩ := ht _ hm
  have e1 := hg.symm.trans (He.glo_ok X G c1)
  have e2 := hc.symm.trans (He.glo_ok X G t1)
  cases e1
  cases e2
  exact He.exm_ok t2
theorem isK_of (X : K.In h) (G : h.Ns mainGlobals mg) {tab : List (Str × Bool)} (c1 : (He.Fa.glo y).ok K = true)
    (ht : ∀ p ∈ tab, (He.Fa.glo p.1).ok K = true ∧ (Fi.isc p.1).ok K = true ∧ (Fi.kit p.1 y p.2).ok K = true) : IsK K mg y tab := by
  refine ⟨_, He.glo_ok X G c1, fun c b C e hc => ?_⟩
  have hm : (c, b) ∈ tab := by
    clear ht
    induction tab with
    | nil => cases e
    | cons q tab ih =>
      rw [List.lookup_cons] at e
      by_cases hq : c = q.1
      · subst hq
        rw [show (q.1 == q.1) = true by simp] at e
        cases e
        exact List.mem_cons_self
      · rw [show (c == q.1) = false by simpa using hq] at e
        exact List.mem_cons_of_mem _ (ih e)
  obtain ⟨t1, t2, t3⟩ := ht _ hm
  have e2 := hc.symm.trans (He.glo_ok X G t1)
  cases e2
  exact ⟨isc_ok t2, kit_ok t3⟩
theorem loose_int {lv : List (Str × PySem.W.WData)} {i : Int} (V : PySem.W.LooseAre lv mg h) (e : (x, PySem.PyData.int i) ∈ PySem.W.scalarsOf lv) : ∃ t, mg x = some (.int i t) := by
  obtain ⟨v, h1, h2⟩ := PySem.W.scalars_bound V.val _ e
  cases h2 h
  exact ⟨_, h1⟩
theorem funAt_mk (X : K.In h) (G : h.Ns mainGlobals mg) {st : Stmt} {ps : List Str} {f : Addr} {oc : Value} {od an : Option Addr} {osl : Array (Option Value)} {kV doc pm cdv ct : Value}
    (a : PySem.W.nsIn K mainGlobals x = some (some (.ref f)))
    (l : K.lookup f = some ⟨oc, od, .func (PySem.W.fnOf x x (defArgs st) (defBody st) (defScope st) .none kV doc pm an cdv ct), osl⟩)
    (c : PySem.W.codeIn K cdv x = true) (k : PySem.W.keepIn K (.ref f) = true)
    (hb : ∀ (kV doc pm : Value) (an : Option Addr) (cdv ct : Value) (us : List Value), us.length = ps.length → bindArgs (PySem.W.fnOf x x (defArgs st) (defBody st) (defScope st) .none kV doc pm an cdv ct) ⟨us, []⟩ = pure (ps.zip us)) : FunAt K mg x st ps :=
  ⟨_, _, fun_mk l c k, PySem.W.mg_of X G a, (fun_mk l c k).binds hb⟩
end
theorem dF_mk {P : Program} {w : World} {K : PySem.W.Frag} {mg : Str → Option Value} {base : Heap} {k : Nat} {x : Str} {st : Stmt} {ps : List Str} {own : List Bool} {G : GF} (FN : FunAt K mg x st ps)
    (h : ∀ {f : Addr} {fd : FuncData}, Fun K x x st f fd → FnOk P w K mg base (L2.CX P w) k f fd ps (spF K mg own G)) : DF P w K mg base k x ps own G := by
  obtain ⟨f, fd, Fn, gm, bd⟩ := FN.ex
  exact ⟨f, fd, h Fn, gm, Fn.kp, bd⟩
theorem walk_law {l : PySem.W.OpenLaw} {n k : Nat} {p q : Program} {loose : List Str} {lv : List (Str × PySem.W.WData)} {YP : World → Heap → Prop} {d : DefRec} {K : Params → PySem.W.Frag} {x : Str} {G : GF}
    (hn : l.most = some n) (hn2 : n ≤ 63) (hdf : d.params.defaults = []) (hr : Room k callerA)
    (hY : ∀ (w : World) (h : Heap), YP w h → (K w.params).In h)
    (F : ∀ (w : World) (mg : Str → Option Value) (h : Heap), (K w.params).In h → h.Ns mainGlobals mg → PySem.W.LooseAre lv mg h →
      ∃ (f : Addr) (fd : FuncData), mg d.name = some (.ref f) ∧ (∀ (s : Shared) (u : Value), BindsTo s fd ⟨[u], []⟩ [(x, u)]) ∧
        ∀ base : Heap, (K w.params).In base → base.Ns mainGlobals mg → FnOk l.prog w (K w.params) mg base (L2.CX l.prog w) k f fd [x] (spF (K w.params) mg [false] G))
    (hG : ∀ ns : List Int, ns.length ≤ 63 → ∃ ρ', G [.fz (.scr ns)] = .ok (.rt (.fz (.bl true))) ρ') :
    PySem.W.WalkO q loose (PySem.W.XL p lv) YP l.row.toRowW d [] (fun f vs => PySem.call f vs) := by
  refine Att.attach_call hn hdf fun w s₀ s₁ mg mb fa o pm cd doc a vs ns Gr Y ho hd hcd hmg hobj hints hlen hg => ?_
  have KX := hY w _ Y
  obtain ⟨f, fd, gm, hb, hF⟩ := F w mg _ KX Gr.T.g Gr.X.2
  have e := hmg.symm.trans gm
  cases e
  refine law_call KX Gr.T.g Gr.T.b Gr.T.builtins Gr.T.nolimit hg hobj hints (Nat.le_trans hlen (Nat.le_trans hn2 (by decide))) hr (fun base h1 h2 => law_imp (hF base h1 h2) hG) hb (fun H hO hS => ⟨a, ns, rfl, hS, Nat.le_trans hlen hn2, fun H' => rfl⟩) fun H e s' h => ?_
  obtain ⟨_, _, _, _, _, _, _, _, _, _, _, _, h⟩ := h
  exact h
end FV

namespace FV
open PySem PySem.Spec PyProof.Rows L2
/-! ### a place in an owned tree -/
inductive AtP (H : Hp) : L2.V → T → List Nat → L2.V → T → Prop
  | nil {v : L2.V} {t : T} : AtP H v t [] v t
  | cons {a : Addr} {o : HO} {h : TH} {ts : List T} {j : Nat} {w w' : L2.V} {u u' : T} {js : List Nat} : H a = some o → (kids o)[j]? = some w → ts[j]? = some u → AtP H w u js w' u' → AtP H (V.ref a) (.nd h ts) (j :: js) w' u'
mutual
def T.put : T → List Nat → T → T
  | _, [], u => u
  | .nd h ts, j :: js, u => .nd h (T.putL ts j js u)
  | .lf d, _ :: _, _ => .lf d
def T.putL : List T → Nat → List Nat → T → List T
  | [], _, _, _ => []
  | t :: ts, 0, js, u => t.put js u :: ts
  | t :: ts, j + 1, js, u => t :: T.putL ts j js u
end
section
variable {K : PySem.W.Frag} {mg : Str → Option Value} {B H H' : Hp}
mutual
theorem AtP.sub {w : L2.V} {u : T} {x : Addr} (hx : x ∈ fpT H w u) : ∀ {t : T} {v : L2.V} {js : List Nat}, AtP H v t js w u → x ∈ fpT H v t
  | _, _, [], .nil => hx
  | .lf _, _, _ :: _, p => by cases p
  | .nd hd ts, _, j :: js, .cons h1 h2 h3 p => by
    rw [fpT_nd h1]
    exact List.mem_cons_of_mem _ (AtP.subL hx h2 h3 p)
theorem AtP.subL {w wj : L2.V} {u uj : T} {js : List Nat} {x : Addr} (hx : x ∈ fpT H w u) : ∀ {ts : List T} {vs : List L2.V} {j : Nat}, vs[j]? = some wj → ts[j]? = some uj → AtP H wj uj js w u → x ∈ fpL H vs ts
  | [], _, _, _, h3, _ => by simp at h3
  | t :: ts, [], _, h2, _, _ => by simp at h2
  | t :: ts, v :: vs, 0, h2, h3, p => by
    simp at h2 h3
    subst h2
    subst h3
    rw [fpL_cons]
    exact List.mem_append_left _ (AtP.sub hx p)
  | t :: ts, v :: vs, j + 1, h2, h3, p => by
    rw [fpL_cons]
    exact List.mem_append_right _ (AtP.subL hx (by simpa using h2) (by simpa using h3) p)
end
mutual
/-- what stands at the place -/
theorem OwT.to {w : L2.V} {u : T} : ∀ {t : T} {v : L2.V} {js : List Nat}, OwT K mg B H v t → AtP H v t js w u → (fpT H v t).Nodup → OwT K mg B H w u ∧ (fpT H w u).Nodup
  | _, _, [], o, .nil, n => ⟨o, n⟩
  | .lf _, _, _ :: _, _, p, _ => by cases p
  | .nd hd ts, _, j :: js, o, .cons h1 h2 h3 p, n => by
    cases o with
    | nd g1 g2 g3 =>
      rw [h1] at g1; cases g1
      rw [fpT_nd h1] at n
      exact OwL.to g3 h2 h3 p (List.nodup_cons.1 n).2
theorem OwL.to {w wj : L2.V} {u uj : T} {js : List Nat} : ∀ {ts : List T} {vs : List L2.V} {j : Nat}, OwL K mg B H vs ts → vs[j]? = some wj → ts[j]? = some uj → AtP H wj uj js w u → (fpL H vs ts).Nodup → OwT K mg B H w u ∧ (fpT H w u).Nodup
  | [], _, _, _, _, h3, _, _ => by simp at h3
  | t :: ts, _, 0, .cons p q, h2, h3, r, n => by
    simp at h2 h3
    subst h2
    subst h3
    rw [fpL_cons] at n
    exact OwT.to p r (List.nodup_append.1 n).1
  | t :: ts, _, j + 1, .cons p q, h2, h3, r, n => by
    rw [fpL_cons] at n
    exact OwL.to q (by simpa using h2) (by simpa using h3) r (List.nodup_append.1 n).2.1
end
mutual
/-- another tree at the place -/
theorem OwT.focus {w : L2.V} {u u' : T} (hu : OwT K mg B H' w u') (nu : (fpT H' w u').Nodup) : ∀ {t : T} {v : L2.V} {js : List Nat}, OwT K mg B H v t → AtP H v t js w u → (fpT H v t).Nodup →
    (∀ x ∈ fpT H v t, x ∉ fpT H w u → H' x = H x) → (∀ x ∈ fpT H' w u', x ∈ fpT H w u ∨ x ∉ fpT H v t) →
    OwT K mg B H' v (t.put js u') ∧ (fpT H' v (t.put js u')).Nodup ∧ ∀ x ∈ fpT H' v (t.put js u'), x ∈ fpT H' w u' ∨ (x ∈ fpT H v t ∧ x ∉ fpT H w u)
  | t, _, [], _, .nil, _, _, _ => by
    cases t <;> exact ⟨hu, nu, fun x hx => .inl hx⟩
  | .lf _, _, _ :: _, _, p, _, _, _ => by cases p
  | .nd hd ts, v, j :: js, o, p, n, hh, hx => by
    obtain ⟨a, ob, wj, uj, rfl, h1, h2, h3, p⟩ : ∃ a ob wj uj, v = V.ref a ∧ H a = some ob ∧ (kids ob)[j]? = some wj ∧ ts[j]? = some uj ∧ AtP H wj uj js w u := by
      cases p with
      | cons h1 h2 h3 p => exact ⟨_, _, _, _, rfl, h1, h2, h3, p⟩
    cases o with
    | nd g1 g2 g3 =>
      rw [h1] at g1; cases g1
      rw [fpT_nd h1] at n hh hx
      obtain ⟨n1, n2⟩ := List.nodup_cons.1 n
      have na : ∀ x, x ∈ fpT H w u → x ≠ a := fun x hm z => n1 (by rw [← z]; exact AtP.subL hm h2 h3 p)
      have ha := hh _ List.mem_cons_self fun hm => na _ hm rfl
      obtain ⟨q1, q2, q3⟩ := OwL.focus hu nu g3 h2 h3 p n2 (fun x hm => hh x (List.mem_cons_of_mem _ hm)) (fun x hm => (hx x hm).imp id fun z k => z (List.mem_cons_of_mem _ k))
      have ha' := ha.trans h1
      refine ⟨.nd ha' g2 q1, ?_, ?_⟩
      · rw [T.put, fpT_nd ha']
        refine List.nodup_cons.2 ⟨fun hm => ?_, q2⟩
        rcases q3 _ hm with z | ⟨z, _⟩
        · rcases hx _ z with y | y
          · exact na _ y rfl
          · exact y List.mem_cons_self
        · exact n1 z
      · rw [T.put, fpT_nd ha', fpT_nd h1]
        intro x hm
        rcases List.mem_cons.1 hm with rfl | hm
        · exact .inr ⟨List.mem_cons_self, fun hm => na _ hm rfl⟩
        · exact (q3 x hm).imp id fun z => ⟨List.mem_cons_of_mem _ z.1, z.2⟩
theorem OwL.focus {w wj : L2.V} {u u' uj : T} {js : List Nat} (hu : OwT K mg B H' w u') (nu : (fpT H' w u').Nodup) : ∀ {ts : List T} {vs : List L2.V} {j : Nat}, OwL K mg B H vs ts → vs[j]? = some wj → ts[j]? = some uj → AtP H wj uj js w u → (fpL H vs ts).Nodup →
    (∀ x ∈ fpL H vs ts, x ∉ fpT H w u → H' x = H x) → (∀ x ∈ fpT H' w u', x ∈ fpT H w u ∨ x ∉ fpL H vs ts) →
    OwL K mg B H' vs (T.putL ts j js u') ∧ (fpL H' vs (T.putL ts j js u')).Nodup ∧ ∀ x ∈ fpL H' vs (T.putL ts j js u'), x ∈ fpT H' w u' ∨ (x ∈ fpL H vs ts ∧ x ∉ fpT H w u)
  | [], _, _, _, _, h3, _, _, _, _ => by simp at h3
  | t :: ts, _, 0, .cons p q, h2, h3, r, n, hh, hx => by
    simp at h2 h3
    subst h2
    subst h3
    rw [fpL_cons] at n hh hx
    obtain ⟨n1, n2, n3⟩ := List.nodup_append.1 n
    have off : ∀ x ∈ fpL H _ ts, x ∉ fpT H w u := fun x hm k => n3 x (AtP.sub k r) x hm rfl
    obtain ⟨q1, q2, q3⟩ := OwT.focus hu nu p r n1 (fun x hm => hh x (List.mem_append_left _ hm)) (fun x hm => (hx x hm).imp id fun z k => z (List.mem_append_left _ k))
    obtain ⟨r1, r2⟩ := q.at (H' := H') fun x hm => hh x (List.mem_append_right _ hm) (off x hm)
    refine ⟨.cons q1 r1, ?_, ?_⟩
    · rw [T.putL, fpL_cons, r2]
      refine List.nodup_append.2 ⟨q2, n2, fun x hm y hy e => ?_⟩
      subst e
      rcases q3 x hm with z | ⟨z, _⟩
      · rcases hx x z with k | k
        · exact off x hy k
        · exact k (List.mem_append_right _ hy)
      · exact n3 x z x hy rfl
    · rw [T.putL, fpL_cons, fpL_cons, r2]
      intro x hm
      rcases List.mem_append.1 hm with hm | hm
      · exact (q3 x hm).imp id fun z => ⟨List.mem_append_left _ z.1, z.2⟩
      · exact .inr ⟨List.mem_append_right _ hm, off x hm⟩
  | t :: ts, _, j + 1, .cons p q, h2, h3, r, n, hh, hx => by
    rw [fpL_cons] at n hh hx
    obtain ⟨n1, n2, n3⟩ := List.nodup_append.1 n
    have h2' := (show _ = some wj by simpa using h2)
    have h3' := (show ts[j]? = some uj by simpa using h3)
    have off : ∀ x ∈ fpT H _ t, x ∉ fpT H w u := fun x hm k => n3 x hm x (AtP.subL k h2' h3' r) rfl
    obtain ⟨q1, q2, q3⟩ := OwL.focus hu nu q h2' h3' r n2 (fun x hm => hh x (List.mem_append_right _ hm)) (fun x hm => (hx x hm).imp id fun z k => z (List.mem_append_right _ k))
    obtain ⟨r1, r2⟩ := p.at (H' := H') fun x hm => hh x (List.mem_append_left _ hm) (off x hm)
    refine ⟨.cons r1 q1, ?_, ?_⟩
    · rw [T.putL, fpL_cons, r2]
      refine List.nodup_append.2 ⟨n1, q2, fun x hm y hy e => ?_⟩
      subst e
      rcases q3 x hy with z | ⟨z, _⟩
      · rcases hx x z with k | k
        · exact off x hm k
        · exact k (List.mem_append_left _ hm)
      · exact n3 x hm x z rfl
    · rw [T.putL, fpL_cons, fpL_cons, r2]
      intro x hm
      rcases List.mem_append.1 hm with hm | hm
      · exact .inr ⟨List.mem_append_left _ hm, off x hm⟩
      · exact (q3 x hm).imp id fun z => ⟨List.mem_append_right _ z.1, z.2⟩
end
end
/-! ### a slot's tree: hidden, shown, changed -/
section
variable {K : PySem.W.Frag} {mg : Str → Option Value} {PN : List Nat} {σ0 : Gs} {σ : L2.St} {F B B' H H' : Hp} {ρ ρ1 : En} {i : Nat} {t t' : T} {v : L2.V}
theorem Sat.setT (S : Sat K mg PN σ0 F B H σ ρ) (hi : ρ[i]? = some (Sl.dp t)) (hv : σ[i]? = some (some v)) (hH : ∀ b o, b ∉ fpT H v t → H b = some o → H' b = some o) (o : OwT K mg B H' v t') (n : (fpT H' v t').Nodup)
    (ap : ∀ x ∈ fpT H' v t', x ∈ fpT H v t ∨ (F x = none ∧ B x = none ∧ ∀ j s, ρ[j]? = some s → x ∉ fpS H σ j s)) : Sat K mg PN σ0 F B H' σ (ρ.set i (.dp t')) := by
  have hil : i < ρ.length := (List.getElem?_eq_some_iff.mp hi).1
  have q0 := S.sl i _ hi
  have m0 : ∀ x, x ∈ fpT H v t → x ∈ fpS H σ i (.dp t) := fun x hx => by rw [fpS_dp hv]; exact hx
  have fr : ∀ x ∈ fpT H' v t', F x = none ∧ B x = none := fun x hx => by
    rcases ap x hx with z | z
    · exact q0.free (m0 x z)
    · exact ⟨z.1, z.2.1⟩
  have off : ∀ (j : Nat) (s : Sl), j ≠ i → ρ[j]? = some s → ∀ x ∈ fpS H σ j s, H' x = H x ∧ B x = none := fun j s hne hj x hx => by
    obtain ⟨u, hu⟩ := (S.sl j s hj).there hx
    refine ⟨(hH x u (fun z => hne (S.sep hj hi hx (m0 x z))) hu).trans hu.symm, ((S.sl j s hj).free hx).2⟩
  have fpe : ∀ (j : Nat) (s : Sl), j ≠ i → ρ[j]? = some s → fpS H' σ j s = fpS H σ j s := fun j s hne hj => (S.sl j s hj).fp_at fun x hx => (off j s hne hj x hx).1
  have apt : ∀ (j : Nat) (s : Sl) (x : Addr), j ≠ i → ρ[j]? = some s → x ∈ fpS H σ j s → x ∉ fpT H' v t' := fun j s x hne hj hx hm => by
    rcases ap x hm with z | z
    · exact hne (S.sep hj hi hx (m0 x z))
    · exact z.2.2 j s hj hx
  have hsep : ∀ (j k : Nat) (s s' : Sl) (x : Addr), (ρ.set i (.dp t'))[j]? = some s → (ρ.set i (.dp t'))[k]? = some s' → x ∈ fpS H' σ j s → x ∈ fpS H' σ k s' → j = k := fun j k s s' x h1 h2 m1 m2 => by
    rcases set_get_ne h1 with ⟨e1, e2, _⟩ | ⟨n1, g1⟩
    · subst e1; subst e2
      rcases set_get_ne h2 with ⟨e1, e2, _⟩ | ⟨n2, g2⟩
      · exact e1.symm
      · rw [fpS_dp hv] at m1
        rw [fpe k s' n2 g2] at m2
        exact (apt k s' x n2 g2 m2 m1).elim
    · rcases set_get_ne h2 with ⟨e1, e2, _⟩ | ⟨n2, g2⟩
      · subst e1; subst e2
        rw [fpS_dp hv] at m2
        rw [fpe j s n1 g1] at m1
        exact (apt j s x n1 g1 m1 m2).elim
      · rw [fpe j s n1 g1] at m1
        rw [fpe k s' n2 g2] at m2
        exact S.sep g1 g2 m1 m2
  refine ⟨by rw [List.length_set]; exact S.len, S.pin, S.gh, fun b u hb => hH b u (fun z => ?_) (S.bh b u hb), fun b u hb => ⟨hH b u (fun z => ?_) (S.fh b u hb).1, (S.fh b u hb).2⟩, fun j s hj => ?_, (sep_dj hsep).1, (sep_dj hsep).2, S.vw⟩
  · rw [(q0.free (m0 b z)).2] at hb; cases hb
  · rw [(q0.free (m0 b z)).1] at hb; cases hb
  · rcases set_get_ne hj with ⟨rfl, rfl, _⟩ | ⟨n1, g1⟩
    · exact ⟨v, hv, o, n, fr⟩
    · exact (S.sl j s g1).later (Ext.refl B) (off j s n1 g1)
/-- the tree's own heap -/
noncomputable def treeH (H : Hp) (v : L2.V) (t : T) : Hp := fun b => open Classical in if b ∈ fpT H v t then H b else none
noncomputable def treeF (F H : Hp) (v : L2.V) (t : T) : Hp := fun b => open Classical in if b ∈ fpT H v t then H b else F b
theorem treeH_in {b : Addr} (h : b ∈ fpT H v t) : treeH H v t b = H b := if_pos h
theorem treeF_in {b : Addr} (h : b ∈ fpT H v t) : treeF F H v t b = H b := if_pos h
theorem treeF_out {b : Addr} (h : b ∉ fpT H v t) : treeF F H v t b = F b := if_neg h
theorem treeH_sub {b : Addr} {o : HO} (h : treeH H v t b = some o) : b ∈ fpT H v t ∧ H b = some o := by
  unfold treeH at h
  split at h
  · rename_i z; exact ⟨z, h⟩
  · cases h
def Gs.see (σ0 : Gs) (q : Nat × L2.V × T × Hp) : Gs := { st := σ0.st, gh := σ0.gh, vw := [q] }
theorem Sat.hide (S : Sat K mg PN σ0 F B H σ ρ) (hi : ρ[i]? = some (Sl.dp t)) (hv : σ[i]? = some (some v)) : Sat K mg PN (σ0.see (i, v, t, treeH H v t)) (treeF F H v t) B H σ (ρ.set i .no) := by
  have S0 := S.no i
  have q0 := S.sl i _ hi
  obtain ⟨v', h1, h2, h3, h4⟩ := id q0
  rw [hv] at h1; cases h1
  refine ⟨S0.len, S0.pin, S0.gh, S0.bh, fun b u hb => ?_, fun j s hj => ?_, S0.dj, S0.dq, fun q hq => ?_⟩
  · by_cases z : b ∈ fpT H v t
    · rw [treeF_in z] at hb
      exact ⟨hb, (h4 b z).2⟩
    · rw [treeF_out z] at hb
      exact S.fh b u hb
  · refine (S0.sl j s hj).move rfl fun x hx => ?_
    rcases set_get_ne hj with ⟨_, e, _⟩ | ⟨n1, g1⟩
    · subst e; cases hx
    · rw [treeF_out fun z => n1 (S.sep g1 hi hx (by rw [fpS_dp hv]; exact z))]
      exact ((S.sl j s g1).free hx).1
  · cases List.mem_singleton.1 hq
    refine ⟨(h2.at (H' := treeH H v t) fun x hx => treeH_in hx).1, fun b o hb => ?_⟩
    obtain ⟨z1, z2⟩ := treeH_sub hb
    rw [treeF_in z1]
    exact z2
theorem Sat.show_ (S : Sat K mg PN σ0 F B H σ ρ) (hi : ρ[i]? = some (Sl.dp t)) (hv : σ[i]? = some (some v)) (e : Ext B B') (S1 : Sat K mg PN (σ0.see (i, v, t, treeH H v t)) (treeF F H v t) B' H' σ ρ1) :
    Sat K mg PN σ0 F B' H' σ (ρ1.set i (.dp t)) ∧ (∀ x ∈ fpT H v t, H' x = H x) ∧ ∀ w s, VOk K mg (treeF F H v t) B' H' σ ρ1 w s → VOk K mg F B' H' σ (ρ1.set i (.dp t)) w s := by
  have q0 := S.sl i _ hi
  obtain ⟨v', h1, h2, h3, h4⟩ := id q0
  rw [hv] at h1; cases h1
  have keep : ∀ x ∈ fpT H v t, H' x = H x ∧ B' x = none := fun x hx => by
    obtain ⟨o, ho⟩ := h2.there x hx
    have := S1.fh x o (by rw [treeF_in hx]; exact ho)
    exact ⟨this.1.trans ho.symm, this.2⟩
  obtain ⟨o1, o2⟩ := (h2.mono e).at (H' := H') fun x hx => (keep x hx).1
  have fno : ∀ x, treeF F H v t x = none → x ∉ fpT H v t ∧ F x = none := fun x hx => by
    have z : x ∉ fpT H v t := fun z => by
      obtain ⟨o, ho⟩ := h2.there x z
      rw [treeF_in z, ho] at hx; cases hx
    rw [treeF_out z] at hx
    exact ⟨z, hx⟩
  have hsep : ∀ (j k : Nat) (s s' : Sl) (x : Addr), (ρ1.set i (.dp t))[j]? = some s → (ρ1.set i (.dp t))[k]? = some s' → x ∈ fpS H' σ j s → x ∈ fpS H' σ k s' → j = k := fun j k s s' x g1 g2 m1 m2 => by
    rcases set_get_ne g1 with ⟨e1, e2, _⟩ | ⟨n1, k1⟩
    · subst e1; subst e2
      rcases set_get_ne g2 with ⟨e1, e2, _⟩ | ⟨n2, k2⟩
      · exact e1.symm
      · rw [fpS_dp hv, o2] at m1
        exact ((fno x ((S1.sl k s' k2).free m2).1).1 m1).elim
    · rcases set_get_ne g2 with ⟨e1, e2, _⟩ | ⟨n2, k2⟩
      · subst e1; subst e2
        rw [fpS_dp hv, o2] at m2
        exact ((fno x ((S1.sl j s k1).free m1).1).1 m2).elim
      · exact S1.sep k1 k2 m1 m2
  refine ⟨⟨by rw [List.length_set]; exact S1.len, S1.pin, S1.gh, S1.bh, fun b u hb => ?_, fun j s hj => ?_, (sep_dj hsep).1, (sep_dj hsep).2, fun q hq => (S.vw q hq).mono e⟩, fun x hx => (keep x hx).1, fun w s h => ?_⟩
  · refine S1.fh b u ?_
    rw [treeF_out fun z => by rw [(h4 b z).1] at hb; cases hb]
    exact hb
  · rcases set_get_ne hj with ⟨rfl, rfl, _⟩ | ⟨n1, g1⟩
    · exact ⟨v, hv, o1, by rw [o2]; exact h3, by rw [o2]; exact fun x hx => ⟨(h4 x hx).1, (keep x hx).2⟩⟩
    · exact (S1.sl j s g1).move rfl fun x hx => (fno x ((S1.sl j s g1).free hx).1).2
  · cases s with
    | no => exact h
    | dp t2 =>
      refine ⟨h.1, h.2.1, fun x hx => ?_⟩
      obtain ⟨g1, g2, g3⟩ := h.2.2 x hx
      refine ⟨(fno x g1).2, g2, fun j s hj m => ?_⟩
      rcases set_get_ne hj with ⟨rfl, rfl, _⟩ | ⟨n1, k1⟩
      · rw [fpS_dp hv, o2] at m
        exact (fno x g1).1 m
      · exact g3 j s k1 m
    | fz d => exact h
    | ow d =>
      obtain ⟨a, rfl, g1, g2, g3, g4, g5⟩ := id h
      obtain ⟨q1, q2⟩ := sep_v (σ := σ) (H := H') (ρ := ρ1.set i (.dp t)) (a := a) fun j s hj m => by
        rcases set_get_ne hj with ⟨rfl, rfl, _⟩ | ⟨n1, k1⟩
        · rw [fpS_dp hv, o2] at m
          exact (fno a g1).1 m
        · exact VOk.sep h k1 (S1.sl j s k1) m
      exact ⟨a, rfl, (fno a g1).2, g2, g3, q1, q2⟩
end
/-! ### looking at a tree -/
section
variable {X : Cx} {PN : List Nat} {σ0 σ1 : Gs} {W : WX} {k : Nat} {M L : List Bool}
structure Vw (PN : List Nat) (σ1 : Gs) (i : Nat) (t : T) : Prop where
  pn : i ∈ PN
  ex : ∃ root Fv, σ1.st[i]? = some (some root) ∧ (i, root, t, Fv) ∈ σ1.vw
def xVw (i : Nat) (g : T → FX) : FX := fun ρ => match ρ[i]? with
  | some (.dp t) => (match g t (ρ.set i .no) with
    | .ok s ρ1 => .ok s (ρ1.set i (.dp t))
    | .exc c fs ρ1 => .exc c fs (ρ1.set i (.dp t))
    | .bad => .bad)
  | _ => .bad
theorem fe_view {e : Expr} {i : Nat} {g : T → FX} (hp : i ∈ PN) (h : ∀ σ1 t, Vw PN σ1 i t → FE X PN σ1 W e (g t)) : FE X PN σ0 W e (xVw i g) := by
  refine ⟨fun σ H Q => ∃ σ1 t, Vw PN σ1 i t ∧ cE X PN σ1 W (g t) σ H Q, ⟨fun pins s σ H Q I ⟨σ1, t, V, q⟩ => (h σ1 t V).pe.run pins s σ H Q I q⟩, fun F B H σ ρ Q S q => ?_⟩
  unfold xVw at q
  split at q
  · rename_i t hi
    obtain ⟨v, hv, _⟩ := S.sl i _ hi
    refine ⟨σ0.see (i, v, t, treeH H v t), t, ⟨hp, v, treeH H v t, (S.pin i hp).symm.trans hv, List.mem_singleton.2 rfl⟩, treeF F H v t, B, ρ.set i .no, S.hide hi hv, ?_⟩
    cases eg : g t (ρ.set i .no) with
    | bad => rw [eg] at q; exact q
    | exc c fs ρ1 => rw [eg] at q; exact fun cls od H' B' e S1 z => q cls od H' B' e (S.show_ hi hv e S1).1 z
    | ok s ρ1 => rw [eg] at q; exact fun w H' B' e S1 z => q w H' B' e (S.show_ hi hv e S1).1 ((S.show_ hi hv e S1).2.2 w s z)
  · exact q.elim
end
/-! ### fields -/
def ixStr : List Str → Str → Option Nat
  | [], _ => none
  | g :: r, f => if g = f then some 0 else (ixStr r f).map (· + 1)
def T.fldI (c : Str) (f : Str) : T → Option Nat
  | .nd (.is c' fs) _ => if c' = c then ixStr fs f else none
  | _ => none
def T.kid (j : Nat) : T → Option T
  | .nd _ ts => ts[j]?
  | .lf _ => none
def T.fld (c : Str) (f : Str) (t : T) : Option T := (t.fldI c f).bind fun j => t.kid j
/-- what a text says of a class: its instances are plain, these names are no attributes of it -/
structure ClsK (K : PySem.W.Frag) (mg : Str → Option Value) (c : Str) (fs : List Str) : Prop where
  ex : ∃ C, mg c = some (Value.ref C) ∧ Cls K C ∧ ∀ f ∈ fs, NoAttr K C f
theorem ixStr_map {vs : List (Str × L2.V)} {f : Str} {j : Nat} (h : ixStr (vs.map (·.1)) f = some j) : ∃ w, vs.lookup f = some w ∧ (vs.map (·.2))[j]? = some w := by
  induction vs generalizing j with
  | nil => cases h
  | cons p vs ih =>
    obtain ⟨g, v⟩ := p
    rw [List.map_cons, ixStr] at h
    rw [List.lookup_cons]
    split at h
    · rename_i e
      cases h
      rw [show (f == g) = true by simpa using e.symm]
      exact ⟨v, rfl, rfl⟩
    · rename_i e
      rw [show (f == g) = false by simpa using fun z => e z.symm]
      cases e2 : ixStr (vs.map (·.1)) f with
      | none => rw [e2] at h; cases h
      | some m =>
        rw [e2] at h
        cases h
        obtain ⟨w, w1, w2⟩ := ih e2
        exact ⟨w, w1, by simpa using w2⟩
section
variable {K : PySem.W.Frag} {mg : Str → Option Value} {B H H' : Hp}
theorem OwL.kid {vs : List L2.V} {ts : List T} {j : Nat} {w : L2.V} {u : T} (h : OwL K mg B H vs ts) (hw : vs[j]? = some w) (hu : ts[j]? = some u) : OwT K mg B H w u := by
  induction ts generalizing vs j with
  | nil => simp at hu
  | cons t ts ih =>
    cases h with
    | cons p q =>
      cases j with
      | zero => simp at hw hu; subst hw; subst hu; exact p
      | succ j => exact ih q (by simpa using hw) (by simpa using hu)
theorem OwT.fld {c f : Str} {t u : T} {v : L2.V} {j : Nat} (h : OwT K mg B H v t) (hj : t.fldI c f = some j) (hu : t.kid j = some u) :
    ∃ a C dx vs w, v = V.ref a ∧ H a = some (.ins C dx vs) ∧ mg c = some (Value.ref C) ∧ vs.lookup f = some w ∧ OwT K mg B H w u ∧ AtP H v t [j] w u := by
  cases t with
  | lf d => cases hj
  | nd hd ts =>
    cases hd with
    | ls => cases hj
    | dc ks => cases hj
    | is c' fs =>
      simp only [T.fldI] at hj
      split at hj
      · rename_i e
        subst e
        cases h with
        | nd h1 h2 h3 =>
          obtain ⟨C, dx, vs, hm, rfl, rfl, nd⟩ := h2
          obtain ⟨w, w1, w2⟩ := ixStr_map hj
          exact ⟨_, C, dx, vs, w, rfl, h1, hm, w1, OwL.kid h3 w2 hu, .cons h1 w2 hu .nil⟩
      · cases hj
end
def xLf (o : Option T) : FX := fun ρ => match o with
  | some (.lf d) => .ok (.fz d) ρ
  | _ => .bad
mutual
def T.flat : T → Option D
  | .lf d => some d
  | .nd .ls ts => (T.flatL ts).map .lst
  | .nd (.dc ks) ts => (T.flatL ts).map fun ds => .dic (ks.zip ds)
  | .nd (.is _ _) _ => none
/-- leaves alone -/
def T.flatL : List T → Option (List D)
  | [] => some []
  | t :: ts => match t with
    | .lf d => (T.flatL ts).map fun ds => d :: ds
    | _ => none
end
theorem flatL_eq : ∀ {ts : List T} {ds : List D}, T.flatL ts = some ds → ts = ds.map T.lf
  | [], ds, h => by simp [T.flatL] at h; subst h; rfl
  | .lf d :: ts, ds, h => by
    simp only [T.flatL] at h
    cases e : T.flatL ts with
    | none => rw [e] at h; cases h
    | some es =>
      rw [e] at h
      cases h
      rw [List.map_cons, ← flatL_eq e]
  | .nd _ _ :: ts, ds, h => by simp [T.flatL] at h
theorem flatL_map : ∀ {ds : List D}, T.flatL (ds.map T.lf) = some ds
  | [] => by simp [T.flatL]
  | d :: ds => by rw [List.map_cons]; simp only [T.flatL, flatL_map, Option.map_some]
section
variable {K : PySem.W.Frag} {mg : Str → Option Value} {B H H' : Hp}
theorem OwL.leaves : ∀ {ds : List D} {vs : List L2.V}, OwL K mg B H vs (ds.map T.lf) → RepL K mg B vs ds
  | [], _, .nil => .nil
  | _ :: _, _, .cons p q => by
    cases p with
    | lf r => exact .cons r (OwL.leaves q)
theorem RepL.leaves : ∀ {ds : List D} {vs : List L2.V}, RepL K mg B vs ds → OwL K mg B H vs (ds.map T.lf)
  | [], _, .nil => .nil
  | _ :: _, _, .cons p q => .cons (.lf p) (RepL.leaves q)
theorem fpL_leaves : ∀ {ds : List D} {vs : List L2.V}, fpL H vs (ds.map T.lf) = []
  | [], _ => rfl
  | _ :: _, [] => rfl
  | _ :: ds, _ :: vs => by
    rw [List.map_cons, fpL_cons, fpL_leaves]
    rfl
theorem OwT.flat {X : Cx} {t : T} {v : L2.V} {d : D} (h : OwT X.K X.mg B H v t) (hf : t.flat = some d) : LRep X B H v d := by
  cases t with
  | lf d' =>
    simp only [T.flat] at hf
    cases hf
    cases h with
    | lf r => exact .inl r
  | nd hd ts =>
    cases h with
    | nd h1 h2 h3 =>
      cases hd with
      | ls =>
        simp only [T.flat] at hf
        cases e : T.flatL ts with
        | none => rw [e] at hf; cases hf
        | some ds =>
          rw [e] at hf; cases hf
          have := flatL_eq e; subst this
          obtain ⟨xs, rfl⟩ := h2
          exact .inr ⟨_, rfl, xs, h1, OwL.leaves h3⟩
      | dc ks =>
        simp only [T.flat] at hf
        cases e : T.flatL ts with
        | none => rw [e] at hf; cases hf
        | some ds =>
          rw [e] at hf; cases hf
          have := flatL_eq e; subst this
          obtain ⟨kvs, rfl, rfl⟩ := h2
          have hl : (kvs.map (·.1)).length = ds.length := by
            have := h3.length
            simp only [kids, List.length_map] at this ⊢
            exact this
          refine .inr ⟨_, rfl, kvs, h1, (zip_fst hl).symm, ?_⟩
          rw [zip_snd hl]
          exact OwL.leaves h3
      | is c fs => simp only [T.flat] at hf; cases hf
end
def aFlat (o : Option T) : En → R Th := fun ρ => match o.bind T.flat with
  | some d => .ok (fun _ => some d) ρ
  | none => .bad
section
variable {X : Cx} {PN : List Nat} {σ0 σ1 : Gs} {W : WX} {k : Nat} {M L : List Bool}
theorem Vw.at_ {i : Nat} {t : T} (V : Vw PN σ1 i t) {F B H : Hp} {σ : L2.St} {ρ : En} (S : Sat X.K X.mg PN σ1 F B H σ ρ) : ∃ root Fv, σ1.st[i]? = some (some root) ∧ (i, root, t, Fv) ∈ σ1.vw ∧ σ[i]? = some (some root) ∧ OwT X.K X.mg B Fv root t ∧ ∀ b o, Fv b = some o → F b = some o := by
  obtain ⟨root, Fv, h1, h2⟩ := V.ex
  have := S.vw _ h2
  exact ⟨root, Fv, h1, h2, (S.pin i V.pn).trans h1, this.1, this.2⟩
/-- self.f, while self is looked at -/
theorem fe_vf (N : NamesOk X M L) (i : Nat) {c x f : Str} {p pos : Pos} {t : T} {cf : List Str} (V : Vw PN σ1 i t) (Ck : ClsK X.K X.mg c cf) (hf : f ∈ cf := by decide) (hi : X.N[i]? = some x := by rfl) (hm : M[i]? = some true := by rfl)
    (hb : attributeBase (.Name x p) f X.env (eval (.Name x p) X.env) = eval (.Name x p) X.env := by rfl) : FE X PN σ1 W (.Attribute (.Name x p) f pos) (xLf (t.fld c f)) := by
  refine ⟨_, pe_fld (N.pe i hi hm) hb, fun F B H σ ρ Q S q => ?_⟩
  obtain ⟨root, Fv, h1, h2, h3, h4, h5⟩ := V.at_ S
  refine ⟨root, h3, ?_⟩
  unfold xLf at q
  split at q
  · rename_i d e
    unfold T.fld at e
    cases ej : t.fldI c f with
    | none => rw [ej] at e; cases e
    | some j =>
      rw [ej, Option.bind_some] at e
      obtain ⟨a, C, dx, vs, w, g1, g2, g3, g4, g5, _⟩ := h4.fld ej e
      obtain ⟨C', k1, k2, k3⟩ := Ck.ex
      rw [g3] at k1; cases k1
      cases g5 with
      | lf r => exact ⟨a, C, dx, vs, w, g1, (S.fh _ _ (h5 _ _ g2)).1, k2, k3 f hf, g4, q w H B (Ext.refl B) S r⟩
  · exact q.elim
/-- .. as an operand, in place -/
theorem fa_vf (N : NamesOk X M L) (i : Nat) {c x f : Str} {p pos : Pos} {t : T} {cf : List Str} (V : Vw PN σ1 i t) (Ck : ClsK X.K X.mg c cf) (hf : f ∈ cf := by decide) (hi : X.N[i]? = some x := by rfl) (hm : M[i]? = some true := by rfl)
    (hb : attributeBase (.Name x p) f X.env (eval (.Name x p) X.env) = eval (.Name x p) X.env := by rfl) : FA X PN σ1 W (.Attribute (.Name x p) f pos) (aFlat (t.fld c f)) := by
  refine ⟨_, pe_fld (N.pe i hi hm) hb, fun F B H σ ρ Q S q => ?_⟩
  obtain ⟨root, Fv, h1, h2, h3, h4, h5⟩ := V.at_ S
  refine ⟨root, h3, ?_⟩
  unfold aFlat at q
  split at q
  · rename_i d e
    cases eu : t.fld c f with
    | none => rw [eu] at e; cases e
    | some u =>
      rw [eu, Option.bind_some] at e
      unfold T.fld at eu
      cases ej : t.fldI c f with
      | none => rw [ej] at eu; cases eu
      | some j =>
        rw [ej, Option.bind_some] at eu
        obtain ⟨a, C, dx, vs, w, g1, g2, g3, g4, g5, _⟩ := h4.fld ej eu
        obtain ⟨C', k1, k2, k3⟩ := Ck.ex
        rw [g3] at k1; cases k1
        refine ⟨a, C, dx, vs, w, g1, (S.fh _ _ (h5 _ _ g2)).1, k2, k3 f hf, g4, q w H B (Ext.refl B) S fun B2 H2 ρ2 d2 e2 S2 hd => ?_⟩
        cases hd
        have hv2 := S2.vw _ h2
        refine OwT.flat ((OwT.mono e2 g5).at (H' := H2) fun x hx => ?_).1 e
        obtain ⟨o, ho⟩ := g5.there x hx
        exact ((S2.fh _ _ (hv2.2 _ _ ho)).1).trans ho.symm
  · exact q.elim
def xFl (c f : Str) (g : FX) : FX := fun ρ => (xF g ρ).bind fun s ρ' => match s with
  | .fz (.ins c' fs) => if c' = c then match fs.lookup f with
    | some d => .ok (.fz d) ρ'
    | none => .bad
    else .bad
  | _ => .bad
/-- e.f of an instance that stands fast -/
theorem fe_fl {e : Expr} {c f : Str} {pos : Pos} {g : FX} {cf : List Str} (h : FE X PN σ0 W e g) (Ck : ClsK X.K X.mg c cf) (hf : f ∈ cf := by decide) (hb : attributeBase e f X.env (eval e X.env) = eval e X.env := by rfl) :
    FE X PN σ0 W (.Attribute e f pos) (xFl c f g) := by
  obtain ⟨t, pt, qt⟩ := (fe_f h).ex
  refine ⟨_, pe_fld pt hb, fun F B H σ ρ Q S q => qt F B H σ ρ _ S ?_⟩
  unfold xFl at q
  cases er : xF g ρ with
  | bad => rw [er] at q; exact q
  | exc c fs ρ1 => rw [er] at q; exact q
  | ok s ρ1 =>
    rw [er, R.bind_ok] at q
    intro v H1 B1 e1 S1 z
    split at q
    · rename_i c' fs
      split at q
      · rename_i ec
        subst ec
        split at q
        · rename_i d hd
          cases z with
          | ins g1 g2 g0 g3 =>
            obtain ⟨C', k1, k2, k3⟩ := Ck.ex
            rw [g1] at k1; cases k1
            obtain ⟨w, w1, w2⟩ := g3.get hd
            exact ⟨_, _, _, _, w, rfl, S1.bh _ _ g2, k2, k3 f hf, w1, q w H1 B1 e1 S1 w2⟩
        · exact q.elim
      · exact q.elim
    · exact q.elim
end
end FV

namespace FV
open PySem PySem.Spec PyProof.Rows L2
/-! ### storing a field -/
section
variable {K : PySem.W.Frag} {mg : Str → Option Value} {B H H' : Hp}
theorem OwL.setAt {y : L2.V} {u : T} (hu : OwT K mg B H y u) (nu : (fpT H y u).Nodup) : ∀ {ts : List T} {vs : List L2.V} (j : Nat), OwL K mg B H vs ts → (fpL H vs ts).Nodup → (∀ x ∈ fpT H y u, x ∉ fpL H vs ts) →
    OwL K mg B H (vs.set j y) (ts.set j u) ∧ (fpL H (vs.set j y) (ts.set j u)).Nodup ∧ ∀ x ∈ fpL H (vs.set j y) (ts.set j u), x ∈ fpL H vs ts ∨ x ∈ fpT H y u
  | [], _, _, .nil, n, _ => ⟨.nil, n, fun x hx => .inl hx⟩
  | t :: ts, _, 0, .cons p q, n, d => by
    rw [fpL_cons] at n d
    obtain ⟨n1, n2, n3⟩ := List.nodup_append.1 n
    refine ⟨.cons hu q, ?_, ?_⟩
    · rw [List.set_cons_zero, List.set_cons_zero, fpL_cons]
      exact List.nodup_append.2 ⟨nu, n2, fun x hx z hz e => d x hx (List.mem_append_right _ (by rw [e]; exact hz))⟩
    · rw [List.set_cons_zero, List.set_cons_zero, fpL_cons, fpL_cons]
      intro x hx
      rcases List.mem_append.1 hx with hx | hx
      · exact .inr hx
      · exact .inl (List.mem_append_right _ hx)
  | t :: ts, _, j + 1, .cons p q, n, d => by
    rw [fpL_cons] at n d
    obtain ⟨n1, n2, n3⟩ := List.nodup_append.1 n
    obtain ⟨q1, q2, q3⟩ := OwL.setAt hu nu j q n2 fun x hx hm => d x hx (List.mem_append_right _ hm)
    refine ⟨.cons p q1, ?_, ?_⟩
    · rw [List.set_cons_succ, List.set_cons_succ, fpL_cons]
      refine List.nodup_append.2 ⟨n1, q2, fun x hx z hz e => ?_⟩
      subst e
      rcases q3 x hz with k | k
      · exact n3 x hx x k rfl
      · exact d x k (List.mem_append_left _ hx)
    · rw [List.set_cons_succ, List.set_cons_succ, fpL_cons, fpL_cons]
      intro x hx
      rcases List.mem_append.1 hx with hx | hx
      · exact .inl (List.mem_append_left _ hx)
      · exact (q3 x hx).imp (fun k => List.mem_append_right _ k) id
theorem OwL.snoc {y : L2.V} {u : T} (hu : OwT K mg B H y u) (nu : (fpT H y u).Nodup) : ∀ {ts : List T} {vs : List L2.V}, OwL K mg B H vs ts → (fpL H vs ts).Nodup → (∀ x ∈ fpT H y u, x ∉ fpL H vs ts) →
    OwL K mg B H (vs ++ [y]) (ts ++ [u]) ∧ (fpL H (vs ++ [y]) (ts ++ [u])).Nodup ∧ ∀ x ∈ fpL H (vs ++ [y]) (ts ++ [u]), x ∈ fpL H vs ts ∨ x ∈ fpT H y u
  | [], _, .nil, n, _ => by
    refine ⟨.cons hu .nil, ?_, ?_⟩
    · show (fpT H y u ++ []).Nodup
      rw [List.append_nil]; exact nu
    · intro x hx
      have : x ∈ fpT H y u ++ [] := hx
      rw [List.append_nil] at this
      exact .inr this
  | t :: ts, _, .cons p q, n, d => by
    rw [fpL_cons] at n d
    obtain ⟨n1, n2, n3⟩ := List.nodup_append.1 n
    obtain ⟨q1, q2, q3⟩ := OwL.snoc hu nu q n2 fun x hx hm => d x hx (List.mem_append_right _ hm)
    refine ⟨.cons p q1, ?_, ?_⟩
    · rw [List.cons_append, List.cons_append, fpL_cons]
      refine List.nodup_append.2 ⟨n1, q2, fun x hx z hz e => ?_⟩
      subst e
      rcases q3 x hz with k | k
      · exact n3 x hx x k rfl
      · exact d x k (List.mem_append_left _ hx)
    · rw [List.cons_append, List.cons_append, fpL_cons, fpL_cons]
      intro x hx
      rcases List.mem_append.1 hx with hx | hx
      · exact .inl (List.mem_append_left _ hx)
      · exact (q3 x hx).imp (fun k => List.mem_append_right _ k) id
theorem putF_some {f : Str} {y : L2.V} : ∀ {vs : List (Str × L2.V)} {j : Nat}, ixStr (vs.map (·.1)) f = some j → (putF f y vs).map (·.1) = vs.map (·.1) ∧ (putF f y vs).map (·.2) = (vs.map (·.2)).set j y
  | [], j, h => by cases h
  | (g, x) :: r, j, h => by
    rw [List.map_cons, ixStr] at h
    unfold putF
    by_cases e : g = f
    · rw [if_pos e] at h ⊢
      cases h
      exact ⟨rfl, rfl⟩
    · rw [if_neg e] at h ⊢
      cases e2 : ixStr (r.map (·.1)) f with
      | none => rw [e2] at h; cases h
      | some m =>
        rw [e2] at h
        cases h
        obtain ⟨h1, h2⟩ := putF_some e2
        exact ⟨by rw [List.map_cons, List.map_cons, h1], by rw [List.map_cons, List.map_cons, h2]; rfl⟩
theorem putF_none {f : Str} {y : L2.V} : ∀ {vs : List (Str × L2.V)}, ixStr (vs.map (·.1)) f = none → (putF f y vs).map (·.1) = vs.map (·.1) ++ [f] ∧ (putF f y vs).map (·.2) = vs.map (·.2) ++ [y]
  | [], h => ⟨rfl, rfl⟩
  | (g, x) :: r, h => by
    rw [List.map_cons, ixStr] at h
    unfold putF
    by_cases e : g = f
    · rw [if_pos e] at h; cases h
    · rw [if_neg e] at h ⊢
      cases e2 : ixStr (r.map (·.1)) f with
      | some m => rw [e2] at h; cases h
      | none =>
        obtain ⟨h1, h2⟩ := putF_none (y := y) e2
        exact ⟨by rw [List.map_cons, List.map_cons, h1]; rfl, by rw [List.map_cons, List.map_cons, h2]; rfl⟩
theorem ixStr_none {f : Str} : ∀ {fs : List Str}, ixStr fs f = none → f ∉ fs
  | [], _ => by simp
  | g :: r, h => by
    rw [ixStr] at h
    by_cases e : g = f
    · rw [if_pos e] at h; cases h
    · rw [if_neg e] at h
      cases e2 : ixStr r f with
      | some m => rw [e2] at h; cases h
      | none =>
        rw [List.mem_cons]
        rintro (z | z)
        · exact e z.symm
        · exact ixStr_none e2 z
/-- the object with the field -/
def setF (c : Str) (fs : List Str) (ts : List T) (f : Str) (u : T) : T := match ixStr fs f with
  | some j => .nd (.is c fs) (ts.set j u)
  | none => .nd (.is c (fs ++ [f])) (ts ++ [u])
/-- H' is H but for the object at a, which has its field f set to y -/
theorem OwT.setF {c f : Str} {fs : List Str} {ts : List T} {a C dx : Addr} {vs : List (Str × L2.V)} {y : L2.V} {u : T} (h : OwT K mg B H (.ref a) (.nd (.is c fs) ts)) (n : (fpT H (.ref a) (.nd (.is c fs) ts)).Nodup) (ha : H a = some (.ins C dx vs))
    (hu : OwT K mg B H y u) (nu : (fpT H y u).Nodup) (hx : ∀ x ∈ fpT H y u, x ∉ fpT H (.ref a) (.nd (.is c fs) ts)) :
    OwT K mg B (upd H a (.ins C dx (putF f y vs))) (.ref a) (setF c fs ts f u) ∧ (fpT (upd H a (.ins C dx (putF f y vs))) (.ref a) (setF c fs ts f u)).Nodup ∧
      ∀ x ∈ fpT (upd H a (.ins C dx (putF f y vs))) (.ref a) (setF c fs ts f u), x ∈ fpT H (.ref a) (.nd (.is c fs) ts) ∨ x ∈ fpT H y u := by
  cases h with
  | nd h1 h2 h3 =>
    rw [ha] at h1; cases h1
    obtain ⟨C', dx', vs', hm, e, e2, nd⟩ := h2
    cases e
    rw [fpT_nd ha] at n hx ⊢
    obtain ⟨n1, n2⟩ := List.nodup_cons.1 n
    have e2' : vs.map (·.1) = fs := e2
    have away : ∀ x, x ≠ a → upd H a (.ins C dx (putF f y vs)) x = H x := fun x hx => upd_ne hx
    obtain ⟨l1, l2⟩ := h3.at (H' := upd H a (.ins C dx (putF f y vs))) fun x hm => away x fun z => n1 (by rw [← z]; exact hm)
    obtain ⟨u1, u2⟩ := hu.at (H' := upd H a (.ins C dx (putF f y vs))) fun x hm => away x fun z => hx x hm (by rw [z]; exact List.mem_cons_self)
    have nu' : (fpT (upd H a (.ins C dx (putF f y vs))) y u).Nodup := by rw [u2]; exact nu
    have nl' : (fpL (upd H a (.ins C dx (putF f y vs))) (kids (.ins C dx vs)) ts).Nodup := by rw [l2]; exact n2
    have dj : ∀ x ∈ fpT (upd H a (.ins C dx (putF f y vs))) y u, x ∉ fpL (upd H a (.ins C dx (putF f y vs))) (kids (.ins C dx vs)) ts := by
      rw [u2, l2]; exact fun x hm k => hx x hm (List.mem_cons_of_mem _ k)
    unfold FV.setF
    cases ei : ixStr fs f with
    | some j =>
      have ei' : ixStr (vs.map (·.1)) f = some j := by rw [e2']; exact ei
      obtain ⟨p1, p2⟩ := putF_some (y := y) ei'
      obtain ⟨q1, q2, q3⟩ := OwL.setAt u1 nu' j l1 nl' dj
      have ek : kids (.ins C dx (putF f y vs)) = (kids (.ins C dx vs)).set j y := p2
      refine ⟨.nd upd_same ⟨C, dx, _, hm, rfl, p1.trans e2', nd⟩ (by rw [ek]; exact q1), ?_, ?_⟩
      · rw [fpT_nd upd_same, ek]
        refine List.nodup_cons.2 ⟨fun k => ?_, q2⟩
        rcases q3 a k with k | k
        · rw [l2] at k; exact n1 k
        · rw [u2] at k; exact hx a k List.mem_cons_self
      · rw [fpT_nd upd_same, ek]
        intro x hm
        rcases List.mem_cons.1 hm with rfl | hm
        · exact .inl List.mem_cons_self
        · rcases q3 x hm with k | k
          · rw [l2] at k; exact .inl (List.mem_cons_of_mem _ k)
          · rw [u2] at k; exact .inr k
    | none =>
      have ei' : ixStr (vs.map (·.1)) f = none := by rw [e2']; exact ei
      obtain ⟨p1, p2⟩ := putF_none (y := y) ei'
      obtain ⟨q1, q2, q3⟩ := OwL.snoc u1 nu' l1 nl' dj
      have ek : kids (.ins C dx (putF f y vs)) = kids (.ins C dx vs) ++ [y] := p2
      refine ⟨.nd upd_same ⟨C, dx, _, hm, rfl, by rw [p1, e2'], ?_⟩ (by rw [ek]; exact q1), ?_, ?_⟩
      · refine List.nodup_append.2 ⟨nd, List.nodup_cons.2 ⟨by simp, List.nodup_nil⟩, fun x hx z hz e => ?_⟩
        rw [List.mem_singleton.1 hz] at e
        subst e
        exact ixStr_none ei hx
      · rw [fpT_nd upd_same, ek]
        refine List.nodup_cons.2 ⟨fun k => ?_, q2⟩
        rcases q3 a k with k | k
        · rw [l2] at k; exact n1 k
        · rw [u2] at k; exact hx a k List.mem_cons_self
      · rw [fpT_nd upd_same, ek]
        intro x hm
        rcases List.mem_cons.1 hm with rfl | hm
        · exact .inl List.mem_cons_self
        · rcases q3 x hm with k | k
          · rw [l2] at k; exact .inl (List.mem_cons_of_mem _ k)
          · rw [u2] at k; exact .inr k
/-- an owned thing as a tree -/
def ofOw : D → Option T
  | .lst ds => some (.nd .ls (ds.map .lf))
  | .dic kds => some (.nd (.dc (kds.map (·.1))) ((kds.map (·.2)).map .lf))
  | _ => none
theorem OwD_T {d : D} {a : Addr} {u : T} (h : OwnD K mg B H a d) (e : ofOw d = some u) : OwT K mg B H (.ref a) u ∧ fpT H (.ref a) u = [a] := by
  cases d with
  | lst ds =>
    cases e
    obtain ⟨xs, h1, h2⟩ := h
    exact ⟨.nd h1 ⟨xs, rfl⟩ (RepL.leaves h2), by rw [fpT_nd h1, fpL_leaves]⟩
  | dic kds =>
    cases e
    obtain ⟨kvs, h1, h2, h3⟩ := h
    exact ⟨.nd h1 ⟨kvs, rfl, h2⟩ (RepL.leaves h3), by rw [fpT_nd h1, fpL_leaves]⟩
  | _ => cases e
end
def uOf : Sl → Option T
  | .fz d => some (.lf d)
  | .ow d => ofOw d
  | .dp t => some t
  | .no => none
def kFset (c f : Str) (i : Nat) (s : Sl) (ρ : En) : R Fl := match ρ[i]? with
  | some (.dp (.nd (.is c' fs) ts)) => if c' = c ∧ fs.length < 1000 then match uOf s with
    | some u => .ok .nx (ρ.set i (.dp (setF c' fs ts f u)))
    | none => .bad
    else .bad
  | _ => .bad
def yFset (c f : Str) (i : Nat) (fe : FX) : FY := yE fe (kFset c f i)
section
variable {X : Cx} {PN : List Nat} {σ0 σ1 : Gs} {W : WX} {k : Nat} {M L : List Bool}
theorem fs_fset (N : NamesOk X M L) (i : Nat) {c x f : Str} {p p2 pos : Pos} {value : Expr} {fe : FX} {cf : List Str} (hv : FE X PN σ0 W value fe) (Ck : ClsK X.K X.mg c cf) (hf : f ∈ cf := by decide) (hi : X.N[i]? = some x := by rfl) (hm : M[i]? = some true := by rfl)
    (hs : swapsWith value (some (.Attribute (.Name x p) f p2)) pos.line X.env = pure false := by rfl) : FS X PN σ0 W (.Assign [.Attribute (.Name x p) f p2] value pos) (yFset c f i fe) := by
  obtain ⟨t, pt, qt⟩ := hv.ex
  refine ⟨_, ps_fld (N.pe i hi hm) pt hs, fun F B H σ ρ D' S q => qt F B H σ ρ _ S (EPost.of (D' := D') (k := kFset c f i) (fun s ρ1 v H1 B1 e1 S1 z q1 => ?_) q)⟩
  unfold kFset at q1
  split at q1
  · rename_i c' fs ts hi1
    split at q1
    · rename_i hc
      obtain ⟨rfl, hl⟩ := hc
      split at q1
      · rename_i u hu
        obtain ⟨w, hw, o1, o2, o3⟩ := S1.sl i _ hi1
        refine ⟨w, hw, ?_⟩
        obtain ⟨a, C, dx, vs, rfl, ha, hmg, hln⟩ : ∃ a C dx vs, w = V.ref a ∧ H1 a = some (.ins C dx vs) ∧ X.mg c' = some (Value.ref C) ∧ vs.length = fs.length := by
          cases o1 with
          | nd h1 h2 h3 =>
            obtain ⟨C, dx, vs, k1, rfl, rfl, _⟩ := h2
            exact ⟨_, C, dx, vs, rfl, h1, k1, by rw [List.length_map]⟩
        obtain ⟨C', k1, k2, k3⟩ := Ck.ex
        rw [hmg] at k1; cases k1
        have key : OwT X.K X.mg B1 H1 v u ∧ (fpT H1 v u).Nodup ∧ ∀ x ∈ fpT H1 v u, F x = none ∧ B1 x = none ∧ ∀ (j : Nat) (s' : Sl), ρ1[j]? = some s' → x ∉ fpS H1 σ j s' := by
          cases s with
          | no => cases hu
          | dp t => cases hu; exact ⟨z.1, z.2.1, fun x hx => z.2.2 x hx⟩
          | fz d => cases hu; exact ⟨.lf z, List.nodup_nil, fun x hx => by cases hx⟩
          | ow d =>
            obtain ⟨b, rfl, g1, g2, g3, _⟩ := id z
            obtain ⟨t1, t2⟩ := OwD_T g3 hu
            refine ⟨t1, by rw [t2]; exact List.nodup_cons.2 ⟨by simp, List.nodup_nil⟩, ?_⟩
            rw [t2]
            intro x hx
            rw [List.mem_singleton.1 hx]
            exact ⟨g1, g2, fun j s' hj => VOk.sep z hj (S1.sl j s' hj)⟩
        obtain ⟨u1, u2, u3⟩ := key
        obtain ⟨r1, r2, r3⟩ := OwT.setF (f := f) o1 o2 ha u1 u2 fun x hx hm => (u3 x hx).2.2 i _ hi1 (by rw [fpS_dp hw]; exact hm)
        refine ⟨a, C, dx, vs, rfl, ha, k2, k3 f hf, by rw [hln]; exact hl, q1 σ _ B1 (Ext.refl B1) (S1.setT hi1 hw (fun b o hb ho => ?_) r1 r2 fun x hx => (r3 x hx).imp id (u3 x))⟩
        rw [upd_ne]
        · exact ho
        · rintro rfl
          exact hb (by rw [fpT_nd ha]; exact List.mem_cons_self)
      · exact q1.elim
    · exact q1.elim
  · exact q1.elim
end
end FV

namespace FV
open PySem PySem.Spec PyProof.Rows L2
/-! ### places in a tree that is looked at; methods of lists there -/
def T.at : T → List Nat → Option T
  | t, [] => some t
  | t, j :: js => (t.kid j).bind fun u => u.at js
section
variable {X : Cx} {PN : List Nat} {σ0 σ1 : Gs} {W : WX} {k : Nat} {M L : List Bool}
def NPost (X : Cx) (PN : List Nat) (σ1 : Gs) (W : WX) (F B : Hp) (σ : L2.St) (i : Nat) (t : T) (r : R (List Nat)) (Q : VK) : Prop := match r with
  | .ok js ρ' => ∀ w H' B' u root Fv, Ext B B' → Sat X.K X.mg PN σ1 F B' H' σ ρ' → σ1.st[i]? = some (some root) → (i, root, t, Fv) ∈ σ1.vw → AtP Fv root t js w u → Q w H'
  | .exc c fs ρ' => ∀ cls od H' B', Ext B B' → Sat X.K X.mg PN σ1 F B' H' σ ρ' → ExcOk X.K X.mg B' c fs cls od → W cls od σ H'
  | .bad => False
/-- e is a place of the tree t -/
structure FN (X : Cx) (PN : List Nat) (σ1 : Gs) (W : WX) (e : Expr) (i : Nat) (t : T) (g : En → R (List Nat)) : Prop where
  ex : ∃ tr : TE, PE X e tr ∧ ∀ F B H σ ρ Q, Sat X.K X.mg PN σ1 F B H σ ρ → NPost X PN σ1 W F B σ i t (g ρ) Q → tr σ H Q
def plF (c f : Str) (t : T) : En → R (List Nat) := fun ρ => match (t.fldI c f).bind fun j => (t.kid j).map fun _ => j with
  | some j => .ok [j] ρ
  | none => .bad
theorem fn_f (N : NamesOk X M L) (i : Nat) {c x f : Str} {p pos : Pos} {t : T} {cf : List Str} (V : Vw PN σ1 i t) (Ck : ClsK X.K X.mg c cf) (hf : f ∈ cf := by decide) (hi : X.N[i]? = some x := by rfl) (hm : M[i]? = some true := by rfl)
    (hb : attributeBase (.Name x p) f X.env (eval (.Name x p) X.env) = eval (.Name x p) X.env := by rfl) : FN X PN σ1 W (.Attribute (.Name x p) f pos) i t (plF c f t) := by
  refine ⟨_, pe_fld (N.pe i hi hm) hb, fun F B H σ ρ Q S q => ?_⟩
  obtain ⟨root, Fv, h1, h2, h3, h4, h5⟩ := V.at_ S
  refine ⟨root, h3, ?_⟩
  unfold plF at q
  cases ej : t.fldI c f with
  | none => rw [ej] at q; exact q.elim
  | some j =>
    rw [ej, Option.bind_some] at q
    cases eu : t.kid j with
    | none => rw [eu] at q; exact q.elim
    | some u =>
      rw [eu] at q
      obtain ⟨a, C, dx, vs, w, g1, g2, g3, g4, g5, g6⟩ := h4.fld ej eu
      obtain ⟨C', k1, k2, k3⟩ := Ck.ex
      rw [g3] at k1; cases k1
      exact ⟨a, C, dx, vs, w, g1, (S.fh _ _ (h5 _ _ g2)).1, k2, k3 f hf, g4, q w H B u root Fv (Ext.refl B) S h1 h2 g6⟩
theorem AtP.det {H : Hp} : ∀ {js : List Nat} {v w w' : L2.V} {t u u' : T}, AtP H v t js w u → AtP H v t js w' u' → w = w' ∧ u = u'
  | [], _, _, _, _, _, _, .nil, .nil => ⟨rfl, rfl⟩
  | _ :: _, _, _, _, _, _, _, .cons h1 h2 h3 p, .cons g1 g2 g3 q => by
    rw [h1] at g1; cases g1
    rw [h2] at g2; cases g2
    rw [h3] at g3; cases g3
    exact AtP.det p q
theorem AtP.at_ {H : Hp} : ∀ {js : List Nat} {v w : L2.V} {t u : T}, AtP H v t js w u → t.at js = some u
  | [], _, _, _, _, .nil => rfl
  | _ :: _, _, _, _, _, .cons h1 h2 h3 p => by
    show Option.bind _ _ = _
    rw [show T.kid _ (.nd _ _) = some _ from h3]
    exact AtP.at_ p
theorem AtP.heap {H H' : Hp} : ∀ {js : List Nat} {v w : L2.V} {t u : T}, AtP H v t js w u → (∀ b o, H b = some o → H' b = some o) → AtP H' v t js w u
  | [], _, _, _, _, .nil, _ => .nil
  | _ :: _, _, _, _, _, .cons h1 h2 h3 p, e => .cons (e _ _ h1) h2 h3 (AtP.heap p e)
def kMuT (i : Nat) (t : T) (js : List Nat) (ts : List T) (gm : GM) (ars : List Ar) (ρ : En) : R Sl := match (dsOf ars).bind fun es => (T.flatL ts).bind fun ds => gm ds es with
  | some (ds', d) => if i < ρ.length then .ok (.fz d) (ρ.set i (.dp (t.put js (.nd .ls (ds'.map .lf))))) else .bad
  | none => .bad
def xMuT (i : Nat) (gp : T → En → R (List Nat)) (gm : GM) (gl : T → En → R (List Ar)) : FX := fun ρ => match ρ[i]? with
  | some (.dp t) => (match gp t (ρ.set i .no) with
    | .ok js ρ1 => (match t.at js with
      | some (.nd .ls ts) => (match gl t ρ1 with
        | .ok ars ρ2 => kMuT i t js ts gm ars ρ2
        | .exc c fs ρ2 => .exc c fs (ρ2.set i (.dp t))
        | .bad => .bad)
      | _ => .bad)
    | .exc c fs ρ1 => .exc c fs (ρ1.set i (.dp t))
    | .bad => .bad)
  | _ => .bad
def cN (X : Cx) (PN : List Nat) (σ1 : Gs) (W : WX) (i : Nat) (t : T) (g : En → R (List Nat)) : TE := fun σ H Q => ∃ F B ρ, Sat X.K X.mg PN σ1 F B H σ ρ ∧ NPost X PN σ1 W F B σ i t (g ρ) Q
theorem FN.pe {e : Expr} {i : Nat} {t : T} {g : En → R (List Nat)} (h : FN X PN σ1 W e i t g) : PE X e (cN X PN σ1 W i t g) := by
  obtain ⟨tr, p, q⟩ := h.ex
  exact ⟨fun pins s σ H Q I ⟨F, B, ρ, S, k⟩ => p.run pins s σ H Q I (q F B H σ ρ Q S k)⟩
def cC (X : Cx) (PN : List Nat) (σ1 : Gs) (W : WX) (g : En → R (List Ar)) : TA := fun σ H Q => ∃ F B ρ, Sat X.K X.mg PN σ1 F B H σ ρ ∧ CPost X PN σ1 W F B σ (g ρ) Q
theorem FC.pa {es : List Expr} {g : En → R (List Ar)} (h : FC X PN σ1 W es g) : PA X es (cC X PN σ1 W g) := by
  obtain ⟨tr, p, q⟩ := h.ex
  exact ⟨fun pos pins s σ H Q I ⟨F, B, ρ, S, k⟩ => p.run pos pins s σ H Q I (q F B H σ ρ Q S k)⟩
theorem fe_muT {i : Nat} {apos pos : Pos} {base e : Expr} {es : List Expr} {name : Str} {id : String} {gm : GM} {gp : T → En → R (List Nat)} {gl : T → En → R (List Ar)} (hp : i ∈ PN) (slot : Slot "list" name id) (hty : typeOf (.builtin id) = pure (.type "method_descriptor"))
    (h : ∃ r, MtR X id r ∧ MutOk X r gm) (hn : ∀ σ1 t, Vw PN σ1 i t → FN X PN σ1 W base i t (gp t)) (hl : ∀ σ1 t, Vw PN σ1 i t → FC X PN σ1 W (e :: es) (gl t))
    (hbase : attributeBase base name X.env (eval base X.env) = eval base X.env := by rfl)
    (hfew : ((backTo pos (starEach (e :: es) X.env)).all (fun x => !x.1) && (backToKw pos (keywordEach [] X.env)).all (fun x => x.1.isSome)
      && decide ((e :: es).length + ([] : List Keyword).length + (if ([] : List Keyword).isEmpty then 0 else 1) < 30)) = true := by rfl)
    (hline : (apos.endLine == pos.line) = true := by rfl) (hs : starEach (e :: es) X.env = (false, eval e X.env) :: starEach es X.env := by rfl) (hplain : (backTo pos (starEach es X.env)).any (·.1) = false := by rfl) :
    FE X PN σ0 W (.Call (.Attribute base name apos) (e :: es) [] pos) (xMuT i gp gm gl) := by
  obtain ⟨r, m1, m2⟩ := h
  have pb : PE X base (fun σ H Q => ∃ σ1 t, Vw PN σ1 i t ∧ cN X PN σ1 W i t (gp t) σ H Q) := ⟨fun pins s σ H Q I ⟨σ1, t, V, q⟩ => (hn σ1 t V).pe.run pins s σ H Q I q⟩
  have pl : PA X (e :: es) (fun σ H Q => ∃ σ1 t, Vw PN σ1 i t ∧ cC X PN σ1 W (gl t) σ H Q) := ⟨fun pos pins s σ H Q I ⟨σ1, t, V, q⟩ => (hl σ1 t V).pa.run pos pins s σ H Q I q⟩
  refine ⟨_, pe_bm PySem.F.plainAttrs_list slot hty m1 pb pl hbase hfew hline hs hplain, fun F B H σ ρ Q S q => ?_⟩
  unfold xMuT at q
  split at q
  · rename_i t hi
    obtain ⟨v, hv, o1, o2, o3⟩ := S.sl i _ hi
    have V : Vw PN (σ0.see (i, v, t, treeH H v t)) i t := ⟨hp, v, treeH H v t, (S.pin i hp).symm.trans hv, List.mem_singleton.2 rfl⟩
    refine ⟨_, t, V, treeF F H v t, B, ρ.set i .no, S.hide hi hv, ?_⟩
    cases eg : gp t (ρ.set i .no) with
    | bad => rw [eg] at q; exact q
    | exc c fs ρ1 => rw [eg] at q; exact fun cls od H' B' e S1 z => q cls od H' B' e (S.show_ hi hv e S1).1 z
    | ok js ρ1 =>
      rw [eg] at q
      intro w H1 B1 u root Fv e1 S1 g1 g2 hat
      cases List.mem_singleton.1 g2
      have hatH := hat.heap fun b o hb => (treeH_sub hb).2
      -- what is there
      have hthere : ∀ {B2 H2 : Hp} {ρ2 : En}, Ext B B2 → Sat X.K X.mg PN (σ0.see (i, v, t, treeH H v t)) (treeF F H v t) B2 H2 σ ρ2 → (∀ x ∈ fpT H v t, H2 x = H x) := fun e2 S2 => (S.show_ hi hv e2 S2).2.1
      obtain ⟨ou, nu⟩ := o1.to hatH o2
      simp only at q
      split at q
      · rename_i ts ht
        rw [hat.at_] at ht
        cases ht
        obtain ⟨a, xs, rfl, ha, hm, hls⟩ : ∃ a xs, w = L2.V.ref a ∧ H a = some (.lst xs) ∧ a ∈ fpT H v t ∧ OwL X.K X.mg B H xs ts := by
          cases ou with
          | nd k1 k2 k3 =>
            obtain ⟨xs, rfl⟩ := k2
            exact ⟨_, xs, rfl, k1, AtP.sub (by rw [fpT_nd k1]; exact List.mem_cons_self) hatH, k3⟩
        have ha1 : H1 a = some (.lst xs) := (hthere e1 S1 a hm).trans ha
        refine ⟨.inl ⟨rfl, xs, .inl (.inl ha1)⟩, _, t, V, treeF F H v t, B1, ρ1, S1, ?_⟩
        cases el : gl t ρ1 with
        | bad => rw [el] at q; exact q
        | exc c fs ρ2 => rw [el] at q; exact fun cls od H' B' e S2 z => q cls od H' B' (e1.trans e) (S.show_ hi hv (e1.trans e) S2).1 z
        | ok ars ρ2 =>
          rw [el] at q
          intro vs H2 B2 e2 S2 k2
          simp only [kMuT] at q
          split at q
          · rename_i ds' d hg
            split at q
            · rename_i hlen
              cases he : dsOf ars with
              | none => rw [he] at hg; cases hg
              | some es' =>
                rw [he, Option.bind_some] at hg
                cases hf : T.flatL ts with
                | none => rw [hf] at hg; cases hg
                | some ds =>
                  rw [hf, Option.bind_some] at hg
                  have ets := flatL_eq hf
                  subst ets
                  have e12 := e1.trans e2
                  have rl : RepL X.K X.mg B2 xs ds := (OwL.leaves hls).mono e12
                  have ha2 : H2 a = some (.lst xs) := (hthere e12 S2 a hm).trans ha
                  refine m2 B2 H2 a xs vs ds es' ds' d Q S2.bh ha2 rl (dsOf_rep k2 he) hg fun xs' w' r1 r2 => ?_
                  obtain ⟨S3, keep, _⟩ := S.show_ hi hv e12 S2
                  obtain ⟨o1', o2'⟩ := (o1.mono e12).at (H' := H2) keep
                  have hi3 : (ρ2.set i (.dp t))[i]? = some (Sl.dp t) := by rw [List.getElem?_set_self hlen]
                  have hat2 : AtP H2 v t js (.ref a) (.nd .ls (ds.map .lf)) := hat.heap fun b o hb => by
                    obtain ⟨z1, z2⟩ := treeH_sub hb
                    exact (keep b z1).trans z2
                  have fa : fpT H2 (L2.V.ref a) (.nd .ls (ds.map .lf)) = [a] := by rw [fpT_nd ha2, fpL_leaves]
                  have fa' : fpT (upd H2 a (.lst xs')) (L2.V.ref a) (.nd .ls (ds'.map .lf)) = [a] := by rw [fpT_nd upd_same, fpL_leaves]
                  have n2 : (fpT H2 v t).Nodup := by rw [o2']; exact o2
                  obtain ⟨t1, t2, t3⟩ := OwT.focus (H' := upd H2 a (.lst xs')) (u' := .nd .ls (ds'.map .lf)) (OwT.nd upd_same ⟨xs', rfl⟩ (RepL.leaves r1)) (by rw [fa']; exact List.nodup_cons.2 ⟨by simp, List.nodup_nil⟩) o1' hat2 n2
                    (fun x hx hne => upd_ne fun z => hne (by rw [fa, z]; exact List.mem_singleton.2 rfl)) (fun x hx => .inl (by rw [fa]; rw [fa'] at hx; exact hx))
                  have S4 := S3.setT hi3 hv (H' := upd H2 a (.lst xs')) (fun b o hb ho => by
                    rw [upd_ne]
                    · exact ho
                    · rintro rfl
                      exact hb (by rw [o2']; exact hm)) t1 t2 fun x hx => .inl (by
                    rcases t3 x hx with z | z
                    · rw [fa'] at z
                      rw [List.mem_singleton.1 z, o2']
                      exact hm
                    · exact z.1)
                  rw [List.set_set] at S4
                  exact q w' _ B2 e12 S4 r2
            · exact q.elim
          · exact q.elim
      · exact q.elim
  · exact q.elim
end
end FV

namespace FV
open PySem PySem.Spec PyProof.Rows L2
/-! ### a place by a key -/
def ixKey : List Key → Key → Option Nat
  | [], _ => none
  | g :: r, k => if g = k then some 0 else (ixKey r k).map (· + 1)
def kidOf (d : D) : T → Option Nat
  | .nd (.dc ks) _ => (keyOf d).bind fun k => ixKey ks k
  | .nd .ls ts => match d with
    | .int z => ixN ts.length z
    | _ => none
  | _ => none
theorem ixKey_val {kvs : List (Key × L2.V)} {k : Key} {j : Nat} (h : ixKey (kvs.map (·.1)) k = some j) : ∃ w, valV kvs k = some w ∧ (kvs.map (·.2))[j]? = some w := by
  induction kvs generalizing j with
  | nil => cases h
  | cons p kvs ih =>
    obtain ⟨g, v⟩ := p
    rw [List.map_cons, ixKey] at h
    unfold valV at ih ⊢
    rw [List.find?_cons]
    by_cases e : g = k
    · rw [if_pos e] at h
      cases h
      rw [decide_eq_true e]
      exact ⟨v, rfl, rfl⟩
    · rw [if_neg e] at h
      rw [decide_eq_false e]
      cases e2 : ixKey (kvs.map (·.1)) k with
      | none => rw [e2] at h; cases h
      | some m =>
        rw [e2] at h
        cases h
        obtain ⟨w, w1, w2⟩ := ih e2
        exact ⟨w, w1, by simpa using w2⟩
section
variable {K : PySem.W.Frag} {mg : Str → Option Value} {B H : Hp}
theorem OwT.to1 {w : L2.V} {u : T} : ∀ {js : List Nat} {t : T} {v : L2.V}, OwT K mg B H v t → AtP H v t js w u → OwT K mg B H w u
  | [], _, _, o, .nil => o
  | _ :: js, _, _, o, .cons h1 h2 h3 p => by
    cases o with
    | nd g1 g2 g3 =>
      rw [h1] at g1; cases g1
      exact OwT.to1 (OwL.kid g3 h2 h3) p
theorem AtP.snoc {a : Addr} {o : HO} {h : TH} {ts : List T} {j : Nat} {w : L2.V} {u : T} (h1 : H a = some o) (h2 : (kids o)[j]? = some w) (h3 : ts[j]? = some u) : ∀ {js : List Nat} {v : L2.V} {t : T}, AtP H v t js (.ref a) (.nd h ts) → AtP H v t (js ++ [j]) w u
  | [], _, _, .nil => .cons h1 h2 h3 .nil
  | _ :: _, _, _, .cons g1 g2 g3 p => .cons g1 g2 g3 (AtP.snoc h1 h2 h3 p)
end
def kPlK (t : T) (js : List Nat) (s : Sl) (ρ : En) : R (List Nat) := match s, t.at js with
  | .fz d, some u => (match (kidOf d u).bind fun j => (u.kid j).map fun _ => j with
    | some j => .ok (js ++ [j]) ρ
    | none => .bad)
  | _, _ => .bad
def plK (t : T) (g : En → R (List Nat)) (gb : FX) : En → R (List Nat) := fun ρ => match g ρ with
  | .ok js ρ1 => (match xF gb ρ1 with
    | .ok s ρ2 => kPlK t js s ρ2
    | .exc c fs ρ2 => .exc c fs ρ2
    | .bad => .bad)
  | .exc c fs ρ1 => .exc c fs ρ1
  | .bad => .bad
section
variable {X : Cx} {PN : List Nat} {σ0 σ1 : Gs} {W : WX} {k : Nat} {M L : List Bool}
theorem fn_k {i : Nat} {t : T} {e b : Expr} {pos : Pos} {g : En → R (List Nat)} {gb : FX} (hu : X.A.units + 1 < cLine) (V : Vw PN σ1 i t) (hn : FN X PN σ1 W e i t g) (hb : FE X PN σ1 W b gb) (hs : PlainIx b := by intro _ _; rfl) : FN X PN σ1 W (.Subscript e b pos) i t (plK t g gb) := by
  obtain ⟨ta, pa, qa⟩ := hn.ex
  obtain ⟨tb, pb, qb⟩ := (fe_f hb).ex
  refine ⟨_, pe_ix (ix_seq.or (ix_dict hu)) pa pb hs, fun F B H σ ρ Q S q => qa F B H σ ρ _ S ?_⟩
  unfold plK at q
  cases eg : g ρ with
  | bad => rw [eg] at q; exact q
  | exc c fs ρ1 => rw [eg] at q; exact q
  | ok js ρ1 =>
    rw [eg] at q
    intro w H1 B1 u root Fv e1 S1 g1 g2 hat
    refine qb F B1 H1 σ ρ1 _ S1 ?_
    simp only at q
    cases ex : xF gb ρ1 with
    | bad => rw [ex] at q; exact q.elim
    | exc c fs ρ2 => rw [ex] at q; exact fun cls od H' B' e S2 z => q cls od H' B' (e1.trans e) S2 z
    | ok s ρ2 =>
      rw [ex] at q
      intro y H2 B2 e2 S2 z
      simp only [kPlK, hat.at_] at q
      cases s with
      | no => exact q.elim
      | ow d => exact q.elim
      | dp t' => exact q.elim
      | fz d =>
        simp only at q
        split at q
        · rename_i j hj
          cases ek : kidOf d u with
          | none => rw [ek] at hj; cases hj
          | some m =>
            rw [ek, Option.bind_some] at hj
            cases eu : u.kid m with
            | none => rw [eu] at hj; cases hj
            | some u' =>
              rw [eu] at hj
              cases hj
              have hv2 := S2.vw _ g2
              have ou := hv2.1.to1 hat
              cases u with
              | lf d' => cases ek
              | nd hd ts =>
                cases ou with
                | nd k1 k2 k3 =>
                  have kH := (S2.fh _ _ (hv2.2 _ _ k1)).1
                  cases hd with
                  | is c fs => cases ek
                  | ls =>
                    obtain ⟨xs, rfl⟩ := k2
                    cases d with
                    | int zi =>
                      have ek' : ixN ts.length zi = some m := ek
                      have hl := k3.length
                      obtain ⟨w', hw'⟩ : ∃ w', xs[m]? = some w' := by
                        have hm : m < ts.length := (List.getElem?_eq_some_iff.mp (show ts[m]? = some u' from eu)).1
                        exact ⟨_, List.getElem?_eq_getElem (by show m < xs.length; rw [show xs.length = ts.length from hl]; exact hm)⟩
                      refine .inl (.inl ⟨_, xs, zi, w', rfl, (by cases z; rfl), .inl (.inl kH), ?_, q w' H2 B2 u' root Fv (e1.trans e2) S2 g1 g2 (hat.snoc k1 hw' eu)⟩)
                      unfold atI
                      rw [show xs.length = ts.length from hl, ek']
                      exact hw'
                    | _ => cases ek
                  | dc ks =>
                    obtain ⟨kvs, rfl, rfl⟩ := k2
                    have ek' : (keyOf d).bind (fun k => ixKey (kvs.map (·.1)) k) = some m := ek
                    cases eK : keyOf d with
                    | none => rw [eK] at ek'; cases ek'
                    | some key =>
                      rw [eK, Option.bind_some] at ek'
                      obtain ⟨w', w1, w2⟩ := ixKey_val ek'
                      exact .inr ⟨_, w', rfl, .inl ⟨kvs, key, .inl kH, key_rep z eK, w1.symm⟩, q w' H2 B2 u' root Fv (e1.trans e2) S2 g1 g2 (hat.snoc k1 w2 eu)⟩
        · exact q.elim
end
end FV

namespace FV
open PySem PySem.Spec PyProof.Rows L2
/-! ### a made object; methods -/
section
variable {K : PySem.W.Frag} {mg : Str → Option Value} {PN : List Nat} {σ0 : Gs} {σ τ : L2.St} {F B B' H H' : Hp} {ρ ρ1 : En} {i : Nat} {t : T} {v : L2.V}
theorem Sat.weak (S : Sat K mg PN σ0 F B H σ ρ) : Sat K mg [] {} F B H σ ρ := ⟨S.len, fun i h => (by cases h), fun p h => (by cases h), S.bh, S.fh, S.sl, S.dj, S.dq, fun q h => by cases h⟩
theorem Sat.strong (S : Sat K mg PN σ0 F B H σ ρ) (e : Ext B B') (S1 : Sat K mg [] {} F B' H' σ ρ1) : Sat K mg PN σ0 F B' H' σ ρ1 :=
  ⟨S1.len, S.pin, fun p hp => ⟨e.xd (S.gh p hp).1, (S.gh p hp).2.mono e⟩, S1.bh, S1.fh, S1.sl, S1.dj, S1.dq, fun q hq => (S.vw q hq).mono e⟩
def padTo (ρ : En) (n : Nat) (s : Sl) : En := (ρ ++ List.replicate (n - ρ.length) .no) ++ [s]
theorem pad_old {n : Nat} {s u : Sl} (h : ρ[i]? = some u) : (padTo ρ n s)[i]? = some u := by
  have hl := (List.getElem?_eq_some_iff.mp h).1
  unfold padTo
  rw [List.append_assoc, List.getElem?_append_left hl]
  exact h
theorem pad_len {n : Nat} {s : Sl} (h : ρ.length ≤ n) : (padTo ρ n s).length = n + 1 := by
  unfold padTo
  simp only [List.length_append, List.length_replicate, List.length_singleton]
  omega
theorem pad_get {n : Nat} {s u : Sl} (hl : ρ.length ≤ n) (h : (padTo ρ n s)[i]? = some u) : (ρ[i]? = some u ∧ i < n) ∨ u = .no ∨ (i = n ∧ u = s) := by
  unfold padTo at h
  by_cases h1 : i < ρ.length
  · rw [List.append_assoc, List.getElem?_append_left h1] at h
    exact .inl ⟨h, by omega⟩
  · by_cases h2 : i < n
    · rw [List.getElem?_append_left (by simp; omega), List.getElem?_append_right (by omega), List.getElem?_replicate] at h
      split at h
      · cases h; exact .inr (.inl rfl)
      · cases h
    · rw [List.getElem?_append_right (by simp; omega)] at h
      simp only [List.length_append, List.length_replicate] at h
      have : i - (ρ.length + (n - ρ.length)) = 0 := by
        cases e : i - (ρ.length + (n - ρ.length)) with
        | zero => rfl
        | succ m => rw [e] at h; simp at h
      rw [this] at h
      simp at h
      exact .inr (.inr ⟨by omega, h.symm⟩)
theorem Sat.ext (S : Sat K mg [] {} F B H σ ρ) (o : OwT K mg B H v t) (n : (fpT H v t).Nodup) (fr : ∀ x ∈ fpT H v t, F x = none ∧ B x = none ∧ ∀ j s, ρ[j]? = some s → x ∉ fpS H σ j s) :
    Sat K mg [] {} F B H (σ ++ [some v]) (padTo ρ σ.length (.dp t)) := by
  have hlast : (σ ++ [some v])[σ.length]? = some (some v) := by rw [List.getElem?_append_right (Nat.le_refl _), Nat.sub_self]; rfl
  have hold : ∀ {j : Nat}, j < σ.length → (σ ++ [some v])[j]? = σ[j]? := fun h => List.getElem?_append_left h
  have hsep : ∀ (i j : Nat) (s s' : Sl) (x : Addr), (padTo ρ σ.length (.dp t))[i]? = some s → (padTo ρ σ.length (.dp t))[j]? = some s' → x ∈ fpS H (σ ++ [some v]) i s → x ∈ fpS H (σ ++ [some v]) j s' → i = j := fun i j s s' x h1 h2 m1 m2 => by
    rcases pad_get S.len h1 with ⟨a1, a2⟩ | z | ⟨rfl, rfl⟩
    · rw [fpS_move (hold a2)] at m1
      rcases pad_get S.len h2 with ⟨b1, b2⟩ | z | ⟨rfl, rfl⟩
      · rw [fpS_move (hold b2)] at m2
        exact S.sep a1 b1 m1 m2
      · subst z; cases m2
      · rw [fpS_dp hlast] at m2
        exact ((fr x m2).2.2 i s a1 m1).elim
    · subst z; cases m1
    · rw [fpS_dp hlast] at m1
      rcases pad_get S.len h2 with ⟨b1, b2⟩ | z | ⟨rfl, rfl⟩
      · rw [fpS_move (hold b2)] at m2
        exact ((fr x m1).2.2 j s' b1 m2).elim
      · subst z; cases m2
      · rfl
  refine ⟨by rw [pad_len S.len, List.length_append]; exact Nat.le_refl _, fun i h => (by cases h), fun p h => (by cases h), S.bh, S.fh, fun i s h => ?_, (sep_dj hsep).1, (sep_dj hsep).2, fun q h => by cases h⟩
  rcases pad_get S.len h with ⟨a1, a2⟩ | z | ⟨rfl, rfl⟩
  · exact (S.sl i s a1).move (hold a2) fun x hx => ((S.sl i s a1).free hx).1
  · subst z; trivial
  · exact ⟨v, hlast, o, n, fun x hx => ⟨(fr x hx).1, (fr x hx).2.1⟩⟩
theorem Sat.pre {m : Nat} (S : Sat K mg [] {} F B H (σ ++ τ) ρ) (hm : m ≤ σ.length) : Sat K mg [] {} F B H σ (ρ.take m) := by
  have hget : ∀ (i : Nat) (s : Sl), (ρ.take m)[i]? = some s → ρ[i]? = some s ∧ σ[i]? = (σ ++ τ)[i]? := fun i s h => by
    rw [List.getElem?_take] at h
    split at h
    · rename_i hi
      exact ⟨h, (List.getElem?_append_left (by omega)).symm⟩
    · cases h
  have hsep : ∀ (i j : Nat) (s s' : Sl) (x : Addr), (ρ.take m)[i]? = some s → (ρ.take m)[j]? = some s' → x ∈ fpS H σ i s → x ∈ fpS H σ j s' → i = j := fun i j s s' x h1 h2 m1 m2 => by
    obtain ⟨a1, a2⟩ := hget i s h1
    obtain ⟨b1, b2⟩ := hget j s' h2
    rw [fpS_move a2] at m1
    rw [fpS_move b2] at m2
    exact S.sep a1 b1 m1 m2
  refine ⟨by rw [List.length_take]; omega, fun i h => (by cases h), fun p h => (by cases h), S.bh, S.fh, fun i s h => ?_, (sep_dj hsep).1, (sep_dj hsep).2, fun q h => by cases h⟩
  obtain ⟨a1, a2⟩ := hget i s h
  exact (S.sl i s a1).move a2 fun x hx => ((S.sl i s a1).free hx).1
theorem argEn_app {ρ ρ' : En} (h : ∀ (i : Nat) (s : Sl), ρ[i]? = some s → ρ'[i]? = some s) : ∀ {ars : List Ar} {ρa : En}, argEn ars ρ = some ρa → argEn ars ρ' = some ρa
  | [], _, e => e
  | a :: r, ρa, e => by
    unfold argEn at e ⊢
    cases e1 : argEn1 ρ a with
    | none => rw [e1] at e; cases e
    | some s =>
      rw [e1, Option.bind_some] at e
      have e1' : argEn1 ρ' a = some s := by
        cases a with
        | fz d => exact e1
        | sl i =>
          obtain ⟨g1, g2⟩ := argEn1_sl e1
          have g3 := h i s g1
          show (match ρ'[i]? with
            | some (Sl.ow d) => some (Sl.ow d)
            | some (Sl.dp t) => some (Sl.dp t)
            | _ => none) = some s
          rw [g3]
          rcases g2 with ⟨d, rfl⟩ | ⟨t, rfl⟩ <;> rfl
      rw [e1', Option.bind_some]
      cases e2 : argEn r ρ with
      | none => rw [e2] at e; cases e
      | some l =>
        rw [e2] at e
        cases e
        rw [argEn_app h e2]
        rfl
theorem argEn_lt : ∀ {ars : List Ar} {ρ ρa : En} {i : Nat}, argEn ars ρ = some ρa → i ∈ slots ars → i < ρ.length := fun {ars ρ ρa i} h hi => by
  obtain ⟨j, hj⟩ := mem_slots.mp hi
  have hl := argEn_len h
  have hjl : j < ρa.length := by rw [hl]; exact (List.getElem?_eq_some_iff.mp hj).1
  obtain ⟨a, h1, h2⟩ := argEn_get h (List.getElem?_eq_getElem hjl)
  rw [hj] at h1
  cases h1
  exact (List.getElem?_eq_some_iff.mp (argEn1_sl h2).1).1
theorem back_pre {m : Nat} : ∀ {ars : List Ar} {ρa ρ ρ' : En}, (∀ i, i < m → ρ'[i]? = ρ[i]?) → ∀ i, i < m → (back ars ρa ρ')[i]? = (back ars ρa ρ)[i]?
  | [], _, _, _, h, i, hi => h i hi
  | .fz _ :: r, ρa, ρ, ρ', h, i, hi => back_pre (ars := r) h i hi
  | .sl j :: r, ρa, ρ, ρ', h, i, hi => by
    refine back_pre (ars := r) (fun i hi => ?_) i hi
    by_cases e : j = i
    · subst e
      rw [List.getElem?_set_self', List.getElem?_set_self', h j hi]
    · rw [List.getElem?_set_ne e, List.getElem?_set_ne e, h i hi]
theorem back_off : ∀ {ars : List Ar} {ρa ρ : En} {i : Nat}, i ∉ slots ars → (back ars ρa ρ)[i]? = ρ[i]?
  | [], _, _, _, _ => rfl
  | .fz _ :: r, ρa, ρ, i, h => back_off (ars := r) h
  | .sl j :: r, ρa, ρ, i, h => by
    have h' : i ≠ j ∧ i ∉ slots r := by simpa [slots] using h
    rw [back, back_off (ars := r) h'.2, List.getElem?_set_ne (fun z => h'.1 z.symm)]
theorem take_back {ars : List Ar} {ρa ρ ρ' : En} (hl : ρ.length ≤ ρ'.length) (h : ∀ i, i < ρ.length → ρ'[i]? = ρ[i]?) {n : Nat} {s : Sl} (hn : ρ.length ≤ n) : ((back ars ρa ρ').set n s).take ρ.length = back ars ρa ρ := by
  apply List.ext_getElem?
  intro i
  rw [List.getElem?_take]
  split
  · rename_i hi
    rw [List.getElem?_set_ne (by omega)]
    exact back_pre h i hi
  · rename_i hi
    rw [List.getElem?_eq_none]
    rw [back_len]; omega
end
def endMake (ars : List Ar) (ρ1 : En) (r : R Fl) : R Sl := match r with
  | .ok .nx (.dp t :: ρa') => .ok (.fz t.strip) (back ars ρa' ρ1)
  | .ok .nx (.fz d :: ρa') => .ok (.fz d) (back ars ρa' ρ1)
  | .exc c fs (_ :: ρa') => .exc c fs (back ars ρa' ρ1)
  | _ => .bad
def goMake (c : Str) (own : List Bool) (G : GF) (ars : List Ar) (ρ1 : En) : R Sl :=
  if arsOk own ars = true ∧ (slots ars).Nodup then match argEn ars ρ1 with
  | none => .bad
  | some ρa => endMake ars ρ1 (G (.dp (.nd (.is c []) []) :: ρa))
  else .bad
def xMake (c : Str) (own : List Bool) (G : GF) (l : En → R (List Ar)) : FX := fun ρ => (l ρ).bind fun ars ρ1 => goMake c own G ars ρ1
section
variable {X : Cx} {PN : List Nat} {σ0 : Gs} {W : WX} {F B H : Hp} {σ : L2.St} {ρ : En} {Q : VK} {vs : List L2.V} {ars : List Ar}
theorem make_sp {c : Str} {C : Addr} {own : List Bool} {G : GF} (hC : X.mg c = some (.ref C)) (S : Sat X.K X.mg PN σ0 F B H σ ρ) (k : Paired (ArOk X B σ) vs ars) (q : EPost X PN σ0 W F B σ (goMake c own G ars ρ) Q) :
    ∀ x dx, H x = none → H dx = none → dx ≠ x → spF X.K X.mg (true :: own) G (.ref x :: vs) (upd (upd H dx (.own x)) x (.ins C dx [])) (fun v H2 => v = .non ∧ Q (.ref x) H2) (fun cls od H' => W cls od σ H') := by
  intro x dx hx hdx hne
  unfold goMake at q
  split at q
  · rename_i hc
    obtain ⟨h1, nd⟩ := hc
    split at q
    · exact q.elim
    · rename_i ρa ha
      have hx1 : upd H dx (.own x) x = none := by rw [upd_ne hne.symm]; exact hx
      have S1 := (S.alloc (o := .own x) hdx)
      have S2 := (S1.alloc (o := .ins C dx []) hx1)
      have o0 : OwT X.K X.mg B (upd (upd H dx (.own x)) x (.ins C dx [])) (.ref x) (.nd (.is c []) []) := .nd upd_same ⟨C, dx, [], hC, rfl, rfl, List.nodup_nil⟩ .nil
      have f0 : fpT (upd (upd H dx (.own x)) x (.ins C dx [])) (L2.V.ref x) (.nd (.is c []) []) = [x] := by rw [fpT_nd upd_same]; rfl
      have SE := S2.weak.ext o0 (by rw [f0]; exact List.nodup_cons.2 ⟨by simp, List.nodup_nil⟩) (by
        rw [f0]
        intro y hy
        rw [List.mem_singleton.1 hy]
        refine ⟨S1.fn hx1, S1.bn hx1, fun j s hj hm => ?_⟩
        have q1 := S1.sl j s hj
        have e1 := q1.fp_at (H' := upd (upd H dx (.own x)) x (.ins C dx [])) fun z hz => by
          obtain ⟨u, hu⟩ := q1.there hz
          exact upd_ne (ne_of_none hu hx1)
        rw [e1] at hm
        obtain ⟨u, hu⟩ := q1.there hm
        rw [hx1] at hu; cases hu)
      have hlt : ∀ i ∈ slots ars, i < ρ.length := fun i hi => argEn_lt ha hi
      have hnn : σ.length ∉ slots ars := fun hi => by have := hlt _ hi; have := S.len; omega
      have nd' : (slots (.sl σ.length :: ars)).Nodup := List.nodup_cons.2 ⟨hnn, nd⟩
      have hlast : (σ ++ [some (L2.V.ref x)])[σ.length]? = some (some (L2.V.ref x)) := by rw [List.getElem?_append_right (Nat.le_refl _), Nat.sub_self]; rfl
      have hpl : (padTo ρ σ.length (.dp (.nd (.is c []) [])))[σ.length]? = some (.dp (.nd (.is c []) [])) := by
        unfold padTo
        have := S.len
        rw [List.getElem?_append_right (by simp; omega)]
        simp only [List.length_append, List.length_replicate]
        rw [show σ.length - (ρ.length + (σ.length - ρ.length)) = 0 by omega]
        rfl
      have k' : Paired (ArOk X B (σ ++ [some (L2.V.ref x)])) (.ref x :: vs) (.sl σ.length :: ars) := by
        refine .cons hlast ?_
        clear q h1 nd nd' hlt hnn ha
        induction k with
        | nil => exact .nil
        | @cons v a vs ars p _ ih =>
          refine .cons ?_ ih
          cases a with
          | fz d => exact p
          | sl j =>
            have p' : σ[j]? = some (some v) := p
            show (σ ++ [some (L2.V.ref x)])[j]? = some (some v)
            rw [List.getElem?_append_left (List.getElem?_eq_some_iff.mp p').1]
            exact p'
      have ha' : argEn (.sl σ.length :: ars) (padTo ρ σ.length (.dp (.nd (.is c []) []))) = some (.dp (.nd (.is c []) []) :: ρa) := by
        unfold argEn
        have e1 : argEn1 (padTo ρ σ.length (.dp (.nd (.is c []) []))) (.sl σ.length) = some (.dp (.nd (.is c []) [])) := by
          show (match (padTo ρ σ.length (.dp (.nd (.is c []) [])))[σ.length]? with
            | some (Sl.ow d) => some (Sl.ow d)
            | some (Sl.dp t) => some (Sl.dp t)
            | _ => none) = _
          rw [hpl]
        rw [e1, argEn_app (fun i s h => pad_old h) ha]
        rfl
      have fin : ∀ {B' H' : Hp} {s0 : Sl} {ρr : En} {u : Sl}, Ext B B' → Sat X.K X.mg [] {} F B' H' (σ ++ [some (L2.V.ref x)]) ((back (.sl σ.length :: ars) (s0 :: ρr) (padTo ρ σ.length (.dp (.nd (.is c []) [])))).set σ.length u) → Sat X.K X.mg PN σ0 F B' H' σ (back ars ρr ρ) := fun {B' H' s0 ρr u} e S3 => by
        have S4 := S3.pre (m := ρ.length) S.len
        have ee : ((back (.sl σ.length :: ars) (s0 :: ρr) (padTo ρ σ.length (.dp (.nd (.is c []) [])))).set σ.length u).take ρ.length = back ars ρr ρ := by
          show ((back ars ρr ((padTo ρ σ.length (.dp (.nd (.is c []) []))).set σ.length s0)).set σ.length u).take ρ.length = back ars ρr ρ
          refine take_back (by rw [List.length_set, pad_len S.len]; have := S.len; omega) (fun i hi => ?_) S.len
          rw [List.getElem?_set_ne (by have := S.len; omega)]
          rw [List.getElem?_eq_getElem hi]
          exact pad_old (List.getElem?_eq_getElem hi)
        rw [ee] at S4
        exact S.strong e S4
      have at0 : ∀ {s0 : Sl} {ρr : En}, (back (.sl σ.length :: ars) (s0 :: ρr) (padTo ρ σ.length (.dp (.nd (.is c []) []))))[σ.length]? = some s0 := fun {s0 ρr} => by
        show (back ars ρr ((padTo ρ σ.length (.dp (.nd (.is c []) []))).set σ.length s0))[σ.length]? = some s0
        rw [back_off hnn, List.getElem?_set_self (by rw [pad_len S.len]; omega)]
      refine ⟨by rw [List.length_cons, List.length_cons, k.length]; rw [arsOk_len h1], foreign F _ (σ ++ [some (L2.V.ref x)]) (padTo ρ σ.length (.dp (.nd (.is c []) []))) (.sl σ.length :: ars), B, .dp (.nd (.is c []) []) :: ρa,
        by rw [List.length_cons, List.length_cons, argEn_len ha, arsOk_len h1], SE.lend k' nd' ha', fun i d h => ?_, ?_⟩
      · cases i with
        | zero => simp at h
        | succ i =>
          have h' : ρa[i]? = some (Sl.ow d) := by simpa using h
          obtain ⟨a, h3, h2⟩ := argEn_get ha h'
          cases a with
          | fz d' => cases argEn1_fz h2
          | sl j => simpa using arsOk_at h1 h3
      · cases eg : G (.dp (.nd (.is c []) []) :: ρa) with
        | bad => rw [eg] at q; exact q.elim
        | exc cn fs ρa' =>
          rw [eg] at q
          cases ρa' with
          | nil => exact q.elim
          | cons s0 ρr =>
            intro cls od H' B' e Cc z
            have S3 := (SE.unlend (s := .no) k' nd' e Cc).1
            have S4 := S3.no σ.length
            exact q cls od H' B' e (fin e S4) z
        | ok f ρa' =>
          cases f with
          | nx =>
            rw [eg] at q
            cases ρa' with
            | nil => exact q.elim
            | cons s0 ρr =>
              cases s0 with
              | no => exact q.elim
              | ow d => exact q.elim
              | fz d =>
                intro H' B' e Cc
                have S3 := (SE.unlend (s := .no) k' nd' e Cc).1
                obtain ⟨w, w1, w2⟩ := S3.sl σ.length _ at0
                rw [hlast] at w1; cases w1
                exact ⟨rfl, q _ H' B' e (fin e (S3.no σ.length)) w2⟩
              | dp t =>
                intro H' B' e Cc
                have S3 := (SE.unlend (s := .no) k' nd' e Cc).1
                obtain ⟨w, B2, w1, e2, S4, w2⟩ := S3.freezeT at0
                rw [hlast] at w1; cases w1
                exact ⟨rfl, q _ H' B2 (e.trans e2) (fin (e.trans e2) S4) w2⟩
          | rt s => rw [eg] at q; cases ρa' <;> exact q.elim
          | bk => rw [eg] at q; cases ρa' <;> exact q.elim
          | ct => rw [eg] at q; cases ρa' <;> exact q.elim
  · exact q.elim
/-- where an own class stands, whose __init__ computes G -/
structure MakeAt (X : Cx) (k : Nat) (c : Str) (ps : List Str) (own : List Bool) (G : GF) : Prop where
  ex : ∃ C f fd, X.mg c = some (.ref C) ∧ Mk X.K C f ∧ FnOk X.prog X.w X.K X.mg X.base (L2.CX X.prog X.w) k f fd ps (spF X.K X.mg (true :: own) G) ∧ Binds X.K fd ps []
/-- the new object's __init__ runs; E may hang on the slots -/
theorem mk_run {k : Nat} {C f : Addr} {fd : FuncData} {ps : List Str} {sp : Sp} {pins : List (Addr × Obj)} {σ : L2.St} {s : Shared} {E : XK} {us : List Value} (M : Mk X.K C f)
    (Fo : FnOk X.prog X.w X.K X.mg X.base (L2.CX X.prog X.w) k f fd ps sp) (room : Room (k + 1) X.A) (bd : Binds X.K fd ps [])
    (hx : ∀ (H : Hp) (s : Shared) (e : Value) (s' : Shared), Inv X pins σ H s → L2.CX X.prog X.w X.stack H s E e s' → X.xe e s') (I : Inv X pins σ H s) (rv : Vals vs us)
    (h : ∀ x dx, H x = none → H dx = none → dx ≠ x → sp (.ref x :: vs) (upd (upd H dx (.own x)) x (.ins C dx [])) (fun v H2 => v = .non ∧ Q (.ref x) H2) E) :
    wpAny (model X.prog X.w) X.A (call (.ref C) us) (EP X pins σ Q) X.xe s := by
  let n := s.heap.objs.size
  have hn1 : H (n + 1) = none := I.hok.fresh (Nat.le_succ _)
  have hn0 : H n = none := I.hok.fresh (Nat.le_refl _)
  have sp1 := h (n + 1) n hn1 hn0 (Nat.ne_of_lt (Nat.lt_succ_self _))
  have J := Inv.made (C := C) I
  have rv1 : Vals (L2.V.ref (n + 1) :: vs) (Value.ref (n + 1) :: us) := .cons rfl rv
  have len1 : (Value.ref (n + 1) :: us).length = ps.length := by rw [← rv1.length]; exact Fo.len _ _ _ _ sp1
  have b1 := bd _ (Value.ref (n + 1) :: us) J.kIn (by rw [List.append_nil]; exact len1)
  rw [List.append_nil] at b1
  refine wpAny_call (make_map (f := f) I.kIn M.makes M.init (beq_iff_eq.mp M.fn) ?_)
  refine codeAny_mono (Fo.run _ X.stack _ _ ⟨Value.ref (n + 1) :: us, []⟩ (Value.ref (n + 1) :: us) _ _ E (room.make C us []) (J.env0.make C us []) b1 rv1 sp1) fun r s' hr => ?_
  match r, hr with
  | .error e, hr => exact hx _ _ e s' J hr
  | .ok (.ret u), hr =>
    obtain ⟨v, H', I', r', ev, q'⟩ := J.after hr
    subst ev
    exact ⟨r', ⟨L2.V.ref (n + 1), H', I', rfl, q'⟩⟩
theorem fe_make {k : Nat} {c : Str} {ps : List Str} {own : List Bool} {G : GF} {p pos : Pos} {e : Expr} {es : List Expr} {l : En → R (List Ar)} (d : MakeAt X k c ps own G) (hr : Room (k + 1) X.A) (tk : Takes X W) (hg : Gl X c) (hl : FC X PN σ0 W (e :: es) l)
    (hdb : (c == ("__debug__" : Str)) = false := by decide) (he : starEach (e :: es) X.env = (false, eval e X.env) :: starEach es X.env := by rfl) (hpl : (backTo pos (starEach es X.env)).any (·.1) = false := by rfl) :
    FE X PN σ0 W (.Call (.Name c p) (e :: es) [] pos) (xMake c own G l) := by
  obtain ⟨C, f, fd, hC, M, Fo, bd⟩ := d.ex
  obtain ⟨t, pt, qt⟩ := hl.ex
  refine ⟨fun σ H Q => t σ H fun vs H1 => ∀ x dx, H1 x = none → H1 dx = none → dx ≠ x → spF X.K X.mg (true :: own) G (.ref x :: vs) (upd (upd H1 dx (.own x)) x (.ins C dx [])) (fun v H2 => v = .non ∧ Q (.ref x) H2) (fun cls od H' => W cls od σ H'),
    ⟨fun pins s σ H Q I h => ?_⟩, fun F B H σ ρ Q S q => qt F B H σ ρ _ S ?_⟩
  · refine wpAny_Call_Name_kw (ld_glob I hg hC ?_ hdb)
    refine PySem.W.callWith_K (h₀ := X.base) I.ok.mod.kin M.kp (thn (pt.run pos pins s σ H _ I h) ?_) he hpl
    rintro us s1 ⟨vs, H1, I1, rv, q1⟩
    exact ⟨I1.kIn, mk_run M Fo hr bd (fun H s e s' J c => tk e s' (XE.of_call J (fun _ _ _ z => z) c)) I1 rv q1⟩
  · unfold xMake at q
    cases el : l ρ with
    | bad => rw [el] at q; exact q
    | exc c' fs ρ2 => rw [el] at q; exact q
    | ok ars ρ1 =>
      rw [el, R.bind_ok] at q
      intro vs H1 B1 e1 S1 k1
      exact make_sp hC S1 k1 (EPost.mono e1 q)
end
/-! ### methods -/
def rX (f : FX) : En → R Ar := fun ρ => match xF f ρ with
  | .ok (.fz d) ρ1 => .ok (.fz d) ρ1
  | .ok _ _ => .bad
  | .exc c fs ρ1 => .exc c fs ρ1
  | .bad => .bad
def rO (i : Nat) : En → R Ar := fun ρ => match ρ[i]? with
  | some (.dp _) => .ok (.sl i) ρ
  | _ => .bad
def hasM (c m : Str) (ar : Ar) (ρ : En) : Bool := match ar with
  | .fz (.ins c' fs) => decide (c' = c) && decide (m ∉ fs.map (·.1))
  | .sl i => (match ρ[i]? with
    | some (.dp (.nd (.is c' fs) _)) => decide (c' = c) && decide (m ∉ fs)
    | _ => false)
  | _ => false
def kMeth2 (own : List Bool) (G : GF) (ar : Ar) (r : R (List Ar)) : R Sl := match r with
  | .ok ars ρ2 => goC own G (ar :: ars) ρ2
  | .exc c fs ρ2 => .exc c fs ρ2
  | .bad => .bad
def kMeth1 (c m : Str) (own : List Bool) (G : GF) (l : En → R (List Ar)) (r : R Ar) : R Sl := match r with
  | .ok ar ρ1 => if hasM c m ar ρ1 = true then kMeth2 own G ar (l ρ1) else .bad
  | .exc c fs ρ1 => .exc c fs ρ1
  | .bad => .bad
def xMeth (c m : Str) (own : List Bool) (G : GF) (gr : En → R Ar) (l : En → R (List Ar)) : FX := fun ρ => kMeth1 c m own G l (gr ρ)
section
variable {X : Cx} {PN : List Nat} {σ0 : Gs} {W : WX} {k : Nat} {M L : List Bool}
def RPost (X : Cx) (PN : List Nat) (σ0 : Gs) (W : WX) (F B : Hp) (σ : L2.St) (r : R Ar) (Q : VK) : Prop := match r with
  | .ok ar ρ' => ∀ v H' B', Ext B B' → Sat X.K X.mg PN σ0 F B' H' σ ρ' → ArOk X B' σ v ar → Q v H'
  | .exc c fs ρ' => ∀ cls od H' B', Ext B B' → Sat X.K X.mg PN σ0 F B' H' σ ρ' → ExcOk X.K X.mg B' c fs cls od → W cls od σ H'
  | .bad => False
/-- who is asked -/
structure FR (X : Cx) (PN : List Nat) (σ0 : Gs) (W : WX) (o : Expr) (g : En → R Ar) : Prop where
  ex : ∃ t : TE, PE X o t ∧ ∀ F B H σ ρ Q, Sat X.K X.mg PN σ0 F B H σ ρ → RPost X PN σ0 W F B σ (g ρ) Q → t σ H Q
theorem fr_x {o : Expr} {f : FX} (h : FE X PN σ0 W o f) : FR X PN σ0 W o (rX f) := by
  obtain ⟨t, pt, qt⟩ := (fe_f h).ex
  refine ⟨t, pt, fun F B H σ ρ Q S q => qt F B H σ ρ _ S ?_⟩
  unfold rX at q
  cases er : xF f ρ with
  | bad => rw [er] at q; exact q
  | exc c fs ρ1 => rw [er] at q; exact q
  | ok s ρ1 =>
    rw [er] at q
    cases s with
    | fz d => exact fun v H' B' e S' z => q v H' B' e S' z
    | _ => exact q.elim
theorem fr_o (N : NamesOk X M L) (i : Nat) {x : Str} {pos : Pos} (hi : X.N[i]? = some x := by rfl) (hm : M[i]? = some true := by rfl) : FR X PN σ0 W (.Name x pos) (rO i) := by
  refine ⟨_, N.pe i hi hm, fun F B H σ ρ Q S q => ?_⟩
  unfold rO at q
  split at q
  · rename_i t e
    obtain ⟨v, h1, _⟩ := S.sl i _ e
    exact ⟨v, h1, q v H B (Ext.refl B) S h1⟩
  · exact q.elim
structure MetAt (X : Cx) (k : Nat) (c m : Str) (ps : List Str) (own : List Bool) (G : GF) : Prop where
  ex : ∃ C f fd, X.mg c = some (.ref C) ∧ Cls X.K C ∧ Meth X.K C m f ∧ FnOk X.prog X.w X.K X.mg X.base (L2.CX X.prog X.w) k f fd ps (spF X.K X.mg own G) ∧ Binds X.K fd ps []
theorem lookup_none_of {vs : List (Str × L2.V)} {m : Str} (h : m ∉ vs.map (·.1)) : vs.lookup m = none := by
  induction vs with
  | nil => rfl
  | cons p vs ih =>
    obtain ⟨g, v⟩ := p
    rw [List.map_cons, List.mem_cons] at h
    rw [List.lookup_cons, show (m == g) = false by simpa using fun z => h (.inl z)]
    exact ih fun z => h (.inr z)
theorem hasM_at {c m : Str} {ar : Ar} {F B H : Hp} {σ : L2.St} {ρ : En} {v : L2.V} {C : Addr} (hC : X.mg c = some (.ref C)) (S : Sat X.K X.mg PN σ0 F B H σ ρ) (ha : ArOk X B σ v ar) (h : hasM c m ar ρ = true) : ∃ a dx fs, v = .ref a ∧ H a = some (.ins C dx fs) ∧ fs.lookup m = none := by
  cases ar with
  | fz d =>
    cases d with
    | ins c' fs =>
      simp only [hasM, Bool.and_eq_true, decide_eq_true_eq] at h
      obtain ⟨rfl, h2⟩ := h
      cases (show Rep X.K X.mg B v (.ins c' fs) from ha) with
      | ins g1 g2 g0 g3 =>
        rw [hC] at g1; cases g1
        exact ⟨_, _, _, rfl, S.bh _ _ g2, lookup_none_of (by rw [g0]; exact h2)⟩
    | _ => simp [hasM] at h
  | sl i =>
    simp only [hasM] at h
    split at h
    · rename_i c' fs ts e
      simp only [Bool.and_eq_true, decide_eq_true_eq] at h
      obtain ⟨rfl, h2⟩ := h
      obtain ⟨w, g1, g2, _⟩ := S.sl i _ e
      have ha' : σ[i]? = some (some v) := ha
      rw [g1] at ha'; cases ha'
      cases g2 with
      | nd k1 k2 k3 =>
        obtain ⟨C', dx, vs, hm, rfl, rfl, _⟩ := k2
        rw [hC] at hm; cases hm
        exact ⟨_, dx, vs, rfl, k1, lookup_none_of h2⟩
    · cases h
theorem meth_red {c m : Str} {own : List Bool} {G : GF} {gr : En → R Ar} {l : En → R (List Ar)} {C : Addr} {ta : TE} {t : TA} (hC : X.mg c = some (.ref C)) (qa : ∀ F B H σ ρ Q, Sat X.K X.mg PN σ0 F B H σ ρ → RPost X PN σ0 W F B σ (gr ρ) Q → ta σ H Q)
    (qt : ∀ F B H σ ρ Q, Sat X.K X.mg PN σ0 F B H σ ρ → CPost X PN σ0 W F B σ (l ρ) Q → t σ H Q) {F B H : Hp} {σ : L2.St} {ρ : En} {Q : VK} (S : Sat X.K X.mg PN σ0 F B H σ ρ) (q : EPost X PN σ0 W F B σ (xMeth c m own G gr l ρ) Q) :
    ta σ H fun x H1 => ∃ a dx fs, x = .ref a ∧ H1 a = some (.ins C dx fs) ∧ fs.lookup m = none ∧ t σ H1 fun vs H2 => spF X.K X.mg own G (x :: vs) H2 Q (fun cls od H' => W cls od σ H') := by
  refine qa F B H σ ρ _ S ?_
  unfold xMeth kMeth1 at q
  cases er : gr ρ with
  | bad => rw [er] at q; exact q
  | exc c fs ρ1 => rw [er] at q; exact q
  | ok ar ρ1 =>
    rw [er] at q
    intro v H1 B1 e1 S1 k1
    simp only at q
    split at q
    · rename_i hm
      obtain ⟨a, dx, fs, rfl, h1, h2⟩ := hasM_at hC S1 k1 hm
      refine ⟨a, dx, fs, rfl, h1, h2, qt F B1 H1 σ ρ1 _ S1 ?_⟩
      unfold kMeth2 at q
      cases el : l ρ1 with
      | bad => rw [el] at q; exact q
      | exc c fs ρ2 => rw [el] at q; exact fun cls od H' B' e S2 z => q cls od H' B' (e1.trans e) S2 z
      | ok ars ρ2 =>
        rw [el] at q
        intro vs H2 B2 e2 S2 k2
        exact call_sp S2 (.cons (ArOk.mono e2 k1) k2) (EPost.mono (e1.trans e2) q)
    · exact q.elim
theorem fe_meth {pl : Sem Bool} {c m : Str} {ps : List Str} {own : List Bool} {G : GF} {apos pos : Pos} {o e : Expr} {es : List Expr} {gr : En → R Ar} {l : En → R (List Ar)} (d : MetAt X k c m ps own G) (hr : Room k X.A) (tk : Takes X W) (ho : FR X PN σ0 W o gr) (hl : FC X PN σ0 W (e :: es) l)
    (he : starEach (e :: es) X.env = (false, eval e X.env) :: starEach es X.env := by rfl) (hpl : (backTo pos (starEach es X.env)).any (·.1) = false := by rfl)
    (ht : eval (.Call (.Attribute o m apos) (e :: es) [] pos) X.env = (eval o X.env >>= fun ov => standAt apos.atName >>= fun _ => holding [ov] (getMethod ov m pl) >>= fun r =>
      callWith pos r.1 r.2 (backTo pos (starEach (e :: es) X.env)) (backToKw pos (keywordEach [] X.env))) := by rfl) :
    FE X PN σ0 W (.Call (.Attribute o m apos) (e :: es) [] pos) (xMeth c m own G gr l) := by
  obtain ⟨C, f, fd, hC, cls, me, Fo, bd⟩ := d.ex
  obtain ⟨ta, pa, qa⟩ := ho.ex
  obtain ⟨t, pt, qt⟩ := hl.ex
  refine ⟨_, ⟨fun pins s σ H Q I h => ?_⟩, fun F B H σ ρ Q S q => meth_red (m := m) hC qa qt S q⟩
  refine PySem.W.methodCall_KW (pl := pl) (thn (pa.run pins s σ H _ I h) ?_) ht
  rintro u s1 ⟨x, H1, I1, rx, a, dx, fs, rfl, h1, h2, q1⟩
  obtain rfl : u = Value.ref a := rx
  refine getmeth_ok I1 h1 cls me h2 (PySem.W.callWith_K (first := [.ref a]) (h₀ := X.base) I.ok.mod.kin me.kp (thn (pt.run pos pins s1 σ H1 _ I1 q1) ?_) he hpl)
  rintro us s2 ⟨vs, H2, I2, rv, q2⟩
  exact ⟨I2.kIn, run_fnS (E := fun σ cls od H' => W cls od σ H') (us := .ref a :: us) (vs := .ref a :: vs) Fo hr bd (passAt tk σ) I2 (.cons rfl rv) q2⟩
theorem fe_meth0 {pl : Sem Bool} {c m : Str} {ps : List Str} {own : List Bool} {G : GF} {apos pos : Pos} {o : Expr} {gr : En → R Ar} (d : MetAt X k c m ps own G) (hr : Room k X.A) (tk : Takes X W) (ho : FR X PN σ0 W o gr)
    (ht : eval (.Call (.Attribute o m apos) [] [] pos) X.env = (eval o X.env >>= fun ov => standAt apos.atName >>= fun _ => holding [ov] (getMethod ov m pl) >>= fun r =>
      callWith pos r.1 r.2 (backTo pos (starEach [] X.env)) (backToKw pos (keywordEach [] X.env))) := by rfl) :
    FE X PN σ0 W (.Call (.Attribute o m apos) [] [] pos) (xMeth c m own G gr cNil) := by
  obtain ⟨C, f, fd, hC, cls, me, Fo, bd⟩ := d.ex
  obtain ⟨ta, pa, qa⟩ := ho.ex
  refine ⟨_, ⟨fun pins s σ H Q I h => ?_⟩, fun F B H σ ρ Q S q => meth_red (t := tNil) (l := cNil) (m := m) hC qa (fun F B H σ ρ Q S q => q [] H B (Ext.refl B) S .nil) S q⟩
  refine PySem.W.methodCall_KW (pl := pl) (thn (pa.run pins s σ H _ I h) ?_) ht
  rintro u s1 ⟨x, H1, I1, rx, a, dx, fs, rfl, h1, h2, q1⟩
  obtain rfl : u = Value.ref a := rx
  exact getmeth_ok I1 h1 cls me h2 (PySem.W.callWith_K0 (first := [.ref a]) I1.kIn me.kp
    (run_fnS (E := fun σ cls od H' => W cls od σ H') (us := [.ref a]) (vs := [.ref a]) Fo hr bd (passAt tk σ) I1 (.cons rfl .nil) q1))
end
end FV

namespace FV
open PySem PySem.Spec PyProof.Rows L2
/-! ### enumerate -/
def wEn (l : En → R (List Ar)) : En → R (List D) := fun ρ => match l ρ with
  | .ok ars ρ1 => (match dsOf ars with
    | some [.lst ds] => .ok (ds.mapIdx fun i d => .tup [.int (i : Nat), d]) ρ1
    | _ => .bad)
  | .exc c fs ρ1 => .exc c fs ρ1
  | .bad => .bad
theorem itOk_enum {K : PySem.W.Frag} {mg : Str → Option Value} {B Fo : Hp} {a : Addr} {vs : List L2.V} {ds : List D} (h : B a = some (.lst vs)) (r : RepL K mg B vs ds) : ItOk K mg Fo (Ite K a) B (ds.mapIdx fun i d => .tup [.int (i : Nat), d]) where
  go := fun i d hd B' H' e bh _ => by
    rw [List.getElem?_mapIdx] at hd
    cases e0 : ds[i]? with
    | none => rw [e0] at hd; cases hd
    | some d0 =>
      rw [e0] at hd
      cases hd
      have h' : SqL K H' a vs := .inl (.inl (bh _ _ (e.lst h)))
      obtain ⟨v, hv, rv⟩ := r.get e0
      refine ⟨⟨vs, v, h', hv⟩, fun x H2 hy PN σ0 F σ ρ S => ?_⟩
      obtain ⟨T, z, rfl, hT, rfl, hz⟩ := hy
      have := hz vs h'
      rw [hv] at this; cases this
      have hB : B' T = none := S.bn hT
      exact ⟨upd B' T (.tup [.int (i : Nat), v]), Ext.new hB, (S.alloc hT).join (S.fn hT) hB (S.apart hT) (S.apartU hT) upd_same,
        .tup upd_same (.cons (.int _) (.cons ((rv.mono e).mono (Ext.new hB)) .nil))⟩
  stop := fun B' H' e bh _ => ⟨vs, .inl (.inl (bh _ _ (e.lst h))), by rw [List.length_mapIdx]; exact Nat.le_of_eq r.length⟩
section
variable {X : Cx} {PN : List Nat} {σ0 : Gs} {W : WX} {k : Nat}
theorem fi_enum {elts : List Expr} {kk : Nat} {tpos p pos : Pos} {e : Expr} {l : En → R (List Ar)} (b : Blt X "enumerate") (h : FC X PN σ0 W [e] l) (hs : starEach [e] X.env = [(false, eval e X.env)] := by rfl) :
    FI X PN σ0 W (.Tuple elts kk tpos) (.Call (.Name "enumerate" p) [e] [] pos) (wEn l) := by
  obtain ⟨t, pt, qt⟩ := h.ex
  refine ⟨_, pi_enum b.gl b.no pt hs, fun F B H σ ρ Rr S q => qt F B H σ ρ _ S ?_⟩
  unfold wEn at q
  cases el : l ρ with
  | bad => rw [el] at q; exact q
  | exc c fs ρ1 => rw [el] at q; exact q
  | ok ars ρ1 =>
    rw [el] at q
    intro vs H1 B1 e1 S1 k1
    simp only at q
    split at q
    · rename_i ds hds
      have rl := dsOf_rep k1 hds
      cases rl with
      | cons p1 p2 =>
        cases p2
        cases p1 with
        | lst h1 h2 => exact ⟨_, _, rfl, .inl (.inl (S1.bh _ _ h1)), q _ H1 B1 e1 S1 (itOk_enum h1 h2)⟩
    · exact q.elim
end
/-! ### sum of a list of ints -/
def intsD : List D → Option (List Int)
  | [] => some []
  | .int i :: r => (intsD r).map fun l => i :: l
  | _ :: _ => none
theorem intsD_rep {K : PySem.W.Frag} {mg : Str → Option Value} {B : Hp} : ∀ {ds : List D} {vs : List L2.V} {l : List Int}, RepL K mg B vs ds → intsD ds = some l → vs = l.map L2.V.int
  | [], _, l, .nil, h => by cases h; rfl
  | d :: ds, _, l, .cons p q, h => by
    cases d with
    | int i =>
      simp only [intsD] at h
      cases e : intsD ds with
      | none => rw [e] at h; cases h
      | some m =>
        rw [e] at h; cases h
        cases p
        rw [intsD_rep q e]; rfl
    | _ => simp [intsD] at h
theorem intsD_map : ∀ {l : List Int}, intsD (l.map .int) = some l
  | [] => rfl
  | i :: l => by rw [List.map_cons, intsD, intsD_map]; rfl
def gSum : List D → Option Sl
  | [.lst ds] => (intsD ds).map fun l => .fz (.int l.sum)
  | _ => none
section
variable {X : Cx}
theorem cb_sum (hc : X.calm = true) : ∃ r, CallR X (.builtin "sum") r ∧ OpN X r gSum := ⟨_, cr_sum hc, fun PN σ0 F B H σ ρ vs ds s Q S hp hg q => by
  unfold gSum at hg
  split at hg
  · rename_i ds
    cases e : intsD ds with
    | none => rw [e] at hg; cases hg
    | some l =>
      rw [e] at hg; cases hg
      obtain ⟨v, rfl, r⟩ := paired1 hp
      obtain ⟨a, xs, rfl, h1, h2⟩ := r.lst S.bh
      have := intsD_rep h2 e
      subst this
      exact ⟨a, l, rfl, .inl (.inl h1), q.flat S (.int _)⟩
  · cases hg⟩
/-! ### in, not in -/
theorem op_in_dict (hu : X.A.units + 1 < cLine) : OpR X (compareOp .In) (fun x y H Q => ∃ a o, y = .ref a ∧ DGet H a x o ∧ Q (.bl o.isSome) H) := by
  intro pins s σ H x y v u Q I rx ry h
  obtain ⟨a, o, rfl, g, q⟩ := h
  cases ry
  exact d_in hu I g rx fun s' I' => ⟨.bl o.isSome, H, I', rfl, q⟩
def flatD : D → Bool
  | .non => true
  | .bl _ => true
  | .int _ => true
  | .str _ => true
  | _ => false
def eqF : D → D → Bool
  | .non, .non => true
  | .bl a, .bl b => a == b
  | .bl a, .int b => (if a then 1 else 0) == b
  | .int a, .bl b => a == (if b then 1 else 0)
  | .int a, .int b => a == b
  | .str a, .str b => a == b
  | _, _ => false
theorem flat_rep {K : PySem.W.Frag} {mg : Str → Option Value} {B : Hp} {v w : L2.V} {d e : D} (hd : Rep K mg B v d) (he : Rep K mg B w e) (fd : flatD d = true) (fe : flatD e = true) : flatV v = true ∧ eqV v w = eqF d e := by
  cases d <;> simp [flatD] at fd <;> cases hd <;> cases e <;> simp [flatD] at fe <;> cases he <;> exact ⟨rfl, rfl⟩
theorem flat_repL {K : PySem.W.Frag} {mg : Str → Option Value} {B : Hp} {x : L2.V} {dx : D} (hx : Rep K mg B x dx) (fx : flatD dx = true) : ∀ {ds : List D} {xs : List L2.V}, RepL K mg B xs ds → ds.all flatD = true → xs.all flatV = true ∧ inV x xs = ds.any fun y => eqF y dx
  | [], _, .nil, _ => ⟨rfl, rfl⟩
  | d :: ds, _, .cons p q, h => by
    rw [List.all_cons, Bool.and_eq_true] at h
    obtain ⟨h1, h2⟩ := flat_repL hx fx q h.2
    obtain ⟨g1, g2⟩ := flat_rep p hx h.1 fx
    refine ⟨by rw [List.all_cons, g1, h1]; rfl, ?_⟩
    unfold inV at h2 ⊢
    rw [List.any_cons, List.any_cons, g2, h2]
def gIn : G2 := fun d e => match d, e with
  | .str i, .str j => (match i.cps.toList with
    | [c] => some (.fz (.bl (decide (c ∈ j.cps.toList))))
    | _ => none)
  | d, .lst ds => if flatD d && ds.all flatD then some (.fz (.bl (ds.any fun y => eqF y d))) else none
  | d, .tup ds => if flatD d && ds.all flatD then some (.fz (.bl (ds.any fun y => eqF y d))) else none
  | d, .dic kds => (keyOf d).map fun k => .fz (.bl (valD kds k).isSome)
  | _, _ => none
def gNotIn : G2 := fun d e => (gIn d e).bind fun s => match s with
  | .fz (.bl b) => some (.fz (.bl (!b)))
  | _ => none
theorem LRep.flat {B H : Hp} {v : L2.V} {d : D} (h : LRep X B H v d) (f : flatD d = true) : Rep X.K X.mg B v d := by
  rcases h with h | ⟨a, _, h⟩
  · exact h
  · cases d <;> first | exact h.elim | (simp [flatD] at f)
theorem LRep.key {B H : Hp} {v : L2.V} {d : D} {k : Key} (h : LRep X B H v d) (e : keyOf d = some k) : v = L2.kV k := by
  rcases h with h | ⟨a, _, h⟩
  · exact key_rep h e
  · cases d <;> first | exact h.elim | simp [keyOf] at e
theorem co_in (hu : X.A.units + 1 < cLine) : ∃ r, OpR X (compareOp .In) r ∧ Op2 X r gIn := by
  refine ⟨_, (op_in_sign.or op_in_seq).or (op_in_dict hu), fun PN σ0 F B H σ ρ x y dx dy s Q S hx hy hg q => ?_⟩
  unfold gIn at hg
  split at hg
  · rename_i i j
    split at hg
    · rename_i c hc
      cases hg
      refine .inl (.inl ⟨c, j, ?_, hy.str, q.flat S (.bl _)⟩)
      rw [hx.str]
      congr 1
      cases i with
      | mk cps => congr 1; exact Array.toList_inj.1 hc
    · cases hg
  · rename_i ds _
    split at hg
    · rename_i hf
      rw [Bool.and_eq_true] at hf
      cases hg
      obtain ⟨a, xs, rfl, h1, h2⟩ := hy.lst S.bh
      obtain ⟨g1, g2⟩ := flat_repL (LRep.flat hx hf.1) hf.1 h2 hf.2
      refine .inl (.inr ⟨a, xs, rfl, .inl (.inl (.inl h1)), ?_, g1, ?_⟩)
      · have := (flat_rep (LRep.flat hx hf.1) (LRep.flat hx hf.1) hf.1 hf.1).1
        exact this
      · simp only [Bool.false_eq_true, if_false]
        rw [g2]
        exact q.flat S (.bl _)
    · cases hg
  · rename_i ds _
    split at hg
    · rename_i hf
      rw [Bool.and_eq_true] at hf
      cases hg
      obtain ⟨a, xs, rfl, h1, h2⟩ := hy.tup S.bh
      obtain ⟨g1, g2⟩ := flat_repL (LRep.flat hx hf.1) hf.1 h2 hf.2
      refine .inl (.inr ⟨a, xs, rfl, .inr (.inl (.inl h1)), ?_, g1, ?_⟩)
      · exact (flat_rep (LRep.flat hx hf.1) (LRep.flat hx hf.1) hf.1 hf.1).1
      · simp only [Bool.false_eq_true, if_false]
        rw [g2]
        exact q.flat S (.bl _)
    · cases hg
  · rename_i kds
    cases ek : keyOf dx with
    | none => rw [ek] at hg; cases hg
    | some k =>
      rw [ek] at hg; cases hg
      obtain ⟨a, kvs, rfl, h1, h2, h3⟩ := hy.dic S.bh
      refine .inr ⟨a, valV kvs k, rfl, .inl ⟨kvs, k, h1, LRep.key hx ek, rfl⟩, ?_⟩
      have : (valV kvs k).isSome = (valD kds k).isSome := by
        rcases val_rep (k := k) h2 h3 with ⟨z, z2⟩ | ⟨d, v, z1, z2, z3⟩
        · rw [z, z2]; rfl
        · rw [z1, z2]; rfl
      rw [this]
      exact q.flat S (.bl _)
  · cases hg
end
end FV

namespace FV
open PySem PySem.Spec PyProof.Rows L2
/-! ### dict comprehensions -/
def dcL (own : List Nat) (g : GG) (c fk fv : FX) : List D → List (Key × D) → En → R (List (Key × D))
  | [], acc, ρ => .ok acc ρ
  | d :: ds, acc, ρ => match g d ρ with
    | none => .bad
    | some ρ1 => match c ρ1 with
      | .ok (.fz (.bl true)) ρ2 => match xF fk ρ2 with
        | .ok (.fz x) ρ3 => match xF fv ρ3 with
          | .ok (.fz y) ρ4 => match keyOf x with
            | some k => if acc.length < 1000000 then dcL own g c fk fv ds (putD acc k y) (forget own ρ4) else .bad
            | none => .bad
          | _ => .bad
        | _ => .bad
      | .ok (.fz (.bl false)) ρ2 => dcL own g c fk fv ds acc (forget own ρ2)
      | _ => .bad
def xDc (own : List Nat) (gi : En → R (List D)) (g : GG) (c fk fv : FX) : FX := fun ρ => match gi ρ with
  | .ok xs ρ1 => match dcL own g c fk fv xs [] (forget own ρ1) with
    | .ok acc ρ2 => .ok (.ow (.dic acc)) ρ2
    | _ => .bad
  | .exc c fs ρ1 => .exc c fs ρ1
  | .bad => .bad
section
variable {X : Cx} {PN : List Nat} {σ0 : Gs} {W : WX} {k : Nat}
theorem dc_red {ov : List Nat} {ti : TI} {gi : En → R (List D)} {g : GG} {ts : List Nat} {c fk fv : FX} (qi : ∀ F B H σ ρ Rr, Sat X.K X.mg PN σ0 F B H σ ρ → IPostF X PN σ0 W F B σ (gi ρ) Rr → ti σ H Rr)
    (hts : ∀ i ∈ ts, i ∈ ov) (hpn : ∀ i ∈ ov, i ∉ PN) {F B H : Hp} {σ : L2.St} {ρ : En} {Q : VK} (S : Sat X.K X.mg PN σ0 F B H σ ρ) (q : EPost X PN σ0 W F B σ (xDc ov gi g c fk fv ρ) Q) :
    tDc ti (cG X PN σ0 g ts) (cT X PN σ0 W0 c) (cE X PN σ0 W0 fk) (cE X PN σ0 W0 fv) ov σ H Q := by
  refine qi F B H σ ρ _ S ?_
  unfold xDc at q
  cases er : gi ρ with
  | bad => rw [er] at q; exact q
  | exc c fs ρ1 => rw [er] at q; exact q
  | ok xs ρ1 =>
    rw [er] at q
    intro J H1 B1 e1 S1 hJ L hL
    have hvL : ∀ q ∈ σ0.vw, q.2.2.2 L = none := fun q hq => by
      cases e : q.2.2.2 L with
      | none => rfl
      | some o =>
        have := (S1.vw q hq).2 L o e
        rw [S1.fn hL] at this; cases this
    simp only at q
    split at q
    · rename_i accF ρ2 hlc
      have S1w : Sat X.K X.mg PN σ0 F B1 H1 (wipe σ ov) (forget ov ρ1) := Sat.swap hpn (S1.forget ov) (wipe_length σ ov) fun i hi => wipe_get hi
      refine ⟨fun i m H' => m = xs.length - i ∧ i ≤ xs.length ∧ ∃ acc vs B' ρ', Ext B1 B' ∧ Sat X.K X.mg PN σ0 (upd F L (.dK vs)) B' H' (wipe σ ov) (forget ov ρ') ∧ (vs.map (·.1) = acc.map (·.1) ∧ RepL X.K X.mg B' (vs.map (·.2)) (acc.map (·.2))) ∧ dcL ov g c fk fv (xs.drop i) acc (forget ov ρ') = .ok accF ρ2,
        ⟨xs.length, rfl, Nat.zero_le _, [], [], B1, ρ1, Ext.refl B1, S1w.more hL, ⟨rfl, .nil⟩, hlc⟩, ?_⟩
      rintro i m H' ⟨rfl, hi, acc, vs, B', ρ', e', S', r', hl'⟩
      by_cases hlt : i < xs.length
      · obtain ⟨d, hd⟩ : ∃ d, xs[i]? = some d := ⟨_, List.getElem?_eq_getElem hlt⟩
        have hdr : xs.drop i = d :: xs.drop (i + 1) := by
          rw [List.drop_eq_getElem_cons hlt]
          rw [List.getElem?_eq_getElem hlt] at hd
          rw [Option.some.inj hd]
        rw [hdr, dcL] at hl'
        obtain ⟨hgo, hy⟩ := hJ.go i d hd B' H' e' S'.bh (fun b o h => (S'.fh b o (by rw [upd_ne (ne_of_none h (S1.fn hL))]; exact h)).1)
        refine .inr ⟨hgo, fun H2 => ∃ acc vs B2 ρ2', Ext B1 B2 ∧ Sat X.K X.mg PN σ0 (upd F L (.dK vs)) B2 H2 (wipe σ ov) (forget ov ρ2') ∧ (vs.map (·.1) = acc.map (·.1) ∧ RepL X.K X.mg B2 (vs.map (·.2)) (acc.map (·.2))) ∧ dcL ov g c fk fv (xs.drop (i + 1)) acc (forget ov ρ2') = .ok accF ρ2, fun H2 h2 => ⟨xs.length - (i + 1), by omega, rfl, hlt, h2⟩, fun x H2 hx => ?_⟩
        obtain ⟨B2, e2, S2, r2⟩ := hy x H2 hx PN σ0 _ _ _ S'
        cases eg : g d (forget ov ρ') with
        | none => rw [eg] at hl'; cases hl'
        | some ρ3 =>
          rw [eg] at hl'
          simp only at hl'
          refine ⟨_, B2, _, d, ρ3, S2, r2, eg, fun σ3 hl3 hs3 S3 => ⟨wipe_same (by rw [hl3, wipe_length]) fun j hj => hs3 j fun z => hj (hts j z), ?_⟩⟩
          have hσ3 : wipe σ3 ov = wipe σ ov := wipe_same (by rw [hl3, wipe_length]) fun j hj => hs3 j fun z => hj (hts j z)
          refine ⟨_, B2, ρ3, S3, ?_⟩
          have swp : ∀ {F4 B4 H4 : Hp} {ρ4 : En}, Sat X.K X.mg PN σ0 F4 B4 H4 σ3 ρ4 → Sat X.K X.mg PN σ0 F4 B4 H4 (wipe σ ov) (forget ov ρ4) := fun S4 =>
            Sat.swap hpn (S4.forget ov) (by rw [hl3]) fun j hj => (hs3 j fun z => hj (hts j z)).symm
          cases ec : c ρ3 with
          | bad => rw [ec] at hl'; cases hl'
          | exc c fs ρ4 => rw [ec] at hl'; cases hl'
          | ok s4 ρ4 =>
            rw [ec] at hl'
            cases s4 with
            | no => cases hl'
            | dp d4 => cases hl'
            | ow d4 => cases hl'
            | fz d4 =>
              cases d4 with
              | bl b =>
                cases b with
                | false =>
                  intro H4 B4 e4 S4
                  exact iteF ⟨acc, vs, B4, ρ4, (e'.trans e2).trans e4, swp S4, ⟨r'.1, r'.2.mono (e2.trans e4)⟩, hl'⟩
                | true =>
                  simp only at hl'
                  intro H4 B4 e4 S4
                  refine iteT ⟨_, B4, ρ4, S4, ?_⟩
                  have fz1 : ∀ (f : FX) (r : R (List (Key × D))) (kk : D → En → R (List (Key × D))) (ρa : En) (F5 B5 : Hp) (σ5 : L2.St) (Q5 : VK), (match xF f ρa with
                      | .ok (.fz x) ρb => kk x ρb
                      | _ => R.bad) = .ok accF ρ2 → (∀ x ρb, kk x ρb = .ok accF ρ2 → ∀ v H' B', Ext B5 B' → Sat X.K X.mg PN σ0 F5 B' H' σ5 ρb → Rep X.K X.mg B' v x → Q5 v H') → EPost X PN σ0 W0 F5 B5 σ5 (f ρa) Q5 := fun f r kk ρa F5 B5 σ5 Q5 hh hq => by
                    unfold xF at hh
                    cases ef : f ρa with
                    | bad => rw [ef] at hh; cases hh
                    | exc c fs ρ5 => rw [ef] at hh; cases hh
                    | ok s5 ρ5 =>
                      rw [ef, R.bind_ok] at hh
                      cases s5 with
                      | no => cases hh
                      | dp d5 => cases hh
                      | fz d5 => exact fun y H5 B6 e5 S5 r5 => hq d5 ρ5 hh y H5 B6 e5 S5 r5
                      | ow d5 =>
                        intro y H5 B6 e5 S5 r5
                        obtain ⟨B7, e7, S7, r7⟩ := S5.freeze r5
                        exact hq d5 ρ5 hh y H5 B7 (e5.trans e7) S7 r7
                  refine fz1 fk .bad (fun x ρb => match xF fv ρb with
                    | .ok (.fz y) ρ4 => match keyOf x with
                      | some k => if acc.length < 1000000 then dcL ov g c fk fv (xs.drop (i + 1)) (putD acc k y) (forget ov ρ4) else .bad
                      | none => .bad
                    | _ => .bad) ρ4 _ _ _ _ hl' ?_
                  intro dk ρb hl' yk H5 B5 e5 S5 r5
                  refine ⟨_, B5, ρb, S5, ?_⟩
                  refine fz1 fv .bad (fun y ρ4 => match keyOf dk with
                      | some k => if acc.length < 1000000 then dcL ov g c fk fv (xs.drop (i + 1)) (putD acc k y) (forget ov ρ4) else .bad
                      | none => .bad) ρb _ _ _ _ hl' ?_
                  intro dv ρd hl' yv H6 B6 e6 S6 r6
                  cases ek : keyOf dk with
                  | none => rw [ek] at hl'; cases hl'
                  | some key =>
                    rw [ek] at hl'
                    simp only at hl'
                    split at hl'
                    · rename_i hz
                      have e46 := ((e2.trans e4).trans e5).trans e6
                      have rv := r'.2.mono e46
                      obtain ⟨p1, p2⟩ := put_rep (k := key) r6 r'.1 rv
                      have hlen : vs.length = acc.length := by have := congrArg List.length r'.1; simpa using this
                      exact ⟨vs, key, key_rep r5 ek, (S6.fh L _ upd_same).1, by rw [hlen]; exact line_lt hz, putD acc key dv, putK vs key yv, B6, ρd, e'.trans e46, (swp S6).grow hvL, ⟨p1, p2⟩, hl'⟩
                    · cases hl'
              | _ => cases hl'
      · have hie : i = xs.length := by omega
        subst hie
        rw [List.drop_length, dcL] at hl'
        cases hl'
        obtain ⟨S6, h6, h7, h8⟩ := S'.less (S1.fn hL) hvL
        refine .inl ⟨hJ.stop B' H' e' S'.bh (fun b o h => (S'.fh b o (by rw [upd_ne (ne_of_none h (S1.fn hL))]; exact h)).1), q _ H' B' (e1.trans e') (Sat.swap hpn S6 (wipe_length σ ov).symm fun j hj => (wipe_get hj).symm) ⟨L, rfl, S1.fn hL, h7, ⟨vs, h6, r'.1, r'.2⟩, sep_v fun j s hj m => ?_⟩⟩
        rcases forget_get hj with ⟨_, z⟩ | ⟨z1, _⟩
        · subst z; cases m
        · exact h8 j s hj (by rw [fpS_move (wipe_get z1)]; exact m)
    · exact q.elim
theorem fe_dc {Mb Lb : List Bool} {kx vx tg iter : Expr} {ifs : List Expr} {scope : Scope} {own : List (Str × Nat)} {pos : Pos} {gi : En → R (List D)} {g : GG} {ts : List Nat} {c fk fv : FX} (C : Cok X W k) (hN : X.N.Nodup) (hi : FJ X PN σ0 W tg iter gi) (ok : BlkOk X.N X.env.scope scope own)
    (hn : ∀ (s : Shared) (H : Hp) (C : Addr) (cl : List (Str × Addr)) (fp : List Addr), NamesOk (X.blk s H scope (compEnvC scope cl C X.env) fp) Mb Lb)
    (hg' : ∀ (s : Shared) (H : Hp) (C : Addr) (cl : List (Str × Addr)) (fp : List Addr), NamesOk (X.blk s H scope (compEnvC scope cl C X.env) fp) Mb Lb → FG (X.blk s H scope (compEnvC scope cl C X.env) fp) PN σ0 tg g ts) (ht' : ∀ (s : Shared) (H : Hp) (C : Addr) (cl : List (Str × Addr)) (fp : List Addr), NamesOk (X.blk s H scope (compEnvC scope cl C X.env) fp) Mb Lb → FTs (X.blk s H scope (compEnvC scope cl C X.env) fp) PN σ0 W0 ifs c)
    (hk' : ∀ (s : Shared) (H : Hp) (C : Addr) (cl : List (Str × Addr)) (fp : List Addr), NamesOk (X.blk s H scope (compEnvC scope cl C X.env) fp) Mb Lb → FE (X.blk s H scope (compEnvC scope cl C X.env) fp) PN σ0 W0 kx fk)
    (he' : ∀ (s : Shared) (H : Hp) (C : Addr) (cl : List (Str × Addr)) (fp : List Addr), NamesOk (X.blk s H scope (compEnvC scope cl C X.env) fp) Mb Lb → FE (X.blk s H scope (compEnvC scope cl C X.env) fp) PN σ0 W0 vx fv)
    (hts : ∀ i ∈ ts, i ∈ own.map (·.2) := by decide) (hpn : ∀ i ∈ own.map (·.2), i ∉ PN := by decide) (hs : ∀ x, foldedSetIterable iter X.env x = pure x := by intro _; rfl) :
    FE X PN σ0 W (.DictComp kx vx [⟨tg, iter, ifs, 0⟩] scope pos) (xDc (own.map (·.2)) gi g c fk fv) := by
  have hg := fun s H C cl fp => hg' s H C cl fp (hn s H C cl fp)
  have ht := fun s H C cl fp => ht' s H C cl fp (hn s H C cl fp)
  have he := fun s H C cl fp => he' s H C cl fp (hn s H C cl fp)
  have hk := fun s H C cl fp => hk' s H C cl fp (hn s H C cl fp)
  obtain ⟨ti, pi, qi⟩ := hi.ex
  exact ⟨_, pe_dc (g := cG X PN σ0 g ts) (tt := cT X PN σ0 W0 c) (tk := cE X PN σ0 W0 fk) (tv := cE X PN σ0 W0 fv) C.calm hN pi ok (fun s H C cl fp => (hg s H C cl fp).pg) (fun s H C cl fp => (ht s H C cl fp).pt) (fun s H C cl fp => (hk s H C cl fp).pe) (fun s H C cl fp => (he s H C cl fp).pe) hs, fun F B H σ ρ Q S q => dc_red qi hts hpn S q⟩
end
end FV

namespace FV
open PySem PySem.Spec PyProof.Rows L2
section
variable {X : Cx} {PN : List Nat} {σ0 : Gs} {W : WX} {k : Nat} {M L : List Bool}
theorem op_notIn_dict (hu : X.A.units + 1 < cLine) : OpR X (compareOp .NotIn) (fun x y H Q => ∃ a o, y = .ref a ∧ DGet H a x o ∧ Q (.bl (!o.isSome)) H) := by
  intro pins s σ H x y v u Q I rx ry h
  obtain ⟨a, o, rfl, g, q⟩ := h
  cases ry
  exact d_notIn hu I g rx fun s' I' => ⟨.bl (!o.isSome), H, I', rfl, q⟩
theorem co_notIn (hu : X.A.units + 1 < cLine) : ∃ r, OpR X (compareOp .NotIn) r ∧ Op2 X r gNotIn := by
  refine ⟨_, (op_notIn_sign.or op_notIn_seq).or (op_notIn_dict hu), fun PN σ0 F B H σ ρ x y dx dy s Q S hx hy hg q => ?_⟩
  unfold gNotIn at hg
  cases eg : gIn dx dy with
  | none => rw [eg] at hg; cases hg
  | some s1 =>
    rw [eg, Option.bind_some] at hg
    unfold gIn at eg
    split at eg
    · rename_i i j
      split at eg
      · rename_i c hc
        cases eg
        cases hg
        refine .inl (.inl ⟨c, j, ?_, hy.str, q.flat S (.bl _)⟩)
        rw [hx.str]
        congr 1
        cases i with
        | mk cps => congr 1; exact Array.toList_inj.1 hc
      · cases eg
    · rename_i ds _
      split at eg
      · rename_i hf
        rw [Bool.and_eq_true] at hf
        cases eg
        cases hg
        obtain ⟨a, xs, rfl, h1, h2⟩ := hy.lst S.bh
        obtain ⟨g1, g2⟩ := flat_repL (LRep.flat hx hf.1) hf.1 h2 hf.2
        refine .inl (.inr ⟨a, xs, rfl, .inl (.inl (.inl h1)), (flat_rep (LRep.flat hx hf.1) (LRep.flat hx hf.1) hf.1 hf.1).1, g1, ?_⟩)
        simp only [if_true]
        rw [g2]
        exact q.flat S (.bl _)
      · cases eg
    · rename_i ds _
      split at eg
      · rename_i hf
        rw [Bool.and_eq_true] at hf
        cases eg
        cases hg
        obtain ⟨a, xs, rfl, h1, h2⟩ := hy.tup S.bh
        obtain ⟨g1, g2⟩ := flat_repL (LRep.flat hx hf.1) hf.1 h2 hf.2
        refine .inl (.inr ⟨a, xs, rfl, .inr (.inl (.inl h1)), (flat_rep (LRep.flat hx hf.1) (LRep.flat hx hf.1) hf.1 hf.1).1, g1, ?_⟩)
        simp only [if_true]
        rw [g2]
        exact q.flat S (.bl _)
      · cases eg
    · rename_i kds
      cases ek : keyOf dx with
      | none => rw [ek] at eg; cases eg
      | some k =>
        rw [ek] at eg; cases eg
        cases hg
        obtain ⟨a, kvs, rfl, h1, h2, h3⟩ := hy.dic S.bh
        refine .inr ⟨a, valV kvs k, rfl, .inl ⟨kvs, k, h1, LRep.key hx ek, rfl⟩, ?_⟩
        have : (valV kvs k).isSome = (valD kds k).isSome := by
          rcases val_rep (k := k) h2 h3 with ⟨z, z2⟩ | ⟨d, v, z1, z2, z3⟩
          · rw [z, z2]; rfl
          · rw [z1, z2]; rfl
        rw [this]
        exact q.flat S (.bl _)
    · cases eg
/-! ### a, b = x, y -/
def yPar (i j : Nat) (l : En → R (List Ar)) : FY := fun ρ => match l ρ with
  | .ok ars ρ1 => (match dsOf ars with
    | some [d, e] => .ok .nx ((ρ1.set i (.fz d)).set j (.fz e))
    | _ => .bad)
  | .exc c fs ρ1 => .exc c fs ρ1
  | .bad => .bad
theorem fs_par (N : NamesOk X M L) (i j : Nat) {x y : Str} {a b : Expr} {px py pt pos : Pos} {kt k2 : Nat} {pt2 : Pos} {l : En → R (List Ar)} (hc : X.calm = true) (hl : FC X PN σ0 W [a, b] l)
    (hx : X.env.scope.names.lookup x = some .local) (hy : X.env.scope.names.lookup y = some .local)
    (hw : swappedStores [.Tuple [.Name x px, .Name y py] kt pt] (.Tuple [a, b] k2 pt2) X.env = pure (some [x, y])) (hij : i ≠ j := by decide) (hpi : i ∉ PN := by decide) (hpj : j ∉ PN := by decide) (hi : X.N[i]? = some x := by rfl) (hj : X.N[j]? = some y := by rfl)
    (hs : swapsWithSole [.Tuple [.Name x px, .Name y py] kt pt] (.Tuple [a, b] k2 pt2) pos.line X.env = pure false := by rfl) :
    FS X PN σ0 W (.Assign [.Tuple [.Name x px, .Name y py] kt pt] (.Tuple [a, b] k2 pt2) pos) (yPar i j l) := by
  obtain ⟨t, pl, ql⟩ := hl.ex
  refine ⟨_, ps_par hc N.nd hi hj hij hx hy pl hw hs, fun F B H σ ρ D' S q => ql F B H σ ρ _ S ?_⟩
  unfold yPar at q
  cases el : l ρ with
  | bad => rw [el] at q; exact q
  | exc c fs ρ1 => rw [el] at q; exact fun cls od H' B' e S' z => q cls od σ H' B' e S' z
  | ok ars ρ1 =>
    rw [el] at q
    intro vs H1 B1 e1 S1 k1
    simp only at q
    split at q
    · rename_i d e hds
      have rl := dsOf_rep k1 hds
      cases rl with
      | cons p1 p2 =>
        cases p2 with
        | cons p2 p3 =>
          cases p3
          exact ⟨_, _, rfl, q _ H1 B1 e1 ((S1.store (s := .fz d) hpi p1).store (s := .fz e) hpj p2)⟩
    · exact q.elim
end
end FV

namespace FV
open PySem PySem.Spec PyProof.Rows L2
/-! ### a < b < c -/
def kCh2 (g' : G2) (t2 : Th) (r : R Th) : R Sl := match r with
  | .ok t3 ρ3 => ofO ((t2 ρ3).bind fun d2 => (t3 ρ3).bind fun d3 => g' d2 d3) ρ3
  | .exc c fs ρ => .exc c fs ρ
  | .bad => .bad
def kCh1 (g' : G2) (t2 : Th) (c : En → R Th) (o : Option Sl) (ρ : En) : R Sl := match o with
  | some (.fz (.bl true)) => kCh2 g' t2 (c ρ)
  | some (.fz (.bl false)) => .ok (.fz (.bl false)) ρ
  | _ => .bad
def xCh (g g' : G2) (a b c : En → R Th) : FX := fun ρ => match a ρ with
  | .ok t1 ρ1 => (match b ρ1 with
    | .ok t2 ρ2 => kCh1 g' t2 c ((t1 ρ2).bind fun d1 => (t2 ρ2).bind fun d2 => g d1 d2) ρ2
    | .exc c fs ρ => .exc c fs ρ
    | .bad => .bad)
  | .exc c fs ρ => .exc c fs ρ
  | .bad => .bad
section
variable {X : Cx} {PN : List Nat} {σ0 : Gs} {W : WX} {k : Nat}
theorem chain_red {ta tb tc : TE} {a b c : En → R Th} {r r' : R2} {g g' : G2} (hr : Op2 X r g) (hr' : Op2 X r' g')
    (ha : ∀ F B H σ ρ Q, Sat X.K X.mg PN σ0 F B H σ ρ → APost X PN σ0 W F B σ (a ρ) Q → ta σ H Q)
    (hb : ∀ F B H σ ρ Q, Sat X.K X.mg PN σ0 F B H σ ρ → APost X PN σ0 W F B σ (b ρ) Q → tb σ H Q)
    (hc : ∀ F B H σ ρ Q, Sat X.K X.mg PN σ0 F B H σ ρ → APost X PN σ0 W F B σ (c ρ) Q → tc σ H Q)
    {F B H : Hp} {σ : L2.St} {ρ : En} {Q : VK} (S : Sat X.K X.mg PN σ0 F B H σ ρ) (q : EPost X PN σ0 W F B σ (xCh g g' a b c ρ) Q) : tChain r r' ta tb tc σ H Q := by
  unfold xCh at q
  refine ha F B H σ ρ _ S ?_
  cases ea : a ρ with
  | bad => rw [ea] at q; exact q
  | exc c fs ρ1 => rw [ea] at q; exact q
  | ok t1 ρ1 =>
    rw [ea] at q
    intro x H1 B1 e1 S1 k1
    refine hb F B1 H1 σ ρ1 _ S1 ?_
    simp only at q
    cases eb : b ρ1 with
    | bad => rw [eb] at q; exact q.elim
    | exc c fs ρ2 => rw [eb] at q; exact fun cls od H' B' e S' z => q cls od H' B' (e1.trans e) S' z
    | ok t2 ρ2 =>
      rw [eb] at q
      intro y H2 B2 e2 S2 k2
      simp only at q
      cases h1 : t1 ρ2 with
      | none => rw [h1] at q; exact q.elim
      | some d1 =>
        cases h2 : t2 ρ2 with
        | none => rw [h1, h2] at q; exact q.elim
        | some d2 =>
          rw [h1, h2] at q
          simp only [Option.bind_some] at q
          cases hg : g d1 d2 with
          | none => rw [hg] at q; exact q.elim
          | some s =>
            rw [hg] at q
            refine hr PN σ0 F B2 H2 σ ρ2 x y d1 d2 s _ S2 (k1 B2 H2 ρ2 d1 e2 S2 h1) (k2 B2 H2 ρ2 d2 (Ext.refl B2) S2 h2) hg fun v H3 B3 e3 S3 z => ?_
            unfold kCh1 at q
            split at q
            · rename_i h
              cases h
              cases z
              refine ⟨true, rfl, iteT (hc F B3 H3 σ ρ2 _ S3 ?_)⟩
              cases ec : c ρ2 with
              | bad => rw [ec] at q; exact q.elim
              | exc c fs ρ3 => rw [ec] at q; exact fun cls od H' B' e S' z => q cls od H' B' (((e1.trans e2).trans e3).trans e) S' z
              | ok t3 ρ3 =>
                rw [ec] at q
                intro w H4 B4 e4 S4 k4
                simp only [kCh2] at q
                cases h2' : t2 ρ3 with
                | none => rw [h2'] at q; exact q.elim
                | some d2' =>
                  cases h3 : t3 ρ3 with
                  | none => rw [h2', h3] at q; exact q.elim
                  | some d3 =>
                    rw [h2', h3] at q
                    simp only [Option.bind_some] at q
                    cases hg' : g' d2' d3 with
                    | none => rw [hg'] at q; exact q.elim
                    | some s' =>
                      rw [hg'] at q
                      exact hr' PN σ0 F B4 H4 σ ρ3 y w d2' d3 s' Q S4 (k2 B4 H4 ρ3 d2' (e3.trans e4) S4 h2') (k4 B4 H4 ρ3 d3 (Ext.refl B4) S4 h3) hg' fun v H' B' e S' z => q v H' B' ((((e1.trans e2).trans e3).trans e4).trans e) S' z
            · rename_i h
              cases h
              cases z
              exact ⟨false, rfl, iteF (q _ H3 B3 ((e1.trans e2).trans e3) S3 (.bl false))⟩
            · exact q.elim
theorem fe_chain {a b c : Expr} {op op' : CmpOp} {pos : Pos} {ga gb gc : En → R Th} {g g' : G2} (h : ∃ r, OpR X (compareOp op) r ∧ Op2 X r g) (h' : ∃ r, OpR X (compareOp op') r ∧ Op2 X r g') (ha : FA X PN σ0 W a ga) (hb : FA X PN σ0 W b gb) (hc : FA X PN σ0 W c gc)
    (hm : lastMarks [op, op'] [b, c] = false := by with_unfolding_all rfl) : FE X PN σ0 W (.Compare a [op, op'] [b, c] pos) (xCh g g' ga gb gc) := by
  obtain ⟨r, o1, o2⟩ := h
  obtain ⟨r', o3, o4⟩ := h'
  obtain ⟨ta, pa, qa⟩ := ha.ex
  obtain ⟨tb, pb, qb⟩ := hb.ex
  obtain ⟨tc, pc, qc⟩ := hc.ex
  exact ⟨_, pe_chain o1 o3 pa pb pc hm, fun F B H σ ρ Q S q => chain_red o2 o4 qa qb qc S q⟩
theorem ft_chain {a b c : Expr} {op op' : CmpOp} {pos : Pos} {ga gb gc : En → R Th} {g g' : G2} (h : ∃ r, OpR X (compareOp op) r ∧ Op2 X r g) (h' : ∃ r, OpR X (compareOp op') r ∧ Op2 X r g') (ha : FA X PN σ0 W a ga) (hb : FA X PN σ0 W b gb) (hc : FA X PN σ0 W c gc)
    (hm : lastMarks [op, op'] [b, c] = false := by with_unfolding_all rfl) : FT X PN σ0 W (.Compare a [op, op'] [b, c] pos) (xCh g g' ga gb gc) := by
  obtain ⟨r, o1, o2⟩ := h
  obtain ⟨r', o3, o4⟩ := h'
  obtain ⟨ta, pa, qa⟩ := ha.ex
  obtain ⟨tb, pb, qb⟩ := hb.ex
  obtain ⟨tc, pc, qc⟩ := hc.ex
  exact ⟨_, pt_chain o1 o3 pa pb pc hm, fun F B H σ ρ Q S q => chain_red o2 o4 qa qb qc S (toT q)⟩
/-! ### what never runs -/
theorem fe_bad {e : Expr} : FE X PN σ0 W e fun _ => .bad := ⟨fun _ _ _ => False, ⟨fun _ _ _ _ _ _ h => h.elim⟩, fun _ _ _ _ _ _ _ q => q⟩
theorem ft_bad {e : Expr} : FT X PN σ0 W e fun _ => .bad := ⟨fun _ _ _ => False, ⟨fun _ _ _ _ _ _ h => h.elim⟩, fun _ _ _ _ _ _ _ q => q⟩
theorem fs_bad {s : Stmt} : FS X PN σ0 W s fun _ => .bad := ⟨fun _ _ _ => False, ⟨fun _ _ _ _ _ _ h => h.elim⟩, fun _ _ _ _ _ _ _ q => q⟩
end
end FV

namespace FV
open PySem PySem.Spec PyProof.Rows L2
/-! ### a tree that grows in the foreign heap -/
section
variable {K : PySem.W.Frag} {mg : Str → Option Value} {PN : List Nat} {σ0 : Gs} {σ : L2.St} {F B H H' : Hp} {ρ : En} {v : L2.V} {t t' : T}
theorem Sat.regrow (S : Sat K mg PN σ0 (treeF F H v t) B H σ ρ) (o : OwT K mg B H v t) (hH : ∀ b o, b ∉ fpT H v t → H b = some o → H' b = some o) (o' : OwT K mg B H' v t')
    (hF : ∀ x ∈ fpT H v t, F x = none) (sub : ∀ x ∈ fpT H v t, x ∈ fpT H' v t') (ap : ∀ x ∈ fpT H' v t', x ∈ fpT H v t ∨ (treeF F H v t x = none ∧ B x = none ∧ ∀ j s, ρ[j]? = some s → x ∉ fpS H σ j s))
    (hv : ∀ q ∈ σ0.vw, ∀ b o, q.2.2.2 b = some o → F b = some o) : Sat K mg PN σ0 (treeF F H' v t') B H' σ ρ := by
  have inF : ∀ x ∈ fpT H v t, ∃ o, treeF F H v t x = some o ∧ H x = some o := fun x hx => by
    obtain ⟨u, hu⟩ := o.there x hx
    exact ⟨u, by rw [treeF_in hx]; exact hu, hu⟩
  have newF : ∀ x ∈ fpT H' v t', F x = none ∧ B x = none := fun x hx => by
    rcases ap x hx with z | ⟨z1, z2, _⟩
    · obtain ⟨u, h1, _⟩ := inF x z
      exact ⟨hF x z, (S.fh x u h1).2⟩
    · by_cases z : x ∈ fpT H v t
      · obtain ⟨u, h1, _⟩ := inF x z
        rw [h1] at z1; cases z1
      · rw [treeF_out z] at z1
        exact ⟨z1, z2⟩
  have off : ∀ (j : Nat) (s : Sl), ρ[j]? = some s → ∀ x ∈ fpS H σ j s, x ∉ fpT H v t ∧ x ∉ fpT H' v t' ∧ H' x = H x ∧ B x = none ∧ F x = none := fun j s hj x hx => by
    obtain ⟨g1, g2⟩ := (S.sl j s hj).free hx
    have n1 : x ∉ fpT H v t := fun z => by
      obtain ⟨u, h1, _⟩ := inF x z
      rw [h1] at g1; cases g1
    obtain ⟨u, hu⟩ := (S.sl j s hj).there hx
    refine ⟨n1, fun z => ?_, (hH x u n1 hu).trans hu.symm, g2, by rw [treeF_out n1] at g1; exact g1⟩
    rcases ap x z with k | k
    · exact n1 k
    · exact k.2.2 j s hj hx
  have fpe : ∀ (j : Nat) (s : Sl), ρ[j]? = some s → fpS H' σ j s = fpS H σ j s := fun j s hj => (S.sl j s hj).fp_at fun x hx => (off j s hj x hx).2.2.1
  have hsep : ∀ (i j : Nat) (s s' : Sl) (x : Addr), ρ[i]? = some s → ρ[j]? = some s' → x ∈ fpS H' σ i s → x ∈ fpS H' σ j s' → i = j := fun i j s s' x h1 h2 m1 m2 => by
    rw [fpe i s h1] at m1
    rw [fpe j s' h2] at m2
    exact S.sep h1 h2 m1 m2
  refine ⟨S.len, S.pin, S.gh, fun b u hb => hH b u (fun z => ?_) (S.bh b u hb), fun b u hb => ?_, fun j s hj => ?_, (sep_dj hsep).1, (sep_dj hsep).2, fun q hq => ⟨(S.vw q hq).1, fun b u e => ?_⟩⟩
  · obtain ⟨w, h1, _⟩ := inF b z
    rw [(S.fh b w h1).2] at hb; cases hb
  · by_cases z : b ∈ fpT H' v t'
    · rw [treeF_in z] at hb
      exact ⟨hb, (newF b z).2⟩
    · have z' : b ∉ fpT H v t := fun k => z (sub b k)
      rw [treeF_out z] at hb
      obtain ⟨g1, g2⟩ := S.fh b u (by rw [treeF_out z']; exact hb)
      exact ⟨hH b u z' g1, g2⟩
  · have q := (S.sl j s hj).later (H' := H') (Ext.refl B) fun x hx => ⟨(off j s hj x hx).2.2.1, (off j s hj x hx).2.2.2.1⟩
    refine q.move rfl fun x hx => ?_
    rw [fpe j s hj] at hx
    rw [treeF_out (off j s hj x hx).2.1]
    exact (off j s hj x hx).2.2.2.2
  · have hf := hv q hq b u e
    rw [treeF_out fun z => by rw [(newF b z).1] at hf; cases hf]
    exact hf
/-- the tree is the def's own -/
theorem Sat.ungrow (S : Sat K mg PN σ0 (treeF F H v t) B H σ ρ) (o : OwT K mg B H v t) (hF : ∀ x ∈ fpT H v t, F x = none) (hv : ∀ q ∈ σ0.vw, ∀ b o, q.2.2.2 b = some o → F b = some o) :
    Sat K mg PN σ0 F B H σ ρ ∧ ∀ x ∈ fpT H v t, F x = none ∧ B x = none ∧ ∀ (j : Nat) (s : Sl), ρ[j]? = some s → x ∉ fpS H σ j s := by
  have inF : ∀ x ∈ fpT H v t, ∃ o, treeF F H v t x = some o := fun x hx => by
    obtain ⟨u, hu⟩ := o.there x hx
    exact ⟨u, by rw [treeF_in hx]; exact hu⟩
  have fno : ∀ x, treeF F H v t x = none → x ∉ fpT H v t ∧ F x = none := fun x hx => by
    have z : x ∉ fpT H v t := fun z => by
      obtain ⟨u, h1⟩ := inF x z
      rw [h1] at hx; cases hx
    rw [treeF_out z] at hx
    exact ⟨z, hx⟩
  refine ⟨⟨S.len, S.pin, S.gh, S.bh, fun b u hb => S.fh b u ?_, fun j s hj => (S.sl j s hj).move rfl fun x hx => (fno x ((S.sl j s hj).free hx).1).2, S.dj, S.dq, fun q hq => ⟨(S.vw q hq).1, hv q hq⟩⟩, fun x hx => ?_⟩
  · rw [treeF_out fun z => by rw [hF b z] at hb; cases hb]
    exact hb
  · obtain ⟨u, h1⟩ := inF x hx
    exact ⟨hF x hx, (S.fh x u h1).2, fun j s hj m => (fno x ((S.sl j s hj).free m).1).1 hx⟩
end
end FV

namespace FV
open PySem PySem.Spec PyProof.Rows L2
/-! ### {k: fresh for ..}: a tree -/
section
variable {K : PySem.W.Frag} {mg : Str → Option Value} {B H : Hp}
theorem putK_new {kvs : List (Key × L2.V)} {k : Key} {y : L2.V} (h : k ∉ kvs.map (·.1)) : putK kvs k y = kvs ++ [(k, y)] := by
  unfold putK
  rw [if_neg]
  intro z
  obtain ⟨p, hp, e⟩ := List.any_eq_true.1 z
  exact h (List.mem_map.2 ⟨p, hp, by simpa using e⟩)
theorem OwT.addK {L : Addr} {ks : List Key} {ts : List T} {kvs : List (Key × L2.V)} {k : Key} {y : L2.V} {u : T} (h : OwT K mg B H (.ref L) (.nd (.dc ks) ts)) (n : (fpT H (.ref L) (.nd (.dc ks) ts)).Nodup) (hL : H L = some (.dK kvs)) (hk : k ∉ ks)
    (hu : OwT K mg B H y u) (nu : (fpT H y u).Nodup) (hx : ∀ x ∈ fpT H y u, x ∉ fpT H (.ref L) (.nd (.dc ks) ts)) :
    OwT K mg B (upd H L (.dK (putK kvs k y))) (.ref L) (.nd (.dc (ks ++ [k])) (ts ++ [u])) ∧ (fpT (upd H L (.dK (putK kvs k y))) (.ref L) (.nd (.dc (ks ++ [k])) (ts ++ [u]))).Nodup ∧
      (∀ x ∈ fpT (upd H L (.dK (putK kvs k y))) (.ref L) (.nd (.dc (ks ++ [k])) (ts ++ [u])), x ∈ fpT H (.ref L) (.nd (.dc ks) ts) ∨ x ∈ fpT H y u) ∧
      (∀ x ∈ fpT H (.ref L) (.nd (.dc ks) ts), x ∈ fpT (upd H L (.dK (putK kvs k y))) (.ref L) (.nd (.dc (ks ++ [k])) (ts ++ [u]))) := by
  cases h with
  | nd h1 h2 h3 =>
    rw [hL] at h1; cases h1
    obtain ⟨kvs', e, e2⟩ := h2
    cases e
    rw [fpT_nd hL] at n hx ⊢
    obtain ⟨n1, n2⟩ := List.nodup_cons.1 n
    have away : ∀ x, x ≠ L → upd H L (.dK (putK kvs k y)) x = H x := fun x hx => upd_ne hx
    obtain ⟨l1, l2⟩ := h3.at (H' := upd H L (.dK (putK kvs k y))) fun x hm => away x fun z => n1 (by rw [← z]; exact hm)
    obtain ⟨u1, u2⟩ := hu.at (H' := upd H L (.dK (putK kvs k y))) fun x hm => away x fun z => hx x hm (by rw [z]; exact List.mem_cons_self)
    obtain ⟨q1, q2, q3⟩ := OwL.snoc u1 (by rw [u2]; exact nu) l1 (by rw [l2]; exact n2) (by rw [u2, l2]; exact fun x hm k => hx x hm (List.mem_cons_of_mem _ k))
    have ep : putK kvs k y = kvs ++ [(k, y)] := putK_new (by rw [e2]; exact hk)
    have ek : kids (.dK (putK kvs k y)) = kids (.dK kvs) ++ [y] := by rw [ep]; simp [kids]
    have sub0 : ∀ (ts : List T) (vs : List L2.V) (x : Addr), OwL K mg B (upd H L (.dK (putK kvs k y))) vs ts → x ∈ fpL (upd H L (.dK (putK kvs k y))) vs ts → x ∈ fpL (upd H L (.dK (putK kvs k y))) (vs ++ [y]) (ts ++ [u]) := fun ts => by
      induction ts with
      | nil => intro vs x ho hm; cases ho; cases hm
      | cons t ts ih =>
        intro vs x ho hm
        cases ho with
        | cons p q =>
          rw [fpL_cons] at hm
          rw [List.cons_append, List.cons_append, fpL_cons]
          rcases List.mem_append.1 hm with hm | hm
          · exact List.mem_append_left _ hm
          · exact List.mem_append_right _ (ih _ x q hm)
    refine ⟨.nd upd_same ⟨_, rfl, by rw [ep, List.map_append, e2]; rfl⟩ (by rw [ek]; exact q1), ?_, ?_, ?_⟩
    · rw [fpT_nd upd_same, ek]
      refine List.nodup_cons.2 ⟨fun z => ?_, q2⟩
      rcases q3 L z with z | z
      · rw [l2] at z; exact n1 z
      · rw [u2] at z; exact hx L z List.mem_cons_self
    · rw [fpT_nd upd_same, ek]
      intro x hm
      rcases List.mem_cons.1 hm with rfl | hm
      · exact .inl List.mem_cons_self
      · rcases q3 x hm with z | z
        · rw [l2] at z; exact .inl (List.mem_cons_of_mem _ z)
        · rw [u2] at z; exact .inr z
    · rw [fpT_nd upd_same, ek]
      intro x hm
      rcases List.mem_cons.1 hm with rfl | hm
      · exact List.mem_cons_self
      · exact List.mem_cons_of_mem _ (sub0 ts _ x l1 (by rw [l2]; exact hm))
end
def newK (ks : List Key) (k : Key) : Bool := ks.all fun g => !decide (g = k)
theorem newK_not {ks : List Key} {k : Key} (h : newK ks k = true) : k ∉ ks := fun m => by
  have := List.all_eq_true.1 h k m
  simp at this
def dcTL (own : List Nat) (g : GG) (c fk fv : FX) : List D → List Key → List T → En → R (List Key × List T)
  | [], ks, ts, ρ => .ok (ks, ts) ρ
  | d :: ds, ks, ts, ρ => match g d ρ with
    | none => .bad
    | some ρ1 => match c ρ1 with
      | .ok (.fz (.bl true)) ρ2 => match xF fk ρ2 with
        | .ok (.fz x) ρ3 => match fv ρ3 with
          | .ok s ρ4 => match keyOf x, uOf s with
            | some k, some u => if ks.length < 1000000 ∧ newK ks k = true then dcTL own g c fk fv ds (ks ++ [k]) (ts ++ [u]) (forget own ρ4) else .bad
            | _, _ => .bad
          | _ => .bad
        | _ => .bad
      | .ok (.fz (.bl false)) ρ2 => dcTL own g c fk fv ds ks ts (forget own ρ2)
      | _ => .bad
def xDcT (own : List Nat) (gi : En → R (List D)) (g : GG) (c fk fv : FX) : FX := fun ρ => match gi ρ with
  | .ok xs ρ1 => match dcTL own g c fk fv xs [] [] (forget own ρ1) with
    | .ok (ks, ts) ρ2 => .ok (.dp (.nd (.dc ks) ts)) ρ2
    | _ => .bad
  | .exc c fs ρ1 => .exc c fs ρ1
  | .bad => .bad
section
variable {X : Cx} {PN : List Nat} {σ0 : Gs} {W : WX} {k : Nat}
theorem dcT_red {ov : List Nat} {ti : TI} {gi : En → R (List D)} {g : GG} {ts : List Nat} {c fk fv : FX} (qi : ∀ F B H σ ρ Rr, Sat X.K X.mg PN σ0 F B H σ ρ → IPostF X PN σ0 W F B σ (gi ρ) Rr → ti σ H Rr)
    (hts : ∀ i ∈ ts, i ∈ ov) (hpn : ∀ i ∈ ov, i ∉ PN) {F B H : Hp} {σ : L2.St} {ρ : En} {Q : VK} (S : Sat X.K X.mg PN σ0 F B H σ ρ) (q : EPost X PN σ0 W F B σ (xDcT ov gi g c fk fv ρ) Q) :
    tDc ti (cG X PN σ0 g ts) (cT X PN σ0 W0 c) (cE X PN σ0 W0 fk) (cE X PN σ0 W0 fv) ov σ H Q := by
  refine qi F B H σ ρ _ S ?_
  unfold xDcT at q
  cases er : gi ρ with
  | bad => rw [er] at q; exact q
  | exc c fs ρ1 => rw [er] at q; exact q
  | ok xs ρ1 =>
    rw [er] at q
    intro J H1 B1 e1 S1 hJ L hL
    have hvL : ∀ q ∈ σ0.vw, q.2.2.2 L = none := fun q hq => by
      cases e : q.2.2.2 L with
      | none => rfl
      | some o =>
        have := (S1.vw q hq).2 L o e
        rw [S1.fn hL] at this; cases this
    simp only at q
    split at q
    · rename_i ksF tsF ρ2 hlc
      have S1w : Sat X.K X.mg PN σ0 F B1 H1 (wipe σ ov) (forget ov ρ1) := Sat.swap hpn (S1.forget ov) (wipe_length σ ov) fun i hi => wipe_get hi
      have hF : F L = none := S1.fn hL
      have hvF : ∀ q ∈ σ0.vw, ∀ b o, q.2.2.2 b = some o → F b = some o := fun q hq => (S1.vw q hq).2
      have f0 : treeF F (upd H1 L (.dK [])) (V.ref L) (.nd (.dc []) []) = upd F L (.dK []) := by
        funext b
        by_cases e : b = L
        · subst e
          rw [treeF_in (by rw [fpT_nd upd_same]; exact List.mem_cons_self), upd_same, upd_same]
        · rw [treeF_out (by rw [fpT_nd upd_same]; intro z; rcases List.mem_cons.1 z with z | z; exact e z; cases z), upd_ne e]
      have S0 : Sat X.K X.mg PN σ0 (treeF F (upd H1 L (.dK [])) (V.ref L) (.nd (.dc []) [])) B1 (upd H1 L (.dK [])) (wipe σ ov) (forget ov ρ1) := by rw [f0]; exact S1w.more hL
      refine ⟨fun i m H' => m = xs.length - i ∧ i ≤ xs.length ∧ ∃ ks ts B' ρ', Ext B1 B' ∧ Sat X.K X.mg PN σ0 (treeF F H' (V.ref L) (.nd (.dc ks) ts)) B' H' (wipe σ ov) (forget ov ρ') ∧ OwT X.K X.mg B' H' (V.ref L) (.nd (.dc ks) ts) ∧ (fpT H' (V.ref L) (.nd (.dc ks) ts)).Nodup ∧ (∀ x ∈ fpT H' (V.ref L) (.nd (.dc ks) ts), F x = none) ∧ dcTL ov g c fk fv (xs.drop i) ks ts (forget ov ρ') = .ok (ksF, tsF) ρ2,
        ⟨xs.length, rfl, Nat.zero_le _, [], [], B1, ρ1, Ext.refl B1, S0, .nd upd_same ⟨[], rfl, rfl⟩ .nil, (by rw [fpT_nd upd_same]; exact List.nodup_cons.2 ⟨by simp [fpL], List.nodup_nil⟩), (by rw [fpT_nd upd_same]; intro x hx; rcases List.mem_cons.1 hx with rfl | hx; exact hF; cases hx), hlc⟩, ?_⟩
      rintro i m H' ⟨rfl, hi, ks, ts, B', ρ', e', S', o', n', hF', hl'⟩
      by_cases hlt : i < xs.length
      · obtain ⟨d, hd⟩ : ∃ d, xs[i]? = some d := ⟨_, List.getElem?_eq_getElem hlt⟩
        have hdr : xs.drop i = d :: xs.drop (i + 1) := by
          rw [List.drop_eq_getElem_cons hlt]
          rw [List.getElem?_eq_getElem hlt] at hd
          rw [Option.some.inj hd]
        rw [hdr, dcTL] at hl'
        obtain ⟨hgo, hy⟩ := hJ.go i d hd B' H' e' S'.bh (fun b o h => (S'.fh b o (by rw [treeF_out (fun z => by rw [hF' b z] at h; cases h)]; exact h)).1)
        refine .inr ⟨hgo, fun H2 => ∃ ks ts B2 ρ2', Ext B1 B2 ∧ Sat X.K X.mg PN σ0 (treeF F H2 (V.ref L) (.nd (.dc ks) ts)) B2 H2 (wipe σ ov) (forget ov ρ2') ∧ OwT X.K X.mg B2 H2 (V.ref L) (.nd (.dc ks) ts) ∧ (fpT H2 (V.ref L) (.nd (.dc ks) ts)).Nodup ∧ (∀ x ∈ fpT H2 (V.ref L) (.nd (.dc ks) ts), F x = none) ∧ dcTL ov g c fk fv (xs.drop (i + 1)) ks ts (forget ov ρ2') = .ok (ksF, tsF) ρ2, fun H2 h2 => ⟨xs.length - (i + 1), by omega, rfl, hlt, h2⟩, fun x H2 hx => ?_⟩
        -- what stays of the tree while the turn runs
        have kp : ∀ {B6 H6 : Hp} {σ6 : L2.St} {ρ6 : En}, Ext B' B6 → Sat X.K X.mg PN σ0 (treeF F H' (V.ref L) (.nd (.dc ks) ts)) B6 H6 σ6 ρ6 → OwT X.K X.mg B6 H6 (V.ref L) (.nd (.dc ks) ts) ∧ fpT H6 (V.ref L) (.nd (.dc ks) ts) = fpT H' (V.ref L) (.nd (.dc ks) ts) ∧ treeF F H6 (V.ref L) (.nd (.dc ks) ts) = treeF F H' (V.ref L) (.nd (.dc ks) ts) := fun {B6 H6 σ6 ρ6} e6 S6 => by
          have same : ∀ x ∈ fpT H' (V.ref L) (.nd (.dc ks) ts), H6 x = H' x := fun x hx => by
            obtain ⟨u, hu⟩ := o'.there x hx
            exact ((S6.fh x u (by rw [treeF_in hx]; exact hu)).1).trans hu.symm
          obtain ⟨p1, p2⟩ := (o'.mono e6).at same
          refine ⟨p1, p2, funext fun b => ?_⟩
          by_cases z : b ∈ fpT H' (V.ref L) (.nd (.dc ks) ts)
          · rw [treeF_in z, treeF_in (by rw [p2]; exact z), same b z]
          · rw [treeF_out z, treeF_out (by rw [p2]; exact z)]
        obtain ⟨B2, e2, S2, r2⟩ := hy x H2 hx PN σ0 _ _ _ S'
        cases eg : g d (forget ov ρ') with
        | none => rw [eg] at hl'; cases hl'
        | some ρ3 =>
          rw [eg] at hl'
          simp only at hl'
          refine ⟨_, B2, _, d, ρ3, S2, r2, eg, fun σ3 hl3 hs3 S3 => ⟨wipe_same (by rw [hl3, wipe_length]) fun j hj => hs3 j fun z => hj (hts j z), ?_⟩⟩
          have hσ3 : wipe σ3 ov = wipe σ ov := wipe_same (by rw [hl3, wipe_length]) fun j hj => hs3 j fun z => hj (hts j z)
          refine ⟨_, B2, ρ3, S3, ?_⟩
          have swp : ∀ {F4 B4 H4 : Hp} {ρ4 : En}, Sat X.K X.mg PN σ0 F4 B4 H4 σ3 ρ4 → Sat X.K X.mg PN σ0 F4 B4 H4 (wipe σ ov) (forget ov ρ4) := fun S4 =>
            Sat.swap hpn (S4.forget ov) (by rw [hl3]) fun j hj => (hs3 j fun z => hj (hts j z)).symm
          cases ec : c ρ3 with
          | bad => rw [ec] at hl'; cases hl'
          | exc c fs ρ4 => rw [ec] at hl'; cases hl'
          | ok s4 ρ4 =>
            rw [ec] at hl'
            cases s4 with
            | no => cases hl'
            | dp d4 => cases hl'
            | ow d4 => cases hl'
            | fz d4 =>
              cases d4 with
              | bl b =>
                cases b with
                | false =>
                  intro H4 B4 e4 S4
                  obtain ⟨k1, k2, k3⟩ := kp (e2.trans e4) S4
                  exact iteF ⟨ks, ts, B4, ρ4, (e'.trans e2).trans e4, (by rw [k3]; exact swp S4), k1, (by rw [k2]; exact n'), (by rw [k2]; exact hF'), hl'⟩
                | true =>
                  simp only at hl'
                  intro H4 B4 e4 S4
                  refine iteT ⟨_, B4, ρ4, S4, ?_⟩
                  unfold xF at hl'
                  have step2 : ∀ dk ρb, (match fv ρb with
                      | .ok s ρ4 => match keyOf dk, uOf s with
                        | some k, some u => if ks.length < 1000000 ∧ newK ks k = true then dcTL ov g c fk fv (xs.drop (i + 1)) (ks ++ [k]) (ts ++ [u]) (forget ov ρ4) else .bad
                        | _, _ => .bad
                      | _ => R.bad) = .ok (ksF, tsF) ρ2 → ∀ yk H5 B5, Ext B4 B5 → Sat X.K X.mg PN σ0 (treeF F H' (V.ref L) (.nd (.dc ks) ts)) B5 H5 σ3 ρb → Rep X.K X.mg B5 yk dk →
                      cE X PN σ0 W0 fv σ3 H5 fun z H6 => ∃ kvs k, yk = L2.kV k ∧ H6 L = some (.dK kvs) ∧ kvs.length < sizeLine ∧ (∃ ks ts B2 ρ2', Ext B1 B2 ∧ Sat X.K X.mg PN σ0 (treeF F (upd H6 L (.dK (putK kvs k z))) (V.ref L) (.nd (.dc ks) ts)) B2 (upd H6 L (.dK (putK kvs k z))) (wipe σ ov) (forget ov ρ2') ∧ OwT X.K X.mg B2 (upd H6 L (.dK (putK kvs k z))) (V.ref L) (.nd (.dc ks) ts) ∧ (fpT (upd H6 L (.dK (putK kvs k z))) (V.ref L) (.nd (.dc ks) ts)).Nodup ∧ (∀ x ∈ fpT (upd H6 L (.dK (putK kvs k z))) (V.ref L) (.nd (.dc ks) ts), F x = none) ∧ dcTL ov g c fk fv (xs.drop (i + 1)) ks ts (forget ov ρ2') = .ok (ksF, tsF) ρ2) := fun dk ρb hl' yk H5 B5 e5 S5 r5 => by
                    refine ⟨_, B5, ρb, S5, ?_⟩
                    cases ef : fv ρb with
                    | bad => rw [ef] at hl'; cases hl'
                    | exc c fs ρ5 => rw [ef] at hl'; cases hl'
                    | ok s ρd =>
                      rw [ef] at hl'
                      simp only at hl'
                      intro yv H6 B6 e6 S6 z
                      split at hl'
                      · rename_i key u ek eu
                        split at hl'
                        · rename_i hz
                          obtain ⟨k1, k2, k3⟩ := kp (((e2.trans e4).trans e5).trans e6) S6
                          have hval : OwT X.K X.mg B6 H6 yv u ∧ (fpT H6 yv u).Nodup ∧ ∀ x ∈ fpT H6 yv u, treeF F H' (V.ref L) (.nd (.dc ks) ts) x = none ∧ B6 x = none ∧ ∀ (j : Nat) (s' : Sl), ρd[j]? = some s' → x ∉ fpS H6 σ3 j s' := by
                            cases s with
                            | no => cases eu
                            | dp t => cases eu; exact ⟨z.1, z.2.1, fun x hx => z.2.2 x hx⟩
                            | fz d => cases eu; exact ⟨.lf z, List.nodup_nil, fun x hx => by cases hx⟩
                            | ow d =>
                              obtain ⟨b, rfl, g1, g2, g3, _⟩ := id z
                              obtain ⟨t1, t2⟩ := OwD_T g3 eu
                              refine ⟨t1, by rw [t2]; exact List.nodup_cons.2 ⟨by simp, List.nodup_nil⟩, ?_⟩
                              rw [t2]
                              intro x hx
                              rw [List.mem_singleton.1 hx]
                              exact ⟨g1, g2, fun j s' hj => VOk.sep z hj (S6.sl j s' hj)⟩
                          obtain ⟨u1, u2, u3⟩ := hval
                          obtain ⟨kvs, hkv, hlen⟩ : ∃ kvs, H6 L = some (.dK kvs) ∧ kvs.length = ks.length := by
                            cases k1 with
                            | nd h1 h2 h3 =>
                              obtain ⟨kvs, rfl, rfl⟩ := h2
                              exact ⟨kvs, h1, by rw [List.length_map]⟩
                          have nin : ∀ x ∈ fpT H6 yv u, x ∉ fpT H6 (V.ref L) (.nd (.dc ks) ts) := fun x hx hm => by
                            have := (u3 x hx).1
                            rw [k2] at hm
                            obtain ⟨w, hw⟩ := o'.there x hm
                            rw [treeF_in hm, hw] at this; cases this
                          obtain ⟨a1, a2, a3, a4⟩ := OwT.addK k1 (by rw [k2]; exact n') hkv (newK_not hz.2) u1 u2 nin
                          have LIn : L ∈ fpT H6 (V.ref L) (.nd (.dc ks) ts) := by rw [fpT_nd hkv]; exact List.mem_cons_self
                          have SG := Sat.regrow (H' := upd H6 L (.dK (putK kvs key yv))) (t' := .nd (.dc (ks ++ [key])) (ts ++ [u])) (by rw [k3]; exact S6) k1 (fun b o hb ho => by
                              rw [upd_ne]
                              · exact ho
                              · rintro rfl; exact hb LIn) a1 (by rw [k2]; exact hF') a4 (fun x hx => (a3 x hx).imp id fun h => by rw [k3]; exact u3 x h) hvF
                          refine ⟨kvs, key, key_rep r5 ek, hkv, by rw [hlen]; exact line_lt hz.1, ks ++ [key], ts ++ [u], B6, ρd, (((e'.trans e2).trans e4).trans e5).trans e6, swp SG, a1, a2, fun x hx => ?_, hl'⟩
                          rcases a3 x hx with h | h
                          · rw [k2] at h; exact hF' x h
                          · have h1 := (u3 x h).1
                            have n1 := nin x h
                            rw [k2] at n1
                            rw [treeF_out n1] at h1
                            exact h1
                        · cases hl'
                      · cases hl'
                  cases ef : fk ρ4 with
                  | bad => rw [ef] at hl'; cases hl'
                  | exc c fs ρ5 => rw [ef] at hl'; cases hl'
                  | ok s5 ρ5 =>
                    rw [ef, R.bind_ok] at hl'
                    cases s5 with
                    | no => cases hl'
                    | dp d5 => cases hl'
                    | fz d5 => exact fun y H5 B5 e5 S5 r5 => step2 d5 ρ5 hl' y H5 B5 e5 S5 r5
                    | ow d5 =>
                      intro y H5 B5 e5 S5 r5
                      obtain ⟨B6, e6, S6, r6⟩ := S5.freeze r5
                      exact step2 d5 ρ5 hl' y H5 B6 (e5.trans e6) S6 r6
              | _ => cases hl'
      · have hie : i = xs.length := by omega
        subst hie
        rw [List.drop_length, dcTL] at hl'
        cases hl'
        obtain ⟨S6, h6⟩ := S'.ungrow o' hF' hvF
        refine .inl ⟨hJ.stop B' H' e' S'.bh (fun b o h => (S'.fh b o (by rw [treeF_out (fun z => by rw [hF' b z] at h; cases h)]; exact h)).1), q _ H' B' (e1.trans e') (Sat.swap hpn S6 (wipe_length σ ov).symm fun j hj => (wipe_get hj).symm) ⟨o', n', fun x hx => ⟨(h6 x hx).1, (h6 x hx).2.1, fun j s hj m => ?_⟩⟩⟩
        rcases forget_get hj with ⟨_, z⟩ | ⟨z1, _⟩
        · subst z; cases m
        · exact (h6 x hx).2.2 j s hj (by rw [fpS_move (wipe_get z1)]; exact m)
    · exact q.elim
theorem fe_dcT {Mb Lb : List Bool} {kx vx tg iter : Expr} {ifs : List Expr} {scope : Scope} {own : List (Str × Nat)} {pos : Pos} {gi : En → R (List D)} {g : GG} {ts : List Nat} {c fk fv : FX} (C : Cok X W k) (hN : X.N.Nodup) (hi : FJ X PN σ0 W tg iter gi) (ok : BlkOk X.N X.env.scope scope own)
    (hn : ∀ (s : Shared) (H : Hp) (C : Addr) (cl : List (Str × Addr)) (fp : List Addr), NamesOk (X.blk s H scope (compEnvC scope cl C X.env) fp) Mb Lb)
    (hg' : ∀ (s : Shared) (H : Hp) (C : Addr) (cl : List (Str × Addr)) (fp : List Addr), NamesOk (X.blk s H scope (compEnvC scope cl C X.env) fp) Mb Lb → FG (X.blk s H scope (compEnvC scope cl C X.env) fp) PN σ0 tg g ts) (ht' : ∀ (s : Shared) (H : Hp) (C : Addr) (cl : List (Str × Addr)) (fp : List Addr), NamesOk (X.blk s H scope (compEnvC scope cl C X.env) fp) Mb Lb → FTs (X.blk s H scope (compEnvC scope cl C X.env) fp) PN σ0 W0 ifs c)
    (hk' : ∀ (s : Shared) (H : Hp) (C : Addr) (cl : List (Str × Addr)) (fp : List Addr), NamesOk (X.blk s H scope (compEnvC scope cl C X.env) fp) Mb Lb → FE (X.blk s H scope (compEnvC scope cl C X.env) fp) PN σ0 W0 kx fk)
    (he' : ∀ (s : Shared) (H : Hp) (C : Addr) (cl : List (Str × Addr)) (fp : List Addr), NamesOk (X.blk s H scope (compEnvC scope cl C X.env) fp) Mb Lb → FE (X.blk s H scope (compEnvC scope cl C X.env) fp) PN σ0 W0 vx fv)
    (hts : ∀ i ∈ ts, i ∈ own.map (·.2) := by decide) (hpn : ∀ i ∈ own.map (·.2), i ∉ PN := by decide) (hs : ∀ x, foldedSetIterable iter X.env x = pure x := by intro _; rfl) :
    FE X PN σ0 W (.DictComp kx vx [⟨tg, iter, ifs, 0⟩] scope pos) (xDcT (own.map (·.2)) gi g c fk fv) := by
  have hg := fun s H C cl fp => hg' s H C cl fp (hn s H C cl fp)
  have ht := fun s H C cl fp => ht' s H C cl fp (hn s H C cl fp)
  have he := fun s H C cl fp => he' s H C cl fp (hn s H C cl fp)
  have hk := fun s H C cl fp => hk' s H C cl fp (hn s H C cl fp)
  obtain ⟨ti, pi, qi⟩ := hi.ex
  exact ⟨_, pe_dc (g := cG X PN σ0 g ts) (tt := cT X PN σ0 W0 c) (tk := cE X PN σ0 W0 fk) (tv := cE X PN σ0 W0 fv) C.calm hN pi ok (fun s H C cl fp => (hg s H C cl fp).pg) (fun s H C cl fp => (ht s H C cl fp).pt) (fun s H C cl fp => (hk s H C cl fp).pe) (fun s H C cl fp => (he s H C cl fp).pe) hs, fun F B H σ ρ Q S q => dcT_red qi hts hpn S q⟩
end
end FV

namespace FV
open PySem PySem.Spec PyProof.Rows L2
/-! ### [f for .. in .. for .. in ..] -/
def lc2L (own own1 : List Nat) (g : GG) (c : FX) (gi1 : En → R (List D)) (g1 : GG) (c1 f : FX) : List D → List D → En → R (List D)
  | [], acc, ρ => .ok acc ρ
  | d :: ds, acc, ρ => match g d ρ with
    | none => .bad
    | some ρ1 => match c ρ1 with
      | .ok (.fz (.bl true)) ρ2 => match gi1 ρ2 with
        | .ok ys ρ3 => match lcL own1 g1 c1 f ys acc (forget own1 ρ3) with
          | .ok acc' ρ4 => lc2L own own1 g c gi1 g1 c1 f ds acc' (forget own ρ4)
          | _ => .bad
        | _ => .bad
      | .ok (.fz (.bl false)) ρ2 => lc2L own own1 g c gi1 g1 c1 f ds acc (forget own ρ2)
      | _ => .bad
def xLc2 (own own1 : List Nat) (gi : En → R (List D)) (g : GG) (c : FX) (gi1 : En → R (List D)) (g1 : GG) (c1 f : FX) : FX := fun ρ => match gi ρ with
  | .ok xs ρ1 => match lc2L own own1 g c gi1 g1 c1 f xs [] (forget own ρ1) with
    | .ok acc ρ2 => .ok (.ow (.lst acc)) ρ2
    | _ => .bad
  | .exc c fs ρ1 => .exc c fs ρ1
  | .bad => .bad
def cI (X : Cx) (PN : List Nat) (σ0 : Gs) (W : WX) (gi : En → R (List D)) : TI := fun σ H Rr => ∃ F B ρ, Sat X.K X.mg PN σ0 F B H σ ρ ∧ IPost X PN σ0 W F B σ (gi ρ) Rr
section
variable {X : Cx} {PN : List Nat} {σ0 : Gs} {W : WX} {k : Nat}
theorem FI.pi {tg iter : Expr} {gi : En → R (List D)} (h : FI X PN σ0 W tg iter gi) : PI X tg iter (cI X PN σ0 W gi) := by
  obtain ⟨t, p, q⟩ := h.ex
  exact ⟨fun pins s σ H Rr I ⟨F, B, ρ, S, k⟩ => p.run pins s σ H Rr I (q F B H σ ρ Rr S k)⟩
theorem lc2_red {ov ov1 : List Nat} {gi1 : En → R (List D)} {g1 : GG} {c1 : FX} {ts1 : List Nat} {ti : TI} {gi : En → R (List D)} {g : GG} {ts : List Nat} {c f : FX} (qi : ∀ F B H σ ρ Rr, Sat X.K X.mg PN σ0 F B H σ ρ → IPostF X PN σ0 W F B σ (gi ρ) Rr → ti σ H Rr)
    (hts : ∀ i ∈ ts, i ∈ ov) (hts1 : ∀ i ∈ ts1, i ∈ ov1) (hpn1 : ∀ i ∈ ov1, i ∉ PN) (h1o : ∀ i ∈ ov1, i ∈ ov) (hpn : ∀ i ∈ ov, i ∉ PN) {F B H : Hp} {σ : L2.St} {ρ : En} {Q : VK} (S : Sat X.K X.mg PN σ0 F B H σ ρ) (q : EPost X PN σ0 W F B σ (xLc2 ov ov1 gi g c gi1 g1 c1 f ρ) Q) :
    tLc2 ti (cG X PN σ0 g ts) (cT X PN σ0 W0 c) (cI X PN σ0 W0 gi1) (cG X PN σ0 g1 ts1) (cT X PN σ0 W0 c1) (cE X PN σ0 W0 f) ov ov1 σ H Q := by
  refine qi F B H σ ρ _ S ?_
  unfold xLc2 at q
  cases er : gi ρ with
  | bad => rw [er] at q; exact q
  | exc c fs ρ1 => rw [er] at q; exact q
  | ok xs ρ1 =>
    rw [er] at q
    intro J H1 B1 e1 S1 hJ L hL
    have hvL : ∀ q ∈ σ0.vw, q.2.2.2 L = none := fun q hq => by
      cases e : q.2.2.2 L with
      | none => rfl
      | some o =>
        have := (S1.vw q hq).2 L o e
        rw [S1.fn hL] at this; cases this
    simp only at q
    split at q
    · rename_i accF ρ2 hlc
      have S1w : Sat X.K X.mg PN σ0 F B1 H1 (wipe σ ov) (forget ov ρ1) := Sat.swap hpn (S1.forget ov) (wipe_length σ ov) fun i hi => wipe_get hi
      refine ⟨fun i m H' => m = xs.length - i ∧ i ≤ xs.length ∧ ∃ acc vs B' ρ', Ext B1 B' ∧ Sat X.K X.mg PN σ0 (upd F L (.lst vs)) B' H' (wipe σ ov) (forget ov ρ') ∧ RepL X.K X.mg B' vs acc ∧ lc2L ov ov1 g c gi1 g1 c1 f (xs.drop i) acc (forget ov ρ') = .ok accF ρ2,
        ⟨xs.length, rfl, Nat.zero_le _, [], [], B1, ρ1, Ext.refl B1, S1w.more hL, .nil, hlc⟩, ?_⟩
      rintro i m H' ⟨rfl, hi, acc, vs, B', ρ', e', S', r', hl'⟩
      by_cases hlt : i < xs.length
      · obtain ⟨d, hd⟩ : ∃ d, xs[i]? = some d := ⟨_, List.getElem?_eq_getElem hlt⟩
        have hdr : xs.drop i = d :: xs.drop (i + 1) := by
          rw [List.drop_eq_getElem_cons hlt]
          rw [List.getElem?_eq_getElem hlt] at hd
          rw [Option.some.inj hd]
        rw [hdr, lc2L] at hl'
        obtain ⟨hgo, hy⟩ := hJ.go i d hd B' H' e' S'.bh (fun b o h => (S'.fh b o (by rw [upd_ne (ne_of_none h (S1.fn hL))]; exact h)).1)
        refine .inr ⟨hgo, fun H2 => ∃ acc vs B2 ρ2', Ext B1 B2 ∧ Sat X.K X.mg PN σ0 (upd F L (.lst vs)) B2 H2 (wipe σ ov) (forget ov ρ2') ∧ RepL X.K X.mg B2 vs acc ∧ lc2L ov ov1 g c gi1 g1 c1 f (xs.drop (i + 1)) acc (forget ov ρ2') = .ok accF ρ2, fun H2 h2 => ⟨xs.length - (i + 1), by omega, rfl, hlt, h2⟩, fun x H2 hx => ?_⟩
        obtain ⟨B2, e2, S2, r2⟩ := hy x H2 hx PN σ0 _ _ _ S'
        cases eg : g d (forget ov ρ') with
        | none => rw [eg] at hl'; cases hl'
        | some ρ3 =>
          rw [eg] at hl'
          simp only at hl'
          refine ⟨_, B2, _, d, ρ3, S2, r2, eg, fun σ3 hl3 hs3 S3 => ⟨wipe_same (by rw [hl3, wipe_length]) fun j hj => hs3 j fun z => hj (hts j z), ?_⟩⟩
          have hσ3 : wipe σ3 ov = wipe σ ov := wipe_same (by rw [hl3, wipe_length]) fun j hj => hs3 j fun z => hj (hts j z)
          refine ⟨_, B2, ρ3, S3, ?_⟩
          have swp : ∀ {F4 B4 H4 : Hp} {ρ4 : En}, Sat X.K X.mg PN σ0 F4 B4 H4 σ3 ρ4 → Sat X.K X.mg PN σ0 F4 B4 H4 (wipe σ ov) (forget ov ρ4) := fun S4 =>
            Sat.swap hpn (S4.forget ov) (by rw [hl3]) fun j hj => (hs3 j fun z => hj (hts j z)).symm
          cases ec : c ρ3 with
          | bad => rw [ec] at hl'; cases hl'
          | exc c fs ρ4 => rw [ec] at hl'; cases hl'
          | ok s4 ρ4 =>
            rw [ec] at hl'
            cases s4 with
            | no => cases hl'
            | dp d4 => cases hl'
            | ow d4 => cases hl'
            | fz d4 =>
              cases d4 with
              | bl b =>
                cases b with
                | false =>
                  intro H4 B4 e4 S4
                  exact iteF ⟨acc, vs, B4, ρ4, (e'.trans e2).trans e4, swp S4, r'.mono (e2.trans e4), hl'⟩
                | true =>
                  simp only at hl'
                  intro H4 B4 e4 S4
                  refine iteT ⟨_, B4, ρ4, S4, ?_⟩
                  cases ei : gi1 ρ4 with
                  | bad => rw [ei] at hl'; cases hl'
                  | exc c fs ρ5 => rw [ei] at hl'; cases hl'
                  | ok ys ρ5 =>
                    rw [ei] at hl'
                    simp only at hl'
                    split at hl'
                    case h_2 => cases hl'
                    rename_i acc' ρ6 hin
                    intro J1 H5 B5 e5 S5 hJ1
                    have S5w : Sat X.K X.mg PN σ0 (upd F L (.lst vs)) B5 H5 (wipe σ3 ov1) (forget ov1 ρ5) := Sat.swap hpn1 (S5.forget ov1) (wipe_length σ3 ov1) fun i hi => wipe_get hi
                    refine ⟨fun i1 m1 H' => m1 = ys.length - i1 ∧ i1 ≤ ys.length ∧ ∃ acc1 vs1 B' ρ1', Ext B5 B' ∧ Sat X.K X.mg PN σ0 (upd F L (.lst vs1)) B' H' (wipe σ3 ov1) (forget ov1 ρ1') ∧ RepL X.K X.mg B' vs1 acc1 ∧ lcL ov1 g1 c1 f (ys.drop i1) acc1 (forget ov1 ρ1') = .ok acc' ρ6,
                      ⟨ys.length, rfl, Nat.zero_le _, acc, vs, B5, ρ5, Ext.refl B5, S5w, r'.mono ((e2.trans e4).trans e5), hin⟩, ?_⟩
                    rintro j m1 H6 ⟨rfl, hj, acc1, vs1, B6, ρ1', e6, S6, r6, hl6⟩
                    by_cases hlt1 : j < ys.length
                    · obtain ⟨d1, hd1⟩ : ∃ d1, ys[j]? = some d1 := ⟨_, List.getElem?_eq_getElem hlt1⟩
                      have hdr1 : ys.drop j = d1 :: ys.drop (j + 1) := by
                        rw [List.drop_eq_getElem_cons hlt1]
                        rw [List.getElem?_eq_getElem hlt1] at hd1
                        rw [Option.some.inj hd1]
                      rw [hdr1, lcL] at hl6
                      obtain ⟨hgo1, hy1⟩ := hJ1.go j d1 hd1 B6 H6 e6 S6.bh (fun _ _ z => by cases z)
                      refine .inr ⟨hgo1, fun H2 => ∃ acc1 vs1 B2 ρ2', Ext B5 B2 ∧ Sat X.K X.mg PN σ0 (upd F L (.lst vs1)) B2 H2 (wipe σ3 ov1) (forget ov1 ρ2') ∧ RepL X.K X.mg B2 vs1 acc1 ∧ lcL ov1 g1 c1 f (ys.drop (j + 1)) acc1 (forget ov1 ρ2') = .ok acc' ρ6, fun H2 h2 => ⟨ys.length - (j + 1), by omega, rfl, hlt1, h2⟩, fun x1 H2 hx1 => ?_⟩
                      obtain ⟨B7, e7, S7, r7⟩ := hy1 x1 H2 hx1 PN σ0 _ _ _ S6
                      cases eg1 : g1 d1 (forget ov1 ρ1') with
                      | none => rw [eg1] at hl6; cases hl6
                      | some ρ7 =>
                        rw [eg1] at hl6
                        simp only at hl6
                        refine ⟨_, B7, _, d1, ρ7, S7, r7, eg1, fun σ7 hl7 hs7 S8 => ⟨wipe_same (by rw [hl7, wipe_length]) fun m hm => hs7 m fun z => hm (hts1 m z), ?_⟩⟩
                        refine ⟨_, B7, ρ7, S8, ?_⟩
                        have swp1 : ∀ {F4 B4 H4 : Hp} {ρ4 : En}, Sat X.K X.mg PN σ0 F4 B4 H4 σ7 ρ4 → Sat X.K X.mg PN σ0 F4 B4 H4 (wipe σ3 ov1) (forget ov1 ρ4) := fun S4 =>
                          Sat.swap hpn1 (S4.forget ov1) (by rw [hl7]) fun m hm => (hs7 m fun z => hm (hts1 m z)).symm
                        cases ec1 : c1 ρ7 with
                        | bad => rw [ec1] at hl6; cases hl6
                        | exc c fs ρ8 => rw [ec1] at hl6; cases hl6
                        | ok s8 ρ8 =>
                          rw [ec1] at hl6
                          cases s8 with
                          | no => cases hl6
                          | dp d8 => cases hl6
                          | ow d8 => cases hl6
                          | fz d8 =>
                            cases d8 with
                            | bl b1 =>
                              cases b1 with
                              | false =>
                                intro H8 B8 e8 S9
                                exact iteF ⟨acc1, vs1, B8, ρ8, (e6.trans e7).trans e8, swp1 S9, r6.mono (e7.trans e8), hl6⟩
                              | true =>
                                simp only at hl6
                                intro H8 B8 e8 S9
                                refine iteT ⟨_, B8, ρ8, S9, ?_⟩
                                unfold xF at hl6
                                cases ef : f ρ8 with
                                | bad => rw [ef] at hl6; cases hl6
                                | exc c fs ρ9 => rw [ef] at hl6; cases hl6
                                | ok s9 ρ9 =>
                                  rw [ef, R.bind_ok] at hl6
                                  have key : ∀ d5, (if acc1.length < 1000000 then lcL ov1 g1 c1 f (ys.drop (j + 1)) (acc1 ++ [d5]) (forget ov1 ρ9) else .bad) = .ok acc' ρ6 → ∀ y H9 B9, Ext B8 B9 → Sat X.K X.mg PN σ0 (upd F L (.lst vs1)) B9 H9 σ7 ρ9 → Rep X.K X.mg B9 y d5 →
                                      ∃ l, H9 L = some (.lst l) ∧ l.length < sizeLine ∧ ∃ acc2 vs2 B2 ρ2', Ext B5 B2 ∧ Sat X.K X.mg PN σ0 (upd F L (.lst vs2)) B2 (upd H9 L (.lst (l ++ [y]))) (wipe σ3 ov1) (forget ov1 ρ2') ∧ RepL X.K X.mg B2 vs2 acc2 ∧ lcL ov1 g1 c1 f (ys.drop (j + 1)) acc2 (forget ov1 ρ2') = .ok acc' ρ6 := fun d5 hl6 y H9 B9 e9 S10 r10 => by
                                    split at hl6
                                    · rename_i hz
                                      have rv := r6.mono ((e7.trans e8).trans e9)
                                      exact ⟨vs1, (S10.fh L _ upd_same).1, by rw [rv.length]; exact line_lt hz, acc1 ++ [d5], vs1 ++ [y], B9, ρ9, ((e6.trans e7).trans e8).trans e9, (swp1 S10).grow hvL, rv.append (.cons r10 .nil), hl6⟩
                                    · cases hl6
                                  cases s9 with
                                  | no => cases hl6
                                  | dp d5 => cases hl6
                                  | fz d5 => exact fun y H9 B9 e9 S10 r10 => key d5 hl6 y H9 B9 e9 S10 r10
                                  | ow d5 =>
                                    intro y H9 B9 e9 S10 r10
                                    obtain ⟨B10, e10, S11, r11⟩ := S10.freeze r10
                                    exact key d5 hl6 y H9 B10 (e9.trans e10) S11 r11
                            | _ => cases hl6
                    · have hje : j = ys.length := by omega
                      subst hje
                      rw [List.drop_length, lcL] at hl6
                      cases hl6
                      refine .inl ⟨hJ1.stop B6 H6 e6 S6.bh (fun _ _ z => by cases z), _, vs1, B6, forget ov1 ρ1', (((e'.trans e2).trans e4).trans e5).trans e6, ?_, r6, hl'⟩
                      refine Sat.swap hpn (S6.forget ov) (by rw [wipe_length, wipe_length, hl3, wipe_length]) fun m hm => ?_
                      rw [wipe_get (σ := σ3) (fun z => hm (h1o m z)), ← hs3 m fun z => hm (hts m z)]
              | _ => cases hl'
      · have hie : i = xs.length := by omega
        subst hie
        rw [List.drop_length, lc2L] at hl'
        cases hl'
        obtain ⟨S6, h6, h7, h8⟩ := S'.less (S1.fn hL) hvL
        refine .inl ⟨hJ.stop B' H' e' S'.bh (fun b o h => (S'.fh b o (by rw [upd_ne (ne_of_none h (S1.fn hL))]; exact h)).1), q _ H' B' (e1.trans e') (Sat.swap hpn S6 (wipe_length σ ov).symm fun j hj => (wipe_get hj).symm) ⟨L, rfl, S1.fn hL, h7, ⟨vs, h6, r'⟩, sep_v fun j s hj m => ?_⟩⟩
        rcases forget_get hj with ⟨_, z⟩ | ⟨z1, _⟩
        · subst z; cases m
        · exact h8 j s hj (by rw [fpS_move (wipe_get z1)]; exact m)
    · exact q.elim
theorem fe_lc2 {Mb Lb : List Bool} {elt tg iter tg1 iter1 : Expr} {ifs ifs1 : List Expr} {scope : Scope} {own : List (Str × Nat)} {ov1 : List Nat} {pos : Pos} {gi gi1 : En → R (List D)} {g g1 : GG} {ts ts1 : List Nat} {c c1 f : FX} (C : Cok X W k) (hN : X.N.Nodup) (hi : FJ X PN σ0 W tg iter gi) (ok : BlkOk X.N X.env.scope scope own)
    (hn : ∀ (s : Shared) (H : Hp) (C : Addr) (cl : List (Str × Addr)) (fp : List Addr), NamesOk (X.blk s H scope (compEnvC scope cl C X.env) fp) Mb Lb)
    (hg' : ∀ (s : Shared) (H : Hp) (C : Addr) (cl : List (Str × Addr)) (fp : List Addr), NamesOk (X.blk s H scope (compEnvC scope cl C X.env) fp) Mb Lb → FG (X.blk s H scope (compEnvC scope cl C X.env) fp) PN σ0 tg g ts)
    (ht' : ∀ (s : Shared) (H : Hp) (C : Addr) (cl : List (Str × Addr)) (fp : List Addr), NamesOk (X.blk s H scope (compEnvC scope cl C X.env) fp) Mb Lb → FTs (X.blk s H scope (compEnvC scope cl C X.env) fp) PN σ0 W0 ifs c)
    (hi1' : ∀ (s : Shared) (H : Hp) (C : Addr) (cl : List (Str × Addr)) (fp : List Addr), NamesOk (X.blk s H scope (compEnvC scope cl C X.env) fp) Mb Lb → FI (X.blk s H scope (compEnvC scope cl C X.env) fp) PN σ0 W0 tg1 iter1 gi1)
    (hg1' : ∀ (s : Shared) (H : Hp) (C : Addr) (cl : List (Str × Addr)) (fp : List Addr), NamesOk (X.blk s H scope (compEnvC scope cl C X.env) fp) Mb Lb → FG (X.blk s H scope (compEnvC scope cl C X.env) fp) PN σ0 tg1 g1 ts1)
    (ht1' : ∀ (s : Shared) (H : Hp) (C : Addr) (cl : List (Str × Addr)) (fp : List Addr), NamesOk (X.blk s H scope (compEnvC scope cl C X.env) fp) Mb Lb → FTs (X.blk s H scope (compEnvC scope cl C X.env) fp) PN σ0 W0 ifs1 c1)
    (he' : ∀ (s : Shared) (H : Hp) (C : Addr) (cl : List (Str × Addr)) (fp : List Addr), NamesOk (X.blk s H scope (compEnvC scope cl C X.env) fp) Mb Lb → FE (X.blk s H scope (compEnvC scope cl C X.env) fp) PN σ0 W0 elt f)
    (hv : ∀ i ∈ ov1, i ∈ own.map (·.2) := by decide) (hts : ∀ i ∈ ts, i ∈ own.map (·.2) := by decide) (hts1 : ∀ i ∈ ts1, i ∈ ov1 := by decide) (hpn : ∀ i ∈ own.map (·.2), i ∉ PN := by decide) (hs : ∀ x, foldedSetIterable iter X.env x = pure x := by intro _; rfl) (hs1 : ∀ env x, foldedSetIterable iter1 env x = pure x := by intro _ _; rfl) :
    FE X PN σ0 W (.ListComp elt [⟨tg, iter, ifs, 0⟩, ⟨tg1, iter1, ifs1, 0⟩] scope pos) (xLc2 (own.map (·.2)) ov1 gi g c gi1 g1 c1 f) := by
  obtain ⟨ti, pi, qi⟩ := hi.ex
  exact ⟨_, pe_lc2 (g := cG X PN σ0 g ts) (tt := cT X PN σ0 W0 c) (wi1 := cI X PN σ0 W0 gi1) (g1 := cG X PN σ0 g1 ts1) (tt1 := cT X PN σ0 W0 c1) (te := cE X PN σ0 W0 f) C.calm hN pi ok hv (fun s H C cl fp => (hg' s H C cl fp (hn s H C cl fp)).pg) (fun s H C cl fp => (ht' s H C cl fp (hn s H C cl fp)).pt)
    (fun s H C cl fp => (hi1' s H C cl fp (hn s H C cl fp)).pi) (fun s H C cl fp => (hg1' s H C cl fp (hn s H C cl fp)).pg) (fun s H C cl fp => (ht1' s H C cl fp (hn s H C cl fp)).pt) (fun s H C cl fp => (he' s H C cl fp (hn s H C cl fp)).pe) hs hs1,
    fun F B H σ ρ Q S q => lc2_red qi hts hts1 (fun i hi => hpn i (hv i hi)) hv hpn S q⟩
end
end FV

namespace FV
open PySem PySem.Spec PyProof.Rows L2
/-! ### {}; all, any -/
def xDic0 : FX := fun ρ => .ok (.ow (.dic [])) ρ
def boolsD : List D → Option (List Bool)
  | [] => some []
  | .bl i :: r => (boolsD r).map fun l => i :: l
  | _ :: _ => none
theorem boolsD_rep {K : PySem.W.Frag} {mg : Str → Option Value} {B : Hp} : ∀ {ds : List D} {vs : List L2.V} {l : List Bool}, RepL K mg B vs ds → boolsD ds = some l → vs = l.map L2.V.bl
  | [], _, l, .nil, h => by cases h; rfl
  | d :: ds, _, l, .cons p q, h => by
    cases d with
    | bl i =>
      simp only [boolsD] at h
      cases e : boolsD ds with
      | none => rw [e] at h; cases h
      | some m =>
        rw [e] at h; cases h
        cases p
        rw [boolsD_rep q e]; rfl
    | _ => simp [boolsD] at h
theorem boolsD_map : ∀ {l : List Bool}, boolsD (l.map .bl) = some l
  | [] => rfl
  | i :: l => by rw [List.map_cons, boolsD, boolsD_map]; rfl
def gAll : List D → Option Sl
  | [.lst ds] => (boolsD ds).map fun l => .fz (.bl (l.all id))
  | _ => none
def gAny : List D → Option Sl
  | [.lst ds] => (boolsD ds).map fun l => .fz (.bl (l.any id))
  | _ => none
section
variable {X : Cx} {PN : List Nat} {σ0 : Gs} {W : WX} {k : Nat}
theorem fe_dic0 {pos : Pos} : FE X PN σ0 W (.Dict [] [] pos) xDic0 := ⟨_, pe_dnewK, fun F B H σ ρ Q S q p n => by
  exact q _ _ B (Ext.refl B) (S.alloc n) ⟨p, rfl, S.fn n, S.bn n, ⟨[], upd_same, rfl, .nil⟩, S.apart n, S.apartU n⟩⟩
theorem cb_all (hc : X.calm = true) : ∃ r, CallR X (.builtin "all") r ∧ OpN X r gAll := ⟨_, cr_all hc, fun PN σ0 F B H σ ρ vs ds s Q S hp hg q => by
  unfold gAll at hg
  split at hg
  · rename_i ds
    cases e : boolsD ds with
    | none => rw [e] at hg; cases hg
    | some l =>
      rw [e] at hg; cases hg
      obtain ⟨v, rfl, r⟩ := paired1 hp
      obtain ⟨a, xs, rfl, h1, h2⟩ := r.lst S.bh
      have := boolsD_rep h2 e
      subst this
      exact ⟨a, l, rfl, .inl (.inl h1), q.flat S (.bl _)⟩
  · cases hg⟩
theorem cb_any (hc : X.calm = true) : ∃ r, CallR X (.builtin "any") r ∧ OpN X r gAny := ⟨_, cr_any hc, fun PN σ0 F B H σ ρ vs ds s Q S hp hg q => by
  unfold gAny at hg
  split at hg
  · rename_i ds
    cases e : boolsD ds with
    | none => rw [e] at hg; cases hg
    | some l =>
      rw [e] at hg; cases hg
      obtain ⟨v, rfl, r⟩ := paired1 hp
      obtain ⟨a, xs, rfl, h1, h2⟩ := r.lst S.bh
      have := boolsD_rep h2 e
      subst this
      exact ⟨a, l, rfl, .inl (.inl h1), q.flat S (.bl _)⟩
  · cases hg⟩
end
end FV

namespace FV
open PySem PySem.Spec PyProof.Rows L2
/-! ### methods of texts -/
abbrev GS := Str → List D → Option Sl
def StrM (X : Cx) (r : L2.V → List L2.V → Hp → VK → Prop) (g : GS) : Prop := ∀ PN σ0 F B H σ ρ a vs ds s Q, Sat X.K X.mg PN σ0 F B H σ ρ → RepL X.K X.mg B vs ds → g a ds = some s → Fin X PN σ0 F B σ ρ s Q → r (.str a) vs H Q
def kSm0 (g : GS) (r : R Sl) : R Sl := match r with
  | .ok (.fz (.str a)) ρ => ofO (g a []) ρ
  | .ok _ _ => .bad
  | .exc c fs ρ => .exc c fs ρ
  | .bad => .bad
def xSm0 (g : GS) (f : FX) : FX := fun ρ => kSm0 g (xF f ρ)
def kSm2 (g : GS) (a : Str) (r : R Sl) : R Sl := match r with
  | .ok (.fz d) ρ => ofO (g a [d]) ρ
  | .ok _ _ => .bad
  | .exc c fs ρ => .exc c fs ρ
  | .bad => .bad
def kSm1 (g : GS) (fe : FX) (r : R Sl) : R Sl := match r with
  | .ok (.fz (.str a)) ρ => kSm2 g a (xF fe ρ)
  | .ok _ _ => .bad
  | .exc c fs ρ => .exc c fs ρ
  | .bad => .bad
def xSm1 (g : GS) (f fe : FX) : FX := fun ρ => kSm1 g fe (xF f ρ)
section
variable {X : Cx} {PN : List Nat} {σ0 : Gs} {W : WX} {k : Nat}
theorem fe_sm0 {id : String} {name : Str} {apos pos : Pos} {o : Expr} {f : FX} {g : GS} (slot : Slot "str" name id) (ty : typeOf (.builtin id) = pure (.type "method_descriptor")) (h : ∃ r, MtR X id r ∧ StrM X r g) (ho : FE X PN σ0 W o f)
    (hbase : attributeBase o name X.env (eval o X.env) = eval o X.env := by rfl) (hline : (apos.endLine == pos.line) = true := by rfl) : FE X PN σ0 W (.Call (.Attribute o name apos) [] [] pos) (xSm0 g f) := by
  obtain ⟨r, r1, r2⟩ := h
  obtain ⟨t, pt, qt⟩ := (fe_f ho).ex
  refine ⟨_, pe_m0 slot ty r1 pt hbase hline, fun F B H σ ρ Q S q => qt F B H σ ρ _ S ?_⟩
  unfold xSm0 at q
  cases er : xF f ρ with
  | bad => rw [er] at q; exact q
  | exc c fs ρ1 => rw [er] at q; exact q
  | ok s ρ1 =>
    rw [er] at q
    intro v H1 B1 e1 S1 z
    cases s with
    | fz d =>
      cases d with
      | str a =>
        cases z
        simp only [kSm0] at q
        cases eg : g a [] with
        | none => rw [eg] at q; exact q.elim
        | some s =>
          rw [eg] at q
          exact ⟨⟨a, rfl⟩, r2 PN σ0 F B1 H1 σ ρ1 a [] [] s Q S1 .nil eg fun v H' B' e S' y => q v H' B' (e1.trans e) S' y⟩
      | _ => exact q.elim
    | _ => exact q.elim
theorem fe_sm1 {id : String} {name : Str} {apos pos : Pos} {o e : Expr} {f fe : FX} {g : GS} (slot : Slot "str" name id) (ty : typeOf (.builtin id) = pure (.type "method_descriptor")) (h : ∃ r, MtR X id r ∧ StrM X r g) (ho : FE X PN σ0 W o f) (he : FE X PN σ0 W e fe)
    (hs : starEach [e] X.env = [(false, eval e X.env)] := by rfl) (hbase : attributeBase o name X.env (eval o X.env) = eval o X.env := by rfl) (hline : (apos.endLine == pos.line) = true := by rfl) : FE X PN σ0 W (.Call (.Attribute o name apos) [e] [] pos) (xSm1 g f fe) := by
  obtain ⟨r, r1, r2⟩ := h
  obtain ⟨t, pt, qt⟩ := (fe_f ho).ex
  obtain ⟨te, pe, qe⟩ := (fe_f he).ex
  refine ⟨_, pe_m1 slot ty r1 pt pe hs hbase hline, fun F B H σ ρ Q S q => qt F B H σ ρ _ S ?_⟩
  unfold xSm1 at q
  cases er : xF f ρ with
  | bad => rw [er] at q; exact q
  | exc c fs ρ1 => rw [er] at q; exact q
  | ok s ρ1 =>
    rw [er] at q
    intro v H1 B1 e1 S1 z
    cases s with
    | fz d =>
      cases d with
      | str a =>
        cases z
        simp only [kSm1] at q
        refine ⟨⟨a, rfl⟩, qe F B1 H1 σ ρ1 _ S1 ?_⟩
        cases ee : xF fe ρ1 with
        | bad => rw [ee] at q; exact q.elim
        | exc c fs ρ2 => rw [ee] at q; exact fun cls od H' B' e S2 z => q cls od H' B' (e1.trans e) S2 z
        | ok s2 ρ2 =>
          rw [ee] at q
          intro w H2 B2 e2 S2 z2
          cases s2 with
          | fz d2 =>
            simp only [kSm2] at q
            cases eg : g a [d2] with
            | none => rw [eg] at q; exact q.elim
            | some s =>
              rw [eg] at q
              exact r2 PN σ0 F B2 H2 σ ρ2 a [w] [d2] s Q S2 (.cons z2 .nil) eg fun v H' B' e S' y => q v H' B' ((e1.trans e2).trans e) S' y
          | _ => exact q.elim
      | _ => exact q.elim
    | _ => exact q.elim
def gs1 (f : Str → Str → D) : GS := fun a ds => match ds with
  | [.str b] => some (.fz (f a b))
  | _ => none
def gs0 (f : Str → Str) : GS := fun a ds => if a.length ≤ 1000000 then match ds with
  | [] => some (.fz (.str (f a)))
  | _ => none else none
theorem sm1_of {r : L2.V → List L2.V → Hp → VK → Prop} {f : Str → Str → D} {fv : Str → Str → L2.V} (hr : ∀ a b H Q, Q (fv a b) H → r (.str a) [.str b] H Q) (hf : ∀ B a b, Rep X.K X.mg B (fv a b) (f a b)) : StrM X r (gs1 f) := by
  intro PN σ0 F B H σ ρ a vs ds s Q S rl hg q
  unfold gs1 at hg
  split at hg
  · rename_i b
    cases hg
    cases rl with
    | cons p1 p2 =>
      cases p2
      cases p1
      exact hr a b H Q (q.flat S (hf B a b))
  · cases hg
theorem sm_find : ∃ r, MtR X "str.find" r ∧ StrM X r (gs1 fun a b => .int (Txt.find a b)) := ⟨_, mt_find, sm1_of (fv := fun a b => .int (Txt.find a b)) (fun a b H Q q => ⟨a, b, rfl, rfl, q⟩) fun _ _ _ => .int _⟩
theorem sm_count : ∃ r, MtR X "str.count" r ∧ StrM X r (gs1 fun a b => .int (Txt.count a b)) := ⟨_, mt_count, sm1_of (fv := fun a b => .int (Txt.count a b)) (fun a b H Q q => ⟨a, b, rfl, rfl, q⟩) fun _ _ _ => .int _⟩
theorem sm_startswith : ∃ r, MtR X "str.startswith" r ∧ StrM X r (gs1 fun a b => .bl (Txt.startswith a b)) := ⟨_, mt_startswith, sm1_of (fv := fun a b => .bl (Txt.startswith a b)) (fun a b H Q q => ⟨a, b, rfl, rfl, q⟩) fun _ _ _ => .bl _⟩
theorem sm0_of {r : L2.V → List L2.V → Hp → VK → Prop} {f : Str → Str} (hr : ∀ a H Q, a.length ≤ 1000000 → Q (.str (f a)) H → r (.str a) [] H Q) : StrM X r (gs0 f) := by
  intro PN σ0 F B H σ ρ a vs ds s Q S rl hg q
  unfold gs0 at hg
  split at hg
  · rename_i hl
    split at hg
    · cases hg
      cases rl
      exact hr a H Q hl (q.flat S (.str _))
    · cases hg
  · cases hg
theorem sm_upper : ∃ r, MtR X "str.upper" r ∧ StrM X r (gs0 Txt.upper) := ⟨_, mt_upper, sm0_of fun a H Q hl q => ⟨a, rfl, rfl, by omega, q⟩⟩
theorem sm_lower : ∃ r, MtR X "str.lower" r ∧ StrM X r (gs0 Txt.lower) := ⟨_, mt_lower, sm0_of fun a H Q hl q => ⟨a, rfl, rfl, by omega, q⟩⟩
end
end FV

namespace FV
open PySem PySem.Spec PyProof.Rows L2
/-! ### a statement that only looks at the tree -/
section
variable {K : PySem.W.Frag} {mg : Str → Option Value} {PN : List Nat} {σ0 : Gs} {σ τ : L2.St} {F B B' H H' : Hp} {ρ ρ1 : En} {i : Nat} {t : T} {v : L2.V}
theorem Sat.show2 (S : Sat K mg PN σ0 F B H σ ρ) (hi : ρ[i]? = some (Sl.dp t)) (hv : σ[i]? = some (some v)) (hτ : τ[i]? = some (some v)) (e : Ext B B') (S1 : Sat K mg PN (σ0.see (i, v, t, treeH H v t)) (treeF F H v t) B' H' τ ρ1) :
    Sat K mg PN σ0 F B' H' τ (ρ1.set i (.dp t)) ∧ ∀ w s, VOk K mg (treeF F H v t) B' H' τ ρ1 w s → VOk K mg F B' H' τ (ρ1.set i (.dp t)) w s := by
  have q0 := S.sl i _ hi
  obtain ⟨v', h1, h2, h3, h4⟩ := id q0
  rw [hv] at h1; cases h1
  have keep : ∀ x ∈ fpT H v t, H' x = H x ∧ B' x = none := fun x hx => by
    obtain ⟨o, ho⟩ := h2.there x hx
    have := S1.fh x o (by rw [treeF_in hx]; exact ho)
    exact ⟨this.1.trans ho.symm, this.2⟩
  obtain ⟨o1, o2⟩ := (h2.mono e).at (H' := H') fun x hx => (keep x hx).1
  have fno : ∀ x, treeF F H v t x = none → x ∉ fpT H v t ∧ F x = none := fun x hx => by
    have z : x ∉ fpT H v t := fun z => by
      obtain ⟨o, ho⟩ := h2.there x z
      rw [treeF_in z, ho] at hx; cases hx
    rw [treeF_out z] at hx
    exact ⟨z, hx⟩
  have hsep : ∀ (j k : Nat) (s s' : Sl) (x : Addr), (ρ1.set i (.dp t))[j]? = some s → (ρ1.set i (.dp t))[k]? = some s' → x ∈ fpS H' τ j s → x ∈ fpS H' τ k s' → j = k := fun j k s s' x g1 g2 m1 m2 => by
    rcases set_get_ne g1 with ⟨e1, e2, _⟩ | ⟨n1, k1⟩
    · subst e1; subst e2
      rcases set_get_ne g2 with ⟨e1, e2, _⟩ | ⟨n2, k2⟩
      · exact e1.symm
      · rw [fpS_dp hτ, o2] at m1
        exact ((fno x ((S1.sl k s' k2).free m2).1).1 m1).elim
    · rcases set_get_ne g2 with ⟨e1, e2, _⟩ | ⟨n2, k2⟩
      · subst e1; subst e2
        rw [fpS_dp hτ, o2] at m2
        exact ((fno x ((S1.sl j s k1).free m1).1).1 m2).elim
      · exact S1.sep k1 k2 m1 m2
  refine ⟨⟨by rw [List.length_set]; exact S1.len, S1.pin, S1.gh, S1.bh, fun b u hb => ?_, fun j s hj => ?_, (sep_dj hsep).1, (sep_dj hsep).2, fun q hq => (S.vw q hq).mono e⟩, fun w s h => ?_⟩
  · refine S1.fh b u ?_
    rw [treeF_out fun z => by rw [(h4 b z).1] at hb; cases hb]
    exact hb
  · rcases set_get_ne hj with ⟨rfl, rfl, _⟩ | ⟨n1, g1⟩
    · exact ⟨v, hτ, o1, by rw [o2]; exact h3, by rw [o2]; exact fun x hx => ⟨(h4 x hx).1, (keep x hx).2⟩⟩
    · exact (S1.sl j s g1).move rfl fun x hx => (fno x ((S1.sl j s g1).free hx).1).2
  · cases s with
    | no => exact h
    | dp t2 =>
      refine ⟨h.1, h.2.1, fun x hx => ?_⟩
      obtain ⟨g1, g2, g3⟩ := h.2.2 x hx
      refine ⟨(fno x g1).2, g2, fun j s hj m => ?_⟩
      rcases set_get_ne hj with ⟨rfl, rfl, _⟩ | ⟨n1, k1⟩
      · rw [fpS_dp hτ, o2] at m
        exact (fno x g1).1 m
      · exact g3 j s k1 m
    | fz d => exact h
    | ow d =>
      obtain ⟨a, rfl, g1, g2, g3, g4, g5⟩ := id h
      obtain ⟨q1, q2⟩ := sep_v (σ := τ) (H := H') (ρ := ρ1.set i (.dp t)) (a := a) fun j s hj m => by
        rcases set_get_ne hj with ⟨rfl, rfl, _⟩ | ⟨n1, k1⟩
        · rw [fpS_dp hτ, o2] at m
          exact (fno a g1).1 m
        · exact VOk.sep h k1 (S1.sl j s k1) m
      exact ⟨a, rfl, (fno a g1).2, g2, g3, q1, q2⟩
end
def yVw (i : Nat) (g : T → FY) : FY := fun ρ => match ρ[i]? with
  | some (.dp t) => (match g t (ρ.set i .no) with
    | .ok fl ρ1 => .ok fl (ρ1.set i (.dp t))
    | .exc c fs ρ1 => .exc c fs (ρ1.set i (.dp t))
    | .bad => .bad)
  | _ => .bad
section
variable {X : Cx} {PN : List Nat} {σ0 : Gs} {W : WX} {k : Nat}
theorem fs_view {st : Stmt} {i : Nat} {g : T → FY} (hp : i ∈ PN) (h : ∀ σ1 t, Vw PN σ1 i t → FS X PN σ1 W st (g t)) : FS X PN σ0 W st (yVw i g) := by
  refine ⟨fun D' σ H => ∃ σ1 t, Vw PN σ1 i t ∧ cS X PN σ1 W (g t) D' σ H, ⟨fun pins s σ H D' I ⟨σ1, t, V, F, B, ρ, S, q⟩ => ?_⟩, fun F B H σ ρ D' S q => ?_⟩
  · obtain ⟨tr, p1, p2⟩ := (h σ1 t V).ex
    exact p1.run pins s σ H D' I (p2 F B H σ ρ D' S q)
  · unfold yVw at q
    split at q
    · rename_i t hi
      obtain ⟨v, hv, _⟩ := S.sl i _ hi
      have hst : σ0.st[i]? = some (some v) := (S.pin i hp).symm.trans hv
      refine ⟨σ0.see (i, v, t, treeH H v t), t, ⟨hp, v, treeH H v t, hst, List.mem_singleton.2 rfl⟩, treeF F H v t, B, ρ.set i .no, S.hide hi hv, ?_⟩
      have pin : ∀ {B' H' : Hp} {σ' : L2.St} {ρ1 : En}, Sat X.K X.mg PN (σ0.see (i, v, t, treeH H v t)) (treeF F H v t) B' H' σ' ρ1 → σ'[i]? = some (some v) := fun S1 => (S1.pin i hp).trans hst
      cases eg : g t (ρ.set i .no) with
      | bad => rw [eg] at q; exact q
      | exc c fs ρ1 => rw [eg] at q; exact fun cls od σ' H' B' e S1 z => q cls od σ' H' B' e (S.show2 hi hv (pin S1) e S1).1 z
      | ok fl ρ1 =>
        rw [eg] at q
        cases fl with
        | nx => exact fun σ' H' B' e S1 => q σ' H' B' e (S.show2 hi hv (pin S1) e S1).1
        | bk => exact fun σ' H' B' e S1 => q σ' H' B' e (S.show2 hi hv (pin S1) e S1).1
        | ct => exact fun σ' H' B' e S1 => q σ' H' B' e (S.show2 hi hv (pin S1) e S1).1
        | rt s => exact fun w σ' H' B' e S1 z => q w σ' H' B' e (S.show2 hi hv (pin S1) e S1).1 ((S.show2 hi hv (pin S1) e S1).2 w s z)
    · exact q.elim
end
end FV

namespace FV
open PySem PySem.Spec PyProof.Rows L2
section
variable {X : Cx} {PN : List Nat} {σ0 : Gs} {W : WX} {k : Nat}
theorem ft_view {e : Expr} {i : Nat} {g : T → FX} (hp : i ∈ PN) (h : ∀ σ1 t, Vw PN σ1 i t → FT X PN σ1 W e (g t)) : FT X PN σ0 W e (xVw i g) := by
  refine ⟨fun σ H Q => ∃ σ1 t, Vw PN σ1 i t ∧ cT X PN σ1 W (g t) σ H Q, ⟨fun pins s σ H Q I ⟨σ1, t, V, q⟩ => (h σ1 t V).pt.run pins s σ H Q I q⟩, fun F B H σ ρ Q S q => ?_⟩
  unfold xVw at q
  split at q
  · rename_i t hi
    obtain ⟨v, hv, _⟩ := S.sl i _ hi
    refine ⟨σ0.see (i, v, t, treeH H v t), t, ⟨hp, v, treeH H v t, (S.pin i hp).symm.trans hv, List.mem_singleton.2 rfl⟩, treeF F H v t, B, ρ.set i .no, S.hide hi hv, ?_⟩
    cases eg : g t (ρ.set i .no) with
    | bad => rw [eg] at q; exact q
    | exc c fs ρ1 => rw [eg] at q; exact fun cls od H' B' e S1 z => q cls od H' B' e (S.show_ hi hv e S1).1 z
    | ok s ρ1 =>
      rw [eg] at q
      cases s with
      | fz d =>
        cases d with
        | bl b => exact fun H' B' e S1 => q H' B' e (S.show_ hi hv e S1).1
        | _ => exact q.elim
      | _ => exact q.elim
  · exact q.elim
end
/-! ### what a text's proof says of its classes -/
section
variable (P : Program) (w : World) (K : PySem.W.Frag) (mg : Str → Option Value) (base : Heap)
abbrev MF (k : Nat) (c : Str) (ps : List Str) (own : List Bool) (G : GF) : Prop :=
  ∃ C f fd, mg c = some (.ref C) ∧ Mk K C f ∧ FnOk P w K mg base (L2.CX P w) k f fd ps (spF K mg (true :: own) G) ∧ Binds K fd ps []
abbrev TF (k : Nat) (c m : Str) (ps : List Str) (own : List Bool) (G : GF) : Prop :=
  ∃ C f fd, mg c = some (.ref C) ∧ Cls K C ∧ Meth K C m f ∧ FnOk P w K mg base (L2.CX P w) k f fd ps (spF K mg own G) ∧ Binds K fd ps []
end
/-- a method's function -/
structure MethAt (K : PySem.W.Frag) (mg : Str → Option Value) (c m q : Str) (st : Stmt) (ps : List Str) : Prop where
  ex : ∃ C f fd, mg c = some (.ref C) ∧ PySem.W.findIn K (.ref C) m = some (some (.ref f)) ∧ PySem.W.isFn K (.ref f) = true ∧ Fun K m q st f fd ∧ Binds K fd ps []
section
variable {P : Program} {w : World} {K : PySem.W.Frag} {mg : Str → Option Value} {base : Heap} {k : Nat} {c m q : Str} {st : Stmt} {ps : List Str} {own : List Bool} {G : GF}
theorem methAt_mk {h : Heap} (X : K.In h) (Gn : h.Ns mainGlobals mg) {C f : Addr} {oc : Value} {od an : Option Addr} {osl : Array (Option Value)} {kV doc pm cdv ct : Value}
    (aC : PySem.W.nsIn K mainGlobals c = some (some (.ref C))) (a : PySem.W.findIn K (.ref C) m = some (some (.ref f))) (fn : PySem.W.isFn K (.ref f) = true)
    (l : K.lookup f = some ⟨oc, od, .func (PySem.W.fnOf m q (defArgs st) (defBody st) (defScope st) .none kV doc pm an cdv ct), osl⟩)
    (cd : PySem.W.codeIn K cdv q = true) (kp : PySem.W.keepIn K (.ref f) = true)
    (hb : ∀ (kV doc pm : Value) (an : Option Addr) (cdv ct : Value) (us : List Value), us.length = ps.length → bindArgs (PySem.W.fnOf m q (defArgs st) (defBody st) (defScope st) .none kV doc pm an cdv ct) ⟨us, []⟩ = pure (ps.zip us)) : MethAt K mg c m q st ps :=
  ⟨C, f, _, PySem.W.mg_of X Gn aC, a, fn, fun_mk l cd kp, (fun_mk l cd kp).binds hb⟩
theorem tF_mk {cf : List Str} (M : MethAt K mg c m q st ps) (Ck : ClsK K mg c cf) (h : ∀ {f : Addr} {fd : FuncData}, Fun K m q st f fd → FnOk P w K mg base (L2.CX P w) k f fd ps (spF K mg own G)) : TF P w K mg base k c m ps own G := by
  obtain ⟨C, f, fd, hC, a, fn, Fn, b⟩ := M.ex
  obtain ⟨C', h1, h2, _⟩ := Ck.ex
  rw [hC] at h1; cases h1
  exact ⟨C, f, fd, hC, h2, ⟨a, fn, Fn.kp⟩, h Fn, b⟩
theorem mF_mk (M : MethAt K mg c "__init__" q st ps) (hm : ∀ C, mg c = some (.ref C) → PySem.W.makesIn K C = true ∧ PySem.W.keepIn K (.ref C) = true) (h : ∀ {f : Addr} {fd : FuncData}, Fun K "__init__" q st f fd → FnOk P w K mg base (L2.CX P w) k f fd ps (spF K mg (true :: own) G)) : MF P w K mg base k c ps own G := by
  obtain ⟨C, f, fd, hC, a, fn, Fn, b⟩ := M.ex
  obtain ⟨h1, h2⟩ := hm C hC
  exact ⟨C, f, fd, hC, ⟨h1, a, fn, h2⟩, h Fn, b⟩
theorem clsK_of {h : Heap} (X : K.In h) (Gn : h.Ns mainGlobals mg) {cf : List Str} (c1 : (He.Fa.glo c).ok K = true) (c2 : (He.Fa.cls c).ok K = true) (c3 : ∀ f ∈ cf, (He.Fa.noat c f).ok K = true) : ClsK K mg c cf :=
  ⟨_, He.glo_ok X Gn c1, He.cls_ok c2, fun f hf => He.noat_ok (c3 f hf)⟩
end
end FV

namespace FV
open PySem PySem.Spec PyProof.Rows
/-! ### len(set(text)) -/
def dedS (xs : List Str) : List Str := xs.foldl (fun σ v => if σ.any (· == v) then σ else σ ++ [v]) []
theorem dedS_snoc {xs : List Str} {v : Str} : dedS (xs ++ [v]) = if (dedS xs).any (· == v) then dedS xs else dedS xs ++ [v] := by
  unfold dedS
  rw [List.foldl_append]
  rfl
theorem dedS_le : ∀ (n : Nat) (xs : List Str), xs.length = n → (dedS xs).length ≤ n
  | 0, xs, h => by
    rw [List.length_eq_zero_iff.1 h]
    exact Nat.le_refl _
  | n + 1, xs, h => by
    have hne : xs ≠ [] := by intro e; rw [e] at h; simp at h
    rw [← List.dropLast_concat_getLast hne, dedS_snoc]
    have := dedS_le n xs.dropLast (by simp [h])
    split
    · omega
    · rw [List.length_append, List.length_singleton]; omega
theorem dedS_any {k : Str} : ∀ (n : Nat) (xs : List Str), xs.length = n → (dedS xs).any (· == k) = xs.any (· == k)
  | 0, xs, h => by
    rw [List.length_eq_zero_iff.1 h]
    rfl
  | n + 1, xs, h => by
    have hne : xs ≠ [] := by intro e; rw [e] at h; simp at h
    have ih : ∀ k, (dedS xs.dropLast).any (· == k) = xs.dropLast.any (· == k) := fun k => dedS_any n xs.dropLast (by simp [h])
    conv => lhs; rw [← List.dropLast_concat_getLast hne, dedS_snoc]
    conv => rhs; rw [← List.dropLast_concat_getLast hne, List.any_append]
    split
    · rename_i hc
      rw [ih]
      by_cases e : xs.getLast hne = k
      · subst e
        rw [ih] at hc
        rw [hc]
        rfl
      · have hb : (xs.getLast hne == k) = false := by simpa using e
        simp [hb]
    · rw [List.any_append, ih]
section
variable {prog : Program} {w : World} {A : Around} {R : Result → Shared → Prop} {I : Addr} {fp wr : List Addr} {G : Array GenState → Array GenState → Prop} {n : Nat} {P : Nat → Value → Prop} {St : Nat → Shared → Prop}
theorem loopTxt (W : WalksS prog w A.in1 I fp wr G n P St) (S : Addr) (hSf : S ∉ fp) (xs : List Str) (hsz : xs.length = n) (hn1 : n + 1 < scanBound)
    (hval : ∀ i v, P i v → ∃ t y, xs[i]? = some y ∧ v = .str y t) :
    ∀ (k i : Nat) (s : Shared), n - i = k → i ≤ n → St i s →
      s.heap.SetOf (PySem.strKind prog w) S (fun k' => (dedS (xs.take i)).any (· == k')) (dedS (xs.take i)).length →
      (∀ s', Moved (S :: wr) G s s' → s'.heap.SetOf (PySem.strKind prog w) S (fun k' => (dedS xs).any (· == k')) (dedS xs).length → R (.ok (.ret .none)) s') →
      codeAny (model prog w) A (.builtin "set.update.loop" ⟨[.ref S, .ref I], []⟩) R s := by
  have hSw : S ∉ wr := fun h => hSf (W.sub _ h)
  have hsub : ∀ b ∈ wr, b ∈ S :: wr := fun b hb => List.mem_cons_of_mem _ hb
  intro k
  induction k with
  | zero =>
    intro i s hk hi hst hS hR
    have hin : i = n := by omega
    subst hin
    rw [List.take_of_length_le (by omega)] at hS
    refine codeAny_builtin PyProof.Rows.F.entry_set_update_loop ?_
    rw [Around.under_plainId PyProof.Rows.F.plain_set_update_loop _]
    show wpAny _ A.in1 (pyNext (.ref I) >>= _) _ _ s
    refine wpAny_bind (W.done s _ _ hst fun s' hm => ?_)
    show wpAny _ A.in1 (ret Value.none) _ _ s'
    exact wpAny_pure (hR s' (hm.mono hsub) (by
      obtain ⟨o, es, ep, t, ho, rest⟩ := hS
      exact ⟨o, es, ep, t, hm.heap S _ hSw ho, rest⟩))
  | succ k ih =>
    intro i s hk hi hst hS hR
    have hlt : i < n := by omega
    refine codeAny_builtin PyProof.Rows.F.entry_set_update_loop ?_
    rw [Around.under_plainId PyProof.Rows.F.plain_set_update_loop _]
    show wpAny _ A.in1 (pyNext (.ref I) >>= _) _ _ s
    refine wpAny_bind (W.item i s _ _ hlt hst fun v s' hP hst' hm => ?_)
    obtain ⟨t, y, hy, rfl⟩ := hval i v hP
    have hS' : s'.heap.SetOf (PySem.strKind prog w) S (fun k' => (dedS (xs.take i)).any (· == k')) (dedS (xs.take i)).length := by
      obtain ⟨o, es, ep, tb, ho, rest⟩ := hS
      exact ⟨o, es, ep, tb, hm.heap S _ hSw ho, rest⟩
    show wpAny _ A.in1 (holding [Value.str y t] (setAdd S (.str y t)) >>= _) _ _ s'
    refine wpAny_bind (wpAny_holding ?_)
    unfold setAdd
    refine wpAny_holding ?_
    refine wpAny_bind ((PySem.strKind prog w).pyHash (k := y) (strKind_is _ _ _ _) ?_)
    have hle : (dedS (xs.take i)).length ≤ i := dedS_le i _ (by rw [List.length_take]; omega)
    refine wpAny_setAddHashed_of (knd := PySem.strKind prog w) (s := { s' with toks := s'.toks + 1 }) (strKind_is _ _ _ _) rfl hS' (by omega) fun h' hsb hS2 => ?_
    have htk : xs.take (i + 1) = xs.take i ++ [y] := by rw [List.take_add_one, hy]; rfl
    have hSi : h'.SetOf (PySem.strKind prog w) S (fun k' => (dedS (xs.take (i + 1))).any (· == k')) (dedS (xs.take (i + 1))).length := by
      refine SetOf_congr hS2 (fun k' => ?_) ?_
      · rw [htk, dedS_snoc]
        split
        · rename_i hc
          by_cases e : k' = y
          · subst e; rw [hc]; simp
          · simp [e]
        · rw [List.any_append]
          by_cases e : k' = y
          · subst e; simp
          · have hb : (y == k') = false := by simpa using fun h' : y = k' => e h'.symm
            simp [hb, e]
      · rw [htk, dedS_snoc]
        split
        · rfl
        · rw [List.length_append, List.length_singleton]
    refine wpAny_pure ⟨plainId_quiet PyProof.Rows.F.plain_set_update_loop _, ih (i + 1) _ (by omega) hlt (W.frame _ s' _ _ hst' (Nat.le_succ _) fun b hb o e => ?_) hSi fun s'' hm'' hS'' => ?_⟩
    · rw [hsb.2 b (fun h : b = S => hSf (by rw [← h]; exact hb))]; exact e
    · refine hR s'' (Moved.trans W.gtrans ((hm.mono hsub).then_heap (Nat.le_succ _) fun b o hb e => ?_) hm'') hS''
      rw [hsb.2 b (fun h : b = S => hb (by rw [h]; exact List.mem_cons_self))]; exact e
end
def signs (x : Str) : List Str := x.cps.toList.map fun c => ⟨#[c]⟩
theorem signs_len {x : Str} : (signs x).length = x.cps.size := by unfold signs; rw [List.length_map, Array.length_toList]
theorem sub_str_set : isSubtype (.type "str") (.type "set") = pure false := by rw [isSubtype_type]; kernel_rfl
theorem sub_str_frozenset : isSubtype (.type "str") (.type "frozenset") = pure false := by rw [isSubtype_type]; kernel_rfl
section
variable {prog : Program} {w : World} {A : Around} {E : Value → Shared → Prop} {s : Shared}
theorem call_set_text {x : Str} {t0 : Tok} {Q : Value → Shared → Prop}
    (hh : A.handled = none) (hn1 : x.cps.size + 1 < scanBound)
    (h : ∀ (h' : Heap) (tk : Nat), h'.SetOf (PySem.strKind prog w) s.heap.objs.size (fun k' => (dedS (signs x)).any (· == k')) (dedS (signs x)).length →
      (∀ b o, b < s.heap.objs.size → s.heap.get? b = some o → h'.get? b = some o) → Q (.ref s.heap.objs.size) { s with heap := h', toks := tk }) :
    wpAny (model prog w) A (call (.type "set") [.str x t0]) Q E s := by
  obtain ⟨c, tl, hmro⟩ := PySem.F.called_set.mro
  have hmade := PySem.F.called_set.made
  have hsub := PySem.F.called_set.sub
  refine wpAny_call (codeAny_of_tree ?_)
  show wpAny _ _ (callAny (.type "set") _) _ _ _
  refine wpAny_pure ⟨Code.quiet_builtin _ (by decide +kernel), codeAny_builtin PySem.F.entry_type_call ?_⟩
  rw [Around.under_plain (weight_type_call_type "set" [.str x t0] []) rfl]
  have h1 := PySem.F.called_set.notType
  have h2 := PySem.F.called_set.canCreate
  have hct := PySem.F.typeCall_set_1 (.str x t0)
  repeat (any_goals (first | assumption | wp_step))

  refine codeAny_mono (code_set_new_1 (.str x t0) (E := E) (Q₁ := fun obj s₁ => ∃ led : Bool, obj = .ref s.heap.objs.size ∧ s₁ = { s with heap := s.heap.push { cls := .type "set", dict := none, data := .set #[] 0 (.fresh 0 0 led) } }) fun led => ⟨led, rfl, rfl⟩) fun r s₁ hr => ?_
  cases r with
  | error e => exact hr
  | ok fl =>
    cases fl with
    | ret obj =>
      obtain ⟨led, rfl, rfl⟩ := hr
      have hS : (s.heap.push { cls := .type "set", dict := none, data := .set #[] 0 (.fresh 0 0 led) }).get? s.heap.objs.size = some { cls := .type "set", dict := none, data := .set #[] 0 (.fresh 0 0 led) } := Heap.get?_push_size _ rfl
      have hT : Shared.TypeIs { s with heap := s.heap.push { cls := .type "set", dict := none, data := .set #[] 0 (.fresh 0 0 led) } } (.ref s.heap.objs.size) "set" := ⟨_, hS, rfl⟩
      have hli := PySem.F.called_set.init.lookup
      have hbi := PySem.F.called_set.init.bind (.ref s.heap.objs.size)
      repeat (any_goals (first | assumption | wp_step))

      refine codeAny_mono (codeAny_call_builtin (R := wants (fun r s₂ => r = .none ∧ ∃ h' tk, s₂ = { s with heap := h', toks := tk } ∧
          h'.SetOf (PySem.strKind prog w) s.heap.objs.size (fun k' => (dedS (signs x)).any (· == k')) (dedS (signs x)).length ∧
          (∀ b o, b < s.heap.objs.size → s.heap.get? b = some o → h'.get? b = some o)) E) PySem.F.called_set.init.plain PySem.F.entry_set_init (check_set_init_1 hT ?_)) fun r₂ s₂ hr₂ => ?_
      · have hsls := sub_str_set
        have hslf := sub_str_frozenset
        have hne : (Value.type "str" == Value.type "dict") = false := by decide
        unfold Builtin.«set.__init__» noKeywords Builtin.Frozenset.updateFrom
        generalize hPI : pyIter = PI
        wp_walk
        subst hPI

        refine wpAny_pyIter_str fun ob St hW hSt => ?_
        refine wpAny_bind (wpAny_runValue ?_)
        have hh3 : A.in1.in1.in1.handled = none := by simp [hh]
        have hSf : s.heap.objs.size ∉ [(s.heap.push { cls := .type "set", dict := none, data := .set #[] 0 (.fresh 0 0 led) }).objs.size] := by
          rw [Heap.size_push]; simp only [List.mem_singleton]
          exact Nat.ne_of_lt (Nat.lt_succ_self _)
        refine loopTxt ((hW _ hh3).toS) s.heap.objs.size hSf (signs x) signs_len hn1 (fun i v hv => ?_) (x.cps.size - 0) 0 _ (by omega) (Nat.zero_le _) hSt ?hS0 ?hR
        · obtain ⟨c, u, hc, rfl⟩ := hv
          refine ⟨u, ⟨#[c]⟩, ?_, rfl⟩
          unfold signs
          rw [List.getElem?_map, Array.getElem?_toList, hc]
          rfl
        case hS0 =>
          have hget : ((s.heap.push { cls := .type "set", dict := none, data := .set #[] 0 (.fresh 0 0 led) }).push ob).get? s.heap.objs.size
              = some { cls := .type "set", dict := none, data := .set #[] 0 (.fresh 0 0 led) } := Heap.get?_push_of_some _ hS
          exact PyProof.Rows.SetOf_congr ((PyProof.Rows.setObjOf_fresh (knd := PySem.strKind prog w) led).setOf hget (by unfold scanBound; omega)) (fun _ => rfl) rfl
        case hR =>
          intro s' hm hS'
          obtain ⟨h', g', d', tk', os'⟩ := s'
          have eg : g' = s.gens := hm.gens
          have ed : d' = s.drawn := hm.drawn
          have eo : os' = s.os := hm.os
          subst eg; subst ed; subst eo
          show wpAny _ _ _ _ _ _
          refine wpAny_pure ?_
          show wpAny _ _ (ret Value.none) _ _ _
          refine wpAny_pure ⟨rfl, h', tk', rfl, hS', fun b o hb e => ?_⟩
          have hb1 : b ≠ s.heap.objs.size := Nat.ne_of_lt hb
          have hb2 : b ≠ (s.heap.push { cls := .type "set", dict := none, data := .set #[] 0 (.fresh 0 0 led) }).objs.size := by
            rw [Heap.size_push]; exact Nat.ne_of_lt (Nat.lt_succ_of_lt hb)
          exact hm.heap b o (by simp only [List.mem_cons, List.mem_singleton, List.not_mem_nil, or_false, not_or]; exact ⟨hb1, hb2⟩) (Heap.get?_push_of_some _ (Heap.get?_push_of_some _ e))

      · cases r₂ with
        | error e => exact hr₂
        | ok fl₂ =>
          cases fl₂ with
          | ret r =>
            obtain ⟨rfl, h', tk, rfl, hS', hk'⟩ := hr₂
            repeat (any_goals (first | assumption | wp_step))
            exact h _ _ hS' hk'
          | _ => exact hr₂.elim
    | _ => exact hr.elim
end
end FV
namespace FV
open PySem PySem.Spec PyProof.Rows L2
section
variable {X : Cx} {PN : List Nat} {σ0 : Gs} {W : WX}
def tLenSetX (ta : TE) : TE := fun σ H Q => ta σ H fun v H1 => ∃ x : Str, v = .str x ∧ x.cps.size ≤ 1000 ∧ Q (.int ((dedS (signs x)).length : Nat)) H1
theorem pe_lenSetX {a : Expr} {ta : TE} {p p2 q pos : Pos} (hc : X.calm = true) (hg : Gl X "len") (hm : X.mg "len" = none) (hg2 : Gl X "set") (hm2 : X.mg "set" = none) (ha : PE X a ta)
    (na : starEach [a] X.env = (false, eval a X.env) :: starEach [] X.env := by rfl) : PE X (.Call (.Name "len" p) [.Call (.Name "set" p2) [a] [] q] [] pos) (tLenSetX ta) := by
  refine ⟨fun pins s σ H Q I h => ?_⟩
  refine Call_ (ld_blt I hg hm boot_len ?_)
  refine PyProof.Rows.callWith_builtin1 (PyProof.Rows.args_cons ?_ rfl) rfl rfl
  refine Call_ (ld_blt I hg2 hm2 boot_set ?_)
  refine PyProof.Rows.callWith_type1 (PyProof.Rows.args_cons (thn (ha.run pins s σ H _ I h) fun v s1 ⟨y, H1, I1, r1, q1⟩ => PyProof.Rows.args_nil ?_) na) na rfl
  obtain ⟨x, rfl, h1, q1⟩ := q1
  obtain ⟨t0, rfl⟩ := r1
  refine call_set_text (I1.ok.hd hc) (by unfold scanBound; omega) fun h' tk hS hk => ?_
  refine PyProof.Rows.args_nil ?_
  have hle := dedS_le _ (signs x) rfl
  rw [signs_len] at hle
  obtain ⟨o, es, ep, t, ho, hex, hd, _, _, _, hf, hn⟩ := hS
  have I2 : Inv X pins σ H1 { s1 with heap := h', toks := tk } := I1.kept fun b o e => hk b o (Heap.lt_size e) e
  refine call_len_set ho hex hd hf (by rw [hn] <;> omega) ⟨.int (dedS (signs x)).length, H1, I2.tok _, ⟨_, by rw [hn]⟩, q1⟩
def kLset (s : Sl) (ρ : En) : R Sl := match s with
  | .fz (.str x) => if x.cps.size ≤ 1000 then .ok (.fz (.int ((dedS (signs x)).length : Nat))) ρ else .bad
  | _ => .bad
def xLset (f : FX) : FX := fun ρ => match xF f ρ with
  | .ok s ρ1 => kLset s ρ1
  | .exc c fs ρ1 => .exc c fs ρ1
  | .bad => .bad
theorem fe_lset {a : Expr} {f : FX} {p p2 q pos : Pos} (hc : X.calm = true) (b1 : Blt X "len") (b2 : Blt X "set") (ha : FE X PN σ0 W a f)
    (na : starEach [a] X.env = (false, eval a X.env) :: starEach [] X.env := by rfl) : FE X PN σ0 W (.Call (.Name "len" p) [.Call (.Name "set" p2) [a] [] q] [] pos) (xLset f) := by
  obtain ⟨t, pt, qt⟩ := (fe_f ha).ex
  refine ⟨_, pe_lenSetX hc b1.gl b1.no b2.gl b2.no pt na, fun F B H σ ρ Q S q => qt F B H σ ρ _ S ?_⟩
  unfold xLset at q
  cases er : xF f ρ with
  | bad => rw [er] at q; exact q
  | exc c fs ρ1 => rw [er] at q; exact q
  | ok s ρ1 =>
    rw [er] at q
    intro v H1 B1 e1 S1 z
    simp only at q
    unfold kLset at q
    split at q
    · rename_i x
      split at q
      · rename_i hl
        cases z
        exact ⟨x, rfl, hl, q _ H1 B1 e1 S1 (.int _)⟩
      · exact q.elim
    · exact q.elim
/-! ### what is walked, while a tree is looked at -/
def wVw (i : Nat) (g : T → En → R (List D)) : En → R (List D) := fun ρ => match ρ[i]? with
  | some (.dp t) => (match g t (ρ.set i .no) with
    | .ok s ρ1 => .ok s (ρ1.set i (.dp t))
    | .exc c fs ρ1 => .exc c fs (ρ1.set i (.dp t))
    | .bad => .bad)
  | _ => .bad
theorem fi_view {tg iter : Expr} {i : Nat} {g : T → En → R (List D)} (hp : i ∈ PN) (h : ∀ σ1 t, Vw PN σ1 i t → FI X PN σ1 W tg iter (g t)) : FI X PN σ0 W tg iter (wVw i g) := by
  refine ⟨fun σ H Rr => ∃ σ1 t, Vw PN σ1 i t ∧ cI X PN σ1 W (g t) σ H Rr, ⟨fun pins s σ H Rr I ⟨σ1, t, V, q⟩ => (h σ1 t V).pi.run pins s σ H Rr I q⟩, fun F B H σ ρ Rr S q => ?_⟩
  unfold wVw at q
  split at q
  · rename_i t hi
    obtain ⟨v, hv, _⟩ := S.sl i _ hi
    refine ⟨σ0.see (i, v, t, treeH H v t), t, ⟨hp, v, treeH H v t, (S.pin i hp).symm.trans hv, List.mem_singleton.2 rfl⟩, treeF F H v t, B, ρ.set i .no, S.hide hi hv, ?_⟩
    cases eg : g t (ρ.set i .no) with
    | bad => rw [eg] at q; exact q
    | exc c fs ρ1 => rw [eg] at q; exact fun cls od H' B' e S1 z => q cls od H' B' e (S.show_ hi hv e S1).1 z
    | ok s ρ1 => rw [eg] at q; exact fun J H' B' e S1 z => q J H' B' e (S.show_ hi hv e S1).1 z
  · exact q.elim
end
end FV

namespace FV
open PySem PySem.Spec PyProof.Rows L2
/-! ### try with several clauses, no names -/
def kMany : List (Mt × FY) → Str → List (Str × D) → En → R Fl
  | [], c, fs, ρ => .exc c fs ρ
  | (mt, f) :: r, c, fs, ρ => match mt c with
    | some true => (match f ρ with
      | .ok fl ρ2 => .ok fl ρ2
      | _ => .bad)
    | some false => kMany r c fs ρ
    | none => .bad
def yTryM (l : List (Mt × FY)) (g : FY) : FY := fun ρ => match g ρ with
  | .exc c fs ρ1 => kMany l c fs ρ1
  | .ok fl ρ1 => .ok fl ρ1
  | .bad => .bad
section
variable {X : Cx} {PN : List Nat} {σ0 : Gs} {W : WX} {k : Nat}
inductive FHs (X : Cx) (PN : List Nat) (σ0 : Gs) : List ExceptHandler → List (Mt × FY) → Prop
  | nil : FHs X PN σ0 [] []
  | cons {x : Str} {hc : Value} {mt : Mt} {b₀ : Stmt} {suite : List Stmt} {np pos' : Pos} {f : FY} {hds : List ExceptHandler} {l : List (Mt × FY)} (hnm : Names X x hc) (hmt : MtOk X hc mt)
      (hsu : ∀ (a : Addr) (oe : Obj) (pn : List (Addr × Obj)), FB (X.suite a ((a, oe) :: pn)) PN σ0 W0 (b₀ :: suite) f) (r : FHs X PN σ0 hds l) :
      FHs X PN σ0 (.ExceptHandler (some (.Name x np)) none (b₀ :: suite) pos' :: hds) ((mt, f) :: l)
theorem FHs.many {hds : List ExceptHandler} {l : List (Mt × FY)} (h : FHs X PN σ0 hds l) : ∃ l', HdsOk X hds l' ∧
    ∀ (F B H : Hp) (σ : L2.St) (ρ : En) (c : Str) (fs : List (Str × D)) (cls : Value) (od : Option Addr) (D' : Ends), Sat X.K X.mg PN σ0 F B H σ ρ → ExcOk X.K X.mg B c fs cls od → SPost X PN σ0 W F B (kMany l c fs ρ) D' → wMany X.K W D' l' cls od σ H := by
  induction h with
  | nil => exact ⟨[], .nil, fun F B H σ ρ c fs cls od D' S z q => q cls od σ H B (Ext.refl B) S z⟩
  | @cons x hc mt b₀ suite np pos' f hds l hnm hmt hsu r ih =>
    obtain ⟨l', ok, go⟩ := ih
    refine ⟨(hc, fun _ _ _ => cS X PN σ0 W0 f) :: l', .cons hnm (fun a oe cls d pn _ _ => (hsu a oe pn).ps) ok, fun F B H σ ρ c fs cls od D' S z q => ?_⟩
    unfold kMany at q
    obtain ⟨Ca, z1, z2, z3⟩ := id z
    cases em : mt c with
    | none => rw [em] at q; exact q.elim
    | some b =>
      rw [em] at q
      subst z2
      refine ⟨b, hmt c b Ca em z1, fun hb a ha => ⟨F, B, ρ, S, ?_⟩, fun hb => ?_⟩
      · subst hb
        simp only at q
        cases ef : f ρ with
        | bad => rw [ef] at q; exact q.elim
        | exc c2 fs2 ρ2 => rw [ef] at q; exact q.elim
        | ok fl ρ2 =>
          rw [ef] at q
          cases fl with
          | nx => exact q
          | bk => exact q
          | ct => exact q
          | rt s => exact q
      · subst hb
        exact go F B H σ ρ c fs _ od D' S z q
theorem fs_tryM {body : List Stmt} {h₀ : ExceptHandler} {hds : List ExceptHandler} {pos : Pos} {l : List (Mt × FY)} {g : FY} (C : Cok X W k) (hs : X.stack = X.env :: X.outer) (hf : X.env.frame = some X.env.locals)
    (hb : ∀ (W' : WX) (pn : List (Addr × Obj)) (xe : Value → Shared → Prop), Cok (X.tr pn xe) W' k → FB (X.tr pn xe) PN σ0 W' body g) (hh : FHs X PN σ0 (h₀ :: hds) l) :
    FS X PN σ0 W (.Try body (h₀ :: hds) [] [] pos) (yTryM l g) := by
  obtain ⟨l', ok, go⟩ := hh.many (W := W)
  refine ⟨_, ps_try_many (tb := fun W' => cS X PN σ0 W' g) hs hf C.tk (fun W' pn xe tk po => (hb W' pn xe (C.toTry tk po)).ps) ok, fun F B H σ ρ D' S q => ⟨F, B, ρ, S, ?_⟩⟩
  unfold yTryM at q
  cases eg : g ρ with
  | bad => rw [eg] at q; exact q
  | ok fl ρ1 =>
    rw [eg] at q
    cases fl with
    | nx => exact q
    | bk => exact q
    | ct => exact q
    | rt s => exact q
  | exc c fs ρ1 =>
    rw [eg] at q
    exact fun cls od σ' H' B' e' S' z => go F B' H' σ' ρ1 c fs cls od D' S' z (SPost.mono e' q)
end
end FV

namespace FV
open PySem PySem.Spec PyProof.Rows L2
/-! ### an owned list that is held still while an expression or a statement walks it -/
section
variable {K : PySem.W.Frag} {mg : Str → Option Value} {PN : List Nat} {σ0 : Gs} {F B H H' : Hp} {σ τ : L2.St} {ρ : En} {i : Nat} {s s' : Sl}
theorem Sat.re (S : Sat K mg PN σ0 F B H σ ρ) (hi : ρ[i]? = some s) (h : SlOk K mg F B H σ i s') (hf : fpS H σ i s' = fpS H σ i s) : Sat K mg PN σ0 F B H σ (ρ.set i s') := by
  have hsep : ∀ (j k : Nat) (u u' : Sl) (x : Addr), (ρ.set i s')[j]? = some u → (ρ.set i s')[k]? = some u' → x ∈ fpS H σ j u → x ∈ fpS H σ k u' → j = k := fun j k u u' x g1 g2 m1 m2 => by
    rcases set_get_ne g1 with ⟨rfl, rfl, _⟩ | ⟨n1, k1⟩
    · rcases set_get_ne g2 with ⟨rfl, rfl, _⟩ | ⟨n2, k2⟩
      · rfl
      · rw [hf] at m1; exact S.sep hi k2 m1 m2
    · rcases set_get_ne g2 with ⟨rfl, rfl, _⟩ | ⟨n2, k2⟩
      · rw [hf] at m2; exact S.sep k1 hi m1 m2
      · exact S.sep k1 k2 m1 m2
  refine ⟨by rw [List.length_set]; exact S.len, S.pin, S.gh, S.bh, S.fh, fun j u hj => ?_, (sep_dj hsep).1, (sep_dj hsep).2, S.vw⟩
  rcases set_get_ne hj with ⟨rfl, rfl, _⟩ | ⟨n1, k1⟩
  · exact h
  · exact S.sl j u k1
theorem VOk.re {v : L2.V} {u : Sl} (hi : ρ[i]? = some s) (hf : fpS H σ i s' = fpS H σ i s) (S : Sat K mg PN σ0 F B H σ ρ) (h : VOk K mg F B H σ ρ v u) : VOk K mg F B H σ (ρ.set i s') v u := by
  cases u with
  | no => exact h
  | fz d => exact h
  | dp t =>
    refine ⟨h.1, h.2.1, fun x hx => ⟨(h.2.2 x hx).1, (h.2.2 x hx).2.1, fun j w hj m => ?_⟩⟩
    rcases set_get_ne hj with ⟨rfl, rfl, _⟩ | ⟨n1, k1⟩
    · rw [hf] at m; exact (h.2.2 x hx).2.2 _ s hi m
    · exact (h.2.2 x hx).2.2 j w k1 m
  | ow d =>
    obtain ⟨a, rfl, g1, g2, g3, g4, g5⟩ := id h
    obtain ⟨q1, q2⟩ := sep_v (σ := σ) (H := H) (ρ := ρ.set i s') (a := a) fun j w hj m => by
      rcases set_get_ne hj with ⟨rfl, rfl, _⟩ | ⟨n1, k1⟩
      · rw [hf] at m; exact VOk.sep h hi (S.sl _ s hi) m
      · exact VOk.sep h k1 (S.sl j w k1) m
    exact ⟨a, rfl, g1, g2, g3, q1, q2⟩
theorem fpS_ow_T {d : D} {u : T} (h : SlOk K mg F B H σ i (.ow d)) (e : ofOw d = some u) : SlOk K mg F B H σ i (.dp u) ∧ fpS H σ i (.dp u) = fpS H σ i (.ow d) := by
  obtain ⟨a, h1, h2, h3, h4⟩ := h
  obtain ⟨t1, t2⟩ := OwD_T h4 e
  refine ⟨⟨_, h1, t1, by rw [t2]; exact List.nodup_cons.2 ⟨by simp, List.nodup_nil⟩, fun x hx => ?_⟩, ?_⟩
  · rw [t2] at hx
    rw [List.mem_singleton.1 hx]
    exact ⟨h2, h3⟩
  · rw [fpS_dp h1, fpS_ow h1, t2]
theorem ofOw_flat {d : D} {u : T} (e : ofOw d = some u) : u.flat = some d := by
  cases d with
  | lst ds =>
    cases e
    simp only [T.flat, flatL_map, Option.map_some]
  | dic kds =>
    cases e
    simp only [T.flat, flatL_map, Option.map_some]
    rw [zip_map_self]
  | _ => cases e
where
  zip_map_self : ∀ {l : List (Key × D)}, (l.map (·.1)).zip (l.map (·.2)) = l
    | [] => rfl
    | (a, b) :: l => by rw [List.map_cons, List.map_cons, List.zip_cons_cons, zip_map_self]
theorem fpS_T_ow {X : Cx} {d : D} {u : T} (h : SlOk X.K X.mg F B H σ i (.dp u)) (e : ofOw d = some u) : SlOk X.K X.mg F B H σ i (.ow d) ∧ fpS H σ i (.ow d) = fpS H σ i (.dp u) := by
  obtain ⟨v, h1, h2, h3, h4⟩ := h
  have hn : ∃ a, v = V.ref a ∧ OwnD X.K X.mg B H a d ∧ a ∈ fpT H v u := by
    cases d with
    | lst ds =>
      cases e
      cases h2 with
      | nd k1 k2 k3 =>
        obtain ⟨xs, rfl⟩ := k2
        exact ⟨_, rfl, ⟨xs, k1, OwL.leaves k3⟩, by rw [fpT_nd k1]; exact List.mem_cons_self⟩
    | dic kds =>
      cases e
      cases h2 with
      | nd k1 k2 k3 =>
        obtain ⟨kvs, rfl, hk⟩ := k2
        exact ⟨_, rfl, ⟨kvs, k1, hk, OwL.leaves k3⟩, by rw [fpT_nd k1]; exact List.mem_cons_self⟩
    | _ => cases e
  obtain ⟨a, rfl, o, m⟩ := hn
  have t2 := (OwD_T o e).2
  refine ⟨⟨a, h1, (h4 a m).1, (h4 a m).2, o⟩, ?_⟩
  rw [fpS_dp h1, fpS_ow h1, t2]
end
/-- what is held, as a tree -/
def hOf : Sl → Option T
  | .ow d => ofOw d
  | .fz d => some (.lf d)
  | .dp t => some t
  | .no => none
section
variable {X : Cx} {PN : List Nat} {σ0 : Gs} {F B H H' : Hp} {σ τ : L2.St} {ρ : En} {i : Nat} {s s' : Sl}
theorem SlOk.toT {u : T} (h : SlOk X.K X.mg F B H σ i s) (e : hOf s = some u) : SlOk X.K X.mg F B H σ i (.dp u) ∧ fpS H σ i (.dp u) = fpS H σ i s := by
  cases s with
  | no => cases e
  | dp t => cases e; exact ⟨h, rfl⟩
  | ow d => exact fpS_ow_T h e
  | fz d =>
    cases e
    obtain ⟨v, h1, h2⟩ := h
    exact ⟨⟨v, h1, .lf h2, List.nodup_nil, fun x hx => by cases hx⟩, by rw [fpS_dp h1]; rfl⟩
theorem SlOk.ofT {u : T} (h : SlOk X.K X.mg F B H σ i (.dp u)) (e : hOf s = some u) : SlOk X.K X.mg F B H σ i s ∧ fpS H σ i s = fpS H σ i (.dp u) := by
  cases s with
  | no => cases e
  | dp t => cases e; exact ⟨h, rfl⟩
  | ow d => exact fpS_T_ow h e
  | fz d =>
    cases e
    obtain ⟨v, h1, h2, _⟩ := h
    cases h2 with
    | lf r => exact ⟨⟨v, h1, r⟩, by rw [fpS_dp h1]; rfl⟩
end
def kHo (i : Nat) (s : Sl) (r : R Sl) : R Sl := match r with
  | .ok w ρ1 => if i < ρ1.length then .ok w (ρ1.set i s) else .bad
  | .exc c fs ρ1 => if i < ρ1.length then .exc c fs (ρ1.set i s) else .bad
  | .bad => .bad
def kHo1 (i : Nat) (s : Sl) (o : Option T) (g : T → FX) (ρ : En) : R Sl := match o with
  | some u => kHo i s (g u (ρ.set i .no))
  | none => .bad
def xHo (i : Nat) (g : T → FX) : FX := fun ρ => kHo1 i ((ρ[i]?).getD .no) (hOf ((ρ[i]?).getD .no)) g ρ
def kHoY (i : Nat) (s : Sl) (r : R Fl) : R Fl := match r with
  | .ok w ρ1 => if i < ρ1.length then .ok w (ρ1.set i s) else .bad
  | .exc c fs ρ1 => if i < ρ1.length then .exc c fs (ρ1.set i s) else .bad
  | .bad => .bad
def kHoY1 (i : Nat) (s : Sl) (o : Option T) (g : T → FY) (ρ : En) : R Fl := match o with
  | some u => kHoY i s (g u (ρ.set i .no))
  | none => .bad
def yHo (i : Nat) (g : T → FY) : FY := fun ρ => kHoY1 i ((ρ[i]?).getD .no) (hOf ((ρ[i]?).getD .no)) g ρ
section
variable {X : Cx} {PN : List Nat} {σ0 σ1 : Gs} {W : WX} {k : Nat} {M L : List Bool}
/-- looking, with all slots pinned -/
theorem Sat.pinAll {F B H : Hp} {σ : L2.St} {ρ : En} {i : Nat} (S : Sat X.K X.mg PN σ0 F B H σ ρ) : Sat X.K X.mg (i :: PN) { st := σ, gh := σ0.gh, vw := σ0.vw } F B H σ ρ :=
  ⟨S.len, fun _ _ => rfl, S.gh, S.bh, S.fh, S.sl, S.dj, S.dq, S.vw⟩
theorem Sat.unpin {F B H : Hp} {σ : L2.St} {ρ : En} {i : Nat} {st : L2.St} (S : Sat X.K X.mg (i :: PN) { st := st, gh := σ0.gh, vw := σ0.vw } F B H σ ρ) (h : ∀ j ∈ PN, st[j]? = σ0.st[j]?) : Sat X.K X.mg PN σ0 F B H σ ρ :=
  ⟨S.len, fun j hj => (S.pin j (List.mem_cons_of_mem _ hj)).trans (h j hj), S.gh, S.bh, S.fh, S.sl, S.dj, S.dq, S.vw⟩
theorem set_setS {ρ : En} {i : Nat} {s s' : Sl} : (ρ.set i s).set i s' = ρ.set i s' := List.set_set ..
/-- in -/
theorem Sat.holdIn {F B H : Hp} {σ : L2.St} {ρ : En} {i : Nat} {s : Sl} {u : T} (S : Sat X.K X.mg PN σ0 F B H σ ρ) (hi : ρ[i]? = some s) (e : hOf s = some u) :
    ∃ v, σ[i]? = some (some v) ∧ Sat X.K X.mg (i :: PN) { st := σ, gh := σ0.gh, vw := σ0.vw } F B H σ (ρ.set i (.dp u)) ∧ (ρ.set i (.dp u))[i]? = some (.dp u) ∧
      Vw (i :: PN) (({ st := σ, gh := σ0.gh, vw := σ0.vw } : Gs).see (i, v, u, treeH H v u)) i u ∧ Sat X.K X.mg (i :: PN) (({ st := σ, gh := σ0.gh, vw := σ0.vw } : Gs).see (i, v, u, treeH H v u)) (treeF F H v u) B H σ (ρ.set i .no) := by
  obtain ⟨k1, k2⟩ := (S.sl i s hi).toT e
  obtain ⟨v, hv, _⟩ := id k1
  have S2 := (S.re hi k1 k2).pinAll (i := i)
  have hi2 : (ρ.set i (Sl.dp u))[i]? = some (.dp u) := List.getElem?_set_self (List.getElem?_eq_some_iff.1 hi).1
  have S3 := S2.hide hi2 hv
  rw [set_setS] at S3
  exact ⟨v, hv, S2, hi2, ⟨List.mem_cons_self, v, treeH H v u, hv, List.mem_singleton.2 rfl⟩, S3⟩
theorem Sat.holdOut {F B H B' H' : Hp} {σ τ : L2.St} {ρ ρ1 : En} {i : Nat} {s : Sl} {u : T} {v : L2.V} (S : Sat X.K X.mg PN σ0 F B H σ ρ) (e : hOf s = some u)
    (S2 : Sat X.K X.mg (i :: PN) { st := σ, gh := σ0.gh, vw := σ0.vw } F B H σ (ρ.set i (.dp u))) (hi2 : (ρ.set i (Sl.dp u))[i]? = some (.dp u)) (hv : σ[i]? = some (some v)) (hl : i < ρ1.length)
    (ex : Ext B B') (S4 : Sat X.K X.mg (i :: PN) (({ st := σ, gh := σ0.gh, vw := σ0.vw } : Gs).see (i, v, u, treeH H v u)) (treeF F H v u) B' H' τ ρ1) :
    Sat X.K X.mg PN σ0 F B' H' τ (ρ1.set i s) ∧ ∀ w z, VOk X.K X.mg (treeF F H v u) B' H' τ ρ1 w z → VOk X.K X.mg F B' H' τ (ρ1.set i s) w z := by
  have hτ : τ[i]? = some (some v) := (S4.pin i List.mem_cons_self).trans hv
  obtain ⟨q1, q2⟩ := S2.show2 hi2 hv hτ ex S4
  have q3 : Sat X.K X.mg PN σ0 F B' H' τ (ρ1.set i (.dp u)) := q1.unpin fun j hj => S.pin j hj
  have hi3 : (ρ1.set i (Sl.dp u))[i]? = some (.dp u) := List.getElem?_set_self hl
  obtain ⟨k1, k2⟩ := (q3.sl i _ hi3).ofT e
  have q4 := q3.re hi3 k1 k2
  rw [set_setS] at q4
  refine ⟨q4, fun w z hz => ?_⟩
  have := VOk.re hi3 k2 q3 (q2 w z hz)
  rw [set_setS] at this
  exact this
theorem fe_hold {e : Expr} (i : Nat) {g : T → FX} (h : ∀ σ1 t, Vw (i :: PN) σ1 i t → FE X (i :: PN) σ1 W e (g t)) : FE X PN σ0 W e (xHo i g) := by
  refine ⟨fun σ H Q => ∃ σ1 t, Vw (i :: PN) σ1 i t ∧ cE X (i :: PN) σ1 W (g t) σ H Q, ⟨fun pins s σ H Q I ⟨σ1, t, V, q⟩ => (h σ1 t V).pe.run pins s σ H Q I q⟩, fun F B H σ ρ Q S q => ?_⟩
  unfold xHo kHo1 at q
  cases hi : ρ[i]? with
  | none => rw [hi] at q; exact q.elim
  | some s =>
    rw [hi, Option.getD_some] at q
    cases eh : hOf s with
    | none => rw [eh] at q; exact q.elim
    | some u =>
      rw [eh] at q
      obtain ⟨v, hv, S2, hi2, V, S3⟩ := S.holdIn hi eh
      refine ⟨_, u, V, treeF F H v u, B, ρ.set i .no, S3, ?_⟩
      simp only at q
      unfold kHo at q
      cases eg : g u (ρ.set i .no) with
      | bad => rw [eg] at q; exact q.elim
      | exc c fs ρ1 =>
        rw [eg] at q
        simp only at q
        split at q
        · rename_i hl
          exact fun cls od H' B' e' S1 z => q cls od H' B' e' (S.holdOut eh S2 hi2 hv hl e' S1).1 z
        · exact q.elim
      | ok w ρ1 =>
        rw [eg] at q
        simp only at q
        split at q
        · rename_i hl
          exact fun w' H' B' e' S1 z => q w' H' B' e' (S.holdOut eh S2 hi2 hv hl e' S1).1 ((S.holdOut eh S2 hi2 hv hl e' S1).2 w' _ z)
        · exact q.elim
theorem fs_hold {st : Stmt} (i : Nat) {g : T → FY} (h : ∀ σ1 t, Vw (i :: PN) σ1 i t → FS X (i :: PN) σ1 W st (g t)) : FS X PN σ0 W st (yHo i g) := by
  refine ⟨fun D' σ H => ∃ σ1 t, Vw (i :: PN) σ1 i t ∧ cS X (i :: PN) σ1 W (g t) D' σ H, ⟨fun pins s σ H D' I ⟨σ1, t, V, F, B, ρ, S, q⟩ => ?_⟩, fun F B H σ ρ D' S q => ?_⟩
  · obtain ⟨tr, p1, p2⟩ := (h σ1 t V).ex
    exact p1.run pins s σ H D' I (p2 F B H σ ρ D' S q)
  unfold yHo kHoY1 at q
  cases hi : ρ[i]? with
  | none => rw [hi] at q; exact q.elim
  | some s =>
    rw [hi, Option.getD_some] at q
    cases eh : hOf s with
    | none => rw [eh] at q; exact q.elim
    | some u =>
      rw [eh] at q
      obtain ⟨v, hv, S2, hi2, V, S3⟩ := S.holdIn hi eh
      refine ⟨_, u, V, treeF F H v u, B, ρ.set i .no, S3, ?_⟩
      simp only at q
      unfold kHoY at q
      cases eg : g u (ρ.set i .no) with
      | bad => rw [eg] at q; exact q.elim
      | exc c fs ρ1 =>
        rw [eg] at q
        simp only at q
        split at q
        · rename_i hl
          exact fun cls od σ' H' B' e' S1 z => q cls od σ' H' B' e' (S.holdOut eh S2 hi2 hv hl e' S1).1 z
        · exact q.elim
      | ok fl ρ1 =>
        rw [eg] at q
        simp only at q
        split at q
        · rename_i hl
          cases fl with
          | nx => exact fun σ' H' B' e' S1 => q σ' H' B' e' (S.holdOut eh S2 hi2 hv hl e' S1).1
          | bk => exact fun σ' H' B' e' S1 => q σ' H' B' e' (S.holdOut eh S2 hi2 hv hl e' S1).1
          | ct => exact fun σ' H' B' e' S1 => q σ' H' B' e' (S.holdOut eh S2 hi2 hv hl e' S1).1
          | rt z => exact fun w σ' H' B' e' S1 y => q w σ' H' B' e' (S.holdOut eh S2 hi2 hv hl e' S1).1 ((S.holdOut eh S2 hi2 hv hl e' S1).2 w z y)
        · exact q.elim
theorem itOk_listF {K : PySem.W.Frag} {mg : Str → Option Value} {B Fo : Hp} {a : Addr} {vs : List L2.V} {ds : List D} (h : Fo a = some (.lst vs)) (r : RepL K mg B vs ds) : ItOk K mg Fo (Itl K a) B ds where
  go := fun i d hd B' H' e bh fh => by
    have h' : SqL K H' a vs := .inl (.inl (fh _ _ h))
    obtain ⟨v, hv, rv⟩ := r.get hd
    refine ⟨⟨vs, v, h', hv⟩, fun x H2 hy PN σ0 F σ ρ S => ?_⟩
    obtain ⟨rfl, hy⟩ := hy
    have := hy vs h'
    rw [hv] at this; cases this
    exact ⟨B', Ext.refl B', S, rv.mono e⟩
  stop := fun B' H' e bh fh => ⟨vs, .inl (.inl (fh _ _ h)), Nat.le_of_eq r.length⟩
def wH (t : T) : En → R (List D) := fun ρ => match t.flat.bind itemsD with
  | some ds => .ok ds ρ
  | none => .bad
/-- the held name, walked -/
theorem fj_h (N : NamesOk X M L) (i : Nat) {tg : Expr} {x : Str} {p : Pos} {t : T} (V : Vw PN σ1 i t) (hi : X.N[i]? = some x := by rfl) (hm : M[i]? = some true := by rfl) : FJ X PN σ1 W tg (.Name x p) (wH t) := by
  refine ⟨_, pi_any (N.pe i hi hm), fun F B H σ ρ Rr S q => ?_⟩
  obtain ⟨root, Fv, h1, h2, h3, h4, h5⟩ := V.at_ S
  refine ⟨root, h3, ?_⟩
  unfold wH at q
  cases t with
  | lf d =>
    cases h4 with
    | lf z =>
      simp only [T.flat, Option.bind_some] at q
      cases d with
      | lst ds =>
        cases z with
        | lst k1 k2 => exact .inl ⟨_, rfl, ⟨_, S.bh _ _ k1⟩, q _ _ B (Ext.refl B) S (itOk_list k1 k2)⟩
      | tup ds =>
        cases z with
        | tup k1 k2 => exact .inr (.inl ⟨_, rfl, ⟨_, S.bh _ _ k1⟩, q _ _ B (Ext.refl B) S (itOk_tup k1 k2)⟩)
      | str y => cases z; exact .inr (.inr ⟨y, rfl, q _ _ B (Ext.refl B) S (itOk_str y)⟩)
      | _ => exact q.elim
  | nd hd ts =>
    cases h4 with
    | nd k1 k2 k3 =>
      cases hd with
      | ls =>
        simp only [T.flat] at q
        cases e : T.flatL ts with
        | none => rw [e] at q; exact q.elim
        | some ds =>
          rw [e] at q
          have := flatL_eq e; subst this
          obtain ⟨xs, rfl⟩ := k2
          have kF := h5 _ _ k1
          exact .inl ⟨_, rfl, ⟨xs, (S.fh _ _ kF).1⟩, q _ _ B (Ext.refl B) S (itOk_listF kF (OwL.leaves k3))⟩
      | dc ks =>
        simp only [T.flat] at q
        cases e : T.flatL ts with
        | none => rw [e] at q; exact q.elim
        | some ds => rw [e] at q; exact q.elim
      | is c fs => simp only [T.flat] at q; exact q.elim
/-- the held name as an operand -/
theorem fa_h (N : NamesOk X M L) (i : Nat) {x : Str} {p : Pos} {t : T} (V : Vw PN σ1 i t) (hi : X.N[i]? = some x := by rfl) (hm : M[i]? = some true := by rfl) : FA X PN σ1 W (.Name x p) (aFlat (some t)) := by
  refine ⟨_, N.pe i hi hm, fun F B H σ ρ Q S q => ?_⟩
  obtain ⟨root, Fv, h1, h2, h3, h4, h5⟩ := V.at_ S
  refine ⟨root, h3, ?_⟩
  unfold aFlat at q
  split at q
  · rename_i d e
    rw [Option.bind_some] at e
    refine q root H B (Ext.refl B) S fun B2 H2 ρ2 d2 e2 S2 hd => ?_
    cases hd
    have hv2 := S2.vw _ h2
    refine OwT.flat ((OwT.mono e2 h4).at (H' := H2) fun x hx => ?_).1 e
    obtain ⟨o, ho⟩ := h4.there x hx
    exact ((S2.fh _ _ (hv2.2 _ _ ho)).1).trans ho.symm
  · exact q.elim
end
end FV

namespace FV
open PySem PySem.Spec PyProof.Rows L2
/-! ### dict displays -/
section
variable {X : Cx} {PN : List Nat} {σ0 : Gs} {W : WX} {k : Nat}
def DPost (X : Cx) (PN : List Nat) (σ0 : Gs) (W : WX) (F B : Hp) (σ : L2.St) (r : R (List (Key × D))) (Q : List (L2.V × L2.V) → Hp → Prop) : Prop := match r with
  | .ok kds ρ' => ∀ (kvs : List (Key × L2.V)) H' B', Ext B B' → Sat X.K X.mg PN σ0 F B' H' σ ρ' → kvs.map (·.1) = kds.map (·.1) → RepL X.K X.mg B' (kvs.map (·.2)) (kds.map (·.2)) → Q (kvs.map fun kv => (L2.kV kv.1, kv.2)) H'
  | .exc c fs ρ' => False
  | .bad => False
structure FD (X : Cx) (PN : List Nat) (σ0 : Gs) (W : WX) (pos : Pos) (ks : List (Option Expr)) (vs : List Expr) (g : En → R (List (Key × D))) : Prop where
  ex : ∃ trs, PPs X pos ks vs trs ∧ ∀ F B H σ ρ Q, Sat X.K X.mg PN σ0 F B H σ ρ → DPost X PN σ0 W F B σ (g ρ) Q → tPairs trs σ H Q
def dNil : En → R (List (Key × D)) := fun ρ => .ok [] ρ
def kD3 (k : Key) (d : D) (r : R (List (Key × D))) : R (List (Key × D)) := match r with
  | .ok kds ρ => .ok ((k, d) :: kds) ρ
  | _ => .bad
def kD2 (k : Key) (l : En → R (List (Key × D))) (r : R Sl) : R (List (Key × D)) := match r with
  | .ok (.fz d) ρ => kD3 k d (l ρ)
  | _ => .bad
def kD1 (o : Option Key) (fv : FX) (l : En → R (List (Key × D))) (ρ : En) : R (List (Key × D)) := match o with
  | some k => kD2 k l (xF fv ρ)
  | none => .bad
def kD0 (fv : FX) (l : En → R (List (Key × D))) (r : R Sl) : R (List (Key × D)) := match r with
  | .ok (.fz d) ρ => kD1 (keyOf d) fv l ρ
  | _ => .bad
def dCons (fk fv : FX) (l : En → R (List (Key × D))) : En → R (List (Key × D)) := fun ρ => kD0 fv l (xF fk ρ)
theorem fd_nil {pos : Pos} : FD X PN σ0 W pos [] [] dNil := ⟨[], pps_nil, fun F B H σ ρ Q S q => q [] H B (Ext.refl B) S rfl .nil⟩
theorem fd_cons {pos : Pos} {kx vx : Expr} {ks : List (Option Expr)} {vs : List Expr} {fk fv : FX} {l : En → R (List (Key × D))} (hk : FE X PN σ0 W kx fk) (hv : FE X PN σ0 W vx fv) (hl : FD X PN σ0 W pos ks vs l) : FD X PN σ0 W pos (some kx :: ks) (vx :: vs) (dCons fk fv l) := by
  obtain ⟨tk, pk, qk⟩ := (fe_f hk).ex
  obtain ⟨tv, pv, qv⟩ := (fe_f hv).ex
  obtain ⟨tr, pr, qr⟩ := hl.ex
  refine ⟨_, pps_cons pk pv pr, fun F B H σ ρ Q S q => qk F B H σ ρ _ S ?_⟩
  unfold dCons kD0 at q
  cases e1 : xF fk ρ with
  | bad => rw [e1] at q; exact q.elim
  | exc c fs ρ1 => rw [e1] at q; exact q.elim
  | ok s ρ1 =>
    rw [e1] at q
    cases s with
    | fz dk =>
      intro x H1 B1 x1 S1 z1
      refine qv F B1 H1 σ ρ1 _ S1 ?_
      simp only at q
      unfold kD1 at q
      cases ek : keyOf dk with
      | none => rw [ek] at q; exact q.elim
      | some key =>
        rw [ek] at q
        simp only at q
        unfold kD2 at q
        cases e2 : xF fv ρ1 with
        | bad => rw [e2] at q; exact q.elim
        | exc c fs ρ2 => rw [e2] at q; exact q.elim
        | ok s2 ρ2 =>
          rw [e2] at q
          cases s2 with
          | fz dv =>
            intro y H2 B2 x2 S2 z2
            refine qr F B2 H2 σ ρ2 _ S2 ?_
            simp only at q
            unfold kD3 at q
            cases e3 : l ρ2 with
            | bad => rw [e3] at q; exact q.elim
            | exc c fs ρ3 => rw [e3] at q; exact q.elim
            | ok kds ρ3 =>
              rw [e3] at q
              intro kvs H3 B3 x3 S3 y1 y2
              have hx := key_rep z1 ek
              subst hx
              exact q ((key, y) :: kvs) H3 B3 ((x1.trans x2).trans x3) S3 (by simp only [List.map_cons, y1]) (.cons (Rep.mono x3 z2) y2)
          | _ => exact q.elim
    | _ => exact q.elim
def mergeD (kds more : List (Key × D)) : List (Key × D) := more.foldl (fun acc kv => putD acc kv.1 kv.2) kds
theorem merge_rep {B : Hp} : ∀ {more : List (Key × L2.V)} {mored : List (Key × D)} {kvs : List (Key × L2.V)} {kds : List (Key × D)}, more.map (·.1) = mored.map (·.1) → RepL X.K X.mg B (more.map (·.2)) (mored.map (·.2)) →
    kvs.map (·.1) = kds.map (·.1) → RepL X.K X.mg B (kvs.map (·.2)) (kds.map (·.2)) → (mergeK kvs more).map (·.1) = (mergeD kds mored).map (·.1) ∧ RepL X.K X.mg B ((mergeK kvs more).map (·.2)) ((mergeD kds mored).map (·.2))
  | [], [], kvs, kds, _, _, h1, h2 => ⟨h1, h2⟩
  | [], _ :: _, _, _, h, _, _, _ => by simp at h
  | _ :: _, [], _, _, h, _, _, _ => by simp at h
  | p :: more, q :: mored, kvs, kds, h, r, h1, h2 => by
    simp only [List.map_cons, List.cons.injEq] at h
    cases r with
    | cons r1 r2 =>
      obtain ⟨e1, e2⟩ := put_rep (k := p.1) r1 h1 h2
      have := merge_rep (more := more) (mored := mored) h.2 r2 e1 e2
      unfold mergeK mergeD at this ⊢
      rw [List.foldl_cons, List.foldl_cons, ← h.1]
      exact this
def kDsp (r : R (List (Key × D))) : R Sl := match r with
  | .ok kds ρ => .ok (.ow (.dic (mergeD [] kds))) ρ
  | _ => .bad
def xDsp (l : En → R (List (Key × D))) : FX := fun ρ => kDsp (l ρ)
theorem fe_dsp {pos : Pos} {k0 : Expr} {ks : List (Option Expr)} {vs : List Expr} {l : En → R (List (Key × D))} (h : FD X PN σ0 W pos (some k0 :: ks) vs l) (hall : (some k0 :: ks).all (·.isSome) = true := by rfl) (hl : (some k0 :: ks).length = vs.length := by rfl)
    (h15 : (some k0 :: ks).length ≤ 15 := by decide) (hk15 : ∀ ρ kds ρ', l ρ = .ok kds ρ' → kds.length = (some k0 :: ks).length) : FE X PN σ0 W (.Dict (some k0 :: ks) vs pos) (xDsp l) := by
  obtain ⟨trs, pt, qt⟩ := h.ex
  refine ⟨_, pe_disp pt hall hl (by intro z; cases z) h15, fun F B H σ ρ Q S q p hn => ?_⟩
  unfold xDsp kDsp at q
  have hvp : ∀ q ∈ σ0.vw, q.2.2.2 p = none := fun q hq => by
    cases e : q.2.2.2 p with
    | none => rfl
    | some o =>
      have := (S.vw q hq).2 p o e
      rw [S.fn hn] at this; cases this
  refine qt _ B _ σ ρ _ (S.more (o := .dK []) hn) ?_
  cases e1 : l ρ with
  | bad => rw [e1] at q; exact q.elim
  | exc c fs ρ1 => rw [e1] at q; exact q.elim
  | ok kds ρ1 =>
    rw [e1] at q
    intro kvs H2 B2 x2 S2 y1 y2
    have hlen : kvs.length = kds.length := by simpa using congrArg List.length y1
    refine ⟨(S2.fh p _ upd_same).1, kvs, rfl, by rw [hlen, hk15 _ _ _ e1]; exact h15, ?_⟩
    obtain ⟨m1, m2⟩ := merge_rep (kvs := []) (kds := []) y1 y2 rfl .nil
    obtain ⟨S4, h6, h7, h8⟩ := (S2.grow (o' := .dK (mergeK [] kvs)) hvp).less (S.fn hn) hvp
    refine q _ _ B2 x2 S4 ⟨p, rfl, S.fn hn, h7, ⟨_, upd_same, m1, m2⟩, sep_v fun j s hj m => h8 j s hj m⟩
end
theorem dNil_len {ρ : En} {kds : List (Key × D)} {ρ' : En} (h : dNil ρ = .ok kds ρ') : kds.length = 0 := by cases h; rfl
theorem dCons_len {fk fv : FX} {l : En → R (List (Key × D))} {n : Nat} (h : ∀ ρ kds ρ', l ρ = .ok kds ρ' → kds.length = n) : ∀ ρ kds ρ', dCons fk fv l ρ = .ok kds ρ' → kds.length = n + 1 := by
  intro ρ kds ρ' e
  unfold dCons kD0 at e
  split at e
  · unfold kD1 at e
    split at e
    · unfold kD2 at e
      split at e
      · unfold kD3 at e
        split at e
        · rename_i e4
          cases e
          rw [List.length_cons, h _ _ _ e4]
        · cases e
      · cases e
    · cases e
  · cases e
end FV

namespace FV
open PySem PySem.Spec PyProof.Rows L2
section
variable {X : Cx}
/-! ### in, for data of any depth -/
def seqPy : D → Option (Bool × List PyData)
  | .lst ds => (toPyL ds).map fun ps => (true, ps)
  | .tup ds => (toPyL ds).map fun ps => (false, ps)
  | _ => none
def inDeep (d e : D) : Option Bool := (toPy d).bind fun p => (seqPy e).bind fun q => if SeqAt.shaped p && SeqAt.shaped (.list q.2) then some (q.2.any fun z => PyData.eqv z p) else none
def gInX : G2 := fun d e => (gIn d e).or ((inDeep d e).map fun b => .fz (.bl b))
def gNotInX : G2 := fun d e => (gNotIn d e).or ((inDeep d e).map fun b => .fz (.bl (!b)))
def rInDT (K : PySem.W.Frag) (n : Bool) : R2 := fun x y H Q => ∃ d ds, Dp K H x d ∧ (Dp K H y (.list ds) ∨ Dp K H y (.tuple ds)) ∧ SeqAt.shaped d = true ∧ SeqAt.shaped (.list ds) = true ∧ Q (.bl (if n then !ds.any fun z => PyData.eqv z d else ds.any fun z => PyData.eqv z d)) H
theorem op_inDT (hu : X.A.units + 65 < cLine) : OpR X (compareOp .In) (rInDT X.K false) := by
  intro pins s σ H x y v u Q I rx ry h
  obtain ⟨d, ds, hd, he, sd, se, q⟩ := h
  obtain ⟨as, r1⟩ := Dp.reads I d x v hd rx
  rcases he with he | he
  · obtain ⟨bs, r2⟩ := Dp.reads I (.list ds) y u he ry
    exact SeqAt.in_list_reads r2 r1 (SeqAt.canLay_of_shaped se) (SeqAt.canLay_of_shaped sd) (room_in_shaped sd hu) ⟨.bl _, H, I, rfl, q⟩
  · obtain ⟨bs, r2⟩ := Dp.reads I (.tuple ds) y u he ry
    exact SeqAt.in_tuple_reads r2 r1 (SeqAt.canLay_of_shaped se) (SeqAt.canLay_of_shaped sd) (room_in_shaped sd hu) ⟨.bl _, H, I, rfl, q⟩
theorem op_notInDT (hu : X.A.units + 65 < cLine) : OpR X (compareOp .NotIn) (rInDT X.K true) := by
  intro pins s σ H x y v u Q I rx ry h
  obtain ⟨d, ds, hd, he, sd, se, q⟩ := h
  obtain ⟨as, r1⟩ := Dp.reads I d x v hd rx
  rcases he with he | he
  · obtain ⟨bs, r2⟩ := Dp.reads I (.list ds) y u he ry
    exact SeqAt.notIn_list_reads r2 r1 (SeqAt.canLay_of_shaped se) (SeqAt.canLay_of_shaped sd) (room_in_shaped sd hu) ⟨.bl _, H, I, rfl, q⟩
  · obtain ⟨bs, r2⟩ := Dp.reads I (.tuple ds) y u he ry
    exact SeqAt.notIn_tuple_reads r2 r1 (SeqAt.canLay_of_shaped se) (SeqAt.canLay_of_shaped sd) (room_in_shaped sd hu) ⟨.bl _, H, I, rfl, q⟩
theorem inDeep_some {B H : Hp} {x y : L2.V} {d e : D} {b : Bool} (bh : ∀ b o, B b = some o → H b = some o) (hx : LRep X B H x d) (hy : LRep X B H y e) (h : inDeep d e = some b) :
    ∃ p ds, Dp X.K H x p ∧ (Dp X.K H y (.list ds) ∨ Dp X.K H y (.tuple ds)) ∧ SeqAt.shaped p = true ∧ SeqAt.shaped (.list ds) = true ∧ (ds.any fun z => PyData.eqv z p) = b := by
  unfold inDeep at h
  cases e1 : toPy d with
  | none => rw [e1] at h; cases h
  | some p =>
    cases e2 : seqPy e with
    | none => rw [e1, e2] at h; cases h
    | some q =>
      rw [e1, e2] at h
      simp only [Option.bind_some] at h
      split at h
      · rename_i hs
        rw [Bool.and_eq_true] at hs
        refine ⟨p, q.2, ldp_of bh hx e1, ?_, hs.1, hs.2, Option.some.inj h⟩
        unfold seqPy at e2
        split at e2
        · rename_i ds
          cases e3 : toPyL ds with
          | none => rw [e3] at e2; cases e2
          | some ps =>
            rw [e3] at e2; cases e2
            exact .inl (ldp_of bh hy (by simp only [toPy, e3, Option.map_some]))
        · rename_i ds
          cases e3 : toPyL ds with
          | none => rw [e3] at e2; cases e2
          | some ps =>
            rw [e3] at e2; cases e2
            exact .inr (ldp_of bh hy (by simp only [toPy, e3, Option.map_some]))
        · cases e2
      · cases h
theorem co_inX (hu : X.A.units + 1 < cLine) (hu2 : X.A.units + 65 < cLine) : ∃ r, OpR X (compareOp .In) r ∧ Op2 X r gInX := by
  obtain ⟨r, h1, h2⟩ := co_in hu
  refine ⟨_, h1.or (op_inDT hu2), fun PN σ0 F B H σ ρ x y dx dy s Q S hx hy hg q => ?_⟩
  unfold gInX at hg
  cases e1 : gIn dx dy with
  | some s' =>
    rw [e1] at hg; cases hg
    exact .inl (h2 PN σ0 F B H σ ρ x y dx dy _ Q S hx hy e1 q)
  | none =>
    rw [e1] at hg
    cases e2 : inDeep dx dy with
    | none => rw [e2] at hg; cases hg
    | some b =>
      rw [e2] at hg; cases hg
      obtain ⟨p, ds, g1, g2, g3, g4, g5⟩ := inDeep_some S.bh hx hy e2
      exact .inr ⟨p, ds, g1, g2, g3, g4, by rw [if_neg (by decide), g5]; exact q.flat S (.bl _)⟩
theorem co_notInX (hu : X.A.units + 1 < cLine) (hu2 : X.A.units + 65 < cLine) : ∃ r, OpR X (compareOp .NotIn) r ∧ Op2 X r gNotInX := by
  obtain ⟨r, h1, h2⟩ := co_notIn hu
  refine ⟨_, h1.or (op_notInDT hu2), fun PN σ0 F B H σ ρ x y dx dy s Q S hx hy hg q => ?_⟩
  unfold gNotInX at hg
  cases e1 : gNotIn dx dy with
  | some s' =>
    rw [e1] at hg; cases hg
    exact .inl (h2 PN σ0 F B H σ ρ x y dx dy _ Q S hx hy e1 q)
  | none =>
    rw [e1] at hg
    cases e2 : inDeep dx dy with
    | none => rw [e2] at hg; cases hg
    | some b =>
      rw [e2] at hg; cases hg
      obtain ⟨p, ds, g1, g2, g3, g4, g5⟩ := inDeep_some S.bh hx hy e2
      exact .inr ⟨p, ds, g1, g2, g3, g4, by rw [if_pos rfl, g5]; exact q.flat S (.bl _)⟩
/-! ### list(text), tuple(text) -/
def chD (x : Str) : List D := x.cps.toList.map fun c => .str ⟨#[c]⟩
def chV (x : Str) : List L2.V := x.cps.toList.map fun c => L2.V.str ⟨#[c]⟩
theorem ch_rep {K : PySem.W.Frag} {mg : Str → Option Value} {B : Hp} {x : Str} : RepL K mg B (chV x) (chD x) := RepL.map (fun _ => .str _) _
theorem ch_vals {x : Str} {acc : Array Value} (h : ItemsOf (SignAt x) acc x.cps.size) : Vals (chV x) acc.toList := by
  refine vals_of_at (by unfold chV; rw [List.length_map, Array.length_toList, Array.length_toList, h.1]) fun j y u hj hu => ?_
  unfold chV at hj
  rw [Array.getElem?_toList] at hu
  obtain ⟨c, t, hc, rfl⟩ := h.2 j u hu
  rw [List.getElem?_map, Array.getElem?_toList, hc] at hj
  cases hj
  exact ⟨t, rfl⟩
def gListT : List D → Option Sl
  | [.str x] => if x.cps.size ≤ 1000000 then some (.ow (.lst (chD x))) else none
  | _ => none
def gTupleT : List D → Option Sl
  | [.str x] => if x.cps.size ≤ 1000000 then some (.fz (.tup (chD x))) else none
  | _ => none
theorem call_listT (hc : X.calm = true) : CallR X (.type "list") (fun xs H Q => ∃ x : Str, xs = [.str x] ∧ x.cps.size ≤ 1000000 ∧ ∀ l, H l = none → Q (.ref l) (upd H l (.lst (chV x)))) := by
  intro pins s σ H xs us Q I r h
  obtain ⟨x, rfl, hx, q⟩ := h
  obtain ⟨u, rfl, rx⟩ := vals1 r
  obtain ⟨t, rfl⟩ := rx
  have hz : x.cps.size ≤ sizeLine := line_le hx
  refine call_list_str (I.ok.hd hc) x t (hn := hz) fun h' tk acc c' kp e hacc => ?_
  have rv := ch_vals hacc
  have hl : (chV x).length ≤ sizeLine := by unfold chV; rw [List.length_map, Array.length_toList]; exact hz
  exact ⟨.ref s.heap.objs.size, _, I.laid (t' := tk) kp (Nat.le_refl _) (show ObjOk X.prog X.w _ h' _ (.lst (chV x)) from ⟨hl, acc.toList, c', rv, by simpa using e⟩), rfl, q _ (I.hok.fresh (Nat.le_refl _))⟩
theorem call_tupleT (hc : X.calm = true) : CallR X (.type "tuple") (fun xs H Q => ∃ x : Str, xs = [.str x] ∧ x.cps.size ≤ 1000000 ∧ ∀ l, H l = none → Q (.ref l) (upd H l (.tup (chV x)))) := by
  intro pins s σ H xs us Q I r h
  obtain ⟨x, rfl, hx, q⟩ := h
  obtain ⟨u, rfl, rx⟩ := vals1 r
  obtain ⟨t, rfl⟩ := rx
  have hz : x.cps.size ≤ sizeLine := line_le hx
  refine call_tuple_str (hsz := hz) (I.ok.hd hc) x t fun h' tk acc kp hacc => ?_
  have rv := ch_vals hacc
  have hl : (chV x).length ≤ sizeLine := by unfold chV; rw [List.length_map, Array.length_toList]; exact hz
  have I1 : Inv X pins σ H { s with heap := h', toks := tk } := I.kept (t' := tk) kp
  have I2 : Inv X pins σ (upd H h'.objs.size (.tup (chV x))) { s with heap := h'.push { cls := .type "tuple", data := .seq acc }, toks := tk } :=
    I1.laid (t' := tk) (fun b o e => Heap.get?_push_of_some _ e) (Nat.le_refl _) (show ObjOk X.prog X.w _ _ _ (.tup (chV x)) from ⟨hl, acc.toList, rv, IsTup.new h' acc⟩)
  exact ⟨.ref h'.objs.size, _, I2, rfl, q _ (I1.hok.fresh (Nat.le_refl _))⟩
def gListX : List D → Option Sl := fun ds => (gList ds).or (gListT ds)
def gTupleX : List D → Option Sl := fun ds => (gTuple ds).or (gTupleT ds)
theorem cb_listX (hc : X.calm = true) : ∃ r, CallR X (.type "list") r ∧ OpN X r gListX := by
  obtain ⟨r, h1, h2⟩ := cb_list (X := X)
  refine ⟨_, h1.or (call_listT hc), fun PN σ0 F B H σ ρ vs ds s Q S hp hg q => ?_⟩
  unfold gListX at hg
  cases e1 : gList ds with
  | some s' => rw [e1] at hg; cases hg; exact .inl (h2 PN σ0 F B H σ ρ vs ds _ Q S hp e1 q)
  | none =>
    rw [e1] at hg
    simp only [Option.none_or] at hg
    unfold gListT at hg
    split at hg
    · split at hg
      · rename_i x hx
        cases hg
        obtain ⟨v, rfl, r⟩ := paired1 hp
        exact .inr ⟨x, by rw [r.str], hx, q.newL S ch_rep⟩
      · cases hg
    · cases hg
theorem cb_tupleX (hc : X.calm = true) : ∃ r, CallR X (.type "tuple") r ∧ OpN X r gTupleX := by
  obtain ⟨r, h1, h2⟩ := cb_tuple (X := X)
  refine ⟨_, h1.or (call_tupleT hc), fun PN σ0 F B H σ ρ vs ds s Q S hp hg q => ?_⟩
  unfold gTupleX at hg
  cases e1 : gTuple ds with
  | some s' => rw [e1] at hg; cases hg; exact .inl (h2 PN σ0 F B H σ ρ vs ds _ Q S hp e1 q)
  | none =>
    rw [e1] at hg
    simp only [Option.none_or] at hg
    unfold gTupleT at hg
    split at hg
    · split at hg
      · rename_i x hx
        cases hg
        obtain ⟨v, rfl, r⟩ := paired1 hp
        exact .inr ⟨x, by rw [r.str], hx, q.newT S ch_rep⟩
      · cases hg
    · cases hg
end
end FV

namespace FV
open PySem PySem.Spec PyProof.Rows L2
theorem Cok.hu65 {X : Cx} {W : WX} {k : Nat} (C : Cok X W k) : X.A.units + 65 < cLine := by have := C.hr.un; omega
/-! ### how the later functions of environments are reckoned -/
def kVwE (i : Nat) (t : T) (r : R Sl) : R Sl := match r with
  | .ok s ρ1 => .ok s (ρ1.set i (.dp t))
  | .exc c fs ρ1 => .exc c fs (ρ1.set i (.dp t))
  | .bad => .bad
def kVw (i : Nat) (g : T → FX) (s : Sl) (ρ : En) : R Sl := match s with
  | .dp t => kVwE i t (g t (ρ.set i .no))
  | _ => .bad
def kVwEY (i : Nat) (t : T) (r : R Fl) : R Fl := match r with
  | .ok s ρ1 => .ok s (ρ1.set i (.dp t))
  | .exc c fs ρ1 => .exc c fs (ρ1.set i (.dp t))
  | .bad => .bad
def kVwY (i : Nat) (g : T → FY) (s : Sl) (ρ : En) : R Fl := match s with
  | .dp t => kVwEY i t (g t (ρ.set i .no))
  | _ => .bad
def kVwEW (i : Nat) (t : T) (r : R (List D)) : R (List D) := match r with
  | .ok s ρ1 => .ok s (ρ1.set i (.dp t))
  | .exc c fs ρ1 => .exc c fs (ρ1.set i (.dp t))
  | .bad => .bad
def kVwW (i : Nat) (g : T → En → R (List D)) (s : Sl) (ρ : En) : R (List D) := match s with
  | .dp t => kVwEW i t (g t (ρ.set i .no))
  | _ => .bad
def kFl (c f : Str) (r : R Sl) : R Sl := match r with
  | .ok s ρ' => (match s with
    | .fz (.ins c' fs) => if c' = c then match fs.lookup f with
      | some d => .ok (.fz d) ρ'
      | none => .bad
      else .bad
    | _ => .bad)
  | .exc c fs ρ' => .exc c fs ρ'
  | .bad => .bad
def kFsE (c f : Str) (i : Nat) (r : R Sl) : R Fl := match r with
  | .ok s ρ => kFset c f i s ρ
  | .exc c fs ρ => .exc c fs ρ
  | .bad => .bad
def kMkA (G : GF) (c : Str) (ars : List Ar) (ρ : En) (b : Bool) (o : Option En) : R Sl := match b, o with
  | true, some ρa => endMake ars ρ (G (.dp (.nd (.is c []) []) :: ρa))
  | _, _ => .bad
def kMake (c : Str) (own : List Bool) (G : GF) (r : R (List Ar)) : R Sl := match r with
  | .ok ars ρ => kMkA G c ars ρ (arsB own ars) (argEn ars ρ)
  | .exc c fs ρ' => .exc c fs ρ'
  | .bad => .bad
def kRx (r : R Sl) : R Ar := match r with
  | .ok (.fz d) ρ1 => .ok (.fz d) ρ1
  | .ok _ _ => .bad
  | .exc c fs ρ1 => .exc c fs ρ1
  | .bad => .bad
def kRo (i : Nat) (s : Sl) (ρ : En) : R Ar := match s with
  | .dp _ => .ok (.sl i) ρ
  | _ => .bad
def kMthB (own : List Bool) (G : GF) (ar : Ar) (l : En → R (List Ar)) (ρ : En) (b : Bool) : R Sl := if b = true then kMeth2 own G ar (l ρ) else .bad
def kMth (c m : Str) (own : List Bool) (G : GF) (l : En → R (List Ar)) (r : R Ar) : R Sl := match r with
  | .ok ar ρ1 => kMthB own G ar l ρ1 (hasM c m ar ρ1)
  | .exc c fs ρ1 => .exc c fs ρ1
  | .bad => .bad
def kMth2 (own : List Bool) (G : GF) (ar : Ar) (r : R (List Ar)) : R Sl := match r with
  | .ok ars ρ2 => kArg G (ar :: ars) ρ2 (arsB own (ar :: ars)) (argEn (ar :: ars) ρ2)
  | .exc c fs ρ2 => .exc c fs ρ2
  | .bad => .bad
def kLsE (r : R Sl) : R Sl := match r with
  | .ok s ρ1 => kLset s ρ1
  | .exc c fs ρ1 => .exc c fs ρ1
  | .bad => .bad
def kTM (l : List (Mt × FY)) (r : R Fl) : R Fl := match r with
  | .exc c fs ρ1 => kMany l c fs ρ1
  | .ok fl ρ1 => .ok fl ρ1
  | .bad => .bad
def kMnE (r : R Fl) : R Fl := match r with
  | .ok fl ρ2 => .ok fl ρ2
  | _ => .bad
def kMn (o : Option Bool) (f : FY) (l : List (Mt × FY)) (c : Str) (fs : List (Str × D)) (ρ : En) : R Fl := match o with
  | some true => kMnE (f ρ)
  | some false => kMany l c fs ρ
  | none => .bad
def kDCE (r : R (List (Key × D))) : R Sl := match r with
  | .ok acc ρ2 => .ok (.ow (.dic acc)) ρ2
  | _ => .bad
def kDC (own : List Nat) (g : GG) (c fk fv : FX) (r : R (List D)) : R Sl := match r with
  | .ok xs ρ1 => kDCE (dcL own g c fk fv xs [] (forget own ρ1))
  | .exc c fs ρ1 => .exc c fs ρ1
  | .bad => .bad
def kDTE (r : R (List Key × List T)) : R Sl := match r with
  | .ok a ρ2 => .ok (.dp (.nd (.dc a.1) a.2)) ρ2
  | _ => .bad
def kDT (own : List Nat) (g : GG) (c fk fv : FX) (r : R (List D)) : R Sl := match r with
  | .ok xs ρ1 => kDTE (dcTL own g c fk fv xs [] [] (forget own ρ1))
  | .exc c fs ρ1 => .exc c fs ρ1
  | .bad => .bad
def kSm0' (g : GS) (r : R Sl) : R Sl := kSm0 g r
def kWE (o : Option (List D)) (ρ : En) : R (List D) := match o with
  | some ds => .ok ds ρ
  | none => .bad
def enD (ds : List D) : List D := ds.mapIdx fun i d => .tup [.int (i : Nat), d]
def kEn2 (o : Option (List D)) (ρ : En) : R (List D) := match o with
  | some [.lst ds] => .ok (enD ds) ρ
  | _ => .bad
def kEn (r : R (List Ar)) : R (List D) := match r with
  | .ok ars ρ => kEn2 (dsOf ars) ρ
  | .exc c fs ρ1 => .exc c fs ρ1
  | .bad => .bad
def kC2 (g g' : G2) (t1 : Th) (c : En → R Th) (r : R Th) : R Sl := match r with
  | .ok t2 ρ2 => kCh1 g' t2 c (ap2 g (t1 ρ2) (t2 ρ2)) ρ2
  | .exc c fs ρ => .exc c fs ρ
  | .bad => .bad
def kC1 (g g' : G2) (b c : En → R Th) (r : R Th) : R Sl := match r with
  | .ok t1 ρ1 => kC2 g g' t1 c (b ρ1)
  | .exc c fs ρ => .exc c fs ρ
  | .bad => .bad
section
variable {f g fk fv fe : FX} {p q y : FY} {gy : T → FY} {gt : T → FX} {gww : T → En → R (List D)} {ρ ρ' ρa : En} {s : Sl} {i n : Nat} {z : Int} {d e : D} {ds es : List D} {xs : List D} {b c : Bool} {own : List Bool} {cn fn mn : Str} {fs : List (Str × D)} {fl : Fl} {tg : GG} {th : Th} {la : En → R (List Ar)} {ar : Ar} {ars : List Ar} {G : GF} {ow : List Nat} {wi : En → R (List D)} {o : Option Bool} {mt : Mt} {l : List (Mt × FY)} {t u : T} {gra : En → R Ar} {kds : List (Key × D)} {ks : List Key} {ts : List T} {dl : En → R (List (Key × D))} {gs : GS} {x : Str}

theorem ev_vw : xVw i gt ρ = kVw i gt ((ρ[i]?).getD .no) ρ := by
  unfold xVw kVw
  cases ρ[i]? with
  | none => rfl
  | some s => cases s <;> rfl
theorem ev_vwy : yVw i gy ρ = kVwY i gy ((ρ[i]?).getD .no) ρ := by
  unfold yVw kVwY
  cases ρ[i]? with
  | none => rfl
  | some s => cases s <;> rfl
theorem ev_vww : wVw i gww ρ = kVwW i gww ((ρ[i]?).getD .no) ρ := by
  unfold wVw kVwW
  cases ρ[i]? with
  | none => rfl
  | some s => cases s <;> rfl
theorem kVw_dp : kVw i gt (.dp t) ρ = kVwE i t (gt t (ρ.set i .no)) := rfl
theorem kVwY_dp : kVwY i gy (.dp t) ρ = kVwEY i t (gy t (ρ.set i .no)) := rfl
theorem kVwW_dp : kVwW i gww (.dp t) ρ = kVwEW i t (gww t (ρ.set i .no)) := rfl
theorem kVwE_ok : kVwE i t (.ok s ρ) = .ok s (ρ.set i (.dp t)) := rfl
theorem kVwE_exc : kVwE i t (.exc cn fs ρ) = .exc cn fs (ρ.set i (.dp t)) := rfl
theorem kVwEY_ok : kVwEY i t (.ok fl ρ) = .ok fl (ρ.set i (.dp t)) := rfl
theorem kVwEY_exc : kVwEY i t (.exc cn fs ρ) = .exc cn fs (ρ.set i (.dp t)) := rfl
theorem kVwEW_ok : kVwEW i t (.ok xs ρ) = .ok xs (ρ.set i (.dp t)) := rfl
theorem ev_lf : xLf (some (.lf d)) ρ = .ok (.fz d) ρ := rfl
theorem flat_lf : aFlat (some (.lf d)) ρ = .ok (cst d) ρ := by simp only [aFlat, Option.bind_some, T.flat] <;> rfl
theorem flat_ls : aFlat (some (.nd .ls (ds.map .lf))) ρ = .ok (cst (.lst ds)) ρ := by simp only [aFlat, Option.bind_some, T.flat, flatL_map, Option.map_some] <;> rfl
theorem ev_fl : xFl cn fn f ρ = kFl cn fn (xF f ρ) := by
  unfold xFl kFl
  cases xF f ρ <;> rfl
theorem kFl_exc : kFl mn fn (.exc cn fs ρ) = .exc cn fs ρ := rfl
theorem ev_fset : yFset cn fn i fe ρ = kFsE cn fn i (fe ρ) := by
  unfold yFset yE kFsE
  cases fe ρ <;> rfl
theorem kFsE_ok : kFsE cn fn i (.ok s ρ) = kFset cn fn i s ρ := rfl
theorem ev_make : xMake cn own G la ρ = kMake cn own G (la ρ) := by
  unfold xMake kMake
  cases la ρ with
  | ok ars ρ1 =>
    simp only [R.bind]
    unfold goMake kMkA arsB
    by_cases h1 : arsOk own ars = true
    · by_cases h2 : (slots ars).Nodup
      · rw [if_pos ⟨h1, h2⟩, h1, decide_eq_true h2]
        cases argEn ars ρ1 <;> rfl
      · rw [if_neg (fun h => h2 h.2), decide_eq_false h2, Bool.and_false]
    · rw [if_neg (fun h => h1 h.1), Bool.eq_false_iff.mpr h1, Bool.false_and]
  | _ => rfl
theorem kMake_ok : kMake cn own G (.ok ars ρ) = kMkA G cn ars ρ (arsB own ars) (argEn ars ρ) := rfl
theorem kMake_exc : kMake mn own G (.exc cn fs ρ) = .exc cn fs ρ := rfl
theorem kMkA_ok : kMkA G cn ars ρ true (some ρa) = endMake ars ρ (G (.dp (.nd (.is cn []) []) :: ρa)) := rfl
theorem endMake_dp : endMake ars ρ (.ok .nx (.dp t :: ρa)) = .ok (.fz t.strip) (back ars ρa ρ) := rfl
theorem endMake_fz : endMake ars ρ (.ok .nx (.fz d :: ρa)) = .ok (.fz d) (back ars ρa ρ) := rfl
theorem endMake_exc : endMake ars ρ (.exc cn fs (s :: ρa)) = .exc cn fs (back ars ρa ρ) := rfl
theorem ev_rx : rX f ρ = kRx (xF f ρ) := by
  unfold rX kRx
  cases xF f ρ with
  | ok s ρ1 => cases s <;> rfl
  | _ => rfl
theorem kRx_fz : kRx (.ok (.fz d) ρ) = .ok (.fz d) ρ := rfl
theorem kRx_exc : kRx (.exc cn fs ρ) = .exc cn fs ρ := rfl
theorem ev_ro : rO i ρ = kRo i ((ρ[i]?).getD .no) ρ := by
  unfold rO kRo
  cases ρ[i]? with
  | none => rfl
  | some s => cases s <;> rfl
theorem kRo_dp : kRo i (.dp t) ρ = .ok (.sl i) ρ := rfl
theorem ev_meth : xMeth cn mn own G gra la ρ = kMth cn mn own G la (gra ρ) := by
  unfold xMeth kMeth1 kMth
  cases gra ρ <;> rfl
theorem kMth_ok : kMth cn mn own G la (.ok ar ρ) = kMthB own G ar la ρ (hasM cn mn ar ρ) := rfl
theorem kMth_exc : kMth fn mn own G la (.exc cn fs ρ) = .exc cn fs ρ := rfl
theorem kMthB_t : kMthB own G ar la ρ true = kMth2 own G ar (la ρ) := by
  show kMeth2 own G ar (la ρ) = _
  unfold kMeth2 kMth2
  cases la ρ with
  | ok ars ρ1 =>
    simp only
    unfold goC kArg arsB
    by_cases h1 : arsOk own (ar :: ars) = true
    · by_cases h2 : (slots (ar :: ars)).Nodup
      · rw [if_pos ⟨h1, h2⟩, h1, decide_eq_true h2]
        cases argEn (ar :: ars) ρ1 <;> rfl
      · rw [if_neg (fun h => h2 h.2), decide_eq_false h2, Bool.and_false]
    · rw [if_neg (fun h => h1 h.1), Bool.eq_false_iff.mpr h1, Bool.false_and]
  | _ => rfl
theorem kMth2_ok : kMth2 own G ar (.ok ars ρ) = kArg G (ar :: ars) ρ (arsB own (ar :: ars)) (argEn (ar :: ars) ρ) := rfl
theorem kMth2_exc : kMth2 own G ar (.exc cn fs ρ) = .exc cn fs ρ := rfl
theorem ev_lset : xLset f ρ = kLsE (xF f ρ) := by unfold xLset kLsE; cases xF f ρ <;> rfl
theorem kLsE_ok : kLsE (.ok s ρ) = kLset s ρ := rfl
theorem kLset_s (h : x.cps.size ≤ 1000) : kLset (.fz (.str x)) ρ = .ok (.fz (.int ((dedS (signs x)).length : Nat))) ρ := by unfold kLset; simp only [h, if_true]
theorem ev_tryM : yTryM l p ρ = kTM l (p ρ) := by unfold yTryM kTM; cases p ρ <;> rfl
theorem kTM_ok : kTM l (.ok fl ρ) = .ok fl ρ := rfl
theorem kTM_exc : kTM l (.exc cn fs ρ) = kMany l cn fs ρ := rfl
theorem kMany_nil : kMany [] cn fs ρ = .exc cn fs ρ := rfl
theorem kMany_cons : kMany ((mt, p) :: l) cn fs ρ = kMn (mt cn) p l cn fs ρ := by
  show (match mt cn with | some true => _ | some false => _ | none => _) = _
  unfold kMn
  rcases mt cn with _ | b
  · rfl
  · cases b
    · rfl
    · simp only
      unfold kMnE
      cases p ρ <;> rfl
theorem kMn_t : kMn (some true) p l cn fs ρ = kMnE (p ρ) := rfl
theorem kMn_f : kMn (some false) p l cn fs ρ = kMany l cn fs ρ := rfl
theorem kMnE_ok : kMnE (.ok fl ρ) = .ok fl ρ := rfl
theorem ev_ho : xHo i gt ρ = kHo1 i ((ρ[i]?).getD .no) (hOf ((ρ[i]?).getD .no)) gt ρ := rfl
theorem ev_hoY : yHo i gy ρ = kHoY1 i ((ρ[i]?).getD .no) (hOf ((ρ[i]?).getD .no)) gy ρ := rfl
theorem hOf_ow : hOf (.ow (.lst ds)) = some (.nd .ls (ds.map .lf)) := rfl
theorem hOf_fz : hOf (.fz d) = some (.lf d) := rfl
theorem kHo1_some : kHo1 i s (some u) gt ρ = kHo i s (gt u (ρ.set i .no)) := rfl
theorem kHoY1_some : kHoY1 i s (some u) gy ρ = kHoY i s (gy u (ρ.set i .no)) := rfl
theorem kHo_ok {w : Sl} (h : i < ρ.length) : kHo i s (.ok w ρ) = .ok w (ρ.set i s) := if_pos h
theorem kHo_exc (h : i < ρ.length) : kHo i s (.exc cn fs ρ) = .exc cn fs (ρ.set i s) := if_pos h
theorem kHoY_ok (h : i < ρ.length) : kHoY i s (.ok fl ρ) = .ok fl (ρ.set i s) := if_pos h
theorem kHoY_exc (h : i < ρ.length) : kHoY i s (.exc cn fs ρ) = .exc cn fs (ρ.set i s) := if_pos h
theorem wH_ls : wH (.nd .ls (ds.map .lf)) ρ = .ok ds ρ := by simp only [wH, T.flat, flatL_map, Option.map_some, Option.bind_some, itemsD]
theorem wH_lf : wH (.lf d) ρ = ofW (itemsD d) ρ := by simp only [wH, T.flat, Option.bind_some, ofW] <;> rfl
theorem ev_dsp : xDsp dl ρ = kDsp (dl ρ) := rfl
theorem kDsp_ok : kDsp (.ok kds ρ) = .ok (.ow (.dic (mergeD [] kds))) ρ := rfl
theorem ev_dnil : dNil ρ = .ok [] ρ := rfl
theorem ev_dcons : dCons fk fv dl ρ = kD0 fv dl (xF fk ρ) := rfl
theorem kD0_fz : kD0 fv dl (.ok (.fz d) ρ) = kD1 (keyOf d) fv dl ρ := rfl
variable {k : Key}
theorem kD1_some : kD1 (some k) fv dl ρ = kD2 k dl (xF fv ρ) := rfl
theorem kD2_fz : kD2 k dl (.ok (.fz d) ρ) = kD3 k d (dl ρ) := rfl
theorem kD3_ok : kD3 k d (.ok kds ρ) = .ok ((k, d) :: kds) ρ := rfl
theorem keyOf_i : keyOf (.int z) = some (.inl z) := rfl
theorem keyOf_s : keyOf (.str x) = some (.inr x) := rfl
theorem ev_dc : xDc ow wi tg f fk fv ρ = kDC ow tg f fk fv (wi ρ) := by
  unfold xDc kDC
  cases wi ρ with
  | ok xs ρ1 =>
    simp only
    unfold kDCE
    cases dcL ow tg f fk fv xs [] (forget ow ρ1) <;> rfl
  | _ => rfl
theorem kDC_ok : kDC ow tg f fk fv (.ok xs ρ) = kDCE (dcL ow tg f fk fv xs [] (forget ow ρ)) := rfl
theorem kDCE_ok : kDCE (.ok kds ρ) = .ok (.ow (.dic kds)) ρ := rfl
theorem ev_dct : xDcT ow wi tg f fk fv ρ = kDT ow tg f fk fv (wi ρ) := by
  unfold xDcT kDT
  cases wi ρ with
  | ok xs ρ1 =>
    simp only
    unfold kDTE
    cases dcTL ow tg f fk fv xs [] [] (forget ow ρ1) <;> rfl
  | _ => rfl
theorem kDT_ok : kDT ow tg f fk fv (.ok xs ρ) = kDTE (dcTL ow tg f fk fv xs [] [] (forget ow ρ)) := rfl
theorem kDTE_ok : kDTE (.ok (ks, ts) ρ) = .ok (.dp (.nd (.dc ks) ts)) ρ := rfl
theorem ev_en : wEn la ρ = kEn (la ρ) := by
  unfold wEn kEn
  cases la ρ with
  | ok ars ρ1 =>
    simp only [kEn2]
    unfold enD
    cases dsOf ars with
    | none => rfl
    | some ds =>
      match ds with
      | [] => rfl
      | [.lst ds] => rfl
      | [.non] => rfl
      | [.bl _] => rfl
      | [.int _] => rfl
      | [.str _] => rfl
      | [.tup _] => rfl
      | [.dic _] => rfl
      | [.ins _ _] => rfl
      | [.scr _] => rfl
      | [.ty _] => rfl
      | [.cls _] => rfl
      | _ :: _ :: _ => rfl
  | _ => rfl
theorem kEn_ok : kEn (.ok ars ρ) = kEn2 (dsOf ars) ρ := rfl
theorem kEn2_l : kEn2 (some [.lst ds]) ρ = .ok (enD ds) ρ := rfl
theorem ev_sm0 : xSm0 gs f ρ = kSm0 gs (xF f ρ) := rfl
theorem ev_sm1 : xSm1 gs f fe ρ = kSm1 gs fe (xF f ρ) := rfl
theorem kSm0_s : kSm0 gs (.ok (.fz (.str x)) ρ) = ofO (gs x []) ρ := rfl
theorem kSm1_s : kSm1 gs fe (.ok (.fz (.str x)) ρ) = kSm2 gs x (xF fe ρ) := rfl
theorem kSm2_fz : kSm2 gs x (.ok (.fz d) ρ) = ofO (gs x [d]) ρ := rfl
theorem gs1_s {h : Str → Str → D} {a b : Str} : gs1 h a [.str b] = some (.fz (h a b)) := rfl
theorem gs0_s {h : Str → Str} {a : Str} (hl : a.length ≤ 1000000) : gs0 h a [] = some (.fz (.str (h a))) := by unfold gs0; simp only [hl, if_true]
variable {ga gb gc : En → R Th} {g1 g2 : G2}
theorem ev_ch : xCh g1 g2 ga gb gc ρ = kC1 g1 g2 gb gc (ga ρ) := by
  unfold xCh kC1
  cases ga ρ with
  | ok t1 ρ1 =>
    simp only
    unfold kC2
    cases gb ρ1 <;> rfl
  | _ => rfl
variable {th2 : Th}
theorem kC1_ok : kC1 g1 g2 gb gc (.ok th ρ) = kC2 g1 g2 th gc (gb ρ) := rfl
theorem kC2_ok : kC2 g1 g2 th gc (.ok th2 ρ) = kCh1 g2 th2 gc (ap2 g1 (th ρ) (th2 ρ)) ρ := rfl
theorem kCh1_t : kCh1 g2 th gc (some (.fz (.bl true))) ρ = kCh2 g2 th (gc ρ) := rfl
theorem kCh1_f : kCh1 g2 th gc (some (.fz (.bl false))) ρ = .ok (.fz (.bl false)) ρ := rfl
theorem kCh2_ok : kCh2 g2 th (.ok th2 ρ) = ofO (ap2 g2 (th ρ) (th2 ρ)) ρ := rfl
theorem isi_dict_int : gIsi [.dic kds, .ty "int"] = some (.fz (.bl false)) := by first | rfl | (unfold gIsi; simp only [tyD, Option.bind_some]; decide +kernel)
theorem isi_dict_bool : gIsi [.dic kds, .ty "bool"] = some (.fz (.bl false)) := by first | rfl | (unfold gIsi; simp only [tyD, Option.bind_some]; decide +kernel)
theorem isi_dict_str : gIsi [.dic kds, .ty "str"] = some (.fz (.bl false)) := by first | rfl | (unfold gIsi; simp only [tyD, Option.bind_some]; decide +kernel)
theorem isi_dict_list : gIsi [.dic kds, .ty "list"] = some (.fz (.bl false)) := by first | rfl | (unfold gIsi; simp only [tyD, Option.bind_some]; decide +kernel)
theorem isi_dict_tuple : gIsi [.dic kds, .ty "tuple"] = some (.fz (.bl false)) := by first | rfl | (unfold gIsi; simp only [tyD, Option.bind_some]; decide +kernel)
theorem isi_dict_dict : gIsi [.dic kds, .ty "dict"] = some (.fz (.bl true)) := by first | rfl | (unfold gIsi; simp only [tyD, Option.bind_some]; decide +kernel)
theorem items_s : itemsD (.str x) = some (chD x) := rfl
theorem gListX_l : gListX [.lst ds] = some (.ow (.lst ds)) := rfl
theorem gListX_t : gListX [.tup ds] = some (.ow (.lst ds)) := rfl
theorem gListX_s (h : x.cps.size ≤ 1000000) : gListX [.str x] = some (.ow (.lst (chD x))) := by unfold gListX gListT; simp only [gList, h, if_true] <;> rfl
theorem gTupleX_l : gTupleX [.lst ds] = some (.fz (.tup ds)) := rfl
theorem gTupleX_t : gTupleX [.tup ds] = some (.fz (.tup ds)) := rfl
theorem gTupleX_s (h : x.cps.size ≤ 1000000) : gTupleX [.str x] = some (.fz (.tup (chD x))) := by unfold gTupleX gTupleT; simp only [gTuple, h, if_true] <;> rfl
end
end FV

namespace FV
open PySem PySem.Spec PyProof.Rows L2
/-! ### texts as lists of signs -/
def tx (l : List Nat) : Str := ⟨l.toArray⟩
theorem tx_cps {l : List Nat} : (tx l).cps.toList = l := rfl
theorem tx_size {l : List Nat} : (tx l).cps.size = l.length := rfl
theorem tx_length {l : List Nat} : (tx l).length = l.length := rfl
theorem tx_one {c : Nat} : (⟨#[c]⟩ : Str) = tx [c] := rfl
theorem tx_inj {a b : List Nat} (h : tx a = tx b) : a = b := by
  have := congrArg (fun s : Str => s.cps.toList) h
  exact this
theorem tx_eq {a b : List Nat} : (tx a = tx b) = (a = b) := propext ⟨tx_inj, fun h => by rw [h]⟩
theorem tx_app {a b : List Nat} : tx a ++ tx b = tx (a ++ b) := by
  show (⟨a.toArray ++ b.toArray⟩ : Str) = ⟨(a ++ b).toArray⟩
  rw [List.append_toArray]
theorem ch_tx {l : List Nat} : chD (tx l) = l.map fun c => .str (tx [c]) := rfl
theorem gAdd_s {a b : List Nat} (h : a.length + b.length ≤ 1000000) : gAdd (.str (tx a)) (.str (tx b)) = some (.fz (.str (tx (a ++ b)))) := by
  unfold gAdd gI0 gStrCat
  simp only [Option.none_or, tx_length, h, if_true, tx_app, Option.some_or]
theorem gAddI_s {a b : List Nat} (h : a.length + b.length ≤ 1000000) : gAddI (.str (tx a)) (.str (tx b)) = some (.fz (.str (tx (a ++ b)))) := by
  unfold gAddI gI0 gStrCat
  simp only [Option.none_or, tx_length, h, if_true, tx_app]
theorem gInX_s {c : Nat} {l : List Nat} : gInX (.str (tx [c])) (.str (tx l)) = some (.fz (.bl (decide (c ∈ l)))) := by
  unfold gInX gIn
  simp only [tx_cps, Option.some_or]
  congr
theorem gNotInX_s {c : Nat} {l : List Nat} : gNotInX (.str (tx [c])) (.str (tx l)) = some (.fz (.bl (!decide (c ∈ l)))) := by
  unfold gNotInX gNotIn gIn
  simp only [tx_cps, Option.some_or, Option.bind_some]
  congr
theorem ixD_s {l : List Nat} {i : Int} (h : l.length ≤ 1000000) : ixD (.str (tx l)) (.int i) = (atI l i).map fun c => .fz (.str (tx [c])) := by
  unfold ixD
  simp only [tx_length, h, if_true, tx_cps]
  rfl
theorem gInX_d {kds : List (Key × D)} {x : Str} : gInX (.str x) (.dic kds) = some (.fz (.bl (valD kds (.inr x)).isSome)) := rfl
theorem gNotInX_d {kds : List (Key × D)} {x : Str} : gNotInX (.str x) (.dic kds) = some (.fz (.bl (!(valD kds (.inr x)).isSome))) := rfl
theorem ixD_d {kds : List (Key × D)} {x : Str} : ixD (.dic kds) (.str x) = (valD kds (.inr x)).map .fz := rfl
theorem gLen_tx {l : List Nat} (h : l.length ≤ 1000000) : gLen [.str (tx l)] = some (.fz (.int l.length)) := gLen_s (x := tx l) h
theorem gEq_tx {a b : List Nat} : gEq (.str (tx a)) (.str (tx b)) = some (.fz (.bl (decide (a = b)))) := by
  rw [gEq_ss]
  simp only [tx_eq]
theorem gNe_tx {a b : List Nat} : gNe (.str (tx a)) (.str (tx b)) = some (.fz (.bl (!decide (a = b)))) := by
  rw [gNe_ss]
  simp only [tx_eq]
/-! ### dicts with text keys -/
theorem valD_map {α : Type} {k : α → Key} {f : α → D} (inj : ∀ a b, k a = k b → a = b) {a : α} : ∀ {l : List α}, a ∈ l → valD (l.map fun x => (k x, f x)) (k a) = some (f a)
  | [], h => by cases h
  | b :: l, h => by
    unfold valD
    rw [List.map_cons, List.find?_cons]
    by_cases e : k b = k a
    · have := inj _ _ e
      subst this
      simp
    · simp only [e, decide_false]
      have h' : a ∈ l := by
        rcases List.mem_cons.1 h with rfl | h
        · exact (e rfl).elim
        · exact h
      exact valD_map inj h'
theorem valD_not {α : Type} {k : α → Key} {f : α → D} {q : Key} : ∀ {l : List α}, (∀ x ∈ l, k x ≠ q) → valD (l.map fun x => (k x, f x)) q = none
  | [], _ => rfl
  | b :: l, h => by
    unfold valD
    rw [List.map_cons, List.find?_cons]
    simp only [h b List.mem_cons_self, decide_false]
    exact valD_not (f := f) fun x hx => h x (List.mem_cons_of_mem _ hx)
theorem putD_new {kds : List (Key × D)} {k : Key} {d : D} (h : ∀ p ∈ kds, p.1 ≠ k) : putD kds k d = kds ++ [(k, d)] := by
  unfold putD
  rw [if_neg]
  simp only [List.any_eq_true, decide_eq_true_eq, not_exists, not_and]
  exact h
/-- a dict comprehension over unlike keys -/
theorem dcL_new {α : Type} {ow : List Nat} {gg : GG} {fk fv : FX} (inj : α → D) (key : α → Key) (val : α → D) (ρ0 : En) : ∀ (xs : List α) (acc : List (Key × D)), acc.length + xs.length ≤ 1000000 → (acc.map (·.1) ++ xs.map key).Nodup →
    (∀ a ∈ xs, ∃ ρ1 ρ3 ρ4 dk, gg (inj a) ρ0 = some ρ1 ∧ xF fk ρ1 = .ok (.fz dk) ρ3 ∧ keyOf dk = some (key a) ∧ xF fv ρ3 = .ok (.fz (val a)) ρ4 ∧ forget ow ρ4 = ρ0) →
    dcL ow gg xYes fk fv (xs.map inj) acc ρ0 = .ok (acc ++ xs.map fun a => (key a, val a)) ρ0
  | [], acc, _, _, _ => by simp [dcL]
  | a :: xs, acc, hl, nd, h => by
    obtain ⟨ρ1, ρ3, ρ4, dk, e1, e2, e3, e4, e5⟩ := h a List.mem_cons_self
    rw [List.length_cons] at hl
    rw [List.map_cons, dcL, e1]
    simp only [xYes, e2, e4, e3]
    have nd' := List.nodup_append.1 nd
    rw [if_pos (by omega), e5, putD_new fun p hp z => by
      have := nd'.2.2 p.1 (List.mem_map_of_mem hp) (key a) (by simp)
      exact this z]
    rw [dcL_new inj key val ρ0 xs (acc ++ [(key a, val a)]) (by rw [List.length_append, List.length_singleton]; omega) (by simpa [List.append_assoc] using nd) fun b hb => h b (List.mem_cons_of_mem _ hb)]
    rw [List.append_assoc, List.singleton_append, List.map_cons]
theorem dcTL_new {α : Type} {ow : List Nat} {gg : GG} {fk fv : FX} (inj : α → D) (key : α → Key) (s : Sl) (u : T) (hu : uOf s = some u) (ρ0 : En) : ∀ (xs : List α) (ks : List Key) (ts : List T), ks.length + xs.length ≤ 1000000 → (ks ++ xs.map key).Nodup →
    (∀ a ∈ xs, ∃ ρ1 ρ3 ρ4 dk, gg (inj a) ρ0 = some ρ1 ∧ xF fk ρ1 = .ok (.fz dk) ρ3 ∧ keyOf dk = some (key a) ∧ fv ρ3 = .ok s ρ4 ∧ forget ow ρ4 = ρ0) →
    dcTL ow gg xYes fk fv (xs.map inj) ks ts ρ0 = .ok (ks ++ xs.map key, ts ++ xs.map fun _ => u) ρ0
  | [], ks, ts, _, _, _ => by simp [dcTL]
  | a :: xs, ks, ts, hl, nd, h => by
    obtain ⟨ρ1, ρ3, ρ4, dk, e1, e2, e3, e4, e5⟩ := h a List.mem_cons_self
    rw [List.length_cons] at hl
    rw [List.map_cons, dcTL, e1]
    simp only [xYes, e2, e4, e3, hu]
    have nd' := List.nodup_append.1 nd
    rw [if_pos ⟨by omega, by
      unfold newK
      rw [List.all_eq_true]
      intro g hg
      have := nd'.2.2 g hg (key a) (by simp)
      simp [this]⟩, e5]
    rw [dcTL_new inj key s u hu ρ0 xs (ks ++ [key a]) (ts ++ [u]) (by rw [List.length_append, List.length_singleton]; omega) (by simpa [List.append_assoc] using nd) fun b hb => h b (List.mem_cons_of_mem _ hb)]
    rw [List.append_assoc, List.singleton_append, List.map_cons, List.append_assoc, List.singleton_append, List.map_cons]
theorem chars_map {l : List Nat} : (chD (tx l)) = l.map fun c => D.str (tx [c]) := rfl
/-- a comprehension with two fors -/
theorem lc2L_all {α β : Type} {ow own1 : List Nat} {gg gg1 : GG} {gi1 : En → R (List D)} {f : FX} (inj : α → D) (inj1 : β → D) (ys : List β) (mk : α → β → D) (ρ0 : En) : ∀ (xs : List α) (acc : List D), acc.length + xs.length * ys.length ≤ 1000000 →
    (∀ a ∈ xs, ∃ ρ1 ρ2, gg (inj a) ρ0 = some ρ1 ∧ gi1 ρ1 = .ok (ys.map inj1) ρ2 ∧ forget ow (forget own1 ρ2) = ρ0 ∧ ∀ b ∈ ys, ∃ ρ3 ρ5, gg1 (inj1 b) (forget own1 ρ2) = some ρ3 ∧ kF (f ρ3) = .ok (.fz (mk a b)) ρ5 ∧ forget own1 ρ5 = forget own1 ρ2) →
    lc2L ow own1 gg xYes gi1 gg1 xYes f (xs.map inj) acc ρ0 = .ok (acc ++ xs.flatMap fun a => ys.map (mk a)) ρ0
  | [], acc, _, _ => by simp [lc2L]
  | a :: xs, acc, hl, h => by
    obtain ⟨ρ1, ρ2, e1, e2, e3, e4⟩ := h a List.mem_cons_self
    rw [List.length_cons, Nat.succ_mul] at hl
    rw [List.map_cons, lc2L, e1]
    simp only [xYes, e2]
    have hin := lcL_of (ow := own1) (gg := gg1) (t := xYes) (f := f) inj1 (fun _ => true) (mk a) (forget own1 ρ2) ys acc (by omega) fun b hb => by
      obtain ⟨ρ3, ρ5, g1, g2, g3⟩ := e4 b hb
      exact ⟨ρ3, ρ3, g1, rfl, (fun z => by cases z), fun _ => ⟨ρ5, g2, g3⟩⟩
    rw [List.filter_eq_self.2 (fun _ _ => rfl)] at hin
    rw [hin]
    simp only
    rw [e3, lc2L_all inj inj1 ys mk ρ0 xs (acc ++ ys.map (mk a)) (by rw [List.length_append, List.length_map]; omega) fun b hb => h b (List.mem_cons_of_mem _ hb)]
    rw [List.append_assoc, List.flatMap_cons]

/-! ### objects under way -/
theorem ev_mut {i : Nat} {gp : T → En → R (List Nat)} {gm : GM} {gl : T → En → R (List Ar)} {ρ ρ1 ρ2 : En} {t : T} {js : List Nat} {ars : List Ar} {ds es ds' : List D} {d : D} (h0 : ρ[i]? = some (.dp t)) (h1 : gp t (ρ.set i .no) = .ok js ρ1) (h2 : t.at js = some (.nd .ls (ds.map .lf)))
    (h3 : gl t ρ1 = .ok ars ρ2) (h4 : dsOf ars = some es) (h5 : gm ds es = some (ds', d)) (h6 : i < ρ2.length) : xMuT i gp gm gl ρ = .ok (.fz d) (ρ2.set i (.dp (t.put js (.nd .ls (ds'.map .lf))))) := by
  unfold xMuT
  rw [h0]
  simp only [h1, h2, h3]
  unfold kMuT
  rw [h4, Option.bind_some, flatL_map, Option.bind_some, h5]
  simp only [h6, if_true]
theorem mApp_1 {ds : List D} {d : D} (h : ds.length < 1000000) : mApp ds [d] = some (ds ++ [d], .non) := by unfold mApp; simp only [h, if_true]
theorem lookup_zip {f : Str} : ∀ {fs : List Str} {ds : List D} {j : Nat}, ixStr fs f = some j → fs.length = ds.length → (fs.zip ds).lookup f = ds[j]?
  | [], _, _, h, _ => by cases h
  | g :: fs, [], _, _, hl => by cases hl
  | g :: fs, d :: ds, j, h, hl => by
    rw [ixStr] at h
    rw [List.zip_cons_cons, List.lookup_cons]
    split at h
    · rename_i e
      cases h
      rw [show (f == g) = true by simpa using e.symm]
      rfl
    · rename_i e
      rw [show (f == g) = false by simpa using fun z => e z.symm]
      cases e2 : ixStr fs f with
      | none => rw [e2] at h; cases h
      | some m =>
        rw [e2] at h; cases h
        rw [lookup_zip e2 (by simpa using hl)]
        rfl
theorem kFl_zip {c f : Str} {fs : List Str} {ds : List D} {d : D} {ρ : En} (j : Nat) (h : ixStr fs f = some j) (hl : fs.length = ds.length) (hd : ds[j]? = some d) : kFl c f (.ok (.fz (.ins c (fs.zip ds))) ρ) = .ok (.fz d) ρ := by
  unfold kFl
  simp only [if_true, lookup_zip h hl, hd]
theorem hasM_zip {c m : Str} {fs : List Str} {ds : List D} {ρ : En} (h : m ∉ fs) (hl : fs.length = ds.length) : hasM c m (.fz (.ins c (fs.zip ds))) ρ = true := by
  unfold hasM
  simp only [decide_true, Bool.true_and]
  rw [zip_fst hl]
  exact decide_eq_true h
theorem fld_at {c f : Str} {fs : List Str} {ts : List T} (j : Nat) (h : ixStr fs f = some j) : T.fld c f (.nd (.is c fs) ts) = ts[j]? := by
  unfold T.fld T.fldI
  simp only [if_true, h, Option.bind_some]
  rfl
theorem plF_at {c f : Str} {fs : List Str} {ts : List T} {u : T} {ρ : En} (j : Nat) (h : ixStr fs f = some j) (hu : ts[j]? = some u) : plF c f (.nd (.is c fs) ts) ρ = .ok [j] ρ := by
  unfold plF T.fldI
  simp only [if_true, h, Option.bind_some, T.kid, hu, Option.map_some]
theorem fset_new {c f : Str} {fs : List Str} {ts : List T} {u : T} {s : Sl} {i : Nat} {ρ : En} (hi : ρ[i]? = some (.dp (.nd (.is c fs) ts))) (h : ixStr fs f = none) (hu : uOf s = some u) (hl : fs.length < 1000) : kFset c f i s ρ = .ok .nx (ρ.set i (.dp (.nd (.is c (fs ++ [f])) (ts ++ [u])))) := by
  unfold kFset
  rw [hi]
  simp only [hl, and_self, if_true, hu]
  unfold setF
  rw [h]
def kL2 (own own1 : List Nat) (g : GG) (c : FX) (gi1 : En → R (List D)) (g1 : GG) (c1 f : FX) (r : R (List D)) : R Sl := match r with
  | .ok xs ρ1 => kLC2 (lc2L own own1 g c gi1 g1 c1 f xs [] (forget own ρ1))
  | .exc c fs ρ1 => .exc c fs ρ1
  | .bad => .bad
theorem ev_lc2 {own own1 : List Nat} {gi : En → R (List D)} {g : GG} {c : FX} {gi1 : En → R (List D)} {g1 : GG} {c1 f : FX} {ρ : En} : xLc2 own own1 gi g c gi1 g1 c1 f ρ = kL2 own own1 g c gi1 g1 c1 f (gi ρ) := by
  unfold xLc2 kL2
  cases gi ρ with
  | ok xs ρ1 => simp only; unfold kLC2; cases lc2L own own1 g c gi1 g1 c1 f xs [] (forget own ρ1) <;> rfl
  | _ => rfl
theorem kL2_ok {own own1 : List Nat} {g : GG} {c : FX} {gi1 : En → R (List D)} {g1 : GG} {c1 f : FX} {xs : List D} {ρ : En} : kL2 own own1 g c gi1 g1 c1 f (.ok xs ρ) = kLC2 (lc2L own own1 g c gi1 g1 c1 f xs [] (forget own ρ)) := rfl
theorem seq_ex {q : FY} {r : R Fl} {own : List Bool} {P : R Fl → Prop} {I : En → Prop} (h1 : Nxx r I) (h2 : ∀ ρ', I ρ' → P (kFin own (q ρ'))) : P (kFin own (kSeq q r)) := by
  obtain ⟨ρ', e, h⟩ := h1
  rw [e, kSeq_nx]
  exact h2 ρ' h
theorem plK_at {t : T} {g : En → R (List Nat)} {gb : FX} {ρ : En} {js : List Nat} {x : Str} {ks : List Key} {ts : List T} {k : Nat} (h1 : g ρ = .ok js ρ) (h2 : xF gb ρ = .ok (.fz (.str x)) ρ) (h3 : t.at js = some (.nd (.dc ks) ts)) (h4 : ixKey ks (.inr x) = some k) (h5 : k < ts.length) : plK t g gb ρ = .ok (js ++ [k]) ρ := by
  unfold plK
  rw [h1]
  simp only [h2]
  unfold kPlK
  rw [h3]
  simp only [kidOf, keyOf, Option.bind_some, h4, T.kid, List.getElem?_eq_getElem h5, Option.map_some]
end FV

namespace FV
open PySem PySem.Spec PyProof.Rows L2
/-! ### wishes as data -/
abbrev sD (l : List Nat) : D := .str (tx l)
abbrev sK (l : List Nat) : Key := .inr (tx l)
theorem sK_inj {a b : List Nat} (h : sK a = sK b) : a = b := tx_inj (Sum.inr.inj h)
def cel (gs ss : List Nat) : List (List Nat) := gs.flatMap fun a => ss.map fun b => [a, b]
def plc (cs : List (List Nat)) (n : Nat) (a : Nat) : List Nat := (List.range n).filter fun i => (cs.getD i []).headD 0 == a
def bhd (cs ps : List (List Nat)) (c : List Nat) : List (List Nat) := cs.filter fun o => decide (c ++ o ∈ ps)
def prs (cs ps : List (List Nat)) (l : List (List Nat)) : List (List Nat) := l.flatMap fun c => (bhd cs ps c).map fun o => c ++ o
def rowI (cs ps : List (List Nat)) (c : List Nat) : Int := ((bhd cs ps c).map fun o => (2 : Int) ^ (cs.idxOf o)).sum
def WN : List Str := ["kept_given", "kept_said", "kept_cells", "kept_index", "kept_places", "kept_bits", "kept_known", "kept_pairs", "kept_rows", "kept_closure"]
def knD (ps : List (List Nat)) : D := .dic (ps.map fun p => (sK p, .bl true))
def ixDc (cs : List (List Nat)) : D := .dic (cs.map fun c => (sK c, .int (cs.idxOf c : Nat)))
def plD (gs : List Nat) (cs : List (List Nat)) : D := .dic (gs.map fun a => (sK [a], .lst ((plc cs cs.length a).map fun i => .int (i : Nat))))
def btD (n : Nat) : D := .lst ((List.range n).map fun i => .int (2 ^ i))
def wishL (gs ss : List Nat) (ps : List (List Nat)) : List D := [sD gs, sD ss, .lst ((cel gs ss).map sD), ixDc (cel gs ss), plD gs (cel gs ss), btD (cel gs ss).length, knD ps, .lst ((prs (cel gs ss) ps (cel gs ss)).map sD), .lst ((cel gs ss).map fun c => .int (rowI (cel gs ss) ps c)), .non]
def wishD (gs ss : List Nat) (ps : List (List Nat)) : D := .ins "Wish" (WN.zip (wishL gs ss ps))
theorem wn_given : ixStr WN "kept_given" = some 0 := by decide +kernel
theorem wn_said : ixStr WN "kept_said" = some 1 := by decide +kernel
theorem wn_cells : ixStr WN "kept_cells" = some 2 := by decide +kernel
theorem wn_index : ixStr WN "kept_index" = some 3 := by decide +kernel
theorem wn_places : ixStr WN "kept_places" = some 4 := by decide +kernel
theorem wn_bits : ixStr WN "kept_bits" = some 5 := by decide +kernel
theorem wn_known : ixStr WN "kept_known" = some 6 := by decide +kernel
theorem wn_pairs : ixStr WN "kept_pairs" = some 7 := by decide +kernel
theorem wn_rows : ixStr WN "kept_rows" = some 8 := by decide +kernel
section
variable {gs ss : List Nat} {ps : List (List Nat)} {ρ : En}
theorem w_given : kFl "Wish" "kept_given" (.ok (.fz (wishD gs ss ps)) ρ) = .ok (.fz (sD gs)) ρ := kFl_zip 0 wn_given rfl rfl
theorem w_said : kFl "Wish" "kept_said" (.ok (.fz (wishD gs ss ps)) ρ) = .ok (.fz (sD ss)) ρ := kFl_zip 1 wn_said rfl rfl
theorem w_cells : kFl "Wish" "kept_cells" (.ok (.fz (wishD gs ss ps)) ρ) = .ok (.fz (.lst ((cel gs ss).map sD))) ρ := kFl_zip 2 wn_cells rfl rfl
theorem w_index : kFl "Wish" "kept_index" (.ok (.fz (wishD gs ss ps)) ρ) = .ok (.fz (ixDc (cel gs ss))) ρ := kFl_zip 3 wn_index rfl rfl
theorem w_places : kFl "Wish" "kept_places" (.ok (.fz (wishD gs ss ps)) ρ) = .ok (.fz (plD gs (cel gs ss))) ρ := kFl_zip 4 wn_places rfl rfl
theorem w_bits : kFl "Wish" "kept_bits" (.ok (.fz (wishD gs ss ps)) ρ) = .ok (.fz (btD (cel gs ss).length)) ρ := kFl_zip 5 wn_bits rfl rfl
theorem w_known : kFl "Wish" "kept_known" (.ok (.fz (wishD gs ss ps)) ρ) = .ok (.fz (knD ps)) ρ := kFl_zip 6 wn_known rfl rfl
theorem w_pairs : kFl "Wish" "kept_pairs" (.ok (.fz (wishD gs ss ps)) ρ) = .ok (.fz (.lst ((prs (cel gs ss) ps (cel gs ss)).map sD))) ρ := kFl_zip 7 wn_pairs rfl rfl
theorem w_rows : kFl "Wish" "kept_rows" (.ok (.fz (wishD gs ss ps)) ρ) = .ok (.fz (.lst ((cel gs ss).map fun c => .int (rowI (cel gs ss) ps c)))) ρ := kFl_zip 8 wn_rows rfl rfl
theorem w_hasM {m : Str} (h : m ∉ WN) : hasM "Wish" m (.fz (wishD gs ss ps)) ρ = true := hasM_zip h rfl
end
/-! ### lists -/
theorem cel_nodup {gs ss : List Nat} (h : gs.Nodup) (k : ss.Nodup) : (cel gs ss).Nodup := by
  unfold cel List.Nodup
  rw [List.pairwise_flatMap]
  refine ⟨fun a _ => ?_, ?_⟩
  · rw [List.pairwise_map]
    exact k.imp fun hne e => hne (by simpa using e)
  · refine h.imp fun {a b} hne x hx y hy e => ?_
    obtain ⟨u, _, rfl⟩ := List.mem_map.1 hx
    obtain ⟨v, _, rfl⟩ := List.mem_map.1 hy
    simp at e
    exact hne e.1
theorem mem_cel {gs ss : List Nat} {c : List Nat} : c ∈ cel gs ss ↔ ∃ a b, a ∈ gs ∧ b ∈ ss ∧ c = [a, b] := by
  unfold cel
  rw [List.mem_flatMap]
  constructor
  · rintro ⟨a, ha, h⟩
    obtain ⟨b, hb, rfl⟩ := List.mem_map.1 h
    exact ⟨a, b, ha, hb, rfl⟩
  · rintro ⟨a, b, ha, hb, rfl⟩
    exact ⟨a, ha, List.mem_map_of_mem hb⟩
theorem cel_length {gs ss : List Nat} : (cel gs ss).length = gs.length * ss.length := by
  unfold cel
  induction gs with
  | nil => simp
  | cons a gs ih => rw [List.flatMap_cons, List.length_append, ih, List.length_map, List.length_cons, Nat.succ_mul, Nat.add_comm]
theorem putL_nil {u : T} : ∀ {ts : List T} {k : Nat}, T.putL ts k [] u = ts.set k u
  | [], _ => by simp [T.putL]
  | t :: ts, 0 => by
    rw [T.putL]
    cases t <;> rfl
  | t :: ts, k + 1 => by rw [T.putL, putL_nil, List.set_cons_succ]
theorem ixKey_map {α : Type} [BEq α] [LawfulBEq α] {k : α → Key} (inj : ∀ a b, k a = k b → a = b) {a : α} : ∀ {l : List α}, a ∈ l → ixKey (l.map k) (k a) = some (l.idxOf a)
  | [], h => by cases h
  | b :: l, h => by
    rw [List.map_cons, ixKey, List.idxOf_cons]
    by_cases e : b = a
    · subst e
      simp
    · rw [if_neg fun z => e (inj _ _ z), ixKey_map inj (by
        rcases List.mem_cons.1 h with rfl | h
        · exact (e rfl).elim
        · exact h)]
      have : (b == a) = false := by simpa using e
      rw [this]
      rfl
theorem map_set_idx {α β : Type} [BEq α] [LawfulBEq α] {F F' : α → β} {a : α} : ∀ {l : List α}, l.Nodup → a ∈ l → (∀ x ∈ l, x ≠ a → F' x = F x) → (l.map F).set (l.idxOf a) (F' a) = l.map F'
  | [], _, h, _ => by cases h
  | b :: l, nd, h, k => by
    obtain ⟨n1, n2⟩ := List.nodup_cons.1 nd
    rw [List.map_cons, List.idxOf_cons]
    by_cases e : b = a
    · subst e
      simp only [beq_self_eq_true, cond_true, List.set_cons_zero, List.map_cons]
      congr 1
      exact List.map_congr_left fun x hx => (k x (List.mem_cons_of_mem _ hx) fun z => n1 (z ▸ hx)).symm
    · have : (b == a) = false := by simpa using e
      rw [this]
      simp only [cond_false, List.set_cons_succ, List.map_cons]
      rw [map_set_idx n2 (by
        rcases List.mem_cons.1 h with rfl | h
        · exact (e rfl).elim
        · exact h) fun x hx => k x (List.mem_cons_of_mem _ hx), k b List.mem_cons_self e]
theorem zipIdx_idxOf {α : Type} [BEq α] [LawfulBEq α] {l : List α} (nd : l.Nodup) {p : α × Nat} (h : p ∈ l.zipIdx) : p.1 ∈ l ∧ l.idxOf p.1 = p.2 := by
  classical
  obtain ⟨a, i⟩ := p
  rw [List.mem_zipIdx_iff_getElem?] at h
  simp only at h
  refine ⟨List.mem_of_getElem? h, ?_⟩
  obtain ⟨h1, h2⟩ := List.getElem?_eq_some_iff.1 h
  have := nd.idxOf_getElem i h1
  rw [h2] at this
  exact this
theorem enD_map {α : Type} {l : List α} {f : α → D} : enD (l.map f) = l.zipIdx.map fun p => .tup [.int (p.2 : Nat), f p.1] := by
  unfold enD
  rw [List.mapIdx_eq_zipIdx_map, List.zipIdx_map, List.map_map]
  rfl
theorem stripL_map {α : Type} {l : List α} {f : α → T} : T.stripL (l.map f) = l.map fun a => (f a).strip := by
  induction l with
  | nil => rfl
  | cons a l ih => rw [List.map_cons, T.stripL, ih, List.map_cons]
theorem plc_succ {cs : List (List Nat)} {n a : Nat} : plc cs (n + 1) a = if (cs.getD n []).headD 0 == a then plc cs n a ++ [n] else plc cs n a := by
  unfold plc
  rw [List.range_succ, List.filter_append, List.filter_cons, List.filter_nil]
  split <;> simp
theorem intsD_of {α : Type} {l : List α} {f : α → Int} : intsD (l.map fun a => .int (f a)) = some (l.map f) := by
  have := intsD_map (l := l.map f)
  rw [List.map_map] at this
  exact this
theorem valD_kn {ps : List (List Nat)} {p : List Nat} : (valD (ps.map fun p => (sK p, D.bl true)) (sK p)).isSome = decide (p ∈ ps) := by
  by_cases h : p ∈ ps
  · rw [valD_map (k := sK) (f := fun _ => D.bl true) (fun _ _ => sK_inj) h, decide_eq_true h]
    rfl
  · rw [valD_not (k := sK) (f := fun _ => D.bl true) (fun x hx e => h (by rw [← sK_inj e]; exact hx)), decide_eq_false h]
    rfl
theorem cel_map {gs ss : List Nat} : (gs.flatMap fun a => ss.map fun b => sD [a, b]) = (cel gs ss).map sD := by
  unfold cel
  rw [List.map_flatMap]
  congr 1
  funext a
  rw [List.map_map]
  rfl
theorem zip_ix {cs : List (List Nat)} (nd : cs.Nodup) : (cs.zipIdx.map fun p => (sK p.1, D.int (p.2 : Nat))) = cs.map fun c => (sK c, D.int (cs.idxOf c : Nat)) := by
  rw [show (cs.map fun c => (sK c, D.int (cs.idxOf c : Nat))) = cs.zipIdx.map fun p => (sK p.1, D.int (cs.idxOf p.1 : Nat)) from by
    conv => lhs; arg 2; rw [← List.zipIdx_map_fst 0 cs]
    rw [List.map_map]
    rfl]
  refine List.map_congr_left fun p hp => ?_
  rw [(zipIdx_idxOf nd hp).2]
theorem zip_map2 {α : Type} {f : α → Key} {g : α → D} {l : List α} : (l.map f).zip (l.map g) = l.map fun a => (f a, g a) := by
  induction l with
  | nil => rfl
  | cons a l ih => rw [List.map_cons, List.map_cons, List.zip_cons_cons, ih, List.map_cons]
theorem strip_leaves {ds : List D} : (T.nd .ls (ds.map .lf)).strip = .lst ds := by
  rw [T.strip, stripL_map]
  simp only [T.strip]
  rw [List.map_id']
theorem in_kn {ps : List (List Nat)} {p : List Nat} : gInX (.str (tx p)) (knD ps) = some (.fz (.bl (decide (p ∈ ps)))) := by
  unfold knD
  rw [gInX_d]
  show some (Sl.fz (.bl (valD (ps.map fun p => (sK p, D.bl true)) (sK p)).isSome)) = _
  rw [valD_kn]
theorem notIn_kn {ps : List (List Nat)} {p : List Nat} : gNotInX (.str (tx p)) (knD ps) = some (.fz (.bl (!decide (p ∈ ps)))) := by
  unfold knD
  rw [gNotInX_d]
  show some (Sl.fz (.bl (!(valD (ps.map fun p => (sK p, D.bl true)) (sK p)).isSome))) = _
  rw [valD_kn]
theorem ix_index {cs : List (List Nat)} {c : List Nat} (h : c ∈ cs) : ixD (ixDc cs) (.str (tx c)) = some (.fz (.int (cs.idxOf c : Nat))) := by
  unfold ixDc
  rw [ixD_d]
  show (valD (cs.map fun c => (sK c, D.int (cs.idxOf c : Nat))) (sK c)).map Sl.fz = _
  rw [valD_map (k := sK) (f := fun c => D.int (cs.idxOf c : Nat)) (fun _ _ => sK_inj) h]
  rfl
theorem ix_bits {n i : Nat} (h : i < n) : ixD (btD n) (.int i) = some (.fz (.int (2 ^ i))) := by
  unfold btD
  show (atI ((List.range n).map fun i => D.int (2 ^ i)) (i : Int)).map Sl.fz = _
  rw [atI_nn (by omega), List.getElem?_map, show ((i : Int).toNat) = i from rfl, List.getElem?_range h]
  rfl
theorem ix_places {gs : List Nat} {cs : List (List Nat)} {a : Nat} (h : a ∈ gs) : ixD (plD gs cs) (.str (tx [a])) = some (.fz (.lst ((plc cs cs.length a).map fun i => .int (i : Nat)))) := by
  unfold plD
  rw [ixD_d]
  show (valD (gs.map fun a => (sK [a], D.lst ((plc cs cs.length a).map fun i => .int (i : Nat)))) (sK [a])).map Sl.fz = _
  rw [valD_map (k := fun a => sK [a]) (f := fun a => D.lst ((plc cs cs.length a).map fun i => .int (i : Nat))) (fun a b e => by simpa using sK_inj e) h]
  rfl
theorem prs_len {cs ps : List (List Nat)} : ∀ {l : List (List Nat)}, (prs cs ps l).length ≤ l.length * cs.length
  | [] => Nat.zero_le _
  | c :: l => by
    have := prs_len (cs := cs) (ps := ps) (l := l)
    have h2 : (bhd cs ps c).length ≤ cs.length := List.length_filter_le _ _
    unfold prs at this ⊢
    rw [List.flatMap_cons, List.length_append, List.length_map, List.length_cons, Nat.succ_mul]
    omega
theorem gSum_map {α : Type} {l : List α} {f : α → Int} : gSum [.lst (l.map fun a => .int (f a))] = some (.fz (.int (l.map f).sum)) := by
  unfold gSum
  simp only [intsD_of, Option.map_some]
end FV

namespace FV
open PySem PySem.Spec PyProof.Rows L2
/-! ### slices -/
theorem cutS_tx {l : List Nat} {lo hi : Option Int} : cutS (tx l) lo hi = tx (cutD l lo hi) := by
  unfold cutS cutD tx
  rfl
theorem slD_s {l : List Nat} {lo hi : Option Int} (h : l.length ≤ 1000000) : slD lo hi (.str (tx l)) = some (.fz (.str (tx (cutD l lo hi)))) := by
  unfold slD
  simp only [tx_length, h, if_true, cutS_tx]
theorem cut_to {α : Type} {l : List α} {i : Int} (h : 0 ≤ i) : cutD l none (some i) = l.take i.toNat := by
  unfold cutD HT.sIx
  simp only
  rw [if_neg (by omega), List.drop_zero, Nat.sub_zero, Nat.min_def]
  split
  · rfl
  · rw [List.take_of_length_le (Nat.le_refl _), List.take_of_length_le (by omega)]
theorem cut_from {α : Type} {l : List α} {i : Int} (h : 0 ≤ i) : cutD l (some i) none = l.drop i.toNat := by
  unfold cutD HT.sIx
  simp only
  rw [if_neg (by omega), Nat.min_def]
  split
  · rw [List.take_of_length_le (by rw [List.length_drop]; omega)]
  · rw [List.drop_eq_nil_of_le (Nat.le_refl _), List.drop_eq_nil_of_le (by omega), List.take_nil]
theorem cut_last {α : Type} {l : List α} : cutD l none (some (-1)) = l.dropLast := by
  unfold cutD HT.sIx
  simp only
  rw [if_pos (by decide), List.drop_zero, Nat.sub_zero, List.dropLast_eq_take]
  congr 1
  omega
theorem atI_last {α : Type} {l : List α} (h : l ≠ []) : atI l (-1) = some (l.getLast h) := by
  unfold atI ixN
  rw [if_neg (by decide)]
  have : 0 < l.length := List.length_pos_iff.2 h
  split
  · rw [Option.bind_some, show ((-1 : Int) + (l.length : Int)).toNat = l.length - 1 by omega, List.getLast_eq_getElem, List.getElem?_eq_getElem (by omega)]
  · omega
theorem gInt_b {b : Bool} : gInt [.bl b] = some (.fz (.int (if b = true then 1 else 0))) := rfl
theorem gAdd_l {a b : List D} (h : a.length + b.length ≤ 1000000) : gAdd (.lst a) (.lst b) = some (.ow (.lst (a ++ b))) := by
  unfold gAdd gI0 gStrCat gLstCat
  simp only [Option.none_or, h, if_true, Option.some_or]
theorem setD_d {kds : List (Key × D)} {d : D} {x : Str} (h : kds.length < 1000000) : setD (.str x) d (.dic kds) = some (.dic (putD kds (.inr x) d)) := by
  unfold setD keyOf
  simp only [Option.bind_some, h, if_true]
theorem dedS_nodup : ∀ (n : Nat) (xs : List Str), xs.length = n → xs.Nodup → dedS xs = xs
  | 0, xs, h, _ => by
    rw [List.length_eq_zero_iff.1 h]
    rfl
  | n + 1, xs, h, nd => by
    have hne : xs ≠ [] := by intro e; rw [e] at h; simp at h
    have e := List.dropLast_concat_getLast hne
    rw [← e] at nd ⊢
    have nd' := List.nodup_append.1 nd
    rw [dedS_snoc, dedS_nodup n xs.dropLast (by simp [h]) nd'.1, if_neg]
    simp only [List.any_eq_true, beq_iff_eq, not_exists, not_and]
    intro x hx z
    exact nd'.2.2 x hx _ (by simp) z
theorem signs_tx {l : List Nat} : signs (tx l) = l.map fun c => tx [c] := rfl
theorem ded_len {l : List Nat} (h : l.Nodup) : (dedS (signs (tx l))).length = l.length := by
  rw [dedS_nodup _ _ rfl, signs_tx, List.length_map]
  rw [signs_tx]
  exact List.Pairwise.map _ (fun a b hne e => hne (by have := tx_inj e; simpa using this)) h
/-! ### loops that end early -/
/-- a loop that returns at once when a test fails, and otherwise only goes on -/
theorem forL_find {fg : List Nat} {gg : GG} {y : FY} {s : Sl} (I : Nat → En → Prop) (J : En → Prop) (bad : D → Bool) : ∀ (xs : List D) (n : Nat) (ρ : En), I n ρ →
    (∀ (m : Nat) (d : D) (ρ : En), xs[m]? = some d → I (n + m) ρ → ∃ ρ1, gg d (forget fg ρ) = some ρ1 ∧ (bad d = true → ∃ ρ2, y ρ1 = .ok (.rt s) ρ2 ∧ J ρ2) ∧ (bad d = false → ∃ ρ2, (y ρ1 = .ok .nx ρ2 ∨ y ρ1 = .ok .ct ρ2) ∧ I (n + m + 1) ρ2)) →
    (xs.any bad = true ∧ ∃ ρ2, forL fg gg y xs ρ = .ok (.rt s) ρ2 ∧ J ρ2) ∨ (xs.any bad = false ∧ ∃ ρ2, forL fg gg y xs ρ = .ok .nx (forget fg ρ2) ∧ I (n + xs.length) ρ2)
  | [], n, ρ, h0, _ => .inr ⟨rfl, ρ, rfl, h0⟩
  | d :: ds, n, ρ, h0, hs => by
    obtain ⟨ρ1, e1, hb, hg⟩ := hs 0 d ρ rfl h0
    rw [forL, e1]
    cases hd : bad d with
    | true =>
      obtain ⟨ρ2, e2, j2⟩ := hb hd
      exact .inl ⟨by rw [List.any_cons, hd]; rfl, ρ2, by simp only [e2], j2⟩
    | false =>
      obtain ⟨ρ2, e2, h2⟩ := hg hd
      have ih := forL_find (s := s) (gg := gg) (fg := fg) (y := y) I J bad ds (n + 1) ρ2 h2 fun m d' ρ hm hi => by
        have := hs (m + 1) d' ρ (by simpa using hm) (by rw [show n + (m + 1) = n + 1 + m by omega]; exact hi)
        rw [show n + (m + 1) + 1 = n + 1 + m + 1 by omega] at this
        exact this
      rcases ih with ⟨a1, ρ3, a2, j3⟩ | ⟨a1, ρ3, a2, a3⟩
      · refine .inl ⟨by rw [List.any_cons, hd, a1]; rfl, ρ3, ?_, j3⟩
        rcases e2 with e2 | e2 <;> simp only [e2, a2]
      · refine .inr ⟨by rw [List.any_cons, hd, a1]; rfl, ρ3, ?_, by rw [List.length_cons, show n + (ds.length + 1) = n + 1 + ds.length by omega]; exact a3⟩
        rcases e2 with e2 | e2 <;> simp only [e2, a2]
end FV
namespace FV
open PySem PySem.Spec PyProof.Rows L2
theorem Nxx.nx {r : R Fl} {I : En → Prop} (h : Nxx r I) : Nx r I := by
  obtain ⟨ρ, e, q⟩ := h
  exact ⟨ρ, .inl e, q⟩
theorem Nxx.imp {r : R Fl} {I J : En → Prop} (h : Nxx r I) (k : ∀ ρ, I ρ → J ρ) : Nxx r J := by
  obtain ⟨ρ, e, q⟩ := h
  exact ⟨ρ, e, k ρ q⟩
theorem gEq_l2b {a b c d : Bool} : gEq (.lst [.bl a, .bl b]) (.lst [.bl c, .bl d]) = some (.fz (.bl (a == c && b == d))) := by
  cases a <;> cases b <;> cases c <;> cases d <;> rfl
def prd (cs l : List (List Nat)) : List (List Nat) := l.flatMap fun c => cs.map fun o => c ++ o
theorem prd_nodup {gs ss : List Nat} (hg : gs.Nodup) (hs : ss.Nodup) : (prd (cel gs ss) (cel gs ss)).Nodup := by
  have nc := cel_nodup hg hs
  have h2 : ∀ c ∈ cel gs ss, c.length = 2 := fun c h => by
    obtain ⟨a, b, _, _, rfl⟩ := mem_cel.1 h
    rfl
  have key : ∀ l : List (List Nat), (∀ c ∈ l, c.length = 2) → l.Nodup → (prd (cel gs ss) l).Nodup := by
    intro l hl nl
    unfold prd List.Nodup
    rw [List.pairwise_flatMap]
    refine ⟨fun c _ => ?_, ?_⟩
    · rw [List.pairwise_map]
      exact nc.imp fun hne e => hne (List.append_cancel_left e)
    · refine nl.imp_of_mem fun {a b} ha hb hne x hx y hy e => ?_
      obtain ⟨u, _, rfl⟩ := List.mem_map.1 hx
      obtain ⟨v, _, rfl⟩ := List.mem_map.1 hy
      exact hne (List.append_inj_left e (by rw [hl a ha, hl b hb]))
  exact key _ h2 nc
theorem mem_prd {cs l : List (List Nat)} {p : List Nat} : p ∈ prd cs l ↔ ∃ c o, c ∈ l ∧ o ∈ cs ∧ p = c ++ o := by
  unfold prd
  rw [List.mem_flatMap]
  constructor
  · rintro ⟨c, hc, h⟩
    obtain ⟨o, ho, rfl⟩ := List.mem_map.1 h
    exact ⟨c, o, hc, ho, rfl⟩
  · rintro ⟨c, o, hc, ho, rfl⟩
    exact ⟨c, hc, List.mem_map_of_mem ho⟩
end FV
namespace FV
open PySem PySem.Spec PyProof.Rows L2
theorem Nx_if {p q : FY} {b : Bool} {ρ : En} {Q : En → Prop} (h1 : b = true → Nx (p ρ) Q) (h2 : b = false → Nx (q ρ) Q) : Nx (kIf p q (.ok (.fz (.bl b)) ρ)) Q := by
  cases b with
  | true => exact h1 rfl
  | false => exact h2 rfl
theorem Nxx_if {p q : FY} {b : Bool} {ρ : En} {Q : En → Prop} (h1 : b = true → Nxx (p ρ) Q) (h2 : b = false → Nxx (q ρ) Q) : Nxx (kIf p q (.ok (.fz (.bl b)) ρ)) Q := by
  cases b with
  | true => exact h1 rfl
  | false => exact h2 rfl
end FV
namespace FV
open PySem PySem.Spec PyProof.Rows L2
theorem ev_dic0 {ρ : En} : xDic0 ρ = .ok (.ow (.dic [])) ρ := rfl
end FV

namespace FV
open PySem PySem.Spec PyProof.Rows L2
/-! ### == and in of lists -/
def natD (l : List Nat) : List D := l.map fun i => .int (i : Nat)
def chL (l : List Nat) : List D := l.map fun c => .str (tx [c])
theorem toPyL_map {α : Type} {f : α → D} {g : α → PyData} (h : ∀ a, toPy (f a) = some (g a)) : ∀ {l : List α}, toPyL (l.map f) = some (l.map g)
  | [] => rfl
  | a :: l => by rw [List.map_cons, toPyL, h a, Option.bind_some, toPyL_map h, Option.map_some, List.map_cons]
theorem lay_map {α : Type} {g : α → PyData} : ∀ {l : List α}, (∀ a ∈ l, (g a).canLay0 = true ∧ (g a).depth = 0) → PyData.canLayAll0 (l.map g) = true ∧ PyData.depthAll (l.map g) = 0
  | [], _ => ⟨rfl, rfl⟩
  | a :: l, h => by
    obtain ⟨h1, h2⟩ := h a List.mem_cons_self
    obtain ⟨k1, k2⟩ := lay_map (l := l) fun b hb => h b (List.mem_cons_of_mem _ hb)
    rw [List.map_cons, PyData.canLayAll0, PyData.depthAll, h1, h2, k1, k2]
    exact ⟨rfl, rfl⟩
theorem shaped_map {α : Type} {g : α → PyData} {l : List α} (h : ∀ a ∈ l, (g a).canLay0 = true ∧ (g a).depth = 0) : SeqAt.shaped (.list (l.map g)) = true := by
  obtain ⟨h1, h2⟩ := lay_map h
  unfold SeqAt.shaped
  rw [PyData.canLay0, PyData.depth, h1, h2]
  rfl
theorem eqv_map {α : Type} {g : α → PyData} (h : ∀ a b, PyData.eqv (g a) (g b) = true ↔ a = b) : ∀ {l m : List α}, PyData.eqvAll (l.map g) (m.map g) = true ↔ l = m
  | [], [] => ⟨fun _ => rfl, fun _ => rfl⟩
  | [], b :: m => ⟨fun h => (by cases h), fun h => (by cases h)⟩
  | a :: l, [] => ⟨fun h => (by cases h), fun h => (by cases h)⟩
  | a :: l, b :: m => by
    rw [List.map_cons, List.map_cons, PyData.eqvAll, Bool.and_eq_true, h a b, eqv_map h, List.cons.injEq]
theorem eqD_map {α : Type} {f : α → D} {g : α → PyData} (h1 : ∀ a, toPy (f a) = some (g a)) (h3 : ∀ a b, PyData.eqv (g a) (g b) = true ↔ a = b) {l m : List α} (h2 : ∀ a, a ∈ l ∨ a ∈ m → (g a).canLay0 = true ∧ (g a).depth = 0) :
    ∃ b, eqD (.lst (l.map f)) (.lst (m.map f)) = some b ∧ (b = true ↔ l = m) := by
  refine ⟨PyData.eqvAll (l.map g) (m.map g), ?_, eqv_map h3⟩
  unfold eqD eqDeep
  rw [show eqS (.lst (l.map f)) (.lst (m.map f)) = none from rfl]
  simp only [toPy, toPyL_map h1, Option.map_some, Option.bind_some, Option.none_or]
  rw [shaped_map (fun a ha => h2 a (.inl ha)), shaped_map (fun a ha => h2 a (.inr ha))]
  rfl
theorem eqD_nat {l m : List Nat} : eqD (.lst (natD l)) (.lst (natD m)) = some (decide (l = m)) := by
  obtain ⟨b, e, h⟩ := eqD_map (f := fun i : Nat => D.int (i : Nat)) (g := fun i : Nat => PyData.int (i : Nat)) (fun _ => rfl) (fun a b => by
    simp only [PyData.eqv, beq_iff_eq]
    omega) (l := l) (m := m) (fun a _ => ⟨rfl, rfl⟩)
  unfold natD
  rw [e]
  congr 1
  by_cases q : l = m
  · rw [decide_eq_true q]; exact h.2 q
  · rw [decide_eq_false q]; exact Bool.eq_false_iff.2 fun z => q (h.1 z)
theorem gEq_nat {l m : List Nat} : gEq (.lst (natD l)) (.lst (natD m)) = some (.fz (.bl (decide (l = m)))) := by unfold gEq; rw [eqD_nat]; rfl
theorem gNe_nat {l m : List Nat} : gNe (.lst (natD l)) (.lst (natD m)) = some (.fz (.bl (!decide (l = m)))) := by unfold gNe; rw [eqD_nat]; rfl
theorem gEq_nat0 {l : List Nat} : gEq (.lst (natD l)) (.lst []) = some (.fz (.bl (decide (l = [])))) := gEq_nat (m := [])
theorem str_ok {l : List Nat} (h : ∀ c ∈ l, c < 1114112) : PyData.strOk (tx l) = true := by
  unfold PyData.strOk tx
  simp only [List.all_toArray, List.all_eq_true, decide_eq_true_eq]
  exact h
theorem eqD_ch {l m : List Nat} (hl : ∀ c ∈ l, c < 1114112) (hm : ∀ c ∈ m, c < 1114112) : eqD (.lst (chL l)) (.lst (chL m)) = some (decide (l = m)) := by
  obtain ⟨b, e, h⟩ := eqD_map (f := fun c : Nat => D.str (tx [c])) (g := fun c : Nat => PyData.str (tx [c])) (fun _ => rfl) (fun a b => by
    rw [PyData.eqv, beq_iff_eq]
    exact ⟨fun h => by simpa using tx_inj h, fun h => by rw [h]⟩) (l := l) (m := m) (fun a ha => ⟨by
      rw [PyData.canLay0]
      exact str_ok fun c hc => by
        rw [List.mem_singleton.1 hc]
        exact ha.elim (hl a) (hm a), rfl⟩)
  unfold chL
  rw [e]
  congr 1
  by_cases q : l = m
  · rw [decide_eq_true q]; exact h.2 q
  · rw [decide_eq_false q]; exact Bool.eq_false_iff.2 fun z => q (h.1 z)
theorem gEq_ch0 {l : List Nat} (hl : ∀ c ∈ l, c < 1114112) : gEq (.lst (chL l)) (.lst []) = some (.fz (.bl (decide (l = [])))) := by
  unfold gEq
  rw [show D.lst [] = D.lst (chL []) from rfl, eqD_ch hl (fun c hc => by cases hc)]
  rfl
theorem in_2s_nat {l : List Nat} {x y : Str} (hx : PyData.strOk x = true) (hy : PyData.strOk y = true) : gInX (.lst (natD l)) (.tup [.str x, .str y]) = some (.fz (.bl false)) := by
  unfold gInX
  rw [show gIn (.lst (natD l)) (.tup [.str x, .str y]) = none from rfl]
  unfold inDeep
  rw [show toPy (.lst (natD l)) = some (.list (l.map fun i => PyData.int (i : Nat))) from by
    rw [toPy]
    unfold natD
    rw [toPyL_map (g := fun i : Nat => PyData.int (i : Nat)) (fun _ => rfl)]
    rfl]
  rw [show seqPy (.tup [.str x, .str y]) = some (false, [.str x, .str y]) from rfl]
  simp only [Option.bind_some]
  rw [shaped_map (fun a _ => ⟨rfl, rfl⟩)]
  rw [show SeqAt.shaped (.list [.str x, .str y]) = true from by
    unfold SeqAt.shaped
    simp only [PyData.canLay0, PyData.canLayAll0, hx, hy, PyData.depth, PyData.depthAll]
    rfl]
  rfl
theorem in_2s_bl {b : Bool} {x y : Str} : gInX (.bl b) (.tup [.str x, .str y]) = some (.fz (.bl false)) := rfl
/-! ### upper, lower -/
theorem up_of {c : Nat} (h : 97 ≤ c) (k : c < 123) : Unicode.upperOf c = [c - 32] := by
  have : ∀ i, i < 26 → Unicode.upperOf (97 + i) = [65 + i] := by decide +kernel
  have := this (c - 97) (by omega)
  rw [show 97 + (c - 97) = c by omega] at this
  rw [this]
  congr 1
  omega
theorem lo_of {c : Nat} (h : 65 ≤ c) (k : c < 91) : Unicode.lowerOf c = [c + 32] := by
  have : ∀ i, i < 26 → Unicode.lowerOf (65 + i) = [97 + i] := by decide +kernel
  have := this (c - 65) (by omega)
  rw [show 65 + (c - 65) = c by omega] at this
  rw [this]
  congr 1
  omega
theorem flat_one {f : Nat → Nat} : ∀ {l : List Nat}, (l.map fun c => [f c]).flatten = l.map f
  | [] => rfl
  | a :: l => by rw [List.map_cons, List.flatten_cons, flat_one, List.map_cons]; rfl
theorem placed_tx {l : List Nat} {g : Nat → Nat → List Nat} {f : Nat → Nat} (h : ∀ i c, l[i]? = some c → g i c = [f c]) : (⟨placed (tx l) g⟩ : Str) = tx (l.map f) := by
  unfold placed tx
  congr 1
  apply Array.toList_inj.1
  rw [Array.toList_flatten]
  simp only [List.mapIdx_toArray, List.map_toArray]
  rw [List.mapIdx_eq_zipIdx_map, List.map_map]
  rw [show (l.zipIdx.map (Array.toList ∘ fun p => (g p.2 p.1).toArray)) = l.zipIdx.map fun p => [f p.1] from List.map_congr_left fun p hp => by
    obtain ⟨c, i⟩ := p
    rw [List.mem_zipIdx_iff_getElem?] at hp
    exact h i c hp]
  rw [show (l.zipIdx.map fun p => [f p.1]) = l.map fun c => [f c] from by
    conv => rhs; rw [← List.zipIdx_map_fst 0 l]
    rw [List.map_map]
    rfl]
  exact flat_one
theorem upper_tx {l : List Nat} (h : ∀ c ∈ l, 97 ≤ c ∧ c < 123) : Txt.upper (tx l) = tx (l.map (· - 32)) :=
  placed_tx fun i c hc => up_of (h c (List.mem_of_getElem? hc)).1 (h c (List.mem_of_getElem? hc)).2
theorem lower_tx {l : List Nat} (h : ∀ c ∈ l, 65 ≤ c ∧ c < 91) : Txt.lower (tx l) = tx (l.map (· + 32)) :=
  placed_tx (g := fun i _ => Unicode.lowerAt (tx l).cps i) fun i c hc => by
    have hc2 := h c (List.mem_of_getElem? hc)
    unfold Unicode.lowerAt
    rw [show (tx l).cps[i]? = some c from by rw [← hc]; simp [tx]]
    have : (c == 0x3A3) = false := by simp; omega
    simp only [this, Bool.false_and, Bool.false_eq_true, if_false]
    exact lo_of hc2.1 hc2.2
end FV
namespace FV
open PySem PySem.Spec PyProof.Rows L2
theorem ix_at {l : List Nat} {z : Int} (i : Nat) (h : z = i) (hi : i < l.length) (hl : l.length ≤ 1000000) : ixD (.str (tx l)) (.int z) = some (.fz (.str (tx [l.getD i 0]))) := by
  subst h
  rw [ixD_s hl, atI_nn (by omega), show ((i : Int).toNat) = i from rfl, List.getElem?_eq_getElem hi, Option.map_some, List.getD_eq_getElem?_getD, List.getElem?_eq_getElem hi, Option.getD_some]
theorem mem_rng {n j : Nat} {d : D} (hd : (List.map (fun (i : Nat) => D.int (0 + (i : Int))) (List.range (n : Int).toNat))[j]? = some d) : j < n ∧ d = .int (0 + (j : Int)) := by
  rw [List.getElem?_map] at hd
  cases hr : (List.range (n : Int).toNat)[j]? with
  | none => rw [hr] at hd; cases hd
  | some k =>
    rw [hr] at hd
    obtain ⟨h1, h2⟩ := List.getElem?_eq_some_iff.1 hr
    rw [List.getElem_range] at h2
    subst h2
    cases hd
    exact ⟨by simpa using h1, rfl⟩
theorem len_rng {n : Nat} : (List.map (fun (i : Nat) => D.int (0 + (i : Int))) (List.range (n : Int).toNat)).length = n := by simp
end FV
namespace FV
open PySem PySem.Spec PyProof.Rows L2
theorem pick_l {ds : List D} {r : Int} (h0 : 0 ≤ r) (h1 : r < ds.length) : ∃ d, d ∈ ds ∧ atI ds r = some d := by
  have h : r.toNat < ds.length := by omega
  exact ⟨ds[r.toNat], List.getElem_mem h, by rw [atI_nn h0, List.getElem?_eq_getElem h]⟩
end FV
namespace FV
open PySem PySem.Spec PyProof.Rows L2
theorem boolsD_of {α : Type} {l : List α} {f : α → Bool} : boolsD (l.map fun a => .bl (f a)) = some (l.map f) := by
  have := boolsD_map (l := l.map f)
  rw [List.map_map] at this
  exact this
theorem gAny_map {α : Type} {l : List α} {f : α → Bool} : gAny [.lst (l.map fun a => .bl (f a))] = some (.fz (.bl (l.any f))) := by
  unfold gAny
  simp only [boolsD_of, Option.map_some, List.any_map]
  rfl
theorem gAll_map {α : Type} {l : List α} {f : α → Bool} : gAll [.lst (l.map fun a => .bl (f a))] = some (.fz (.bl (l.all f))) := by
  unfold gAll
  simp only [boolsD_of, Option.map_some, List.all_map]
  rfl
theorem gNe_bb {a b : Bool} : gNe (.bl a) (.bl b) = some (.fz (.bl (!(a == b)))) := rfl
end FV

namespace FV
open PySem PySem.Spec PyProof.Rows L2
/-! ### x[::-1] of lists and texts -/
def revS (y : Str) : Str := ⟨y.cps.toList.reverse.toArray⟩
theorem revS_by (y : Str) (u : Tok) : Txt.sliceBy y none none (-1, u) = revS y := by
  refine Str.ext' (Array.toList_inj.mp ?_)
  rw [step_rev_list]
  unfold revS
  rw [List.toList_toArray]
  apply List.ext_getElem
  · rw [List.length_map, List.length_range, List.length_reverse]; rfl
  · intro i h1 h2
    rw [List.length_map, List.length_range] at h1
    rw [List.getElem_map, List.getElem_range, List.getElem_reverse]
    have : y.length - 1 - i < y.cps.size := by have e : y.length = y.cps.size := rfl; omega
    simp only [Array.getD, this, dif_pos]
    rfl
def tRevA (K : PySem.W.Frag) (te : TE) : TE := fun σ H Q => te σ H fun x H1 => (∃ a xs, x = .ref a ∧ SqL K H1 a xs ∧ ∀ p, H1 p = none → Q (.ref p) (upd H1 p (.lst xs.reverse))) ∨ ∃ y, x = .str y ∧ y.length ≤ sizeLine ∧ Q (.str (revS y)) H1
theorem pe_revA {X : Cx} {e : Expr} {te : TE} {k : Nat} {p1 p2 p3 pos : Pos} (he : PE X e te) : PE X (.Subscript e (.Slice none none (some (.UnaryOp .USub (.Constant (.int 1) k p1) p2)) p3) pos) (tRevA X.K te) := by
  refine ⟨fun pins s σ H Q I h => ?_⟩
  refine Subscript_ (thn (he.run pins s σ H _ I h) fun v s1 ⟨x, H1, I1, r1, q1⟩ => ?_)
  have hst : PO X (some (.UnaryOp .USub (.Constant (.int 1) k p1) p2)) (tPart (tUn (rU fun i => .int (-i)) (tC (.int 1)))) := po_some (pe_un un_neg pe_int)
  refine wpAny_Slice (thn (po_none.run pins s1 σ H1 (fun o H2 => o = none ∧ H2 = H1) I1 ⟨rfl, rfl⟩) fun vl s2 ⟨l, H2, I2, pl, el, e2⟩ => ?_)
  subst el e2
  refine thn (po_none.run pins s2 σ H2 (fun o H3 => o = none ∧ H3 = H2) I2 ⟨rfl, rfl⟩) fun vu s3 ⟨u, H3, I3, pu, eu, e3⟩ => ?_
  subst eu e3
  refine thn (hst.run pins s3 σ H3 (fun o H4 => o = some (-1) ∧ H4 = H3) I3 ⟨1, rfl, -1, rfl, rfl, rfl⟩) fun vs s4 ⟨o, H4, I4, ps, eo, e4⟩ => ?_
  subst eo e4
  have I5 : Inv X pins σ H4 { s4 with heap := s4.heap.push { cls := .type "slice", data := .fields #[vl, vu, vs] } } := I4.kept (t' := s4.toks) fun b ob q => Heap.get?_push_of_some _ q
  rcases q1 with ⟨a, xs, ex, hx, q⟩ | ⟨y, ex, hy, q⟩
  · subst ex
    cases r1
    obtain ⟨its, r, ht, hz⟩ := I5.list hx
    have hlen := r.length
    show wpAny (model X.prog X.w) X.A (subscriptTail e (.Slice none none (some (.UnaryOp .USub (.Constant (.int 1) k p1) p2)) p3) (.ref a) (.ref s4.heap.objs.size)) (EP X pins σ Q) X.xe { s4 with heap := s4.heap.push { cls := .type "slice", data := .fields #[vl, vu, vs] } }
    refine tail_any (ops := [.ref a, .ref s4.heap.objs.size]) ht.isList.typeIs (PySem.slot_list_getitem.lookup) ?_ (by with_unfolding_all rfl)
    refine wpAny_getItem_list_slice ht.isList (Heap.IsSliceOf.new _ vl vu vs) pl pu ps (by decide) ?_ (by rw [List.size_toArray]; omega)
    rw [PySem.W.krv_pick]
    refine ⟨.ref _, _, I5.laid (t' := s4.toks) (o := .lst xs.reverse) (fun b ob q => Heap.get?_push_of_some _ q) (Nat.le_refl _) ?_, rfl, q _ (I5.hok.fresh (Nat.le_refl _))⟩
    exact ⟨by rw [List.length_reverse]; exact hz, _, 0, r.reverse, Heap.get?_push_size _ rfl⟩
  · subst ex
    obtain ⟨t, rfl⟩ := r1
    obtain ⟨l, rfl, el⟩ := IsPart.raw pl
    obtain ⟨u, rfl, eu⟩ := IsPart.raw pu
    obtain ⟨st, rfl, es⟩ := IsPart.raw ps
    cases l with
    | some l => cases el
    | none =>
      cases u with
      | some u => cases eu
      | none =>
        cases st with
        | none => cases es
        | some st =>
          obtain ⟨j, ut⟩ := st
          have es' : j = -1 := by cases es; rfl
          subst es'
          show wpAny (model X.prog X.w) X.A (subscriptTail e (.Slice none none (some (.UnaryOp .USub (.Constant (.int 1) k p1) p2)) p3) (.str y t) (.ref s4.heap.objs.size)) (EP X pins σ Q) X.xe { s4 with heap := s4.heap.push { cls := .type "slice", data := .fields #[partValue none, partValue none, partValue (some (-1, ut))] } }
          refine tail_any (ops := [.str y t, .ref s4.heap.objs.size]) (typeIs_str _ _ _) (F.slot_str_getitem.lookup) ?_ (by with_unfolding_all rfl)
          refine wpAny_getItem_str_slice (l := none) (u := none) (st := some (-1, ut)) ⟨_, Heap.get?_push_size _ rfl, rfl, rfl⟩ rfl ?_
          refine post_val_or_str ?_
          show (Txt.sliceBy y none none (-1, ut)).length ≤ sizeLine ∧ ∀ t' k, EP X pins σ Q (.str (Txt.sliceBy y none none (-1, ut)) t') _
          rw [revS_by]
          refine ⟨?_, fun t' kk => ⟨.str (revS y), H4, ?_, ⟨_, rfl⟩, q⟩⟩
          · have : (revS y).length = y.length := by show y.cps.toList.reverse.toArray.size = y.cps.size; simp
            rw [this]; exact hy
          · exact I5.tok _
def revD : D → Option Sl
  | .str y => if y.length ≤ 1000000 then some (.fz (.str (revS y))) else none
  | .lst ds => some (.ow (.lst ds.reverse))
  | _ => none
def xRev (a : En → R Th) : FX := fun ρ => (a ρ).bind fun t ρ1 => ofO ((t ρ1).bind revD) ρ1
section
variable {X : Cx} {PN : List Nat} {σ0 : Gs} {W : WX}
theorem fe_rev {a : Expr} {k : Nat} {p1 p2 p3 pos : Pos} {ga : En → R Th} (ha : FA X PN σ0 W a ga) : FE X PN σ0 W (.Subscript a (.Slice none none (some (.UnaryOp .USub (.Constant (.int 1) k p1) p2)) p3) pos) (xRev ga) := by
  obtain ⟨ta, pa, qa⟩ := ha.ex
  refine ⟨_, pe_revA pa, fun F B H σ ρ Q S q => qa F B H σ ρ _ S ?_⟩
  unfold xRev at q
  cases ea : ga ρ with
  | bad => rw [ea] at q; exact q
  | exc c fs ρ1 => rw [ea] at q; exact q
  | ok t ρ1 =>
    rw [ea, R.bind_ok] at q
    intro x H1 B1 e1 S1 k1
    cases et : t ρ1 with
    | none => rw [et] at q; exact q.elim
    | some d =>
      rw [et, Option.bind_some] at q
      have r := k1 B1 H1 ρ1 d (Ext.refl _) S1 et
      have q := EPost.mono e1 q
      cases es : revD d with
      | none => rw [es] at q; exact q.elim
      | some s =>
        rw [es] at q
        replace q : Fin X PN σ0 F B1 σ ρ1 s Q := q
        unfold revD at es
        split at es
        · split at es
          · rename_i hz
            cases es
            exact .inr ⟨_, r.str, line_le hz, q.flat S1 (.str _)⟩
          · cases es
        · cases es
          obtain ⟨a, xs, rfl, h1, h2⟩ := r.lst S1.bh
          exact .inl ⟨a, xs, rfl, .inl (.inl h1), q.newL S1 h2.reverse⟩
        · cases es
end
/-! ### is, is not of flags -/
section
variable {X : Cx}
theorem LRep.flag {B H : Hp} {x : L2.V} {b : Bool} (h : LRep X B H x (.bl b)) : x = .bl b := by
  rcases h with h | ⟨a, rfl, h⟩
  · cases h; rfl
  · exact h.elim
def gIsB : G2
  | .bl a, .bl b => some (.fz (.bl (decide (a = b))))
  | _, _ => none
def gNotB : G2
  | .bl a, .bl b => some (.fz (.bl (!decide (a = b))))
  | _, _ => none
theorem co_isB : ∃ r, OpR X (compareOp .Is) r ∧ Op2 X r gIsB := ⟨_, op_isBl, fun PN σ0 F B H σ ρ x y dx dy s Q S hx hy hg q => by
  unfold gIsB at hg
  split at hg
  · cases hg; exact ⟨_, _, hx.flag, hy.flag, q.flat S (.bl _)⟩
  · cases hg⟩
theorem co_notB : ∃ r, OpR X (compareOp .IsNot) r ∧ Op2 X r gNotB := ⟨_, op_notBl, fun PN σ0 F B H σ ρ x y dx dy s Q S hx hy hg q => by
  unfold gNotB at hg
  split at hg
  · cases hg; exact ⟨_, _, hx.flag, hy.flag, q.flat S (.bl _)⟩
  · cases hg⟩
end
theorem gIsB_b {a b : Bool} : gIsB (.bl a) (.bl b) = some (.fz (.bl (decide (a = b)))) := rfl
theorem gNotB_b {a b : Bool} : gNotB (.bl a) (.bl b) = some (.fz (.bl (!decide (a = b)))) := rfl
end FV

namespace FV
open PySem PySem.Spec PyProof.Rows L2
theorem adNe {a b : Nat} (h : a < b ∨ b < a) : ¬ @Eq Addr a b := fun e => by have e' : @Eq Nat a b := e; omega
theorem adOr {a b c : Nat} (h : @Eq Addr a b ∨ @LT.lt Nat _ a c) (k : a ≠ b ∧ c ≤ a) : False := by
  rcases h with h | h
  · exact k.1 h
  · omega
/-! ### zip of two lists, tuples, texts -/
theorem mem5 {n0 c m : Nat} (h : c = n0 + 4 ∨ c = n0 + 2 ∨ c = n0 + 3 ∨ c = n0 ∨ c = n0 + 1) (k : n0 + 4 < m) : c < m := by omega
theorem mem5' {n0 c : Nat} (h : c = n0 + 4 ∨ c = n0 + 2 ∨ c = n0 + 3 ∨ c = n0 ∨ c = n0 + 1) : n0 ≤ c := by omega
inductive Sv where
  | t (x : Str) | l (a : Addr) | p (a : Addr)
def Sv.val : Sv → L2.V
  | .t x => .str x
  | .l a => .ref a
  | .p a => .ref a
def sgnV (x : Str) : List L2.V := x.cps.toList.map fun c => .str ⟨#[c]⟩
def Sv.at (K : PySem.W.Frag) (H : Hp) : Sv → List L2.V → Prop
  | .t x, xs => xs = sgnV x
  | .l a, xs => SqL K H a xs
  | .p a, xs => SqT K H a xs
def Sv.cell (it : Addr) (i : Nat) (h : Heap) : Sv → Prop
  | .t x => ∃ t, h.IsStrIter it (strIterType x) x t i
  | .l a => h.IsListIter it a i
  | .p a => h.IsTupleIter it a i
def Sv.lt (n : Nat) : Sv → Prop
  | .t _ => True
  | .l a => a < n
  | .p a => a < n
theorem Sv.cell_at {it : Addr} {i : Nat} {h h' : Heap} {u : Sv} (c : u.cell it i h) (k : ∀ o, h.get? it = some o → h'.get? it = some o) : u.cell it i h' := by
  cases u with
  | t x => obtain ⟨t, o, ho, r⟩ := c; exact ⟨t, o, k o ho, r⟩
  | l a => exact Heap.IsListIter.at c k
  | p a => exact Heap.IsTupleIter.at c k
theorem Sv.cell_obj {it : Addr} {i : Nat} {h : Heap} {u : Sv} (c : u.cell it i h) : ∃ o, h.get? it = some o ∧ ∀ v, o.data ≠ .cell v := by
  cases u with
  | t x => obtain ⟨t, o, ho, _, d⟩ := c; exact ⟨o, ho, fun v z => by rw [d] at z; cases z⟩
  | l a => obtain ⟨o, ho, _, d⟩ := c; exact ⟨o, ho, fun v z => by rw [d] at z; cases z⟩
  | p a => obtain ⟨o, ho, _, d⟩ := c; exact ⟨o, ho, fun v z => by rw [d] at z; cases z⟩
section
variable {X : Cx} {pins : List (Addr × Obj)} {σ : L2.St} {H : Hp} {s : Shared}
theorem Sv.draws {A : Around} (hh : A.handled = none) (I : Inv X pins σ H s) {u : Sv} {it n0 i : Nat} {xs : List L2.V} (ha : u.at X.K H xs) (hl : u.lt n0) (hi : n0 ≤ it) (hc : u.cell it i s.heap) :
    ∃ fp P St, Draws X.prog X.w A it fp xs.length P St ∧ St i s.heap ∧ it ∈ fp ∧ (∀ b ∈ fp, b = it ∨ b < n0) ∧ (∀ j v x, P j v → xs[j]? = some x → RelV x v) ∧ ∀ j h, St j h → u.cell it j h := by
  cases u with
  | t x =>
    obtain ⟨t, hc⟩ := hc
    subst ha
    have e : x.cps.size = (sgnV x).length := by unfold sgnV; simp
    refine ⟨[it], _, _, e ▸ Draws.text hh it x t, hc, by simp, fun b hb => .inl (by simpa using hb), fun j v y hP hy => ?_, fun j h st => ⟨t, st⟩⟩
    obtain ⟨c, u, h1, rfl⟩ := hP
    unfold sgnV at hy
    rw [List.getElem?_map, Array.getElem?_toList, h1] at hy
    cases hy
    exact ⟨u, rfl⟩
  | l a =>
    obtain ⟨its, rv, p, _⟩ := I.list ha
    have e : its.toArray.size = xs.length := by rw [List.size_toArray]; exact rv.length.symm
    have hl' : a < n0 := hl
    refine ⟨[it, a], _, _, e ▸ Draws.list hh it a (adNe (.inl (Nat.lt_of_lt_of_le hl' hi))) its.toArray, ⟨hc, p.isList⟩, by simp, fun b hb => ?_, fun j v y hP hy => ?_, fun j h st => st.1⟩
    · rcases List.mem_cons.mp hb with h | h
      · exact .inl h
      · exact .inr (by rw [List.mem_singleton.mp h]; exact hl')
    · obtain ⟨w, h1, h2⟩ := rv.get hy
      have hP' : its.toArray[j]? = some v := hP
      rw [List.getElem?_toArray, h1] at hP'
      cases hP'
      exact h2
  | p a =>
    obtain ⟨its, rv, p, _⟩ := I.tuple ha
    have e : its.toArray.size = xs.length := by rw [List.size_toArray]; exact rv.length.symm
    have hl' : a < n0 := hl
    refine ⟨[it, a], _, _, e ▸ Draws.tuple hh it a (adNe (.inl (Nat.lt_of_lt_of_le hl' hi))) its.toArray, ⟨hc, p⟩, by simp, fun b hb => ?_, fun j v y hP hy => ?_, fun j h st => st.1⟩
    · rcases List.mem_cons.mp hb with h | h
      · exact .inl h
      · exact .inr (by rw [List.mem_singleton.mp h]; exact hl')
    · obtain ⟨w, h1, h2⟩ := rv.get hy
      have hP' : its.toArray[j]? = some v := hP
      rw [List.getElem?_toArray, h1] at hP'
      cases hP'
      exact h2
theorem Sv.begins (I : Inv X pins σ H s) {u : Sv} {xs : List L2.V} {w : Value} (ha : u.at X.K H xs) (r : RelV u.val w) :
    ∃ o Hc, Begins w o Hc ∧ Hc s.heap ∧ (∀ (h : Heap) it, h.get? it = some o → u.cell it 0 h) ∧ u.lt s.heap.objs.size := by
  cases u with
  | t x =>
    obtain ⟨t, rfl⟩ := r
    exact ⟨_, _, begins_text x t, trivial, fun h it e => ⟨t, _, e, rfl, rfl⟩, trivial⟩
  | l a =>
    cases r
    obtain ⟨its, rv, p, _⟩ := I.list ha
    exact ⟨_, _, begins_list a its.toArray, p.isList, fun h it e => ⟨_, e, rfl, rfl⟩, p.lt⟩
  | p a =>
    cases r
    obtain ⟨its, rv, p, _⟩ := I.tuple ha
    obtain ⟨o1, ho1, _⟩ := id p
    exact ⟨_, _, begins_tuple a its.toArray, p, fun h it e => ⟨_, e, rfl, rfl⟩, Heap.lt_size ho1⟩
theorem Sv.at_inj (I : Inv X pins σ H s) {u : Sv} {xs ys : List L2.V} (h : u.at X.K H xs) (k : u.at X.K H ys) : xs = ys := by
  cases u with
  | t x => rw [h, k]
  | l a => exact I.list_inj h k
  | p a => exact I.tuple_inj h k
end
def ItzG (K : PySem.W.Frag) (u v : Sv) : It :=
  ⟨fun i H => ∃ (xs ys : List L2.V) (x y : L2.V), u.at K H xs ∧ v.at K H ys ∧ xs[i]? = some x ∧ ys[i]? = some y,
    fun i H z H' => ∃ T x y, z = .ref T ∧ H T = none ∧ H' = upd H T (.tup [x, y]) ∧ (∀ xs, u.at K H xs → xs[i]? = some x) ∧ ∀ ys, v.at K H ys → ys[i]? = some y,
    fun i H => ∃ xs ys : List L2.V, u.at K H xs ∧ v.at K H ys ∧ i ≤ xs.length ∧ i ≤ ys.length ∧ (i = xs.length ∨ i = ys.length)⟩
theorem sep_of {n0 : Nat} {fp1 fp2 : List Addr} (m1 : n0 ∈ fp1) (m2 : n0 + 1 ∈ fp2) (h1 : ∀ b ∈ fp1, b = n0 ∨ b < n0) (h2 : ∀ b ∈ fp2, b = n0 + 1 ∨ b < n0) : ZipSep2 (n0 + 4) (n0 + 2) (n0 + 3) n0 (n0 + 1) fp1 fp2 where
  TIz := adNe (by omega)
  TOz := adNe (by omega)
  TITO := adNe (by omega)
  TIi1 := adNe (by omega)
  mem1 := m1
  zf1 := fun h => adOr (h1 _ h) (by omega)
  Tf1 := fun h => adOr (h1 _ h) (by omega)
  TIi2 := adNe (by omega)
  mem2 := m2
  zf2 := fun h => adOr (h2 _ h) (by omega)
  Tf2 := fun h => adOr (h2 _ h) (by omega)
  sep1_2 := fun h => adOr (h2 _ h) (by omega)
  sep2_1 := fun h => adOr (h1 _ h) (by omega)
theorem turn_zipG {P : Program} {w : World} {K : PySem.W.Frag} {elts : List Expr} {kk : Nat} {tpos : Pos} {u v : Sv} {n0 : Nat} (hu : u.lt n0) (hv : v.lt n0) :
    Turn P w K (.Tuple elts kk tpos) (ItzG K u v) [n0 + 4, n0 + 2, n0 + 3, n0, n0 + 1] (n0 + 4) (fun i h => IsZip h (n0 + 4) (n0 + 2) (n0 + 3) .none ∧ IsTupOf2 h (n0 + 2) (.ref n0) (.ref (n0 + 1)) ∧ (∃ x y, IsTupOf2 h (n0 + 3) x y) ∧ u.cell n0 i h ∧ v.cell (n0 + 1) i h) where
  mem := by simp
  obj := fun i h st c hc => by
    obtain ⟨hz, hTI, ⟨x, y, hTO⟩, c1, c2⟩ := st
    have e' : c = n0 + 4 ∨ c = n0 + 2 ∨ c = n0 + 3 ∨ c = n0 ∨ c = n0 + 1 := by simpa using hc
    rcases e' with q | q | q | q | q
    · rw [q]; exact ⟨_, hz, fun v q => nomatch q⟩
    · rw [q]; exact ⟨_, hTI, fun v q => nomatch q⟩
    · rw [q]; exact ⟨_, hTO, fun v q => nomatch q⟩
    · rw [q]; exact Sv.cell_obj c1
    · rw [q]; exact Sv.cell_obj c2
  keep := fun i h h' st k => by
    obtain ⟨hz, hTI, ⟨x, y, hTO⟩, c1, c2⟩ := st
    exact ⟨k _ (by simp) _ hz, k _ (by simp) _ hTI, ⟨x, y, k _ (by simp) _ hTO⟩, Sv.cell_at c1 fun o q => k n0 (by simp) o q, Sv.cell_at c2 fun o q => k (n0 + 1) (by simp) o q⟩
  item := by
    intro X hP hw hK hc i pins s σ H E I hf st hg
    subst hP hw hK
    obtain ⟨hz, hTI, ⟨x0, y0, hTO⟩, c1, c2⟩ := st
    obtain ⟨xs, ys, x, y, hqx, hqy, hx, hy⟩ := hg
    obtain ⟨fp1, P1, St1, D1, st1, m1, f1, r1, b1⟩ := Sv.draws (A := X.A.in1) (I.ok.hd hc) I hqx hu (Nat.le_refl n0) c1
    obtain ⟨fp2, P2, St2, D2, st2, m2, f2, r2, b2⟩ := Sv.draws (A := X.A.in1) (I.ok.hd hc) I hqy hv (Nat.le_succ n0) c2
    have hzl : n0 + 4 < s.heap.objs.size := Heap.lt_size hz
    have l1 : i < xs.length := (List.getElem?_eq_some_iff.mp hx).1
    have l2 : i < ys.length := (List.getElem?_eq_some_iff.mp hy).1
    refine wpAny_pyNext_zipD2_item (sep_of m1 m2 f1 f2) D1 D2 hz hTI hTO st1 st2 l1 l2 fun x1 x2 h' tk y1 y2 z' TO' d1 d2 hT hsz hk => ?_
    refine ⟨_, rfl, wpAny_letOwnedTupleGo_zip (s := { s with heap := h', toks := tk }) z' fun h'' z'' sb => ?_⟩
    have hT2 : h''.get? s.heap.objs.size = some { cls := .type "tuple", data := .seq #[x1, x2] } := (sb.2 _ (Nat.ne_of_gt hzl)).trans hT
    have new : ObjOk X.prog X.w (upd H s.heap.objs.size (.tup [x, y])) h'' s.heap.objs.size (.tup [x, y]) :=
      ⟨by show 2 ≤ sizeLine; decide, [x1, x2], .cons (r1 _ _ _ y1 hx) (.cons (r2 _ _ _ y2 hy) .nil), ⟨_, hT2, rfl, _, rfl⟩⟩
    have I1 : Inv X pins σ (upd H s.heap.objs.size (.tup [x, y])) { s with heap := h'', toks := tk } :=
      I.turnedNew (t' := tk) (ch := [n0 + 4, n0 + 2, n0 + 3, n0, n0 + 1]) (fun c o hb q => (sb.2 c (fun q' => hb (by simp [q']))).trans (hk c o (fun q' => hb (by simp [q'])) (fun q' => hb (by simp [q'])) (fun q' => hb (by simp [q'])) (fun q' => hb (by simp [q'])) q)) hf (Nat.le_refl _) new
    refine ⟨.ref s.heap.objs.size, _, I1, rfl, ⟨_, x, y, rfl, I.hok.fresh (Nat.le_refl _), rfl, fun l hl => by rw [Sv.at_inj I hl hqx]; exact hx, fun l hl => by rw [Sv.at_inj I hl hqy]; exact hy⟩, ⟨z'', ?_, ⟨x1, x2, ?_⟩, ?_, ?_⟩, fun c hcm => ?_⟩
    · exact (sb.2 _ (adNe (by omega))).trans (hk _ _ (adNe (by omega)) (adNe (by omega)) (adNe (by omega)) (adNe (by omega)) hTI)
    · exact (sb.2 _ (adNe (by omega))).trans TO'
    · exact Sv.cell_at (b1 _ _ d1) fun o q => (sb.2 _ (adNe (by omega))).trans q
    · exact Sv.cell_at (b2 _ _ d2) fun o q => (sb.2 _ (adNe (by omega))).trans q
    · have hlt : c < s.heap.objs.size := by
        have e' : c = n0 + 4 ∨ c = n0 + 2 ∨ c = n0 + 3 ∨ c = n0 ∨ c = n0 + 1 := by simpa using hcm
        exact mem5 e' hzl
      rw [upd_ne (Nat.ne_of_lt hlt)]
      exact (hf c hcm).1
  done := by
    intro X hP hw hK hc i pins s σ H E I hf st hg
    subst hP hw hK
    obtain ⟨hz, hTI, ⟨x0, y0, hTO⟩, c1, c2⟩ := st
    obtain ⟨xs, ys, hqx, hqy, l1, l2, hend⟩ := hg
    obtain ⟨fp1, P1, St1, D1, st1, m1, f1, r1, b1⟩ := Sv.draws (A := X.A.in1) (I.ok.hd hc) I hqx hu (Nat.le_refl n0) c1
    obtain ⟨fp2, P2, St2, D2, st2, m2, f2, r2, b2⟩ := Sv.draws (A := X.A.in1) (I.ok.hd hc) I hqy hv (Nat.le_succ n0) c2
    exact wpAny_pyNext_zipD2_end (sep_of m1 m2 f1 f2) D1 D2 hz hTI hTO st1 st2 l1 l2 hend fun h' tk hk => ⟨rfl, I.turnedL (t' := tk) (ch := [n0 + 4, n0 + 2, n0 + 3, n0, n0 + 1]) (fun c o hb q =>
      hk c o (fun q' => hb (by simp [q'])) (fun q' => hb (by simp [q'])) (fun q' => hb (by simp [q'])) (fun q' => hb (by simp [q'])) q) hf⟩
  self := fun A i s Q E st h => wpAny_pyIter_zip st.1 h
def iZipG (K : PySem.W.Frag) (ta : TA) : TI := fun σ H R => ta σ H fun vs H1 => ∃ (u v : Sv) (xs ys : List L2.V), vs = [u.val, v.val] ∧ u.at K H1 xs ∧ v.at K H1 ys ∧ R (ItzG K u v) H1
theorem pi_zipG {X : Cx} {e e2 : Expr} {ta : TA} {p pos tpos : Pos} {elts : List Expr} {kk : Nat} (hg : Gl X "zip") (hm : X.mg "zip" = none) (ha : PA X [e, e2] ta)
    (hs : starEach [e, e2] X.env = (false, eval e X.env) :: starEach [e2] X.env := by rfl) (hpl : (backTo pos (starEach [e2] X.env)).any (·.1) = false := by rfl) :
    PI X (.Tuple elts kk tpos) (.Call (.Name "zip" p) [e, e2] [] pos) (iZipG X.K ta) := by
  refine ⟨fun pins s σ H R I h => ?_⟩
  refine Call_ (ld_blt I hg hm PyProof.Rows.boot_zip (PyProof.Rows.callWith_type1 (thn (ha.run pos pins s σ H _ I h) fun us s1 ⟨vs, H1, I1, r1, q1⟩ => ?_) hs hpl))
  obtain ⟨u, v, xs, ys, ex, hqx, hqy, q⟩ := q1
  subst ex
  cases r1 with
  | cons r rr =>
    cases rr with
    | cons r' rr =>
      cases rr
      obtain ⟨o1, Hc1, B1, k1, c1, l1⟩ := Sv.begins I1 hqx r
      obtain ⟨o2, Hc2, B2, k2, c2, l2⟩ := Sv.begins I1 hqy r'
      refine zip_begins2 B1 B2 k1 k2 fun h' hz hTI hTO g1 g2 hsz hk => wpAny_pyIter_zip hz ?_
      have I2 : Inv X pins σ H1 { s1 with heap := h' } := I1.kept (t' := s1.toks) hk
      refine ⟨s1.heap.objs.size + 4, [s1.heap.objs.size + 4, s1.heap.objs.size + 2, s1.heap.objs.size + 3, s1.heap.objs.size, s1.heap.objs.size + 1], _, _, H1, rfl, I2, turn_zipG l1 l2, ⟨hz, hTI, ⟨_, _, hTO⟩, c1 _ _ g1, c2 _ _ g2⟩, fun c hcm => ?_, q⟩
      have hle : s1.heap.objs.size ≤ c := by
        have e' : c = s1.heap.objs.size + 4 ∨ c = s1.heap.objs.size + 2 ∨ c = s1.heap.objs.size + 3 ∨ c = s1.heap.objs.size ∨ c = s1.heap.objs.size + 1 := by simpa using hcm
        exact mem5' e'
      exact I1.fpOk hle (I1.hok.fresh hle)
/-- .. on data -/
def zipD (xs ys : List D) : List D := (xs.zip ys).map fun p => .tup [p.1, p.2]
def wZip (l : En → R (List Ar)) : En → R (List D) := fun ρ => match l ρ with
  | .ok ars ρ1 => (match dsOf ars with
    | some [a, b] => (match itemsD a, itemsD b with
      | some xs, some ys => .ok (zipD xs ys) ρ1
      | _, _ => .bad)
    | _ => .bad)
  | .exc c fs ρ1 => .exc c fs ρ1
  | .bad => .bad
structure SvOk (K : PySem.W.Frag) (mg : Str → Option Value) (B : Hp) (u : Sv) (vs : List L2.V) (ds : List D) : Prop where
  rep : RepL K mg B vs ds
  here : ∀ B' H' : Hp, Ext B B' → (∀ b o, B' b = some o → H' b = some o) → u.at K H' vs
theorem svOk {K : PySem.W.Frag} {mg : Str → Option Value} {B : Hp} {v : L2.V} {d : D} {ds : List D} (r : Rep K mg B v d) (h : itemsD d = some ds) : ∃ (u : Sv) (vs : List L2.V), v = u.val ∧ SvOk K mg B u vs ds := by
  cases d with
  | lst l =>
    cases h
    cases r with
    | lst h1 h2 => exact ⟨.l _, _, rfl, h2, fun B' H' e bh => .inl (.inl (bh _ _ (e.lst h1)))⟩
  | tup l =>
    cases h
    cases r with
    | tup h1 h2 => exact ⟨.p _, _, rfl, h2, fun B' H' e bh => .inl (.inl (bh _ _ (e.tup h1)))⟩
  | str x =>
    cases h
    cases r
    refine ⟨.t x, sgnV x, rfl, ?_, fun _ _ _ _ => rfl⟩
    unfold sgnV
    exact RepL.map (fun c => .str _) _
  | _ => cases h
theorem itOk_zip {K : PySem.W.Frag} {mg : Str → Option Value} {B Fo : Hp} {u v : Sv} {xs ys : List L2.V} {ds es : List D} (h : SvOk K mg B u xs ds) (k : SvOk K mg B v ys es) : ItOk K mg Fo (ItzG K u v) B (zipD ds es) where
  go := fun i d hd B' H' e bh _ => by
    unfold zipD at hd
    rw [List.getElem?_map] at hd
    cases ez : (ds.zip es)[i]? with
    | none => rw [ez] at hd; cases hd
    | some pr =>
      rw [ez] at hd
      cases hd
      obtain ⟨e1, e2⟩ := List.getElem?_zip_eq_some.mp ez
      obtain ⟨x, hx, rx⟩ := h.rep.get e1
      obtain ⟨y, hy, ry⟩ := k.rep.get e2
      refine ⟨⟨xs, ys, x, y, h.here B' H' e bh, k.here B' H' e bh, hx, hy⟩, fun z H2 hz PN σ0 F σ ρ S => ?_⟩
      obtain ⟨T, x', y', rfl, hT, rfl, f1, f2⟩ := hz
      have q1 := f1 _ (h.here B' H' e bh)
      have q2 := f2 _ (k.here B' H' e bh)
      rw [hx] at q1; cases q1
      rw [hy] at q2; cases q2
      have hB : B' T = none := S.bn hT
      exact ⟨upd B' T (.tup [x, y]), Ext.new hB, (S.alloc hT).join (S.fn hT) hB (S.apart hT) (S.apartU hT) upd_same,
        .tup upd_same (.cons ((rx.mono e).mono (Ext.new hB)) (.cons ((ry.mono e).mono (Ext.new hB)) .nil))⟩
  stop := fun B' H' e bh _ => by
    have l1 := h.rep.length
    have l2 := k.rep.length
    refine ⟨xs, ys, h.here B' H' e bh, k.here B' H' e bh, ?_⟩
    unfold zipD
    rw [List.length_map, List.length_zip]
    omega
section
variable {X : Cx} {PN : List Nat} {σ0 : Gs} {W : WX}
theorem fi_zip {elts : List Expr} {kk : Nat} {tpos p pos : Pos} {e e2 : Expr} {l : En → R (List Ar)} (b : Blt X "zip") (h : FC X PN σ0 W [e, e2] l)
    (hs : starEach [e, e2] X.env = (false, eval e X.env) :: starEach [e2] X.env := by rfl) (hpl : (backTo pos (starEach [e2] X.env)).any (·.1) = false := by rfl) :
    FI X PN σ0 W (.Tuple elts kk tpos) (.Call (.Name "zip" p) [e, e2] [] pos) (wZip l) := by
  obtain ⟨t, pt, qt⟩ := h.ex
  refine ⟨_, pi_zipG b.gl b.no pt hs hpl, fun F B H σ ρ Rr S q => qt F B H σ ρ _ S ?_⟩
  unfold wZip at q
  cases el : l ρ with
  | bad => rw [el] at q; exact q
  | exc c fs ρ1 => rw [el] at q; exact q
  | ok ars ρ1 =>
    rw [el] at q
    intro vs H1 B1 e1 S1 k1
    simp only at q
    split at q
    · rename_i a b hds
      have rl := dsOf_rep k1 hds
      split at q
      · rename_i xs ys ex ey
        cases rl with
        | cons p1 p2 =>
          cases p2 with
          | cons p2 p3 =>
            cases p3
            obtain ⟨u, us, rfl, h1⟩ := svOk p1 ex
            obtain ⟨v, ws, rfl, h2⟩ := svOk p2 ey
            exact ⟨u, v, us, ws, rfl, h1.here _ _ (Ext.refl _) S1.bh, h2.here _ _ (Ext.refl _) S1.bh, q _ H1 B1 e1 S1 (itOk_zip h1 h2)⟩
      · exact q.elim
    · exact q.elim
end
end FV

namespace FV
open PySem PySem.Spec PyProof.Rows L2
/-! ### a walked dict is locked for good -/
def tLk (te : TE) : TE := fun σ H Q => te σ H fun x H1 => ∃ d, x = .ref d ∧ ((∃ od kvs, H1 d = some (.frz od (.dK kvs)) ∧ Q x H1) ∨ ∃ kvs, H1 d = some (.dK kvs) ∧ ∀ od, Q x (upd H1 d (.frz od (.dK kvs))))
theorem pe_lk {X : Cx} {e : Expr} {te : TE} (he : PE X e te) : PE X e (tLk te) := by
  refine ⟨fun pins s σ H Q I h => ?_⟩
  refine thn (he.run pins s σ H _ I h) fun v s1 ⟨x, H1, I1, r1, d, ex, q⟩ => ?_
  subst ex
  rcases q with ⟨od, kvs, h1, q⟩ | ⟨kvs, h1, q⟩
  · exact ⟨_, H1, I1, r1, q⟩
  · obtain ⟨od, I2⟩ := I1.lock h1 trivial
    exact ⟨_, _, I2, r1, q od⟩
theorem ext_lock {B : Hp} {d : Addr} {od : Obj} {kvs : List (Key × V)} (h : B d = some (.dK kvs)) : Ext B (upd B d (.frz od (.dK kvs))) := fun b o e => by
  by_cases q : b = d
  · subst q
    rw [h] at e
    cases e
    exact ⟨_, upd_same, .lock⟩
  · exact ⟨o, by rw [upd_ne q]; exact e, .rfl⟩
section
variable {K : PySem.W.Frag} {mg : Str → Option Value} {PN : List Nat} {σ0 : Gs} {F B H : Hp} {σ : L2.St} {ρ : En}
theorem Sat.lock {d : Addr} {od : Obj} {kvs : List (Key × V)} (S : Sat K mg PN σ0 F B H σ ρ) (h : B d = some (.dK kvs)) : Sat K mg PN σ0 F (upd B d (.frz od (.dK kvs))) (upd H d (.frz od (.dK kvs))) σ ρ where
  len := S.len
  pin := S.pin
  gh := fun q hq => ⟨(ext_lock h).xd (S.gh q hq).1, (S.gh q hq).2.mono (ext_lock h)⟩
  bh := fun b u e => by
    by_cases q : b = d
    · subst q; rw [upd_same] at e ⊢; exact e
    · rw [upd_ne q] at e ⊢; exact S.bh b u e
  fh := fun b u e => by
    have hne : b ≠ d := fun z => by have := (S.fh b u e).2; rw [z, h] at this; cases this
    rw [upd_ne hne, upd_ne hne]; exact S.fh b u e
  sl := fun i s hs => (S.sl i s hs).later (ext_lock h) fun x hx => by
    have hf := ((S.sl i s hs).free hx).2
    have hne : x ≠ d := fun z => by rw [z, h] at hf; cases hf
    rw [upd_ne hne, upd_ne hne]
    exact ⟨rfl, hf⟩
  dj := S.dj
  dq := fun j k t u v x h1 h2 h3 h4 h5 => by
    have ne : ∀ (i : Nat) (s : Sl), ρ[i]? = some s → ∀ x ∈ fpS H σ i s, upd H d (.frz od (.dK kvs)) x = H x := fun i s hs x hx => by
      have hf := ((S.sl i s hs).free hx).2
      exact upd_ne (fun z => by rw [z, h] at hf; cases hf)
    have e1 := (S.sl j _ h1).fp_at (ne j _ h1)
    have e2 := (S.sl k _ h2).fp_at (ne k _ h2)
    rw [fpS_dp h3, fpS_dp h3] at e1
    rw [e1] at h4
    rw [e2] at h5
    exact S.dq j k t u v x h1 h2 h3 h4 h5
  vw := fun q hq => (S.vw q hq).mono (ext_lock h)
end
/-! ### d.items(), d.values(), d.keys() -/
def keyV : Key → D
  | .inl i => .int i
  | .inr x => .str x
theorem rep_key {K : PySem.W.Frag} {mg : Str → Option Value} {B : Hp} (k : Key) : Rep K mg B (L2.kV k) (keyV k) := by
  cases k with
  | inl i => exact .int i
  | inr x => exact .str x
def itemsOf (kds : List (Key × D)) : List D := kds.map fun p => .tup [keyV p.1, p.2]
theorem kv_at {K : PySem.W.Frag} {mg : Str → Option Value} {B : Hp} : ∀ {kvs : List (Key × V)} {kds : List (Key × D)} {i : Nat} {k : Key} {d : D}, kvs.map (·.1) = kds.map (·.1) → RepL K mg B (kvs.map (·.2)) (kds.map (·.2)) → kds[i]? = some (k, d) → ∃ v, kvs[i]? = some (k, v) ∧ Rep K mg B v d
  | [], [], _, _, _, _, _, h => by simp at h
  | [], _ :: _, _, _, _, e, _, _ => by simp at e
  | _ :: _, [], _, _, _, e, _, _ => by simp at e
  | (k1, v1) :: kvs, (k2, d2) :: kds, 0, k, d, e, r, h => by
    simp only [List.map_cons, List.cons.injEq] at e
    simp only [List.getElem?_cons_zero, Option.some.injEq, Prod.mk.injEq] at h
    obtain ⟨rfl, rfl⟩ := h
    rw [List.map_cons, List.map_cons] at r
    cases r with
    | cons p q => exact ⟨v1, by rw [e.1]; rfl, p⟩
  | (k1, v1) :: kvs, (k2, d2) :: kds, i + 1, k, d, e, r, h => by
    simp only [List.map_cons, List.cons.injEq] at e
    rw [List.map_cons, List.map_cons] at r
    cases r with
    | cons p q => exact kv_at (i := i) e.2 q (by simpa using h)
theorem kv_len {K : PySem.W.Frag} {mg : Str → Option Value} {B : Hp} {kvs : List (Key × V)} {kds : List (Key × D)} (e : kvs.map (·.1) = kds.map (·.1)) : kvs.length = kds.length := by
  have := congrArg List.length e
  simpa using this
theorem itOk_items {K : PySem.W.Frag} {mg : Str → Option Value} {B Fo : Hp} {a : Addr} {od : Obj} {kvs : List (Key × V)} {kds : List (Key × D)} (h : B a = some (.frz od (.dK kvs))) (ek : kvs.map (·.1) = kds.map (·.1)) (r : RepL K mg B (kvs.map (·.2)) (kds.map (·.2))) :
    ItOk K mg Fo (Iti a od kvs) B (itemsOf kds) where
  go := fun i d hd B' H' e bh _ => by
    unfold itemsOf at hd
    rw [List.getElem?_map] at hd
    cases ez : kds[i]? with
    | none => rw [ez] at hd; cases hd
    | some pr =>
      obtain ⟨k, dd⟩ := pr
      rw [ez] at hd
      cases hd
      obtain ⟨v, hv, rv⟩ := kv_at ek r ez
      refine ⟨⟨bh _ _ (e.frz h), (List.getElem?_eq_some_iff.mp hv).1⟩, fun z H2 hz PN σ0 F σ ρ S => ?_⟩
      obtain ⟨T, k', v', hkv, rfl, hT, rfl⟩ := hz
      rw [hv] at hkv
      cases hkv
      have hB : B' T = none := S.bn hT
      exact ⟨upd B' T (.tup [L2.kV k, v]), Ext.new hB, (S.alloc hT).join (S.fn hT) hB (S.apart hT) (S.apartU hT) upd_same,
        .tup upd_same (.cons (rep_key k) (.cons ((rv.mono e).mono (Ext.new hB)) .nil))⟩
  stop := fun B' H' e bh _ => by
    refine ⟨bh _ _ (e.frz h), ?_⟩
    unfold itemsOf
    rw [List.length_map, kv_len (K := K) (mg := mg) (B := B) ek]
    exact Nat.le_refl _
theorem itOk_vals {K : PySem.W.Frag} {mg : Str → Option Value} {B Fo : Hp} {a : Addr} {od : Obj} {kvs : List (Key × V)} {kds : List (Key × D)} (h : B a = some (.frz od (.dK kvs))) (ek : kvs.map (·.1) = kds.map (·.1)) (r : RepL K mg B (kvs.map (·.2)) (kds.map (·.2))) :
    ItOk K mg Fo (Itd a od kvs) B (kds.map (·.2)) where
  go := fun i d hd B' H' e bh _ => by
    rw [List.getElem?_map] at hd
    cases ez : kds[i]? with
    | none => rw [ez] at hd; cases hd
    | some pr =>
      obtain ⟨k, dd⟩ := pr
      rw [ez] at hd
      cases hd
      obtain ⟨v, hv, rv⟩ := kv_at ek r ez
      refine ⟨⟨bh _ _ (e.frz h), (List.getElem?_eq_some_iff.mp hv).1⟩, fun z H2 hz PN σ0 F σ ρ S => ?_⟩
      obtain ⟨rfl, k', hkv⟩ := hz
      rw [hv] at hkv
      cases hkv
      exact ⟨B', Ext.refl B', S, rv.mono e⟩
  stop := fun B' H' e bh _ => by
    refine ⟨bh _ _ (e.frz h), ?_⟩
    rw [List.length_map, kv_len (K := K) (mg := mg) (B := B) ek]
    exact Nat.le_refl _
theorem itOk_keys {K : PySem.W.Frag} {mg : Str → Option Value} {B Fo : Hp} {a : Addr} {od : Obj} {kvs : List (Key × V)} {kds : List (Key × D)} (h : B a = some (.frz od (.dK kvs))) (ek : kvs.map (·.1) = kds.map (·.1)) (r : RepL K mg B (kvs.map (·.2)) (kds.map (·.2))) :
    ItOk K mg Fo (Itk a od kvs) B (kds.map fun p => keyV p.1) where
  go := fun i d hd B' H' e bh _ => by
    rw [List.getElem?_map] at hd
    cases ez : kds[i]? with
    | none => rw [ez] at hd; cases hd
    | some pr =>
      obtain ⟨k, dd⟩ := pr
      rw [ez] at hd
      cases hd
      obtain ⟨v, hv, rv⟩ := kv_at ek r ez
      refine ⟨⟨bh _ _ (e.frz h), (List.getElem?_eq_some_iff.mp hv).1⟩, fun z H2 hz PN σ0 F σ ρ S => ?_⟩
      obtain ⟨rfl, k', v', hkv, rfl⟩ := hz
      rw [hv] at hkv
      cases hkv
      exact ⟨B', Ext.refl B', S, rep_key k⟩
  stop := fun B' H' e bh _ => by
    refine ⟨bh _ _ (e.frz h), ?_⟩
    rw [List.length_map, kv_len (K := K) (mg := mg) (B := B) ek]
    exact Nat.le_refl _
def wDi (g : List (Key × D) → List D) (f : FX) : En → R (List D) := fun ρ => (xF f ρ).bind fun s ρ1 => match s with
  | .fz (.dic kds) => .ok (g kds) ρ1
  | _ => .bad
section
variable {X : Cx} {PN : List Nat} {σ0 : Gs} {W : WX}
theorem fi_di {tg it : Expr} {e : Expr} {f : FX} {g : List (Key × D) → List D} {ti : TE → TI} {J : Addr → Obj → List (Key × V) → It} (h : FE X PN σ0 W e f)
    (hp : ∀ te, PE X e te → PI X tg it (ti te)) (ht : ∀ te σ H Rr, (te σ H fun x H1 => ∃ d o kvs, x = .ref d ∧ H1 d = some (.frz o (.dK kvs)) ∧ Rr (J d o kvs) H1) → ti te σ H Rr)
    (hj : ∀ {B : Hp} {a : Addr} {od : Obj} {kvs : List (Key × V)} {kds : List (Key × D)}, B a = some (.frz od (.dK kvs)) → kvs.map (·.1) = kds.map (·.1) → RepL X.K X.mg B (kvs.map (·.2)) (kds.map (·.2)) → ItOk X.K X.mg (fun _ => none) (J a od kvs) B (g kds)) :
    FI X PN σ0 W tg it (wDi g f) := by
  obtain ⟨t, pt, qt⟩ := (fe_f h).ex
  refine ⟨_, hp _ (pe_lk pt), fun F B H σ ρ Rr S q => ht _ _ _ _ (qt F B H σ ρ _ S ?_)⟩
  unfold wDi at q
  cases er : xF f ρ with
  | bad => rw [er] at q; exact q
  | exc c fs ρ1 => rw [er] at q; exact q
  | ok s ρ1 =>
    rw [er, R.bind_ok] at q
    intro v H1 B1 e1 S1 z
    split at q
    · rename_i kds
      cases z with
      | @dic a kvs _ hr ek rl =>
        refine ⟨a, rfl, ?_⟩
        rcases hr with hr | ⟨od, hr⟩
        · refine .inr ⟨kvs, S1.bh _ _ hr, fun od => ?_⟩
          exact ⟨a, od, kvs, rfl, upd_same, q _ _ _ (e1.trans (ext_lock hr)) (S1.lock hr) (hj upd_same ek (rl.mono (ext_lock hr)))⟩
        · exact .inl ⟨od, kvs, S1.bh _ _ hr, a, od, kvs, rfl, S1.bh _ _ hr, q _ _ _ e1 S1 (hj hr ek rl)⟩
    · exact q.elim
theorem fi_items {elts : List Expr} {kk : Nat} {tpos apos cpos : Pos} {e : Expr} {f : FX} (h : FE X PN σ0 W e f) (hbase : attributeBase e "items" X.env (eval e X.env) = eval e X.env := by rfl) (hline : (apos.endLine == cpos.line) = true := by rfl) :
    FI X PN σ0 W (.Tuple elts kk tpos) (.Call (.Attribute e "items" apos) [] [] cpos) (wDi itemsOf f) :=
  fi_di h (fun te pt => pi_items pt hbase hline) (fun te σ H Rr q => q) (fun h1 h2 h3 => itOk_items h1 h2 h3)
theorem fi_values {tg : Expr} {apos cpos : Pos} {e : Expr} {f : FX} (h : FE X PN σ0 W e f) (hbase : attributeBase e "values" X.env (eval e X.env) = eval e X.env := by rfl) (hline : (apos.endLine == cpos.line) = true := by rfl) :
    FI X PN σ0 W tg (.Call (.Attribute e "values" apos) [] [] cpos) (wDi (fun kds => kds.map (·.2)) f) :=
  fi_di h (fun te pt => pi_values pt hbase hline) (fun te σ H Rr q => q) (fun h1 h2 h3 => itOk_vals h1 h2 h3)
theorem fi_keys {tg : Expr} {apos cpos : Pos} {e : Expr} {f : FX} (h : FE X PN σ0 W e f) (hbase : attributeBase e "keys" X.env (eval e X.env) = eval e X.env := by rfl) (hline : (apos.endLine == cpos.line) = true := by rfl) :
    FI X PN σ0 W tg (.Call (.Attribute e "keys" apos) [] [] cpos) (wDi (fun kds => kds.map fun p => keyV p.1) f) :=
  fi_di h (fun te pt => pi_keysM pt hbase hline) (fun te σ H Rr q => q) (fun h1 h2 h3 => itOk_keys h1 h2 h3)
end
end FV

namespace FV
open PySem PySem.Spec PyProof.Rows L2
/-! ### how these are reckoned -/
def kZp2 (a b : Option (List D)) (ρ : En) : R (List D) := match a, b with
  | some xs, some ys => .ok (zipD xs ys) ρ
  | _, _ => .bad
def kZp1 (o : Option (List D)) (ρ : En) : R (List D) := match o with
  | some [a, b] => kZp2 (itemsD a) (itemsD b) ρ
  | _ => .bad
def kZp (r : R (List Ar)) : R (List D) := match r with
  | .ok ars ρ => kZp1 (dsOf ars) ρ
  | .exc c fs ρ => .exc c fs ρ
  | .bad => .bad
theorem ev_zip {l : En → R (List Ar)} {ρ : En} : wZip l ρ = kZp (l ρ) := by
  unfold wZip kZp kZp1 kZp2
  cases l ρ <;> rfl
theorem kZp_ok {ars : List Ar} {ρ : En} : kZp (.ok ars ρ) = kZp1 (dsOf ars) ρ := rfl
theorem kZp1_ok {a b : D} {ρ : En} : kZp1 (some [a, b]) ρ = kZp2 (itemsD a) (itemsD b) ρ := rfl
theorem kZp2_ok {xs ys : List D} {ρ : En} : kZp2 (some xs) (some ys) ρ = .ok (zipD xs ys) ρ := rfl
def kDi (g : List (Key × D) → List D) (r : R Sl) : R (List D) := match r with
  | .ok (.fz (.dic kds)) ρ => .ok (g kds) ρ
  | .exc c fs ρ => .exc c fs ρ
  | _ => .bad
theorem ev_di {g : List (Key × D) → List D} {f : FX} {ρ : En} : wDi g f ρ = kDi g (xF f ρ) := by
  unfold wDi kDi
  cases xF f ρ with
  | ok s ρ1 => cases s with
    | fz d => cases d <;> rfl
    | _ => rfl
  | exc c fs ρ1 => rfl
  | bad => rfl
theorem kDi_ok {g : List (Key × D) → List D} {kds : List (Key × D)} {ρ : En} : kDi g (.ok (.fz (.dic kds)) ρ) = .ok (g kds) ρ := rfl
theorem revD_l {ds : List D} : revD (.lst ds) = some (.ow (.lst ds.reverse)) := rfl
theorem revD_s {l : List Nat} (h : l.length ≤ 1000000) : revD (.str (tx l)) = some (.fz (.str (tx l.reverse))) := by
  show (if (tx l).length ≤ 1000000 then some (Sl.fz (.str (revS (tx l)))) else none) = _
  rw [if_pos (by rw [tx_length]; exact h)]
  rfl
end FV

namespace FV
open PySem PySem.Spec PyProof.Rows L2
/-! ### a loop, whatever comes of it -/
theorem forL_wp {fg : List Nat} {gg : GG} {y : FY} {Q : R Fl → Prop} (I : Nat → En → Prop) : ∀ (xs : List D) (n : Nat) (ρ : En), I n ρ →
    (∀ (m : Nat) (d : D) (ρ : En), xs[m]? = some d → I (n + m) ρ → ∃ ρ1, gg d (forget fg ρ) = some ρ1 ∧ ((∃ ρ2, (y ρ1 = .ok .nx ρ2 ∨ y ρ1 = .ok .ct ρ2) ∧ I (n + m + 1) ρ2) ∨ ∃ s ρ2, y ρ1 = .ok (.rt s) ρ2 ∧ Q (.ok (.rt s) ρ2))) →
    (∀ ρ', I (n + xs.length) ρ' → Q (.ok .nx (forget fg ρ'))) → Q (forL fg gg y xs ρ)
  | [], n, ρ, h0, _, hq => hq ρ h0
  | d :: ds, n, ρ, h0, hs, hq => by
    obtain ⟨ρ1, e1, h⟩ := hs 0 d ρ rfl h0
    rw [forL, e1]
    rcases h with ⟨ρ2, e2, h2⟩ | ⟨s, ρ2, e2, h2⟩
    · have hr := forL_wp I (Q := Q) (gg := gg) (y := y) (fg := fg) ds (n + 1) ρ2 h2 (fun m d' ρ' hd hi => by
        have := hs (m + 1) d' ρ' hd (by rw [show n + (m + 1) = n + 1 + m by omega]; exact hi)
        rw [show n + 1 + m + 1 = n + (m + 1) + 1 by omega]
        exact this) (fun ρ' hi => hq ρ' (by rw [List.length_cons, show n + (ds.length + 1) = n + 1 + ds.length by omega]; exact hi))
      rcases e2 with e2 | e2 <;> (simp only [e2]; exact hr)
    · simp only [e2]
      exact h2
/-! ### masks -/
def msk (l : List Nat) : Nat := (l.map (2 ^ ·)).sum
def mskP (p : Nat → Bool) : Nat → Nat
  | 0 => 0
  | n + 1 => mskP p n + if p n = true then 2 ^ n else 0
theorem mskP_lt (p : Nat → Bool) : ∀ n, mskP p n < 2 ^ n
  | 0 => by simp [mskP]
  | n + 1 => by
    have := mskP_lt p n
    rw [mskP, Nat.pow_succ]
    split <;> omega
theorem mskP_bit (p : Nat → Bool) (i : Nat) : ∀ n, (mskP p n).testBit i = (decide (i < n) && p i)
  | 0 => by simp [mskP]
  | n + 1 => by
    have h := mskP_lt p n
    have ih := mskP_bit p i n
    rw [mskP]
    by_cases hp : p n = true
    · rw [if_pos hp, Nat.add_comm, show 2 ^ n + mskP p n = 2 ^ n * 1 + mskP p n by omega, Nat.two_pow_add_eq_or_of_lt h 1, Nat.mul_one, Nat.testBit_or, Nat.testBit_two_pow, ih]
      by_cases e : n = i
      · subst e; simp [hp]
      · by_cases l : i < n
        · simp [e, l, show i < n + 1 by omega]
        · simp [e, l, show ¬ i < n + 1 by omega]
    · rw [if_neg hp, Nat.add_zero, ih]
      by_cases e : n = i
      · subst e; simp [hp]
      · by_cases l : i < n
        · simp [l, show i < n + 1 by omega]
        · simp [l, show ¬ i < n + 1 by omega]
theorem mskP_sum (p : Nat → Bool) : ∀ n, mskP p n = msk ((List.range n).filter p)
  | 0 => rfl
  | n + 1 => by
    rw [mskP, mskP_sum p n, List.range_succ, List.filter_append, List.filter_cons, List.filter_nil]
    unfold msk
    split <;> simp
theorem msk_eq {l : List Nat} {n : Nat} (nd : l.Nodup) (h : ∀ i ∈ l, i < n) : msk l = mskP (fun i => decide (i ∈ l)) n := by
  rw [mskP_sum]
  unfold msk
  refine (List.Perm.map _ ?_).sum_nat
  refine (List.perm_ext_iff_of_nodup nd (List.nodup_range.filter _)).2 fun i => ?_
  rw [List.mem_filter, List.mem_range, decide_eq_true_eq]
  exact ⟨fun hi => ⟨h i hi, hi⟩, fun hi => hi.2⟩
theorem le_sum_mem : ∀ {l : List Nat} {i : Nat}, i ∈ l → i ≤ l.sum
  | [], _, h => by cases h
  | a :: l, i, h => by
    rw [List.sum_cons]
    rcases List.mem_cons.1 h with rfl | h
    · omega
    · have := le_sum_mem h; omega
theorem msk_bit {l : List Nat} (nd : l.Nodup) (i : Nat) : (msk l).testBit i = decide (i ∈ l) := by
  obtain ⟨n, hn⟩ : ∃ n, ∀ i ∈ l, i < n := ⟨l.sum + 1, fun i hi => by have := le_sum_mem hi; omega⟩
  rw [msk_eq nd hn, mskP_bit]
  by_cases h : i ∈ l
  · simp [h, hn i h]
  · simp [h]
theorem msk_lt {l : List Nat} {n : Nat} (nd : l.Nodup) (h : ∀ i ∈ l, i < n) : msk l < 2 ^ n := by rw [msk_eq nd h]; exact mskP_lt _ _
theorem pos_bit {x : Nat} : 0 < x ↔ ∃ i, x.testBit i = true := by
  constructor
  · intro h
    exact Nat.exists_testBit_of_ne_zero (by omega)
  · rintro ⟨i, h⟩
    rcases Nat.eq_zero_or_pos x with e | e
    · rw [e, Nat.zero_testBit] at h; cases h
    · exact e
theorem and_pos {x y : Nat} : 0 < x &&& y ↔ ∃ i, x.testBit i = true ∧ y.testBit i = true := by
  rw [pos_bit]
  simp only [Nat.testBit_and, Bool.and_eq_true]
theorem and_pow {x i : Nat} : 0 < x &&& 2 ^ i ↔ x.testBit i = true := by
  rw [and_pos]
  constructor
  · rintro ⟨j, h, k⟩
    rw [Nat.testBit_two_pow, decide_eq_true_eq] at k
    rw [k]; exact h
  · intro h
    exact ⟨i, h, by rw [Nat.testBit_two_pow, decide_eq_true_eq]⟩
theorem gAnd_nn {a b : Nat} : gAnd (.int (a : Nat)) (.int (b : Nat)) = some (.fz (.int ((a &&& b : Nat) : Int))) := by
  show some (Sl.fz (.int (Builtin.bitAnd (a : Int) (b : Int)))) = _
  rw [PySem.W.os_band]
/-! ### cells -/
section
variable {g s : List Nat} {ps : List (List Nat)}
def idx (g s : List Nat) (c b : Nat) : Nat := (cel g s).idxOf [c, b]
theorem cel_in {c b : Nat} (hc : c ∈ g) (hb : b ∈ s) : [c, b] ∈ cel g s := mem_cel.2 ⟨c, b, hc, hb, rfl⟩
theorem idx_lt {c b : Nat} (hc : c ∈ g) (hb : b ∈ s) : idx g s c b < (cel g s).length := List.idxOf_lt_length_of_mem (cel_in hc hb)
theorem idx_at {c b : Nat} (hc : c ∈ g) (hb : b ∈ s) : (cel g s)[idx g s c b]? = some [c, b] := by
  have h := idx_lt hc hb
  rw [List.getElem?_eq_getElem h]
  congr 1
  exact List.getElem_idxOf h
theorem idx_inj {c b c' b' : Nat} (hc : c ∈ g) (hb : b ∈ s) (hc' : c' ∈ g) (hb' : b' ∈ s) (e : idx g s c b = idx g s c' b') : c = c' ∧ b = b' := by
  have h1 := idx_at hc hb
  have h2 := idx_at hc' hb'
  rw [e, h2] at h1
  simp at h1
  exact ⟨h1.1.symm, h1.2.symm⟩
theorem cel_filter (hg : g.Nodup) {c : Nat} (hc : c ∈ g) : (cel g s).filter (fun x => x.headD 0 == c) = s.map fun b => [c, b] := by
  unfold cel
  induction g with
  | nil => cases hc
  | cons a g ih =>
    obtain ⟨n1, n2⟩ := List.nodup_cons.1 hg
    rw [List.flatMap_cons, List.filter_append]
    by_cases e : a = c
    · subst e
      have h1 : (s.map fun b => [a, b]).filter (fun x => x.headD 0 == a) = s.map fun b => [a, b] := by
        rw [List.filter_eq_self]
        intro x hx
        obtain ⟨b, _, rfl⟩ := List.mem_map.1 hx
        simp
      have h2 : (g.flatMap fun a => s.map fun b => [a, b]).filter (fun x => x.headD 0 == a) = [] := by
        rw [List.filter_eq_nil_iff]
        intro x hx
        obtain ⟨a', ha', hx⟩ := List.mem_flatMap.1 hx
        obtain ⟨b, _, rfl⟩ := List.mem_map.1 hx
        have : a' ≠ a := fun z => n1 (z ▸ ha')
        simpa using this
      rw [h1, h2, List.append_nil]
    · have h1 : (s.map fun b => [a, b]).filter (fun x => x.headD 0 == c) = [] := by
        rw [List.filter_eq_nil_iff]
        intro x hx
        obtain ⟨b, _, rfl⟩ := List.mem_map.1 hx
        simpa using e
      rw [h1, List.nil_append]
      rcases List.mem_cons.1 hc with rfl | hc
      · exact (e rfl).elim
      · exact ih n2 hc
theorem filter_range {α : Type} {l : List α} {p : α → Bool} {d : α} : (((List.range l.length).filter fun i => p (l.getD i d)).map fun i => l.getD i d) = l.filter p := by
  have h : (List.range l.length).map (fun i => l.getD i d) = l := by
    apply List.ext_getElem
    · simp
    · intro i h1 h2
      rw [List.getElem_map, List.getElem_range, List.getD_eq_getElem?_getD, List.getElem?_eq_getElem h2, Option.getD_some]
  conv => rhs; rw [← h]
  rw [List.filter_map]
  rfl
theorem plc_eq (hg : g.Nodup) (hs : s.Nodup) {c : Nat} (hc : c ∈ g) : plc (cel g s) (cel g s).length c = s.map (idx g s c) := by
  have h1 := filter_range (l := cel g s) (p := fun x => x.headD 0 == c) (d := [])
  rw [cel_filter hg hc] at h1
  have h2 : ∀ i ∈ plc (cel g s) (cel g s).length c, (cel g s).idxOf ((cel g s).getD i []) = i := fun i hi => by
    have hl : i < (cel g s).length := List.mem_range.1 (List.mem_filter.1 hi).1
    rw [List.getD_eq_getElem?_getD, List.getElem?_eq_getElem hl, Option.getD_some]
    exact (cel_nodup hg hs).idxOf_getElem i hl
  have h3 : (plc (cel g s) (cel g s).length c).map (fun i => (cel g s).idxOf ((cel g s).getD i [])) = plc (cel g s) (cel g s).length c := by
    conv => rhs; rw [← List.map_id (plc (cel g s) (cel g s).length c)]
    exact List.map_congr_left h2
  have h4 : (plc (cel g s) (cel g s).length c).map (fun i => (cel g s).idxOf ((cel g s).getD i [])) = ((plc (cel g s) (cel g s).length c).map (fun i => (cel g s).getD i [])).map fun x => (cel g s).idxOf x := by rw [List.map_map]; rfl
  rw [← h3, h4]
  unfold plc
  rw [h1, List.map_map]
  rfl
def rowN (g s : List Nat) (ps : List (List Nat)) (x : List Nat) : Nat := msk ((bhd (cel g s) ps x).map (cel g s).idxOf)
theorem rowI_eq (x : List Nat) : rowI (cel g s) ps x = ((rowN g s ps x : Nat) : Int) := by
  unfold rowI rowN msk
  rw [List.map_map]
  induction bhd (cel g s) ps x with
  | nil => rfl
  | cons o l ih => rw [List.map_cons, List.map_cons, List.sum_cons, List.sum_cons, ih]; simp
theorem rowN_bit (hg : g.Nodup) (hs : s.Nodup) {x y : List Nat} (hy : y ∈ cel g s) : (rowN g s ps x).testBit ((cel g s).idxOf y) = decide (x ++ y ∈ ps) := by
  have nd := cel_nodup hg hs
  have inj : ∀ a ∈ cel g s, ∀ b ∈ cel g s, (cel g s).idxOf a = (cel g s).idxOf b → a = b := fun a ha b hb e => by
    have h1 := List.getElem_idxOf (List.idxOf_lt_length_of_mem ha)
    have h2 := List.getElem_idxOf (List.idxOf_lt_length_of_mem hb)
    rw [← h1, ← h2]
    simp only [e]
  unfold rowN
  rw [msk_bit (by
    unfold List.Nodup
    rw [List.pairwise_map]
    have : (bhd (cel g s) ps x).Nodup := nd.filter _
    refine List.Pairwise.imp_of_mem (fun {a b} ha hb hne e => hne (inj a (List.mem_filter.1 ha).1 b (List.mem_filter.1 hb).1 e)) this)]
  congr 1
  refine propext ⟨fun h => ?_, fun h => ?_⟩
  · obtain ⟨o, ho, e⟩ := List.mem_map.1 h
    obtain ⟨h1, h2⟩ := List.mem_filter.1 ho
    rw [← inj o h1 y hy e]
    exact of_decide_eq_true h2
  · exact List.mem_map.2 ⟨y, List.mem_filter.2 ⟨hy, decide_eq_true h⟩, rfl⟩
end
/-! ### the ways from one cell through a word to another cell -/
def paths (s : List Nat) (ps : List (List Nat)) : List Nat → List Nat → List Nat → List (List Nat)
  | x, [], y => if x ++ y ∈ ps then [[]] else []
  | x, c :: w, y => s.flatMap fun b => if x ++ [c, b] ∈ ps then (paths s ps [c, b] w y).map (b :: ·) else []
def livS (s : List Nat) (ps : List (List Nat)) (c : Nat) (w y : List Nat) : List Nat := s.filter fun b => !(paths s ps [c, b] w y).isEmpty
def bev (g s : List Nat) (ps : List (List Nat)) (w y : List Nat) : Nat := match w with
  | [] => 2 ^ (cel g s).idxOf y
  | c :: w => msk ((livS s ps c w y).map (idx g s c))
def mks (g s : List Nat) (ps : List (List Nat)) (y : List Nat) : List Nat → List Nat
  | [] => []
  | c :: w => bev g s ps (c :: w) y :: mks g s ps y w
section
variable {g s : List Nat} {ps : List (List Nat)}
theorem map_idx_nodup (hs : s.Nodup) {c : Nat} (hc : c ∈ g) {l : List Nat} (hl : l.Sublist s) : (l.map (idx g s c)).Nodup := by
  unfold List.Nodup
  rw [List.pairwise_map]
  refine List.Pairwise.imp_of_mem (fun {a b} ha hb hne e => hne (idx_inj hc (hl.subset ha) hc (hl.subset hb) e).2) (hs.sublist hl)
theorem liv_sub {c : Nat} {w y : List Nat} : (livS s ps c w y).Sublist s := List.filter_sublist
theorem mem_liv {c b : Nat} {w y : List Nat} (hb : b ∈ s) : b ∈ livS s ps c w y ↔ paths s ps [c, b] w y ≠ [] := by
  unfold livS
  rw [List.mem_filter]
  simp [hb, List.isEmpty_iff]
theorem bev_bit (hs : s.Nodup) {c b : Nat} {w y : List Nat} (hc : c ∈ g) (hb : b ∈ s) : (bev g s ps (c :: w) y).testBit (idx g s c b) = decide (paths s ps [c, b] w y ≠ []) := by
  unfold bev
  rw [msk_bit (map_idx_nodup hs hc liv_sub)]
  congr 1
  refine propext ⟨fun h => ?_, fun h => ?_⟩
  · obtain ⟨b', h1, h2⟩ := List.mem_map.1 h
    have hb' := liv_sub.subset h1
    have := (idx_inj hc hb' hc hb h2).2
    subst this
    exact (mem_liv hb').1 h1
  · exact List.mem_map.2 ⟨b, (mem_liv hb).2 h, rfl⟩
theorem row_bev (hg : g.Nodup) (hs : s.Nodup) {x w y : List Nat} (hw : ∀ c ∈ w, c ∈ g) (hy : y ∈ cel g s) : 0 < rowN g s ps x &&& bev g s ps w y ↔ paths s ps x w y ≠ [] := by
  cases w with
  | nil =>
    unfold bev
    rw [and_pow, rowN_bit hg hs hy, paths]
    split <;> simp_all
  | cons c w =>
    have hc := hw c List.mem_cons_self
    rw [and_pos, paths, Ne, List.flatMap_eq_nil_iff]
    constructor
    · rintro ⟨i, h1, h2⟩ hn
      unfold bev at h2
      rw [msk_bit (map_idx_nodup hs hc liv_sub), decide_eq_true_eq] at h2
      obtain ⟨b, hb, rfl⟩ := List.mem_map.1 h2
      have hbs := liv_sub.subset hb
      have h1 : (rowN g s ps x).testBit ((cel g s).idxOf [c, b]) = true := h1
      rw [rowN_bit hg hs (cel_in hc hbs), decide_eq_true_eq] at h1
      have := hn b hbs
      rw [if_pos h1, List.map_eq_nil_iff] at this
      exact (mem_liv hbs).1 hb this
    · intro hn
      simp only [Classical.not_forall] at hn
      obtain ⟨b, hb, h⟩ := hn
      by_cases hp : x ++ [c, b] ∈ ps
      · rw [if_pos hp, List.map_eq_nil_iff] at h
        refine ⟨idx g s c b, ?_, ?_⟩
        · show (rowN g s ps x).testBit ((cel g s).idxOf [c, b]) = true
          rw [rowN_bit hg hs (cel_in hc hb), decide_eq_true hp]
        · rw [bev_bit hs hc hb, decide_eq_true h]
      · rw [if_neg hp] at h
        exact (h rfl).elim
theorem bev_lt (hs : s.Nodup) {c : Nat} {w y : List Nat} (hc : c ∈ g) : bev g s ps (c :: w) y < 2 ^ (cel g s).length := by
  unfold bev
  refine msk_lt (map_idx_nodup hs hc liv_sub) fun i hi => ?_
  obtain ⟨b, hb, rfl⟩ := List.mem_map.1 hi
  exact idx_lt hc (liv_sub.subset hb)
end
end FV

namespace FV
open PySem PySem.Spec PyProof.Rows L2
/-! ### a wish's fields at a cell -/
theorem ix_lst {l : List D} {i : Nat} {d : D} (h : l[i]? = some d) : ixD (.lst l) (.int (i : Nat)) = some (.fz d) := by
  show (atI l (i : Int)).map Sl.fz = _
  rw [atI_nn (by omega), show ((i : Int).toNat) = i from rfl, h]
  rfl
theorem gNotN_s {l : List Nat} : gNotN (sD l) .non = some (.fz (.bl true)) := rfl
theorem gIsN_s {l : List Nat} : gIsN (sD l) .non = some (.fz (.bl false)) := rfl
theorem gNotN_t {x : Str} : gNotN (.str x) .non = some (.fz (.bl true)) := rfl
theorem gIsN_t {x : Str} : gIsN (.str x) .non = some (.fz (.bl false)) := rfl
theorem gNotN_n : gNotN .non .non = some (.fz (.bl false)) := rfl
theorem gIsN_n : gIsN .non .non = some (.fz (.bl true)) := rfl
theorem gNotN_i {i : Int} : gNotN (.int i) .non = some (.fz (.bl true)) := rfl
theorem gIsN_i {i : Int} : gIsN (.int i) .non = some (.fz (.bl false)) := rfl
section
variable {g s : List Nat} {ps : List (List Nat)}
theorem ix_bitsN {n i : Nat} (h : i < n) : ixD (btD n) (.int (i : Nat)) = some (.fz (.int ((2 ^ i : Nat) : Int))) := by
  rw [ix_bits h, Int.natCast_pow]
  rfl
theorem ix_rows {c b : Nat} (hc : c ∈ g) (hb : b ∈ s) : ixD (.lst ((cel g s).map fun c => .int (rowI (cel g s) ps c))) (.int (idx g s c b : Nat)) = some (.fz (.int (rowN g s ps [c, b] : Nat))) :=
  ix_lst (by rw [List.getElem?_map, idx_at hc hb, Option.map_some, rowI_eq])
theorem ix_cells {c b : Nat} (hc : c ∈ g) (hb : b ∈ s) : ixD (.lst ((cel g s).map sD)) (.int (idx g s c b : Nat)) = some (.fz (.str (tx [c, b]))) :=
  ix_lst (by rw [List.getElem?_map, idx_at hc hb]; rfl)
theorem at_lst {α : Type} {l : List α} {i : Nat} {d : α} (h : l[i]? = some d) : atI l (i : Int) = some d := by
  rw [atI_nn (by omega), show ((i : Int).toNat) = i from rfl, h]
theorem at_rows {c b : Nat} (hc : c ∈ g) (hb : b ∈ s) : atI ((cel g s).map fun c => D.int (rowI (cel g s) ps c)) (idx g s c b : Nat) = some (.int (rowN g s ps [c, b] : Nat)) :=
  at_lst (by rw [List.getElem?_map, idx_at hc hb, Option.map_some, rowI_eq])
theorem at_cells {c b : Nat} (hc : c ∈ g) (hb : b ∈ s) : atI ((cel g s).map sD) (idx g s c b : Nat) = some (sD [c, b]) :=
  at_lst (by rw [List.getElem?_map, idx_at hc hb]; rfl)
theorem ix_placesN (hg : g.Nodup) (hs : s.Nodup) {c : Nat} (hc : c ∈ g) : ixD (plD g (cel g s)) (.str (tx [c])) = some (.fz (.lst (s.map fun b => .int (idx g s c b : Nat)))) := by
  rw [ix_places hc, plc_eq hg hs hc, List.map_map]
  rfl
theorem ix_bitsI {c b : Nat} (hc : c ∈ g) (hb : b ∈ s) : ixD (btD (cel g s).length) (.int (idx g s c b : Nat)) = some (.fz (.int ((2 ^ idx g s c b : Nat) : Int))) := ix_bitsN (idx_lt hc hb)
end
end FV

namespace FV
open PySem PySem.Spec PyProof.Rows L2
/-! ### l.index(x) of a list, where x is in it -/
def gLix (ds : List D) (d : D) : Option Sl := (toPy d).bind fun p => (toPyL ds).bind fun ps =>
  if SeqAt.shaped p && SeqAt.shaped (.list ps) then (if ps.findIdx (fun z => PyData.eqv z p) < ps.length then some (.fz (.int (ps.findIdx (fun z => PyData.eqv z p) : Nat))) else none) else none
def kLix2 (ds : List D) (o : Option (List D)) (ρ : En) : R Sl := match o with
  | some [d] => ofO (gLix ds d) ρ
  | _ => .bad
def kLix1 (ds : List D) (r : R (List Ar)) : R Sl := match r with
  | .ok ars ρ => kLix2 ds (dsOf ars) ρ
  | .exc c fs ρ => .exc c fs ρ
  | .bad => .bad
def kLix (l : En → R (List Ar)) (r : R Sl) : R Sl := match r with
  | .ok (.fz (.lst ds)) ρ => kLix1 ds (l ρ)
  | .ok _ _ => .bad
  | .exc c fs ρ => .exc c fs ρ
  | .bad => .bad
def xLix (f : FX) (l : En → R (List Ar)) : FX := fun ρ => kLix l (xF f ρ)
section
variable {X : Cx} {PN : List Nat} {σ0 : Gs} {W : WX}
theorem fe_lix {o e : Expr} {apos pos : Pos} {f : FX} {l : En → R (List Ar)} (hu : X.A.units + 65 < cLine) (ho : FE X PN σ0 W o f) (hl : FC X PN σ0 W [e] l)
    (hbase : attributeBase o "index" X.env (eval o X.env) = eval o X.env := by rfl)
    (hfew : ((backTo pos (starEach [e] X.env)).all (fun x => !x.1) && (backToKw pos (keywordEach [] X.env)).all (fun x => x.1.isSome)
      && decide ([e].length + ([] : List Keyword).length + (if ([] : List Keyword).isEmpty then 0 else 1) < 30)) = true := by rfl)
    (hline : (apos.endLine == pos.line) = true := by rfl) (hs : starEach [e] X.env = (false, eval e X.env) :: starEach [] X.env := by rfl) (hplain : (backTo pos (starEach [] X.env)).any (·.1) = false := by rfl) :
    FE X PN σ0 W (.Call (.Attribute o "index" apos) [e] [] pos) (xLix f l) := by
  obtain ⟨t, pt, qt⟩ := (fe_f ho).ex
  obtain ⟨ta, pa, qa⟩ := hl.ex
  refine ⟨_, pe_bm PySem.F.plainAttrs_list PySem.F.slot_list_index PySem.F.type_list_index (mt_indexD hu) pt pa hbase hfew hline hs hplain, fun F B H σ ρ Q S q => qt F B H σ ρ _ S ?_⟩
  unfold xLix at q
  cases er : xF f ρ with
  | bad => rw [er] at q; exact q
  | exc c fs ρ1 => rw [er] at q; exact q
  | ok s ρ1 =>
    rw [er] at q
    intro v H1 B1 e1 S1 z
    cases s with
    | fz d =>
      cases d with
      | lst ds =>
        have z' : Rep X.K X.mg B1 v (.lst ds) := z
        simp only [kLix] at q
        cases z with
        | @lst a xs _ h1 h2 =>
          refine ⟨.inl ⟨rfl, xs, .inl (.inl (S1.bh _ _ h1))⟩, qa F B1 H1 σ ρ1 _ S1 ?_⟩
          cases el : l ρ1 with
          | bad => rw [el] at q; exact q
          | exc c fs ρ2 => rw [el] at q; exact fun cls od H' B' e S2 z => q cls od H' B' (e1.trans e) S2 z
          | ok ars ρ2 =>
            rw [el] at q
            simp only [kLix1] at q
            intro ws H2 B2 e2 S2 k2
            unfold kLix2 at q
            split at q
            · rename_i d hd
              have rl := dsOf_rep k2 hd
              cases rl with
              | cons p1 p2 =>
                cases p2
                cases eg : gLix ds d with
                | none => rw [eg] at q; exact q.elim
                | some s =>
                  rw [eg] at q
                  unfold gLix at eg
                  cases ed : toPy d with
                  | none => rw [ed] at eg; cases eg
                  | some p =>
                    cases es : toPyL ds with
                    | none => rw [ed, es] at eg; cases eg
                    | some ps =>
                      rw [ed, es] at eg
                      simp only [Option.bind_some] at eg
                      split at eg
                      · rename_i hsh
                        rw [Bool.and_eq_true] at hsh
                        split at eg
                        · rename_i hj
                          cases eg
                          refine ⟨a, _, p, ps, ps.findIdx (fun z => PyData.eqv z p), ps[ps.findIdx (fun z => PyData.eqv z p)], rfl, rfl, ldp_of S2.bh (.inl (z'.mono e2)) (by simp only [toPy, es, Option.map_some]), ldp_of S2.bh (.inl p1) ed, hsh.2, hsh.1, List.getElem?_eq_getElem hj, List.findIdx_getElem (p := fun z => PyData.eqv z p) (w := hj), fun m z'' hm hz'' => ?_, q _ _ B2 (e1.trans e2) S2 (.int _)⟩
                          have hlt : m < ps.length := by omega
                          have := List.not_of_lt_findIdx (p := fun z => PyData.eqv z p) hm
                          rw [List.getElem?_eq_getElem hlt] at hz''
                          cases hz''
                          simpa using this
                        · cases eg
                      · cases eg
            · exact q.elim
      | _ => exact q.elim
    | _ => exact q.elim
end
theorem ev_lix {f : FX} {l : En → R (List Ar)} {ρ : En} : xLix f l ρ = kLix l (xF f ρ) := rfl
theorem kLix_ok {ds : List D} {l : En → R (List Ar)} {ρ : En} : kLix l (.ok (.fz (.lst ds)) ρ) = kLix1 ds (l ρ) := rfl
theorem kLix1_ok {ds : List D} {ars : List Ar} {ρ : En} : kLix1 ds (.ok ars ρ) = kLix2 ds (dsOf ars) ρ := rfl
theorem kLix2_ok {ds : List D} {d : D} {ρ : En} : kLix2 ds (some [d]) ρ = ofO (gLix ds d) ρ := rfl
end FV

namespace FV
open PySem PySem.Spec PyProof.Rows L2
/-! ### a loop, whatever comes of it, with break and exceptions -/
theorem forL_wpb {fg : List Nat} {gg : GG} {y : FY} {Q : R Fl → Prop} (I : Nat → En → Prop) : ∀ (xs : List D) (n : Nat) (ρ : En), I n ρ →
    (∀ (m : Nat) (d : D) (ρ : En), xs[m]? = some d → I (n + m) ρ → ∃ ρ1, gg d (forget fg ρ) = some ρ1 ∧ ((∃ ρ2, (y ρ1 = .ok .nx ρ2 ∨ y ρ1 = .ok .ct ρ2) ∧ I (n + m + 1) ρ2) ∨ (∃ s ρ2, y ρ1 = .ok (.rt s) ρ2 ∧ Q (.ok (.rt s) ρ2)) ∨ (∃ ρ2, y ρ1 = .ok .bk ρ2 ∧ Q (.ok .nx (forget fg ρ2))) ∨ ∃ c fs ρ2, y ρ1 = .exc c fs ρ2 ∧ Q (.exc c fs ρ2))) →
    (∀ ρ', I (n + xs.length) ρ' → Q (.ok .nx (forget fg ρ'))) → Q (forL fg gg y xs ρ)
  | [], n, ρ, h0, _, hq => hq ρ h0
  | d :: ds, n, ρ, h0, hs, hq => by
    obtain ⟨ρ1, e1, h⟩ := hs 0 d ρ rfl h0
    rw [forL, e1]
    rcases h with ⟨ρ2, e2, h2⟩ | ⟨s, ρ2, e2, h2⟩ | ⟨ρ2, e2, h2⟩ | ⟨c, fs, ρ2, e2, h2⟩
    · have hr := forL_wpb I (Q := Q) (gg := gg) (y := y) (fg := fg) ds (n + 1) ρ2 h2 (fun m d' ρ' hd hi => by
        have := hs (m + 1) d' ρ' hd (by rw [show n + (m + 1) = n + 1 + m by omega]; exact hi)
        rw [show n + 1 + m + 1 = n + (m + 1) + 1 by omega]
        exact this) (fun ρ' hi => hq ρ' (by rw [List.length_cons, show n + (ds.length + 1) = n + 1 + ds.length by omega]; exact hi))
      rcases e2 with e2 | e2 <;> (simp only [e2]; exact hr)
    · simp only [e2]
      exact h2
    · simp only [e2]
      exact h2
    · simp only [e2]
      exact h2
/-! ### the r-th of lists one behind the other -/
theorem flat_skip {α : Type} {f : Nat → List α} : ∀ {l : List Nat} {m r : Nat}, ((l.take m).flatMap f).length ≤ r → (l.flatMap f)[r]? = ((l.drop m).flatMap f)[r - ((l.take m).flatMap f).length]?
  | l, m, r, h => by
    have e : l.flatMap f = (l.take m).flatMap f ++ (l.drop m).flatMap f := by rw [← List.flatMap_append, List.take_append_drop]
    rw [e, List.getElem?_append_right h]
theorem flat_here {α : Type} {f : Nat → List α} {l : List Nat} {m r b : Nat} (hb : l[m]? = some b) (h : ((l.take m).flatMap f).length ≤ r) (k : r - ((l.take m).flatMap f).length < (f b).length) :
    (l.flatMap f)[r]? = (f b)[r - ((l.take m).flatMap f).length]? := by
  rw [flat_skip h]
  have hm : m < l.length := (List.getElem?_eq_some_iff.1 hb).1
  have e : l.drop m = b :: l.drop (m + 1) := by
    rw [List.drop_eq_getElem_cons hm]
    rw [List.getElem?_eq_getElem hm] at hb
    cases hb
    rfl
  rw [e, List.flatMap_cons, List.getElem?_append_left k]
end FV

namespace FV
open PySem PySem.Spec PyProof.Rows L2
/-! ### text times number -/
theorem mulOk_small {x : Str} {n : Int} (h0 : n.natAbs.log2 < 20) (h : x.length * n.toNat ≤ 1000000) : MulOk x n := by
  have h1 : n.natAbs < 1048576 := Nat.lt_of_lt_of_le (Nat.lt_log2_self (n := n.natAbs)) (by
    have := Nat.pow_le_pow_right (n := 2) (by decide) (show n.natAbs.log2 + 1 ≤ 20 by omega)
    omega)
  refine ⟨?_, fun hn _ => ?_, fun _ _ => ?_⟩
  · rw [decide_eq_false (by omega), decide_eq_false (by omega)] <;> rfl
  · have hn0 : 0 < n := by omega
    have h2 : (x.length : Int) * n ≤ 1000000 := by
      have : ((x.length * n.toNat : Nat) : Int) ≤ 1000000 := by omega
      rw [Int.natCast_mul, Int.toNat_of_nonneg (by omega)] at this
      exact this
    have h3 : (x.length : Int) ≤ (2 ^ 63 - 1) / n := (Int.le_ediv_iff_mul_le hn0).2 (Int.le_trans h2 (by decide))
    omega
  · exact decide_eq_false (Nat.not_lt.2 (line_le h))
def gStrMul : G2
  | .str x, .int k => if k.natAbs.log2 < 20 ∧ x.length * k.toNat ≤ 1000000 then some (.fz (.str (Txt.mul x k))) else none
  | _, _ => none
theorem op_mulS {X : Cx} : OpR X (binaryOp .Mult) (fun x y H Q => ∃ i k, x = .str i ∧ y = .int k ∧ MulOk i k ∧ Q (.str (Txt.mul i k)) H) := by
  intro pins s σ H x y v u Q I rx ry h
  obtain ⟨i, j, rfl, rfl, hz, q⟩ := h
  obtain ⟨t, rfl⟩ := rx
  obtain ⟨t', rfl⟩ := ry
  exact SB.mul hz (fun t' tk => ⟨.str (Txt.mul i j), H, I.tok _, ⟨_, rfl⟩, q⟩)
theorem op2_strmul {X : Cx} : Op2 X (fun x y H Q => ∃ i k, x = .str i ∧ y = .int k ∧ MulOk i k ∧ Q (.str (Txt.mul i k)) H) gStrMul := by
  intro PN σ0 F B H σ ρ x y dx dy s Q S hx hy hg q
  unfold gStrMul at hg
  split at hg
  · split at hg
    · rename_i i j h
      cases hg
      exact ⟨i, j, hx.str, hy.int, mulOk_small h.1 h.2, q.flat S (.str _)⟩
    · cases hg
  · cases hg
def gMulX : G2 := fun d e => (gMul d e).or (gStrMul d e)
theorem bo_mulX {X : Cx} : ∃ r, OpR X (binaryOp .Mult) r ∧ Op2 X r gMulX := by
  obtain ⟨r, h1, h2⟩ := bo_mul (X := X)
  exact ⟨_, h1.or op_mulS, h2.or op2_strmul⟩
theorem gMulX_i {i j : Int} : gMulX (.int i) (.int j) = gMul (.int i) (.int j) := by
  unfold gMulX
  rw [show gStrMul (.int i) (.int j) = none from rfl, Option.or_none]
theorem gMulX_l {l : List D} {j : Int} : gMulX (.lst l) (.int j) = gMul (.lst l) (.int j) := by
  unfold gMulX
  rw [show gStrMul (.lst l) (.int j) = none from rfl, Option.or_none]
theorem foldl_repN (l : List Nat) : ∀ (m : Nat) (acc : List Nat), (List.replicate m l.toArray).foldl (· ++ ·) acc.toArray = (acc ++ (List.replicate m l).flatten).toArray
  | 0, acc => by simp
  | m + 1, acc => by
    rw [List.replicate_succ, List.foldl_cons, List.append_toArray, foldl_repN l m (acc ++ l), List.replicate_succ, List.flatten_cons, List.append_assoc]
theorem mul_tx {l : List Nat} {k : Nat} : Txt.mul (tx l) (k : Int) = tx (List.replicate k l).flatten := by
  unfold Txt.mul
  by_cases h : k = 0
  · subst h; rfl
  · rw [if_neg (by omega)]
    have h1 : ∀ m : Nat, (⟨(List.replicate m l.toArray).foldl (· ++ ·) #[]⟩ : Str) = tx (List.replicate m l).flatten := fun m => by
      have := foldl_repN l m []
      rw [List.nil_append] at this
      unfold tx
      exact congrArg Str.mk this
    split
    · rename_i hh
      rw [Bool.or_eq_true] at hh
      rcases hh with hh | hh
      · have : k = 1 := by have := beq_iff_eq.1 hh; omega
        subst this
        simp
      · have : l = [] := by
          have := beq_iff_eq.1 hh
          rw [tx_length] at this
          exact List.length_eq_zero_iff.1 this
        subst this
        simp
    · rw [Int.toNat_natCast]
      exact h1 k
theorem gMulX_s {l : List Nat} {k : Nat} (h : l.length * k ≤ 1000000) (hk : k ≤ 1000000) : gMulX (.str (tx l)) (.int (k : Nat)) = some (.fz (.str (tx (List.replicate k l).flatten))) := by
  unfold gMulX
  rw [show gMul (.str (tx l)) (.int (k : Nat)) = none from rfl, Option.none_or]
  show (if (k : Int).natAbs.log2 < 20 ∧ (tx l).length * (k : Int).toNat ≤ 1000000 then some (Sl.fz (.str (Txt.mul (tx l) (k : Int)))) else none) = _
  rw [if_pos ⟨log2_lt_of (by rw [Int.natAbs_natCast]; omega) (by decide), by rw [tx_length, Int.toNat_natCast]; exact h⟩, mul_tx]
/-! ### a text in a list of texts, and its place -/
theorem any_tx {L : List (List Nat)} {a : List Nat} : ((L.map sD).any fun y => eqF y (sD a)) = decide (a ∈ L) := by
  induction L with
  | nil => rfl
  | cons b L ih =>
    rw [List.map_cons, List.any_cons, ih]
    by_cases e : b = a
    · subst e
      simp [eqF]
    · have : eqF (sD b) (sD a) = false := by
        show (tx b == tx a) = false
        rw [beq_eq_false_iff_ne]
        exact fun z => e (tx_inj z)
      rw [this, Bool.false_or]
      refine decide_eq_decide.2 ?_
      rw [List.mem_cons]
      exact ⟨.inr, fun h => h.resolve_left fun z => e z.symm⟩
theorem all_flat_tx {L : List (List Nat)} : ((L.map sD).all flatD) = true := by
  rw [List.all_map]
  simp [flatD, Function.comp_def]
theorem gIn_txs {L : List (List Nat)} {a : List Nat} : gIn (sD a) (.lst (L.map sD)) = some (.fz (.bl (decide (a ∈ L)))) := by
  show (if flatD (sD a) && (L.map sD).all flatD then some (Sl.fz (.bl ((L.map sD).any fun y => eqF y (sD a)))) else none) = _
  rw [all_flat_tx, show (flatD (sD a) && true) = true from rfl, if_pos rfl, any_tx]
theorem gInX_txs {L : List (List Nat)} {a : List Nat} : gInX (sD a) (.lst (L.map sD)) = some (.fz (.bl (decide (a ∈ L)))) := by
  unfold gInX
  rw [gIn_txs]
  rfl
theorem gNotInX_txs {L : List (List Nat)} {a : List Nat} : gNotInX (sD a) (.lst (L.map sD)) = some (.fz (.bl (!decide (a ∈ L)))) := by
  unfold gNotInX gNotIn
  rw [gIn_txs]
  rfl
theorem gLix_txs {L : List (List Nat)} (hL : ∀ r ∈ L, ∀ c ∈ r, c < 1114112) {a : List Nat} (h : a ∈ L) : gLix (L.map sD) (sD a) = some (.fz (.int (L.idxOf a : Nat))) := by
  unfold gLix
  rw [show toPy (sD a) = some (.str (tx a)) from rfl, Option.bind_some, toPyL_map (f := sD) (g := fun r : List Nat => PyData.str (tx r)) (fun _ => rfl), Option.bind_some]
  rw [shaped_map (fun r hr => ⟨by rw [PyData.canLay0]; exact str_ok (hL r hr), rfl⟩), show SeqAt.shaped (PyData.str (tx a)) = true from by
    unfold SeqAt.shaped
    rw [show PyData.canLay0 (.str (tx a)) = true from by rw [PyData.canLay0]; exact str_ok (hL a h)]
    rfl]
  have e : (L.map fun r => PyData.str (tx r)).findIdx (fun z => PyData.eqv z (.str (tx a))) = L.idxOf a := by
    rw [List.findIdx_map, List.idxOf]
    congr 1
    funext r
    show PyData.eqv (.str (tx r)) (.str (tx a)) = _
    rw [PyData.eqv]
    by_cases q : r = a
    · subst q; simp
    · rw [show (r == a) = false by simpa using q]
      rw [beq_eq_false_iff_ne]
      exact fun z => q (tx_inj z)
  rw [e, List.length_map, show (true && true) = true from rfl, if_pos rfl, if_pos (List.idxOf_lt_length_of_mem h)]
end FV

namespace FV
open PySem PySem.Spec PyProof.Rows L2
section
variable {X : Cx}
/-! ### < > <= >= of data -/
def rCmpD (K : PySem.W.Frag) (f : PyData → PyData → Bool) : R2 := fun x y H Q => ∃ d e, Dp K H x d ∧ Dp K H y e ∧ PySem.W.alike d e = true ∧ d ≠ .none ∧ SeqAt.shaped d = true ∧ Q (.bl (f d e)) H
theorem op_gtD (hu : X.A.units + 65 < cLine) : OpR X (compareOp .Gt) (rCmpD X.K fun d e => PySem.W.dataLt e d) := by
  intro pins s σ H x y v u Q I rx ry h
  obtain ⟨d, e, hd, he, ha, hn, sd, q⟩ := h
  obtain ⟨as, r1⟩ := Dp.reads I d x v hd rx
  obtain ⟨bs, r2⟩ := Dp.reads I e y u he ry
  exact PySem.W.gt_data r1 r2 ha hn (by have := SeqAt.depth_of_shaped sd; omega) ⟨.bl _, H, I, rfl, q⟩
theorem op_ltD (hu : X.A.units + 65 < cLine) : OpR X (compareOp .Lt) (rCmpD X.K fun d e => PySem.W.dataLt d e) := by
  intro pins s σ H x y v u Q I rx ry h
  obtain ⟨d, e, hd, he, ha, hn, sd, q⟩ := h
  obtain ⟨as, r1⟩ := Dp.reads I d x v hd rx
  obtain ⟨bs, r2⟩ := Dp.reads I e y u he ry
  exact PySem.W.lt_data r1 r2 ha hn (by have := SeqAt.depth_of_shaped sd; omega) ⟨.bl _, H, I, rfl, q⟩
theorem op_leD (hu : X.A.units + 65 < cLine) : OpR X (compareOp .LtE) (rCmpD X.K fun d e => !PySem.W.dataLt e d) := by
  intro pins s σ H x y v u Q I rx ry h
  obtain ⟨d, e, hd, he, ha, hn, sd, q⟩ := h
  obtain ⟨as, r1⟩ := Dp.reads I d x v hd rx
  obtain ⟨bs, r2⟩ := Dp.reads I e y u he ry
  exact PySem.W.le_data r1 r2 ha hn (by have := SeqAt.depth_of_shaped sd; omega) ⟨.bl _, H, I, rfl, q⟩
theorem op_geD (hu : X.A.units + 65 < cLine) : OpR X (compareOp .GtE) (rCmpD X.K fun d e => !PySem.W.dataLt d e) := by
  intro pins s σ H x y v u Q I rx ry h
  obtain ⟨d, e, hd, he, ha, hn, sd, q⟩ := h
  obtain ⟨as, r1⟩ := Dp.reads I d x v hd rx
  obtain ⟨bs, r2⟩ := Dp.reads I e y u he ry
  exact PySem.W.ge_data r1 r2 ha hn (by have := SeqAt.depth_of_shaped sd; omega) ⟨.bl _, H, I, rfl, q⟩
def noneP : PyData → Bool
  | .none => true
  | _ => false
def cmpDeep (f : PyData → PyData → Bool) (d e : D) : Option Bool := (toPy d).bind fun p => (toPy e).bind fun q => if PySem.W.alike p q && !noneP p && SeqAt.shaped p then some (f p q) else none
theorem cmpDeep_some {f : PyData → PyData → Bool} {d e : D} {b : Bool} (h : cmpDeep f d e = some b) : ∃ p q, toPy d = some p ∧ toPy e = some q ∧ PySem.W.alike p q = true ∧ p ≠ .none ∧ SeqAt.shaped p = true ∧ f p q = b := by
  unfold cmpDeep at h
  cases e1 : toPy d with
  | none => rw [e1] at h; cases h
  | some p =>
    cases e2 : toPy e with
    | none => rw [e1, e2] at h; cases h
    | some q =>
      rw [e1, e2] at h
      simp only [Option.bind_some] at h
      split at h
      · rename_i hs
        rw [Bool.and_eq_true, Bool.and_eq_true] at hs
        refine ⟨p, q, rfl, rfl, hs.1.1, fun z => ?_, hs.2, Option.some.inj h⟩
        subst z
        have := hs.1.2
        simp [noneP] at this
      · cases h
theorem op2_cmpD {f : PyData → PyData → Bool} : Op2 X (rCmpD X.K f) (fun d e => (cmpDeep f d e).map fun b => .fz (.bl b)) := by
  intro PN σ0 F B H σ ρ x y dx dy s Q S hx hy hg q
  have hg : (cmpDeep f dx dy).map (fun b => Sl.fz (.bl b)) = some s := hg
  cases e2 : cmpDeep f dx dy with
  | none => rw [e2] at hg; cases hg
  | some b =>
    rw [e2] at hg; cases hg
    obtain ⟨p, q', g1, g2, g3, g4, g5, g6⟩ := cmpDeep_some e2
    exact ⟨p, q', ldp_of S.bh hx g1, ldp_of S.bh hy g2, g3, g4, g5, by rw [g6]; exact q.flat S (.bl _)⟩
def gGtX : G2 := fun d e => (gGt d e).or ((cmpDeep (fun p q => PySem.W.dataLt q p) d e).map fun b => .fz (.bl b))
def gLtX : G2 := fun d e => (gLt d e).or ((cmpDeep (fun p q => PySem.W.dataLt p q) d e).map fun b => .fz (.bl b))
def gLeX : G2 := fun d e => (gLe d e).or ((cmpDeep (fun p q => !PySem.W.dataLt q p) d e).map fun b => .fz (.bl b))
def gGeX : G2 := fun d e => (gGe d e).or ((cmpDeep (fun p q => !PySem.W.dataLt p q) d e).map fun b => .fz (.bl b))
theorem co_gtX (hu : X.A.units + 65 < cLine) : ∃ r, OpR X (compareOp .Gt) r ∧ Op2 X r gGtX := by
  obtain ⟨r, h1, h2⟩ := co_gt (X := X)
  exact ⟨_, h1.or (op_gtD hu), h2.or op2_cmpD⟩
theorem co_ltX (hu : X.A.units + 65 < cLine) : ∃ r, OpR X (compareOp .Lt) r ∧ Op2 X r gLtX := by
  obtain ⟨r, h1, h2⟩ := co_lt (X := X)
  exact ⟨_, h1.or (op_ltD hu), h2.or op2_cmpD⟩
theorem co_leX (hu : X.A.units + 65 < cLine) : ∃ r, OpR X (compareOp .LtE) r ∧ Op2 X r gLeX := by
  obtain ⟨r, h1, h2⟩ := co_le (X := X)
  exact ⟨_, h1.or (op_leD hu), h2.or op2_cmpD⟩
theorem co_geX (hu : X.A.units + 65 < cLine) : ∃ r, OpR X (compareOp .GtE) r ∧ Op2 X r gGeX := by
  obtain ⟨r, h1, h2⟩ := co_ge (X := X)
  exact ⟨_, h1.or (op_geD hu), h2.or op2_cmpD⟩
/-! ### sorted -/
def pyD (d : D) : PyData := (toPy d).getD .none
def leD (a b : D) : Bool := !PySem.W.dataLt (pyD b) (pyD a)
structure SortOk (ds : List D) : Prop where
  py : ∀ d ∈ ds, ∃ p, toPy d = some p ∧ p.depth ≤ 60
  al : PySem.W.AllAlike (ds.map pyD)
  so : PySem.W.Sortable (ds.map pyD)
  le : ds.length ≤ 1000000
open Classical in
noncomputable def gSorted : List D → Option Sl
  | [.lst ds] => if SortOk ds then some (.ow (.lst (ds.mergeSort leD))) else none
  | _ => none
def rSortedX (K : PySem.W.Frag) : List L2.V → Hp → VK → Prop := fun vs H Q => ∃ (a : Addr) (bs : List (L2.V × D)), vs = [.ref a] ∧ SqL K H a (bs.map (·.1)) ∧ (∀ b ∈ bs, Dp K H b.1 (pyD b.2)) ∧ PySem.W.AllAlike (bs.map fun b => pyD b.2) ∧ PySem.W.Sortable (bs.map fun b => pyD b.2) ∧
  (∀ b ∈ bs, (pyD b.2).depth ≤ 60) ∧ ∀ p, H p = none → Q (.ref p) (upd H p (.lst ((bs.mergeSort fun a b => leD a.2 b.2).map (·.1))))
theorem each_vals {P : Value → L2.V × D → Prop} : ∀ {bs : List (L2.V × D)} {its : List Value}, Vals (bs.map (·.1)) its → (∀ b ∈ bs, ∀ v, RelV b.1 v → P v b) → PySem.W.EachIs P its bs
  | [], _, .nil, _ => .nil
  | b :: bs, _, .cons r t, h => .cons (h b List.mem_cons_self _ r) (each_vals t fun b' hb => h b' (List.mem_cons_of_mem _ hb))
theorem vals_each : ∀ {bs : List (L2.V × D)} {its : List Value}, PySem.W.EachIs (fun v b => RelV b.1 v) its bs → Vals (bs.map (·.1)) its
  | _, _, .nil => .nil
  | _, _, .cons r t => .cons r (vals_each t)
theorem call_sortedX (hu : X.A.units + 65 < cLine) : CallR X (.builtin "sorted") (rSortedX X.K) := by
  intro pins s σ H vs us Q I r h
  obtain ⟨a, bs, rfl, hs, hp, hal, hso, hd, q⟩ := h
  obtain ⟨its, rv, hl, hz⟩ := I.list hs
  rw [Vals.ref1 r]
  refine PySem.W.sorted_data (bs := bs) (enc := fun b => pyD b.2) (R := fun v b => RelV b.1 v) hl.isList (each_vals rv fun b _ v h => h) (each_vals rv fun b hb v h => Dp.reads I _ _ _ (hp b hb) h) hal hso (by rw [List.length_map] at hz; exact hz) (fun b hb => by have := hd b hb; omega) fun out h1 h2 => ?_
  obtain ⟨ep, he'⟩ := PyProof.Rows.sortedAll_at s.heap its out.toArray
  have rv2 := vals_each h2
  have hlen : ((bs.mergeSort fun a b => leD a.2 b.2).map (·.1)).length ≤ sizeLine := by
    rw [List.length_map, List.length_mergeSort]
    rw [List.length_map] at hz
    exact hz
  exact ⟨.ref _, upd H (s.heap.objs.size + 1) (.lst ((bs.mergeSort fun a b => leD a.2 b.2).map (·.1))), I.laid (t' := s.toks) (fun _ _ => PyProof.Rows.sortedAll_old) (Nat.le_succ _) ⟨hlen, out, ep, rv2, he'⟩, rfl, q _ (I.hok.fresh (Nat.le_succ _))⟩
theorem repL_pairs {K : PySem.W.Frag} {mg : Str → Option Value} {B : Hp} : ∀ {bs : List (L2.V × D)}, (∀ b ∈ bs, Rep K mg B b.1 b.2) → RepL K mg B (bs.map (·.1)) (bs.map (·.2))
  | [], _ => .nil
  | b :: bs, h => .cons (h b List.mem_cons_self) (repL_pairs fun b' hb => h b' (List.mem_cons_of_mem _ hb))
theorem repL_zip {K : PySem.W.Frag} {mg : Str → Option Value} {B : Hp} : ∀ {xs : List L2.V} {ds : List D}, RepL K mg B xs ds → (∀ b ∈ xs.zip ds, Rep K mg B b.1 b.2)
  | _, _, .nil, b, hb => by simp at hb
  | _, _, .cons r t, b, hb => by
    rw [List.zip_cons_cons] at hb
    rcases List.mem_cons.1 hb with rfl | hb
    · exact r
    · exact repL_zip t b hb
theorem cb_sorted (hu : X.A.units + 65 < cLine) : ∃ r, CallR X (.builtin "sorted") r ∧ OpN X r gSorted := by
  refine ⟨_, call_sortedX hu, fun PN σ0 F B H σ ρ vs ds s Q S hp hg q => ?_⟩
  unfold gSorted at hg
  split at hg
  · split at hg
    · rename_i ds hok
      cases hg
      obtain ⟨v, rfl, r⟩ := paired1 hp
      obtain ⟨a, xs, rfl, h1, h2⟩ := r.lst S.bh
      have hlen := h2.length
      have e1 : (xs.zip ds).map (·.1) = xs := List.map_fst_zip (by omega)
      have e2 : (xs.zip ds).map (·.2) = ds := List.map_snd_zip (by omega)
      have e3 : (xs.zip ds).map (fun b => pyD b.2) = ds.map pyD := by
        conv => rhs; rw [← e2]
        rw [List.map_map]
        rfl
      have hrep := repL_zip h2
      have hm : ∀ b ∈ xs.zip ds, b.2 ∈ ds := fun b hb => by rw [← e2]; exact List.mem_map_of_mem hb
      refine ⟨a, xs.zip ds, rfl, by rw [e1]; exact .inl (.inl h1), fun b hb => ?_, by rw [e3]; exact hok.al, by rw [e3]; exact hok.so, fun b hb => ?_, ?_⟩
      · obtain ⟨p, hp1, _⟩ := hok.py b.2 (hm b hb)
        have : pyD b.2 = p := by unfold pyD; rw [hp1]; rfl
        rw [this]
        exact dp_of S.bh _ _ p (hrep b hb) hp1
      · obtain ⟨p, hp1, hp2⟩ := hok.py b.2 (hm b hb)
        have : pyD b.2 = p := by unfold pyD; rw [hp1]; rfl
        rw [this]
        exact hp2
      · refine q.newL S ?_
        have e4 : ((xs.zip ds).mergeSort fun a b => leD a.2 b.2).map (·.2) = ds.mergeSort leD := by
          rw [List.map_mergeSort (s := leD) (fun a _ b _ => rfl), e2]
        rw [← e4]
        exact repL_pairs fun b hb => hrep b ((List.mergeSort_perm _ _).mem_iff.1 hb)
    · cases hg
  · cases hg
end
theorem gSorted_ok {ds : List D} (h : SortOk ds) : gSorted [.lst ds] = some (.ow (.lst (ds.mergeSort leD))) := by
  simp only [gSorted, if_pos h]
theorem gGtX_i {i j : Int} : gGtX (.int i) (.int j) = some (.fz (.bl (decide (j < i)))) := rfl
theorem gLtX_i {i j : Int} : gLtX (.int i) (.int j) = some (.fz (.bl (decide (i < j)))) := rfl
theorem gLeX_i {i j : Int} : gLeX (.int i) (.int j) = some (.fz (.bl (decide (i ≤ j)))) := rfl
theorem gGeX_i {i j : Int} : gGeX (.int i) (.int j) = some (.fz (.bl (decide (j ≤ i)))) := rfl
end FV

namespace FV
open PySem PySem.Spec PyProof.Rows L2
/-! ### the first place of a sign -/
theorem at_tx {l : List Nat} {b i : Nat} : StrLaws.At (tx l) (tx [b]) (tx l).length i ↔ l[i]? = some b := by
  unfold StrLaws.At Builtin.Str.subAt
  rw [tx_length, tx_length]
  have e : ∀ (h : i < l.length), ((tx l).cps.extract i (i + 1) == (tx [b]).cps) = true ↔ l[i]? = some b := fun h => by
    have : (tx l).cps.extract i (i + 1) = #[l[i]] := by
      unfold tx
      rw [List.extract_toArray]
      congr 1
      rw [List.extract_eq_drop_take, show i + 1 - i = 1 by omega, List.drop_eq_getElem_cons h]
      rfl
    rw [this, List.getElem?_eq_getElem h]
    show (#[l[i]] == #[b]) = true ↔ _
    rw [beq_iff_eq]
    simp
  constructor
  · rintro ⟨h1, h2⟩
    exact (e (by simp only [List.length_cons, List.length_nil] at h1; omega)).1 h2
  · intro h
    have h1 := (List.getElem?_eq_some_iff.1 h).1
    exact ⟨by simp only [List.length_cons, List.length_nil]; omega, (e h1).2 h⟩
theorem find_tx {l : List Nat} {b : Nat} (h : b ∈ l) : Txt.find (tx l) (tx [b]) = (l.idxOf b : Int) := by
  have hi : l[l.idxOf b]? = some b := by
    rw [List.getElem?_eq_getElem (List.idxOf_lt_length_of_mem h)]
    exact congrArg some (List.getElem_idxOf _)
  rcases find_whole (tx l) (tx [b]) with ⟨_, hn⟩ | ⟨i, e, h1, h2⟩
  · exact (hn _ (at_tx.2 hi)).elim
  · rw [e]
    rcases Nat.lt_trichotomy i (l.idxOf b) with q | q | q
    · exfalso
      obtain ⟨p1, p2⟩ := List.getElem?_eq_some_iff.1 (at_tx.1 h1)
      have := List.not_of_lt_findIdx (p := (· == b)) q
      rw [p2] at this
      simp at this
    · rw [q]
    · exact (h2 _ q (at_tx.2 hi)).elim
theorem find_txN {l : List Nat} {b : Nat} (h : b ∉ l) : Txt.find (tx l) (tx [b]) = -1 := by
  rcases find_whole (tx l) (tx [b]) with ⟨e, _⟩ | ⟨i, e, h1, h2⟩
  · exact e
  · exact (h (List.mem_of_getElem? (at_tx.1 h1))).elim
/-! ### tuples of one text -/
theorem eqD_tup1 {a b : Str} (ha : PyData.strOk a = true) (hb : PyData.strOk b = true) : eqD (.tup [.str a]) (.tup [.str b]) = some (decide (a = b)) := by
  unfold eqD eqDeep
  rw [show eqS (.tup [.str a]) (.tup [.str b]) = none from rfl]
  rw [show toPy (.tup [.str a]) = some (.tuple [.str a]) from rfl, show toPy (.tup [.str b]) = some (.tuple [.str b]) from rfl]
  simp only [Option.bind_some, Option.none_or]
  rw [show SeqAt.shaped (.tuple [.str a]) = true from by
    unfold SeqAt.shaped
    simp only [PyData.canLay0, PyData.canLayAll0, ha, PyData.depth, PyData.depthAll]
    rfl, show SeqAt.shaped (.tuple [.str b]) = true from by
    unfold SeqAt.shaped
    simp only [PyData.canLay0, PyData.canLayAll0, hb, PyData.depth, PyData.depthAll]
    rfl]
  rw [if_pos (by rfl)]
  congr 1
  rw [PyData.eqv, PyData.eqvAll, PyData.eqv, PyData.eqvAll, Bool.and_true]
  rfl
theorem gNe_tup1 {a b : Str} (ha : PyData.strOk a = true) (hb : PyData.strOk b = true) : gNe (.tup [.str a]) (.tup [.str b]) = some (.fz (.bl (!decide (a = b)))) := by unfold gNe; rw [eqD_tup1 ha hb]; rfl
theorem gEq_tup1 {a b : Str} (ha : PyData.strOk a = true) (hb : PyData.strOk b = true) : gEq (.tup [.str a]) (.tup [.str b]) = some (.fz (.bl (decide (a = b)))) := by unfold gEq; rw [eqD_tup1 ha hb]; rfl
theorem gNe_nat0 {l : List Nat} : gNe (.lst (natD l)) (.lst []) = some (.fz (.bl (!decide (l = [])))) := gNe_nat (m := [])
/-! ### lists and tuples of texts, compared -/
theorem eqv_txs {L M : List (List Nat)} : (PyData.eqvAll (L.map fun r => PyData.str (tx r)) (M.map fun r => PyData.str (tx r)) = true) ↔ L = M := eqv_map fun a b => by
  rw [PyData.eqv, beq_iff_eq]
  exact ⟨fun h => tx_inj h, fun h => by rw [h]⟩
def Chr (L : List (List Nat)) : Prop := ∀ r ∈ L, ∀ c ∈ r, c < 1114112
theorem eqD_txs {L M : List (List Nat)} (hL : Chr L) (hM : Chr M) : eqD (.lst (L.map sD)) (.lst (M.map sD)) = some (decide (L = M)) := by
  obtain ⟨b, e, h⟩ := eqD_map (f := fun r : List Nat => sD r) (g := fun r : List Nat => PyData.str (tx r)) (fun _ => rfl) (fun a b => by
    rw [PyData.eqv, beq_iff_eq]
    exact ⟨fun h => tx_inj h, fun h => by rw [h]⟩) (l := L) (m := M) (fun a ha => ⟨by
      rw [PyData.canLay0]
      exact str_ok (ha.elim (hL a) (hM a)), rfl⟩)
  have e' : eqD (.lst (L.map sD)) (.lst (M.map sD)) = some b := e
  rw [e']
  congr 1
  by_cases q : L = M
  · rw [decide_eq_true q]; exact h.2 q
  · rw [decide_eq_false q]; exact Bool.eq_false_iff.2 fun z => q (h.1 z)
theorem gEq_txs {L M : List (List Nat)} (hL : Chr L) (hM : Chr M) : gEq (.lst (L.map sD)) (.lst (M.map sD)) = some (.fz (.bl (decide (L = M)))) := by unfold gEq; rw [eqD_txs hL hM]; rfl
theorem gNe_txs {L M : List (List Nat)} (hL : Chr L) (hM : Chr M) : gNe (.lst (L.map sD)) (.lst (M.map sD)) = some (.fz (.bl (!decide (L = M)))) := by unfold gNe; rw [eqD_txs hL hM]; rfl
theorem toPy_txs {L : List (List Nat)} : toPyL (L.map sD) = some (L.map fun r => PyData.str (tx r)) := toPyL_map (f := sD) (g := fun r : List Nat => PyData.str (tx r)) (fun _ => rfl)
theorem shaped_tup {α : Type} {g : α → PyData} {l : List α} (h : ∀ a ∈ l, (g a).canLay0 = true ∧ (g a).depth = 0) : SeqAt.shaped (.tuple (l.map g)) = true := by
  have := shaped_map h
  unfold SeqAt.shaped at *
  simp only [PyData.canLay0, PyData.depth] at this ⊢
  exact this
theorem eqD_txt {L M : List (List Nat)} (hL : Chr L) (hM : Chr M) : eqD (.tup (L.map sD)) (.tup (M.map sD)) = some (decide (L = M)) := by
  unfold eqD eqDeep
  rw [show eqS (.tup (L.map sD)) (.tup (M.map sD)) = none from rfl, show toPy (.tup (L.map sD)) = (toPyL (L.map sD)).map .tuple from by rw [toPy], show toPy (.tup (M.map sD)) = (toPyL (M.map sD)).map .tuple from by rw [toPy], toPy_txs, toPy_txs]
  simp only [Option.map_some, Option.bind_some, Option.none_or]
  rw [shaped_tup (fun r hr => ⟨by rw [PyData.canLay0]; exact str_ok (hL r hr), rfl⟩), shaped_tup (fun r hr => ⟨by rw [PyData.canLay0]; exact str_ok (hM r hr), rfl⟩), if_pos (by rfl)]
  congr 1
  rw [PyData.eqv]
  by_cases q : L = M
  · rw [decide_eq_true q]; exact eqv_txs.2 q
  · rw [decide_eq_false q]; exact Bool.eq_false_iff.2 fun z => q (eqv_txs.1 z)
theorem gEq_txt {L M : List (List Nat)} (hL : Chr L) (hM : Chr M) : gEq (.tup (L.map sD)) (.tup (M.map sD)) = some (.fz (.bl (decide (L = M)))) := by unfold gEq; rw [eqD_txt hL hM]; rfl
theorem gNe_txt {L M : List (List Nat)} (hL : Chr L) (hM : Chr M) : gNe (.tup (L.map sD)) (.tup (M.map sD)) = some (.fz (.bl (!decide (L = M)))) := by unfold gNe; rw [eqD_txt hL hM]; rfl
/-! ### lists of numbers, by their order -/
theorem toPy_ints {l : List Int} : toPyL (l.map .int) = some (l.map .int) := toPyL_map (f := D.int) (g := PyData.int) (fun _ => rfl)
theorem alike_int : ∀ {l m : List Int}, PySem.W.alikeAll (l.map .int) (m.map .int) = true := PySem.W.alike_ints _ _
theorem gGtX_ints {l m : List Int} : gGtX (.lst (l.map .int)) (.lst (m.map .int)) = some (.fz (.bl (decide (m < l)))) := by
  unfold gGtX cmpDeep
  rw [show gGt (.lst (l.map .int)) (.lst (m.map .int)) = none from rfl, show toPy (.lst (l.map .int)) = (toPyL (l.map .int)).map .list from by rw [toPy], show toPy (.lst (m.map .int)) = (toPyL (m.map .int)).map .list from by rw [toPy], toPy_ints, toPy_ints]
  simp only [Option.map_some, Option.bind_some, Option.none_or]
  rw [show PySem.W.alike (.list (l.map .int)) (.list (m.map .int)) = true from by rw [PySem.W.alike]; exact alike_int, shaped_map (g := PyData.int) (l := l) (fun a _ => ⟨rfl, rfl⟩), if_pos (by rfl), PySem.W.dataLt_list]
  rw [show PyProof.Rows.lexLt itemOrd (W.keyToksAll (m.map .int)) (W.keyToksAll (l.map .int)) = PySem.W.rowLt (m.map .int) (l.map .int) from rfl, PySem.W.dataLt_ints]
  rfl
/-! ### sorted texts, sorted numbers -/
def leN (a b : List Nat) : Bool := decide (a ≤ b)
theorem leD_tx {a b : List Nat} : leD (sD a) (sD b) = leN a b := by
  unfold leD leN
  rw [show pyD (sD a) = .str (tx a) from rfl, show pyD (sD b) = .str (tx b) from rfl, PySem.W.dataLt_str, PySem.W.not_lt_str]
  rfl
theorem sortOk_tx {L : List (List Nat)} (h : L.length ≤ 1000000) : SortOk (L.map sD) where
  py d hd := by
    obtain ⟨r, _, rfl⟩ := List.mem_map.1 hd
    exact ⟨.str (tx r), rfl, Nat.zero_le _⟩
  al d hd d' hd' := by
    rw [List.map_map] at hd hd'
    obtain ⟨r, _, rfl⟩ := List.mem_map.1 hd
    obtain ⟨r', _, rfl⟩ := List.mem_map.1 hd'
    rfl
  so := by
    rw [List.map_map]
    exact .inr fun d hd => by
      obtain ⟨r, _, rfl⟩ := List.mem_map.1 hd
      exact ⟨(fun z => nomatch (show PyData.str (tx r) = PyData.none from z)), (fun xs z => nomatch (show PyData.str (tx r) = PyData.tuple xs from z))⟩
  le := by rw [List.length_map]; exact h
theorem gSorted_tx {L : List (List Nat)} (h : L.length ≤ 1000000) : gSorted [.lst (L.map sD)] = some (.ow (.lst ((L.mergeSort leN).map sD))) := by
  rw [gSorted_ok (sortOk_tx h), List.map_mergeSort (r := leN) (s := leD) (f := sD) (l := L) (fun a _ b _ => leD_tx.symm)]
theorem leN_trans (x y z : List Nat) (h : leN x y = true) (k : leN y z = true) : leN x z = true := decide_eq_true (List.le_trans (of_decide_eq_true h) (of_decide_eq_true k))
theorem leN_total (x y : List Nat) : (leN x y || leN y x) = true := by
  unfold leN
  rw [Bool.or_eq_true, decide_eq_true_eq, decide_eq_true_eq]
  exact List.le_total x y
theorem leN_anti (x y : List Nat) (h : leN x y = true) (k : leN y x = true) : x = y := List.le_antisymm (of_decide_eq_true h) (of_decide_eq_true k)
theorem sort_perm {L M : List (List Nat)} (h : L.Perm M) : L.mergeSort leN = M.mergeSort leN :=
  PySem.W.Srt.the_of_perm leN leN_trans leN_total leN_anti ((List.mergeSort_perm L leN).trans h) (List.pairwise_mergeSort leN_trans leN_total L)
theorem sort_of {L M : List (List Nat)} (h : L.Perm M) (hs : L.Pairwise (· ≤ ·)) : L = M.mergeSort leN :=
  PySem.W.Srt.the_of_perm leN leN_trans leN_total leN_anti h (hs.imp fun h => decide_eq_true h)
theorem leD_int {a b : Int} : leD (.int a) (.int b) = decide (a ≤ b) := by
  unfold leD
  rw [show pyD (.int a) = .int a from rfl, show pyD (.int b) = .int b from rfl, PySem.W.dataLt_int, PySem.W.not_lt_int]
theorem sortOk_int {L : List Int} (h : L.length ≤ 1000000) : SortOk (L.map .int) where
  py d hd := by
    obtain ⟨r, _, rfl⟩ := List.mem_map.1 hd
    exact ⟨.int r, rfl, Nat.zero_le _⟩
  al d hd d' hd' := by
    rw [List.map_map] at hd hd'
    obtain ⟨r, _, rfl⟩ := List.mem_map.1 hd
    obtain ⟨r', _, rfl⟩ := List.mem_map.1 hd'
    rfl
  so := by
    rw [List.map_map]
    exact .inr fun d hd => by
      obtain ⟨r, _, rfl⟩ := List.mem_map.1 hd
      exact ⟨(fun z => nomatch (show PyData.int r = PyData.none from z)), (fun xs z => nomatch (show PyData.int r = PyData.tuple xs from z))⟩
  le := by rw [List.length_map]; exact h
theorem gSorted_int {L : List Int} (h : L.length ≤ 1000000) : gSorted [.lst (L.map .int)] = some (.ow (.lst ((L.mergeSort fun a b => decide (a ≤ b)).map .int))) := by
  rw [gSorted_ok (sortOk_int h), List.map_mergeSort (r := fun a b => decide (a ≤ b)) (s := leD) (f := D.int) (l := L) (fun a _ b _ => leD_int.symm)]
/-! ### the methods of a wish are no fields -/
theorem hasM_said {g s : List Nat} {ps : List (List Nat)} {ρ : En} : hasM "Wish" "said" (.fz (wishD g s ps)) ρ = true := hasM_zip (by decide +kernel) rfl
theorem hasM_given {g s : List Nat} {ps : List (List Nat)} {ρ : En} : hasM "Wish" "given" (.fz (wishD g s ps)) ρ = true := hasM_zip (by decide +kernel) rfl
theorem hasM_cells {g s : List Nat} {ps : List (List Nat)} {ρ : En} : hasM "Wish" "cells" (.fz (wishD g s ps)) ρ = true := hasM_zip (by decide +kernel) rfl
theorem hasM_pairs {g s : List Nat} {ps : List (List Nat)} {ρ : En} : hasM "Wish" "pairs" (.fz (wishD g s ps)) ρ = true := hasM_zip (by decide +kernel) rfl
end FV

namespace FV
open PySem PySem.Spec PyProof.Rows L2
/-! ### a dict, walked by its keys -/
def tMo (te : TE) : TE := fun σ H Q => ∃ post : L2.V → Hp → Prop, te σ H post ∧ ∀ x H1, post x H1 → Q x H1
theorem pe_mo {X : Cx} {e : Expr} {te : TE} (he : PE X e te) : PE X e (tMo te) := by
  refine ⟨fun pins s σ H Q I h => ?_⟩
  obtain ⟨post, h, k⟩ := h
  refine thn (he.run pins s σ H _ I h) fun v s1 ⟨x, H1, I1, r1, q⟩ => ?_
  exact ⟨x, H1, I1, r1, k _ _ q⟩
section
variable {X : Cx} {PN : List Nat} {σ0 : Gs} {W : WX}
theorem fi_dic {tg e : Expr} {f : FX} (h : FE X PN σ0 W e f) : FI X PN σ0 W tg e (wDi (fun kds => kds.map fun p => keyV p.1) f) :=
  fi_di (ti := fun te => iKeys (tMo te)) h (fun te pt => pi_keys (pe_mo pt)) (fun te σ H Rr q => ⟨_, q, fun x H1 ⟨d, o, kvs, e, h1, r⟩ => ⟨d, o, e, .inl ⟨kvs, h1, r⟩⟩⟩) (fun h1 h2 h3 => itOk_keys h1 h2 h3)
end
end FV

namespace FV
open PySem PySem.Spec PyProof.Rows L2
/-! ### list.pop at a place -/
theorem RepL.eraseIdx {K : PySem.W.Frag} {mg : Str → Option Value} {B : Hp} {xs : List L2.V} {ds : List D} (h : RepL K mg B xs ds) (k : Nat) : RepL K mg B (xs.eraseIdx k) (ds.eraseIdx k) := by
  rw [List.eraseIdx_eq_take_drop_succ, List.eraseIdx_eq_take_drop_succ]
  exact (h.take k).append (h.drop (k + 1))
def mPopA : GM
  | ds, [.int i] => if 0 ≤ i ∧ ds.length ≤ 1000000 then (ds[i.toNat]?).map fun d => (ds.eraseIdx i.toNat, d) else none
  | _, _ => none
section
variable {X : Cx} {PN : List Nat} {σ0 : Gs} {W : WX}
theorem mu_popA : ∃ r, MtR X "list.pop" r ∧ MutOk X r mPopA := ⟨_, mt_popAt, fun B H a xs vs ds es ds' d Q bh hx hr hv hg q => by
  unfold mPopA at hg
  split at hg
  · rename_i i
    split at hg
    · rename_i hi
      cases e : ds[i.toNat]? with
      | none => rw [e] at hg; cases hg
      | some d0 =>
        rw [e] at hg
        cases hg
        cases hv with
        | cons r1 r2 =>
          cases r2
          cases r1
          obtain ⟨v, hv, rv⟩ := hr.get e
          have hk : i.toNat < ds.length := (List.getElem?_eq_some_iff.1 e).1
          refine ⟨a, xs, i, i.toNat, v, rfl, rfl, hx, by omega, by omega, ?_, hv, q _ _ (hr.eraseIdx _) rv⟩
          rw [hr.length]
          unfold seqIndex?
          simp only [show ¬ i < 0 from by omega, if_false]
          rw [if_pos (by simp; omega)]
    · cases hg
  · cases hg⟩
/-! ### str.join -/
def strsD : List D → Option (List Str)
  | [] => some []
  | .str a :: ds => (strsD ds).map (a :: ·)
  | _ :: _ => none
theorem strsD_rep {K : PySem.W.Frag} {mg : Str → Option Value} {B : Hp} : ∀ {xs : List L2.V} {ds : List D} {l : List Str}, RepL K mg B xs ds → strsD ds = some l → xs = l.map L2.V.str
  | _, [], _, .nil, h => by rw [strsD] at h; cases h; rfl
  | _, d :: ds, l, .cons p q, h => by
    cases d with
    | str a =>
      rw [strsD] at h
      cases e : strsD ds with
      | none => rw [e] at h; cases h
      | some l' =>
        rw [e] at h; cases h
        cases p
        rw [strsD_rep q e]; rfl
    | _ => simp [strsD] at h
theorem strsD_map : ∀ {l : List Str}, strsD (l.map .str) = some l
  | [] => rfl
  | i :: l => by rw [List.map_cons, strsD, strsD_map]; rfl
def gJoin : GS := fun a es => match es with
  | [.lst ds] => (strsD ds).bind fun l => if (l.map (·.length)).sum + l.length * a.length ≤ 1000000 then some (.fz (.str (Txt.join a l))) else none
  | _ => none
theorem sm_join : ∃ r, MtR X "str.join" r ∧ StrM X r gJoin := ⟨_, mt_join, by
  intro PN σ0 F B H σ ρ a vs ds s Q S rl hg q
  unfold gJoin at hg
  split at hg
  · rename_i es
    cases e : strsD es with
    | none => rw [e] at hg; cases hg
    | some l =>
      rw [e, Option.bind_some] at hg
      split at hg
      · rename_i hl
        cases hg
        cases rl with
        | cons p1 p2 =>
          cases p2
          cases p1 with
          | lst h1 h2 =>
            have := strsD_rep h2 e
            subst this
            exact ⟨a, _, l, rfl, rfl, .inl (.inl (.inl (S.bh _ _ h1))), by omega, q.flat S (.str _)⟩
      · cases hg
  · cases hg⟩
/-! ### a comprehension inside of another -/
theorem fe_lcN {Mb Lb : List Bool} {elt tg iter : Expr} {ifs : List Expr} {scope : Scope} {own : List (Str × Nat)} {pos : Pos} {gi : En → R (List D)} {g : GG} {ts : List Nat} {c f : FX} (hc : X.calm = true) (hN : X.N.Nodup) (hi : FJ X PN σ0 W tg iter gi) (ok : BlkOk X.N X.env.scope scope own)
    (hn : ∀ (s : Shared) (H : Hp) (C : Addr) (cl : List (Str × Addr)) (fp : List Addr), NamesOk (X.blk s H scope (compEnvC scope cl C X.env) fp) Mb Lb)
    (hg' : ∀ (s : Shared) (H : Hp) (C : Addr) (cl : List (Str × Addr)) (fp : List Addr), NamesOk (X.blk s H scope (compEnvC scope cl C X.env) fp) Mb Lb → FG (X.blk s H scope (compEnvC scope cl C X.env) fp) PN σ0 tg g ts) (ht' : ∀ (s : Shared) (H : Hp) (C : Addr) (cl : List (Str × Addr)) (fp : List Addr), NamesOk (X.blk s H scope (compEnvC scope cl C X.env) fp) Mb Lb → FTs (X.blk s H scope (compEnvC scope cl C X.env) fp) PN σ0 W0 ifs c)
    (he' : ∀ (s : Shared) (H : Hp) (C : Addr) (cl : List (Str × Addr)) (fp : List Addr), NamesOk (X.blk s H scope (compEnvC scope cl C X.env) fp) Mb Lb → FE (X.blk s H scope (compEnvC scope cl C X.env) fp) PN σ0 W0 elt f)
    (hts : ∀ i ∈ ts, i ∈ own.map (·.2) := by decide) (hpn : ∀ i ∈ own.map (·.2), i ∉ PN := by decide) (hs : ∀ x, foldedSetIterable iter X.env x = pure x := by intro _; rfl) :
    FE X PN σ0 W (.ListComp elt [⟨tg, iter, ifs, 0⟩] scope pos) (xLc (own.map (·.2)) gi g c f) := by
  have hg := fun s H C cl fp => hg' s H C cl fp (hn s H C cl fp)
  have ht := fun s H C cl fp => ht' s H C cl fp (hn s H C cl fp)
  have he := fun s H C cl fp => he' s H C cl fp (hn s H C cl fp)
  obtain ⟨ti, pi, qi⟩ := hi.ex
  exact ⟨_, pe_lc (g := cG X PN σ0 g ts) (tt := cT X PN σ0 W0 c) (te := cE X PN σ0 W0 f) hc hN pi ok (fun s H C cl fp => (hg s H C cl fp).pg) (fun s H C cl fp => (ht s H C cl fp).pt) (fun s H C cl fp => (he s H C cl fp).pe) hs, fun F B H σ ρ Q S q => lc_red qi hts hpn S q⟩
end
theorem join_tx : ∀ {L : List (List Nat)}, Txt.join (tx []) (L.map tx) = tx L.flatten
  | [] => rfl
  | [a] => by rw [List.map_cons, List.map_nil, List.flatten_cons, List.flatten_nil, List.append_nil]; rfl
  | a :: b :: L => by
    have ih := join_tx (L := b :: L)
    rw [List.flatten_cons, ← tx_app, ← ih, TL.join_eq, TL.join_eq]
    show tx a ++ tx [] ++ Str.join (tx []) ((b :: L).map tx) = _
    rw [show tx a ++ tx [] = tx a from by rw [tx_app, List.append_nil]]
theorem gJoin_txs {L : List (List Nat)} (h : (L.map (·.length)).sum ≤ 1000000) : gJoin (tx []) [.lst (L.map sD)] = some (.fz (.str (tx L.flatten))) := by
  show (strsD (L.map sD)).bind _ = _
  rw [show L.map sD = (L.map tx).map D.str from by rw [List.map_map]; rfl, strsD_map, Option.bind_some, if_pos, join_tx]
  rw [List.map_map, show ((fun x : Str => x.length) ∘ tx) = (fun l : List Nat => l.length) from rfl, tx_length]
  simpa using h
/-! ### a text in a tuple of texts; an empty list of texts -/
theorem gInX_txt {L : List (List Nat)} {a : List Nat} : gInX (sD a) (.tup (L.map sD)) = some (.fz (.bl (decide (a ∈ L)))) := by
  unfold gInX
  rw [show gIn (sD a) (.tup (L.map sD)) = some (.fz (.bl (decide (a ∈ L)))) from by
    show (if flatD (sD a) && (L.map sD).all flatD then some (Sl.fz (.bl ((L.map sD).any fun y => eqF y (sD a)))) else none) = _
    rw [all_flat_tx, show (flatD (sD a) && true) = true from rfl, if_pos rfl, any_tx]]
  rfl
theorem gEq_tx0' {L : List (List Nat)} (hL : Chr L) : gEq (.lst (L.map sD)) (.lst []) = some (.fz (.bl (decide (L = [])))) :=
  gEq_txs (M := []) hL (fun r h => by cases h)
end FV

namespace LW
open PySem PySem.Spec PyProof.Rows L2 FV
def topS (i : Nat) : Stmt := PySem.Challenge.pw_nearwish_k14_whole_tables_of_words.main.body.getD i (.Pass ⟨0, 0, 0, 0⟩)
def clsS (i j : Nat) : Stmt := match topS i with
  | .ClassDef _ _ _ body _ _ _ _ _ _ _ => body.getD j (.Pass ⟨0, 0, 0, 0⟩)
  | s => s
abbrev s_is_string_of : Stmt := topS 5
abbrev N_is_string_of : List Str := ["thing", "signs", "sign"]
abbrev P_is_string_of : List Str := ["thing", "signs"]
noncomputable def F_is_string_of : GF := fnF [false, false] 1 (ySeq (yIf (xNot (xL gIsi (lCons (aX (xV 0)) (lCons (aX (xC (.ty "str"))) lNil)))) (yRet (xC (.bl false))) yNil)
    (ySeq (yFor [2] (wIt (xV 0)) (tgN 2) (yIf (xB gNotInX (aX (xV 2)) (aX (xV 1))) (yRet (xC (.bl false))) yNil))
    (yRet (xC (.bl true)))))
theorem sc_is_string_of : FnScope N_is_string_of P_is_string_of (defScope s_is_string_of) := ⟨rfl, rfl, rfl, by decide +kernel, rfl, by decide +kernel, by decide +kernel⟩
theorem nm_is_string_of : nmB (defScope s_is_string_of) (fun _ => true) N_is_string_of [true, true, true] [true, true, true] = true := by decide +kernel
theorem ok_is_string_of {P : Program} {w : World} {K : PySem.W.Frag} {mg : Str → Option Value} {base : Heap} (z_isinstance : mg "isinstance" = none) (z_str : mg "str" = none) : ∀ {f : Addr} {fd : FuncData}, Fun K "is_string_of" "is_string_of" s_is_string_of f fd → FnOk P w K mg base (L2.CX P w) 1 f fd P_is_string_of (spF K mg [false, false] F_is_string_of) := by
  intro f fd Fn
  refine ok_def Fn sc_is_string_of rfl rfl (fun cdv A outer s H vs E hr => ?_)
  have C : Cok (cxOf (L2.CX P w) P w K mg base N_is_string_of "is_string_of" (defScope s_is_string_of) f cdv A outer s H E) (fun cls od _ H' => E cls od H') 0 := ⟨rfl, takes_of rfl rfl rfl rfl, passes_of rfl, hr⟩
  have N : NamesOk (cxOf (L2.CX P w) P w K mg base N_is_string_of "is_string_of" (defScope s_is_string_of) f cdv A outer s H E) [true, true, true] [true, true, true] := namesOk_of rfl rfl (fun _ => rfl) sc_is_string_of.nd nm_is_string_of
  exact (fb_cons (fs_if (ft_not (ft_e (fe_cb cb_isi ⟨by rfl, z_isinstance⟩ (by decide +kernel) (fl_cons (fa_x (fe_v N 0)) (fl_cons (fa_x (fe_ty ⟨by rfl, z_str⟩ (by decide +kernel))) fl_nil))))) (fb_one (fs_ret fe_bl)) fb_nil)
    (fb_cons (fs_for [2] C (FI.fj (fi_it (fe_v N 0))) (fg_n N 2) (fb_one (fs_if (ft_co (co_notInX C.hu C.hu65) (fa_x (fe_v N 2)) (fa_x (fe_v N 1))) (fb_one (fs_ret fe_bl)) fb_nil)))
    (fb_one (fs_ret fe_bl))))
abbrev s_check_word : Stmt := topS 7
abbrev N_check_word : List Str := ["wish", "thing"]
abbrev P_check_word : List Str := ["wish", "thing"]
noncomputable def F_check_word : GF := fnF [false, false] 0 (yIf (xNot (xCall [false, false] F_is_string_of (cX (xV 1) (cX (xFl "Wish" "kept_given" (xV 0)) cNil)))) (yRaise "NoWord") yNil)
theorem sc_check_word : FnScope N_check_word P_check_word (defScope s_check_word) := ⟨rfl, rfl, rfl, by decide +kernel, rfl, by decide +kernel, by decide +kernel⟩
theorem nm_check_word : nmB (defScope s_check_word) (fun _ => true) N_check_word [true, true] [true, true] = true := by decide +kernel
theorem ok_check_word {P : Program} {w : World} {K : PySem.W.Frag} {mg : Str → Option Value} {base : Heap} (Ck_Wish : ClsK K mg "Wish" ["kept_given", "kept_said", "kept_cells", "kept_index", "kept_places", "kept_bits", "kept_known", "kept_pairs", "kept_rows", "kept_closure"]) (x_NoWord : ExcAtK K mg "NoWord") (d_is_string_of : DF P w K mg base 1 "is_string_of" P_is_string_of [false, false] F_is_string_of) : ∀ {f : Addr} {fd : FuncData}, Fun K "check_word" "check_word" s_check_word f fd → FnOk P w K mg base (L2.CX P w) 2 f fd P_check_word (spF K mg [false, false] F_check_word) := by
  intro f fd Fn
  refine ok_def Fn sc_check_word rfl rfl (fun cdv A outer s H vs E hr => ?_)
  have C : Cok (cxOf (L2.CX P w) P w K mg base N_check_word "check_word" (defScope s_check_word) f cdv A outer s H E) (fun cls od _ H' => E cls od H') 1 := ⟨rfl, takes_of rfl rfl rfl rfl, passes_of rfl, hr⟩
  have N : NamesOk (cxOf (L2.CX P w) P w K mg base N_check_word "check_word" (defScope s_check_word) f cdv A outer s H E) [true, true] [true, true] := namesOk_of rfl rfl (fun _ => rfl) sc_check_word.nd nm_check_word
  have e_NoWord : ExcAt (cxOf (L2.CX P w) P w K mg base N_check_word "check_word" (defScope s_check_word) f cdv A outer s H E) "NoWord" := ⟨x_NoWord.ex⟩
  exact (fb_one (fs_if (ft_not (ft_e (fe_call ⟨d_is_string_of⟩ (C.hr.mono (by decide)) C.tk (by rfl) (fc_x (fe_v N 1) (fc_x (fe_fl (fe_v N 0) Ck_Wish) fc_nil))))) (fb_one (fs_raise C e_NoWord (by rfl))) fb_nil))
abbrev s_plain_rows : Stmt := topS 10
abbrev N_plain_rows : List Str := ["wish"]
abbrev P_plain_rows : List Str := ["wish"]
noncomputable def F_plain_rows : GF := fnF [false] 0 (yRet (xL gTupleX (lCons (aX (xFl "Wish" "kept_rows" (xV 0))) lNil)))
theorem sc_plain_rows : FnScope N_plain_rows P_plain_rows (defScope s_plain_rows) := ⟨rfl, rfl, rfl, by decide +kernel, rfl, by decide +kernel, by decide +kernel⟩
theorem nm_plain_rows : nmB (defScope s_plain_rows) (fun _ => true) N_plain_rows [true] [true] = true := by decide +kernel
theorem ok_plain_rows {P : Program} {w : World} {K : PySem.W.Frag} {mg : Str → Option Value} {base : Heap} (z_tuple : mg "tuple" = none) (Ck_Wish : ClsK K mg "Wish" ["kept_given", "kept_said", "kept_cells", "kept_index", "kept_places", "kept_bits", "kept_known", "kept_pairs", "kept_rows", "kept_closure"]) : ∀ {f : Addr} {fd : FuncData}, Fun K "plain_rows" "plain_rows" s_plain_rows f fd → FnOk P w K mg base (L2.CX P w) 1 f fd P_plain_rows (spF K mg [false] F_plain_rows) := by
  intro f fd Fn
  refine ok_def Fn sc_plain_rows rfl rfl (fun cdv A outer s H vs E hr => ?_)
  have C : Cok (cxOf (L2.CX P w) P w K mg base N_plain_rows "plain_rows" (defScope s_plain_rows) f cdv A outer s H E) (fun cls od _ H' => E cls od H') 0 := ⟨rfl, takes_of rfl rfl rfl rfl, passes_of rfl, hr⟩
  have N : NamesOk (cxOf (L2.CX P w) P w K mg base N_plain_rows "plain_rows" (defScope s_plain_rows) f cdv A outer s H E) [true] [true] := namesOk_of rfl rfl (fun _ => rfl) sc_plain_rows.nd nm_plain_rows
  exact (fb_one (fs_ret (fe_ct (cb_tupleX C.calm) ⟨by rfl, z_tuple⟩ (by decide +kernel) (fl_cons (fa_x (fe_fl (fe_v N 0) Ck_Wish)) fl_nil))))
abbrev s_crossed : Stmt := topS 11
abbrev N_crossed : List Str := ["wish", "rows", "letter", "more", "places", "found", "row", "mask", "place"]
abbrev P_crossed : List Str := ["wish", "rows", "letter", "more"]
noncomputable def F_crossed : GF := fnF [false, false, false, false] 5 (ySeq (ySet 4 (xB ixD (aX (xFl "Wish" "kept_places" (xV 0))) (aX (xV 2))))
    (ySeq (ySet 5 (xLst cNil))
    (ySeq (yFor [6, 7, 8] (wIt (xV 1)) (tgN 6) (ySeq (ySet 7 (xC (.int 0)))
    (ySeq (yFor [8] (wIt (xV 4)) (tgN 8) (yIf (xB gGt (aX (xB gAnd (aX (xV 6)) (aX (xB ixD (aX (xFl "Wish" "kept_bits" (xV 0))) (aX (xV 8)))))) (aX (xC (.int 0)))) (ySet 7 (xB gOr (aX (xV 7)) (aX (xB ixD (aX (xV 3)) (aX (xV 8)))))) yNil))
    (yX (xMu 5 mApp (cX (xV 7) cNil))))))
    (yRet (xL gTupleX (lCons (aR 5) lNil))))))
theorem sc_crossed : FnScope N_crossed P_crossed (defScope s_crossed) := ⟨rfl, rfl, rfl, by decide +kernel, rfl, by decide +kernel, by decide +kernel⟩
theorem nm_crossed : nmB (defScope s_crossed) (fun _ => true) N_crossed [true, true, true, true, true, true, true, true, true] [true, true, true, true, true, true, true, true, true] = true := by decide +kernel
theorem ok_crossed {P : Program} {w : World} {K : PySem.W.Frag} {mg : Str → Option Value} {base : Heap} (z_tuple : mg "tuple" = none) (Ck_Wish : ClsK K mg "Wish" ["kept_given", "kept_said", "kept_cells", "kept_index", "kept_places", "kept_bits", "kept_known", "kept_pairs", "kept_rows", "kept_closure"]) : ∀ {f : Addr} {fd : FuncData}, Fun K "crossed" "crossed" s_crossed f fd → FnOk P w K mg base (L2.CX P w) 1 f fd P_crossed (spF K mg [false, false, false, false] F_crossed) := by
  intro f fd Fn
  refine ok_def Fn sc_crossed rfl rfl (fun cdv A outer s H vs E hr => ?_)
  have C : Cok (cxOf (L2.CX P w) P w K mg base N_crossed "crossed" (defScope s_crossed) f cdv A outer s H E) (fun cls od _ H' => E cls od H') 0 := ⟨rfl, takes_of rfl rfl rfl rfl, passes_of rfl, hr⟩
  have N : NamesOk (cxOf (L2.CX P w) P w K mg base N_crossed "crossed" (defScope s_crossed) f cdv A outer s H E) [true, true, true, true, true, true, true, true, true] [true, true, true, true, true, true, true, true, true] := namesOk_of rfl rfl (fun _ => rfl) sc_crossed.nd nm_crossed
  exact (fb_cons (fs_set N 4 (fe_ix C.hu (fa_x (fe_fl (fe_v N 0) Ck_Wish)) (fa_x (fe_v N 2))))
    (fb_cons (fs_set N 5 (fe_lst fc_nil))
    (fb_cons (fs_for [6, 7, 8] C (FI.fj (fi_it (fe_v N 1))) (fg_n N 6) (fb_cons (fs_set N 7 fe_int)
    (fb_cons (fs_for [8] C (FI.fj (fi_it (fe_v N 4))) (fg_n N 8) (fb_one (fs_if (ft_co co_gt (fa_x (fe_bo bo_and (fa_x (fe_v N 6)) (fa_x (fe_ix C.hu (fa_x (fe_fl (fe_v N 0) Ck_Wish)) (fa_x (fe_v N 8)))))) (fa_x fe_int)) (fb_one (fs_set N 7 (fe_bo bo_or (fa_x (fe_v N 7)) (fa_x (fe_ix C.hu (fa_x (fe_v N 3)) (fa_x (fe_v N 8))))))) fb_nil)))
    (fb_one (fs_expr (fe_mu N 5 PySem.F.slot_list_append PySem.F.type_list_append mu_app (fc_x (fe_v N 7) fc_nil)))))))
    (fb_one (fs_ret (fe_ct (cb_tupleX C.calm) ⟨by rfl, z_tuple⟩ (by decide +kernel) (fl_cons (fa_r N 5) fl_nil)))))))
abbrev s_put_behind : Stmt := topS 12
abbrev N_put_behind : List Str := ["wish", "rows", "letter"]
abbrev P_put_behind : List Str := ["wish", "rows", "letter"]
noncomputable def F_put_behind : GF := fnF [false, false, false] 0 (yRet (xCall [false, false, false, false] F_crossed (cX (xV 0) (cX (xV 1) (cX (xV 2) (cX (xFl "Wish" "kept_rows" (xV 0)) cNil))))))
theorem sc_put_behind : FnScope N_put_behind P_put_behind (defScope s_put_behind) := ⟨rfl, rfl, rfl, by decide +kernel, rfl, by decide +kernel, by decide +kernel⟩
theorem nm_put_behind : nmB (defScope s_put_behind) (fun _ => true) N_put_behind [true, true, true] [true, true, true] = true := by decide +kernel
theorem ok_put_behind {P : Program} {w : World} {K : PySem.W.Frag} {mg : Str → Option Value} {base : Heap} (Ck_Wish : ClsK K mg "Wish" ["kept_given", "kept_said", "kept_cells", "kept_index", "kept_places", "kept_bits", "kept_known", "kept_pairs", "kept_rows", "kept_closure"]) (d_crossed : DF P w K mg base 1 "crossed" P_crossed [false, false, false, false] F_crossed) : ∀ {f : Addr} {fd : FuncData}, Fun K "put_behind" "put_behind" s_put_behind f fd → FnOk P w K mg base (L2.CX P w) 2 f fd P_put_behind (spF K mg [false, false, false] F_put_behind) := by
  intro f fd Fn
  refine ok_def Fn sc_put_behind rfl rfl (fun cdv A outer s H vs E hr => ?_)
  have C : Cok (cxOf (L2.CX P w) P w K mg base N_put_behind "put_behind" (defScope s_put_behind) f cdv A outer s H E) (fun cls od _ H' => E cls od H') 1 := ⟨rfl, takes_of rfl rfl rfl rfl, passes_of rfl, hr⟩
  have N : NamesOk (cxOf (L2.CX P w) P w K mg base N_put_behind "put_behind" (defScope s_put_behind) f cdv A outer s H E) [true, true, true] [true, true, true] := namesOk_of rfl rfl (fun _ => rfl) sc_put_behind.nd nm_put_behind
  exact (fb_one (fs_ret (fe_call ⟨d_crossed⟩ (C.hr.mono (by decide)) C.tk (by rfl) (fc_x (fe_v N 0) (fc_x (fe_v N 1) (fc_x (fe_v N 2) (fc_x (fe_fl (fe_v N 0) Ck_Wish) fc_nil)))))))
abbrev s_as_table : Stmt := topS 13
abbrev N_as_table : List Str := ["wish", "rows", "found", "one", "row", "other", "bit"]
abbrev P_as_table : List Str := ["wish", "rows"]
noncomputable def F_as_table : GF := fnF [false, false] 5 (ySeq (ySet 2 (xLst cNil))
    (ySeq (yFor [3, 4, 5, 6] (wZip (cX (xFl "Wish" "kept_cells" (xV 0)) (cX (xV 1) cNil))) (tgT 2 (tgsCons (tgN 3) (tgsCons (tgN 4) tgsNil))) (yFor [5, 6] (wZip (cX (xFl "Wish" "kept_cells" (xV 0)) (cX (xFl "Wish" "kept_bits" (xV 0)) cNil))) (tgT 2 (tgsCons (tgN 5) (tgsCons (tgN 6) tgsNil))) (yIf (xB gGt (aX (xB gAnd (aX (xV 4)) (aX (xV 6)))) (aX (xC (.int 0)))) (yX (xMu 2 mApp (cX (xB gAdd (aX (xV 3)) (aX (xV 5))) cNil))) yNil)))
    (yRet (xL gTupleX (lCons (aR 2) lNil)))))
theorem sc_as_table : FnScope N_as_table P_as_table (defScope s_as_table) := ⟨rfl, rfl, rfl, by decide +kernel, rfl, by decide +kernel, by decide +kernel⟩
theorem nm_as_table : nmB (defScope s_as_table) (fun _ => true) N_as_table [true, true, true, true, true, true, true] [true, true, true, true, true, true, true] = true := by decide +kernel
theorem ok_as_table {P : Program} {w : World} {K : PySem.W.Frag} {mg : Str → Option Value} {base : Heap} (z_tuple : mg "tuple" = none) (z_zip : mg "zip" = none) (Ck_Wish : ClsK K mg "Wish" ["kept_given", "kept_said", "kept_cells", "kept_index", "kept_places", "kept_bits", "kept_known", "kept_pairs", "kept_rows", "kept_closure"]) : ∀ {f : Addr} {fd : FuncData}, Fun K "as_table" "as_table" s_as_table f fd → FnOk P w K mg base (L2.CX P w) 1 f fd P_as_table (spF K mg [false, false] F_as_table) := by
  intro f fd Fn
  refine ok_def Fn sc_as_table rfl rfl (fun cdv A outer s H vs E hr => ?_)
  have C : Cok (cxOf (L2.CX P w) P w K mg base N_as_table "as_table" (defScope s_as_table) f cdv A outer s H E) (fun cls od _ H' => E cls od H') 0 := ⟨rfl, takes_of rfl rfl rfl rfl, passes_of rfl, hr⟩
  have N : NamesOk (cxOf (L2.CX P w) P w K mg base N_as_table "as_table" (defScope s_as_table) f cdv A outer s H E) [true, true, true, true, true, true, true] [true, true, true, true, true, true, true] := namesOk_of rfl rfl (fun _ => rfl) sc_as_table.nd nm_as_table
  exact (fb_cons (fs_set N 2 (fe_lst fc_nil))
    (fb_cons (fs_for [3, 4, 5, 6] C (FI.fj (fi_zip ⟨by rfl, z_zip⟩ (fc_x (fe_fl (fe_v N 0) Ck_Wish) (fc_x (fe_v N 1) fc_nil)))) (fg_t rfl (fgs_cons (fg_n N 3) (fgs_cons (fg_n N 4) fgs_nil))) (fb_one (fs_for [5, 6] C (FI.fj (fi_zip ⟨by rfl, z_zip⟩ (fc_x (fe_fl (fe_v N 0) Ck_Wish) (fc_x (fe_fl (fe_v N 0) Ck_Wish) fc_nil)))) (fg_t rfl (fgs_cons (fg_n N 5) (fgs_cons (fg_n N 6) fgs_nil))) (fb_one (fs_if (ft_co co_gt (fa_x (fe_bo bo_and (fa_x (fe_v N 4)) (fa_x (fe_v N 6)))) (fa_x fe_int)) (fb_one (fs_expr (fe_mu N 2 PySem.F.slot_list_append PySem.F.type_list_append mu_app (fc_x (fe_bo bo_add (fa_x (fe_v N 3)) (fa_x (fe_v N 5))) fc_nil)))) fb_nil)))))
    (fb_one (fs_ret (fe_ct (cb_tupleX C.calm) ⟨by rfl, z_tuple⟩ (by decide +kernel) (fl_cons (fa_r N 2) fl_nil))))))
abbrev s_table : Stmt := topS 15
abbrev N_table : List Str := ["wish", "word", "rows", "letter"]
abbrev P_table : List Str := ["wish", "word"]
noncomputable def F_table : GF := fnF [false, false] 2 (ySeq (yX (xCall [false, false] F_check_word (cX (xV 0) (cX (xV 1) cNil))))
    (ySeq (ySet 2 (xCall [false] F_plain_rows (cX (xV 0) cNil)))
    (ySeq (yFor [3] (wIt (xV 1)) (tgN 3) (ySet 2 (xCall [false, false, false] F_put_behind (cX (xV 0) (cX (xV 2) (cX (xV 3) cNil))))))
    (yRet (xCall [false, false] F_as_table (cX (xV 0) (cX (xV 2) cNil)))))))
theorem sc_table : FnScope N_table P_table (defScope s_table) := ⟨rfl, rfl, rfl, by decide +kernel, rfl, by decide +kernel, by decide +kernel⟩
theorem nm_table : nmB (defScope s_table) (fun _ => true) N_table [true, true, true, true] [true, true, true, true] = true := by decide +kernel
theorem ok_table {P : Program} {w : World} {K : PySem.W.Frag} {mg : Str → Option Value} {base : Heap} (d_as_table : DF P w K mg base 1 "as_table" P_as_table [false, false] F_as_table) (d_check_word : DF P w K mg base 2 "check_word" P_check_word [false, false] F_check_word) (d_plain_rows : DF P w K mg base 1 "plain_rows" P_plain_rows [false] F_plain_rows) (d_put_behind : DF P w K mg base 2 "put_behind" P_put_behind [false, false, false] F_put_behind) : ∀ {f : Addr} {fd : FuncData}, Fun K "table" "table" s_table f fd → FnOk P w K mg base (L2.CX P w) 3 f fd P_table (spF K mg [false, false] F_table) := by
  intro f fd Fn
  refine ok_def Fn sc_table rfl rfl (fun cdv A outer s H vs E hr => ?_)
  have C : Cok (cxOf (L2.CX P w) P w K mg base N_table "table" (defScope s_table) f cdv A outer s H E) (fun cls od _ H' => E cls od H') 2 := ⟨rfl, takes_of rfl rfl rfl rfl, passes_of rfl, hr⟩
  have N : NamesOk (cxOf (L2.CX P w) P w K mg base N_table "table" (defScope s_table) f cdv A outer s H E) [true, true, true, true] [true, true, true, true] := namesOk_of rfl rfl (fun _ => rfl) sc_table.nd nm_table
  exact (fb_cons (fs_expr (fe_call ⟨d_check_word⟩ (C.hr.mono (by decide)) C.tk (by rfl) (fc_x (fe_v N 0) (fc_x (fe_v N 1) fc_nil))))
    (fb_cons (fs_set N 2 (fe_call ⟨d_plain_rows⟩ (C.hr.mono (by decide)) C.tk (by rfl) (fc_x (fe_v N 0) fc_nil)))
    (fb_cons (fs_for [3] C (FI.fj (fi_it (fe_v N 1))) (fg_n N 3) (fb_one (fs_set N 2 (fe_call ⟨d_put_behind⟩ (C.hr.mono (by decide)) C.tk (by rfl) (fc_x (fe_v N 0) (fc_x (fe_v N 2) (fc_x (fe_v N 3) fc_nil)))))))
    (fb_one (fs_ret (fe_call ⟨d_as_table⟩ (C.hr.mono (by decide)) C.tk (by rfl) (fc_x (fe_v N 0) (fc_x (fe_v N 2) fc_nil))))))))
abbrev s_check_ring : Stmt := topS 8
abbrev N_check_ring : List Str := ["wish", "thing"]
abbrev P_check_ring : List Str := ["wish", "thing"]
noncomputable def F_check_ring : GF := fnF [false, false] 0 (ySeq (yX (xCall [false, false] F_check_word (cX (xV 0) (cX (xV 1) cNil))))
    (yIf (xB gEq (aX (xV 1)) (aX (xC (.str "")))) (yRaise "NoWord") yNil))
theorem sc_check_ring : FnScope N_check_ring P_check_ring (defScope s_check_ring) := ⟨rfl, rfl, rfl, by decide +kernel, rfl, by decide +kernel, by decide +kernel⟩
theorem nm_check_ring : nmB (defScope s_check_ring) (fun _ => true) N_check_ring [true, true] [true, true] = true := by decide +kernel
theorem ok_check_ring {P : Program} {w : World} {K : PySem.W.Frag} {mg : Str → Option Value} {base : Heap} (x_NoWord : ExcAtK K mg "NoWord") (d_check_word : DF P w K mg base 2 "check_word" P_check_word [false, false] F_check_word) : ∀ {f : Addr} {fd : FuncData}, Fun K "check_ring" "check_ring" s_check_ring f fd → FnOk P w K mg base (L2.CX P w) 3 f fd P_check_ring (spF K mg [false, false] F_check_ring) := by
  intro f fd Fn
  refine ok_def Fn sc_check_ring rfl rfl (fun cdv A outer s H vs E hr => ?_)
  have C : Cok (cxOf (L2.CX P w) P w K mg base N_check_ring "check_ring" (defScope s_check_ring) f cdv A outer s H E) (fun cls od _ H' => E cls od H') 2 := ⟨rfl, takes_of rfl rfl rfl rfl, passes_of rfl, hr⟩
  have N : NamesOk (cxOf (L2.CX P w) P w K mg base N_check_ring "check_ring" (defScope s_check_ring) f cdv A outer s H E) [true, true] [true, true] := namesOk_of rfl rfl (fun _ => rfl) sc_check_ring.nd nm_check_ring
  have e_NoWord : ExcAt (cxOf (L2.CX P w) P w K mg base N_check_ring "check_ring" (defScope s_check_ring) f cdv A outer s H E) "NoWord" := ⟨x_NoWord.ex⟩
  exact (fb_cons (fs_expr (fe_call ⟨d_check_word⟩ (C.hr.mono (by decide)) C.tk (by rfl) (fc_x (fe_v N 0) (fc_x (fe_v N 1) fc_nil))))
    (fb_one (fs_if (ft_co (co_eq C.hu64) (fa_x (fe_v N 1)) (fa_x fe_str)) (fb_one (fs_raise C e_NoWord (by rfl))) fb_nil)))
abbrev s_living : Stmt := topS 17
abbrev N_living : List Str := ["wish", "word", "after", "masks", "behind", "letter", "mask", "index"]
abbrev P_living : List Str := ["wish", "word", "after"]
noncomputable def F_living : GF := fnF [false, false, false] 5 (ySeq (ySet 3 (xLst cNil))
    (ySeq (ySet 4 (xC .non))
    (ySeq (yIf (xB gNotN (aX (xV 2)) (aX (xC .non))) (ySet 4 (xB ixD (aX (xFl "Wish" "kept_bits" (xV 0))) (aX (xB ixD (aX (xFl "Wish" "kept_index" (xV 0))) (aX (xV 2)))))) yNil)
    (ySeq (yFor [5, 6, 7] (wIt (xU revD (aX (xV 1)))) (tgN 5) (ySeq (ySet 6 (xC (.int 0)))
    (ySeq (yFor [7] (wIt (xB ixD (aX (xFl "Wish" "kept_places" (xV 0))) (aX (xV 5)))) (tgN 7) (yIf (xOr (xB gIsN (aX (xV 4)) (aX (xC .non))) (xB gGt (aX (xB gAnd (aX (xB ixD (aX (xFl "Wish" "kept_rows" (xV 0))) (aX (xV 7)))) (aX (xV 4)))) (aX (xC (.int 0))))) (yAug 6 gAddI (xB ixD (aX (xFl "Wish" "kept_bits" (xV 0))) (aX (xV 7)))) yNil))
    (ySeq (yX (xMu 3 mApp (cX (xV 6) cNil)))
    (ySet 4 (xV 6))))))
    (yRet (xU revD (aR 3)))))))
theorem sc_living : FnScope N_living P_living (defScope s_living) := ⟨rfl, rfl, rfl, by decide +kernel, rfl, by decide +kernel, by decide +kernel⟩
theorem nm_living : nmB (defScope s_living) (fun _ => true) N_living [true, true, true, true, true, true, true, true] [true, true, true, true, true, true, true, true] = true := by decide +kernel
theorem ok_living {P : Program} {w : World} {K : PySem.W.Frag} {mg : Str → Option Value} {base : Heap} (Ck_Wish : ClsK K mg "Wish" ["kept_given", "kept_said", "kept_cells", "kept_index", "kept_places", "kept_bits", "kept_known", "kept_pairs", "kept_rows", "kept_closure"]) : ∀ {f : Addr} {fd : FuncData}, Fun K "living" "living" s_living f fd → FnOk P w K mg base (L2.CX P w) 1 f fd P_living (spF K mg [false, false, false] F_living) := by
  intro f fd Fn
  refine ok_def Fn sc_living rfl rfl (fun cdv A outer s H vs E hr => ?_)
  have C : Cok (cxOf (L2.CX P w) P w K mg base N_living "living" (defScope s_living) f cdv A outer s H E) (fun cls od _ H' => E cls od H') 0 := ⟨rfl, takes_of rfl rfl rfl rfl, passes_of rfl, hr⟩
  have N : NamesOk (cxOf (L2.CX P w) P w K mg base N_living "living" (defScope s_living) f cdv A outer s H E) [true, true, true, true, true, true, true, true] [true, true, true, true, true, true, true, true] := namesOk_of rfl rfl (fun _ => rfl) sc_living.nd nm_living
  exact (fb_cons (fs_set N 3 (fe_lst fc_nil))
    (fb_cons (fs_set N 4 fe_non)
    (fb_cons (fs_if (ft_co co_notN (fa_x (fe_v N 2)) (fa_x fe_non)) (fb_one (fs_set N 4 (fe_ix C.hu (fa_x (fe_fl (fe_v N 0) Ck_Wish)) (fa_x (fe_ix C.hu (fa_x (fe_fl (fe_v N 0) Ck_Wish)) (fa_x (fe_v N 2))))))) fb_nil)
    (fb_cons (fs_for [5, 6, 7] C (FI.fj (fi_it (fe_rev (fa_x (fe_v N 1))))) (fg_n N 5) (fb_cons (fs_set N 6 fe_int)
    (fb_cons (fs_for [7] C (FI.fj (fi_it (fe_ix C.hu (fa_x (fe_fl (fe_v N 0) Ck_Wish)) (fa_x (fe_v N 5))))) (fg_n N 7) (fb_one (fs_if (ft_w (fw_or (ft_co co_isN (fa_x (fe_v N 4)) (fa_x fe_non)) (fw_or1 (ft_co co_gt (fa_x (fe_bo bo_and (fa_x (fe_ix C.hu (fa_x (fe_fl (fe_v N 0) Ck_Wish)) (fa_x (fe_v N 7)))) (fa_x (fe_v N 4)))) (fa_x fe_int))))) (fb_one (fs_au N 6 ip_add' (fe_ix C.hu (fa_x (fe_fl (fe_v N 0) Ck_Wish)) (fa_x (fe_v N 7))))) fb_nil)))
    (fb_cons (fs_expr (fe_mu N 3 PySem.F.slot_list_append PySem.F.type_list_append mu_app (fc_x (fe_v N 6) fc_nil)))
    (fb_one (fs_set N 4 (fe_v N 6)))))))
    (fb_one (fs_ret (fe_rev (fa_r N 3))))))))
abbrev s_first_of : Stmt := topS 18
abbrev N_first_of : List Str := ["wish", "letter", "mask", "index"]
abbrev P_first_of : List Str := ["wish", "letter", "mask"]
noncomputable def F_first_of : GF := fnF [false, false, false] 1 (ySeq (yFor [3] (wIt (xB ixD (aX (xFl "Wish" "kept_places" (xV 0))) (aX (xV 1)))) (tgN 3) (yIf (xB gGt (aX (xB gAnd (aX (xV 2)) (aX (xB ixD (aX (xFl "Wish" "kept_bits" (xV 0))) (aX (xV 3)))))) (aX (xC (.int 0)))) (yRet (xV 3)) yNil))
    (yRet (xC .non)))
theorem sc_first_of : FnScope N_first_of P_first_of (defScope s_first_of) := ⟨rfl, rfl, rfl, by decide +kernel, rfl, by decide +kernel, by decide +kernel⟩
theorem nm_first_of : nmB (defScope s_first_of) (fun _ => true) N_first_of [true, true, true, true] [true, true, true, true] = true := by decide +kernel
theorem ok_first_of {P : Program} {w : World} {K : PySem.W.Frag} {mg : Str → Option Value} {base : Heap} (Ck_Wish : ClsK K mg "Wish" ["kept_given", "kept_said", "kept_cells", "kept_index", "kept_places", "kept_bits", "kept_known", "kept_pairs", "kept_rows", "kept_closure"]) : ∀ {f : Addr} {fd : FuncData}, Fun K "first_of" "first_of" s_first_of f fd → FnOk P w K mg base (L2.CX P w) 1 f fd P_first_of (spF K mg [false, false, false] F_first_of) := by
  intro f fd Fn
  refine ok_def Fn sc_first_of rfl rfl (fun cdv A outer s H vs E hr => ?_)
  have C : Cok (cxOf (L2.CX P w) P w K mg base N_first_of "first_of" (defScope s_first_of) f cdv A outer s H E) (fun cls od _ H' => E cls od H') 0 := ⟨rfl, takes_of rfl rfl rfl rfl, passes_of rfl, hr⟩
  have N : NamesOk (cxOf (L2.CX P w) P w K mg base N_first_of "first_of" (defScope s_first_of) f cdv A outer s H E) [true, true, true, true] [true, true, true, true] := namesOk_of rfl rfl (fun _ => rfl) sc_first_of.nd nm_first_of
  exact (fb_cons (fs_for [3] C (FI.fj (fi_it (fe_ix C.hu (fa_x (fe_fl (fe_v N 0) Ck_Wish)) (fa_x (fe_v N 1))))) (fg_n N 3) (fb_one (fs_if (ft_co co_gt (fa_x (fe_bo bo_and (fa_x (fe_v N 2)) (fa_x (fe_ix C.hu (fa_x (fe_fl (fe_v N 0) Ck_Wish)) (fa_x (fe_v N 3)))))) (fa_x fe_int)) (fb_one (fs_ret (fe_v N 3))) fb_nil)))
    (fb_one (fs_ret fe_non)))
abbrev s_filled : Stmt := topS 19
abbrev N_filled : List Str := ["wish", "before", "word", "after", "at", "told", "letter", "mask"]
abbrev P_filled : List Str := ["wish", "before", "word", "after"]
noncomputable def F_filled : GF := fnF [false, false, false, false] 4 (ySeq (yIf (xB gEq (aX (xV 2)) (aX (xC (.str "")))) (ySeq (yIf (xOr (xB gIsN (aX (xV 1)) (aX (xC .non))) (xOr (xB gIsN (aX (xV 3)) (aX (xC .non))) (xB gInX (aX (xB gAdd (aX (xV 1)) (aX (xV 3)))) (aX (xFl "Wish" "kept_known" (xV 0)))))) (yRet (xC (.str ""))) yNil)
    (yRet (xC .non))) yNil)
    (ySeq (ySet 4 (xC .non))
    (ySeq (yIf (xB gNotN (aX (xV 1)) (aX (xC .non))) (ySet 4 (xB ixD (aX (xFl "Wish" "kept_index" (xV 0))) (aX (xV 1)))) yNil)
    (ySeq (ySet 5 (xC (.str "")))
    (ySeq (yFor [6, 7] (wZip (cX (xV 2) (cX (xCall [false, false, false] F_living (cX (xV 0) (cX (xV 2) (cX (xV 3) cNil)))) cNil))) (tgT 2 (tgsCons (tgN 6) (tgsCons (tgN 7) tgsNil))) (ySeq (yIf (xB gNotN (aX (xV 4)) (aX (xC .non))) (ySet 7 (xB gAnd (aX (xV 7)) (aX (xB ixD (aX (xFl "Wish" "kept_rows" (xV 0))) (aX (xV 4)))))) yNil)
    (ySeq (ySet 4 (xCall [false, false, false] F_first_of (cX (xV 0) (cX (xV 6) (cX (xV 7) cNil)))))
    (ySeq (yIf (xB gIsN (aX (xV 4)) (aX (xC .non))) (yRet (xC .non)) yNil)
    (yAug 5 gAddI (xB ixD (aX (xB ixD (aX (xFl "Wish" "kept_cells" (xV 0))) (aX (xV 4)))) (aX (xC (.int 1)))))))))
    (yRet (xV 5)))))))
theorem sc_filled : FnScope N_filled P_filled (defScope s_filled) := ⟨rfl, rfl, rfl, by decide +kernel, rfl, by decide +kernel, by decide +kernel⟩
theorem nm_filled : nmB (defScope s_filled) (fun _ => true) N_filled [true, true, true, true, true, true, true, true] [true, true, true, true, true, true, true, true] = true := by decide +kernel
theorem ok_filled {P : Program} {w : World} {K : PySem.W.Frag} {mg : Str → Option Value} {base : Heap} (z_zip : mg "zip" = none) (Ck_Wish : ClsK K mg "Wish" ["kept_given", "kept_said", "kept_cells", "kept_index", "kept_places", "kept_bits", "kept_known", "kept_pairs", "kept_rows", "kept_closure"]) (d_first_of : DF P w K mg base 1 "first_of" P_first_of [false, false, false] F_first_of) (d_living : DF P w K mg base 1 "living" P_living [false, false, false] F_living) : ∀ {f : Addr} {fd : FuncData}, Fun K "filled" "filled" s_filled f fd → FnOk P w K mg base (L2.CX P w) 2 f fd P_filled (spF K mg [false, false, false, false] F_filled) := by
  intro f fd Fn
  refine ok_def Fn sc_filled rfl rfl (fun cdv A outer s H vs E hr => ?_)
  have C : Cok (cxOf (L2.CX P w) P w K mg base N_filled "filled" (defScope s_filled) f cdv A outer s H E) (fun cls od _ H' => E cls od H') 1 := ⟨rfl, takes_of rfl rfl rfl rfl, passes_of rfl, hr⟩
  have N : NamesOk (cxOf (L2.CX P w) P w K mg base N_filled "filled" (defScope s_filled) f cdv A outer s H E) [true, true, true, true, true, true, true, true] [true, true, true, true, true, true, true, true] := namesOk_of rfl rfl (fun _ => rfl) sc_filled.nd nm_filled
  exact (fb_cons (fs_if (ft_co (co_eq C.hu64) (fa_x (fe_v N 2)) (fa_x fe_str)) (fb_cons (fs_if (ft_w (fw_or (ft_co co_isN (fa_x (fe_v N 1)) (fa_x fe_non)) (fw_or (ft_co co_isN (fa_x (fe_v N 3)) (fa_x fe_non)) (fw_or1 (ft_co (co_inX C.hu C.hu65) (fa_x (fe_bo bo_add (fa_x (fe_v N 1)) (fa_x (fe_v N 3)))) (fa_x (fe_fl (fe_v N 0) Ck_Wish))))))) (fb_one (fs_ret fe_str)) fb_nil)
    (fb_one (fs_ret fe_non))) fb_nil)
    (fb_cons (fs_set N 4 fe_non)
    (fb_cons (fs_if (ft_co co_notN (fa_x (fe_v N 1)) (fa_x fe_non)) (fb_one (fs_set N 4 (fe_ix C.hu (fa_x (fe_fl (fe_v N 0) Ck_Wish)) (fa_x (fe_v N 1))))) fb_nil)
    (fb_cons (fs_set N 5 fe_str)
    (fb_cons (fs_for [6, 7] C (FI.fj (fi_zip ⟨by rfl, z_zip⟩ (fc_x (fe_v N 2) (fc_x (fe_call ⟨d_living⟩ (C.hr.mono (by decide)) C.tk (by rfl) (fc_x (fe_v N 0) (fc_x (fe_v N 2) (fc_x (fe_v N 3) fc_nil)))) fc_nil)))) (fg_t rfl (fgs_cons (fg_n N 6) (fgs_cons (fg_n N 7) fgs_nil))) (fb_cons (fs_if (ft_co co_notN (fa_x (fe_v N 4)) (fa_x fe_non)) (fb_one (fs_set N 7 (fe_bo bo_and (fa_x (fe_v N 7)) (fa_x (fe_ix C.hu (fa_x (fe_fl (fe_v N 0) Ck_Wish)) (fa_x (fe_v N 4))))))) fb_nil)
    (fb_cons (fs_set N 4 (fe_call ⟨d_first_of⟩ (C.hr.mono (by decide)) C.tk (by rfl) (fc_x (fe_v N 0) (fc_x (fe_v N 6) (fc_x (fe_v N 7) fc_nil)))))
    (fb_cons (fs_if (ft_co co_isN (fa_x (fe_v N 4)) (fa_x fe_non)) (fb_one (fs_ret fe_non)) fb_nil)
    (fb_one (fs_au N 5 ip_add' (fe_ix C.hu (fa_x (fe_ix C.hu (fa_x (fe_fl (fe_v N 0) Ck_Wish)) (fa_x (fe_v N 4)))) (fa_x fe_int))))))))
    (fb_one (fs_ret (fe_v N 5))))))))
abbrev s_first_answer : Stmt := topS 20
abbrev N_first_answer : List Str := ["wish", "word", "index", "cell", "rest"]
abbrev P_first_answer : List Str := ["wish", "word"]
noncomputable def F_first_answer : GF := fnF [false, false] 3 (ySeq (yX (xCall [false, false] F_check_ring (cX (xV 0) (cX (xV 1) cNil))))
    (ySeq (yFor [2, 3, 4] (wIt (xB ixD (aX (xFl "Wish" "kept_places" (xV 0))) (aX (xB ixD (aX (xV 1)) (aX (xC (.int 0))))))) (tgN 2) (ySeq (ySet 3 (xB ixD (aX (xFl "Wish" "kept_cells" (xV 0))) (aX (xV 2))))
    (ySeq (ySet 4 (xCall [false, false, false, false] F_filled (cX (xV 0) (cX (xV 3) (cX (xSl (aX (xV 1)) (pS (xC (.int 1))) pN) (cX (xV 3) cNil))))))
    (yIf (xB gNotN (aX (xV 4)) (aX (xC .non))) (yRet (xB gAdd (aX (xB ixD (aX (xV 3)) (aX (xC (.int 1))))) (aX (xV 4)))) yNil))))
    (yRet (xC .non))))
theorem sc_first_answer : FnScope N_first_answer P_first_answer (defScope s_first_answer) := ⟨rfl, rfl, rfl, by decide +kernel, rfl, by decide +kernel, by decide +kernel⟩
theorem nm_first_answer : nmB (defScope s_first_answer) (fun _ => true) N_first_answer [true, true, true, true, true] [true, true, true, true, true] = true := by decide +kernel
theorem ok_first_answer {P : Program} {w : World} {K : PySem.W.Frag} {mg : Str → Option Value} {base : Heap} (Ck_Wish : ClsK K mg "Wish" ["kept_given", "kept_said", "kept_cells", "kept_index", "kept_places", "kept_bits", "kept_known", "kept_pairs", "kept_rows", "kept_closure"]) (d_check_ring : DF P w K mg base 3 "check_ring" P_check_ring [false, false] F_check_ring) (d_filled : DF P w K mg base 2 "filled" P_filled [false, false, false, false] F_filled) : ∀ {f : Addr} {fd : FuncData}, Fun K "first_answer" "first_answer" s_first_answer f fd → FnOk P w K mg base (L2.CX P w) 4 f fd P_first_answer (spF K mg [false, false] F_first_answer) := by
  intro f fd Fn
  refine ok_def Fn sc_first_answer rfl rfl (fun cdv A outer s H vs E hr => ?_)
  have C : Cok (cxOf (L2.CX P w) P w K mg base N_first_answer "first_answer" (defScope s_first_answer) f cdv A outer s H E) (fun cls od _ H' => E cls od H') 3 := ⟨rfl, takes_of rfl rfl rfl rfl, passes_of rfl, hr⟩
  have N : NamesOk (cxOf (L2.CX P w) P w K mg base N_first_answer "first_answer" (defScope s_first_answer) f cdv A outer s H E) [true, true, true, true, true] [true, true, true, true, true] := namesOk_of rfl rfl (fun _ => rfl) sc_first_answer.nd nm_first_answer
  exact (fb_cons (fs_expr (fe_call ⟨d_check_ring⟩ (C.hr.mono (by decide)) C.tk (by rfl) (fc_x (fe_v N 0) (fc_x (fe_v N 1) fc_nil))))
    (fb_cons (fs_for [2, 3, 4] C (FI.fj (fi_it (fe_ix C.hu (fa_x (fe_fl (fe_v N 0) Ck_Wish)) (fa_x (fe_ix C.hu (fa_x (fe_v N 1)) (fa_x fe_int)))))) (fg_n N 2) (fb_cons (fs_set N 3 (fe_ix C.hu (fa_x (fe_fl (fe_v N 0) Ck_Wish)) (fa_x (fe_v N 2))))
    (fb_cons (fs_set N 4 (fe_call ⟨d_filled⟩ (C.hr.mono (by decide)) C.tk (by rfl) (fc_x (fe_v N 0) (fc_x (fe_v N 3) (fc_x (fe_sl (fa_x (fe_v N 1)) (fp_s fe_int) fp_n) (fc_x (fe_v N 3) fc_nil))))))
    (fb_one (fs_if (ft_co co_notN (fa_x (fe_v N 4)) (fa_x fe_non)) (fb_one (fs_ret (fe_bo bo_add (fa_x (fe_ix C.hu (fa_x (fe_v N 3)) (fa_x fe_int))) (fa_x (fe_v N 4))))) fb_nil)))))
    (fb_one (fs_ret fe_non))))
abbrev s_is_choice : Stmt := topS 6
abbrev N_is_choice : List Str := ["thing", "signs"]
abbrev P_is_choice : List Str := ["thing", "signs"]
noncomputable def F_is_choice : GF := fnF [false, false] 0 (yRet (xAnd (xCall [false, false] F_is_string_of (cX (xV 0) (cX (xV 1) cNil))) (xB gEq (aX (xLset (xV 0))) (aX (xL gLen (lCons (aX (xV 0)) lNil))))))
theorem sc_is_choice : FnScope N_is_choice P_is_choice (defScope s_is_choice) := ⟨rfl, rfl, rfl, by decide +kernel, rfl, by decide +kernel, by decide +kernel⟩
theorem nm_is_choice : nmB (defScope s_is_choice) (fun _ => true) N_is_choice [true, true] [true, true] = true := by decide +kernel
theorem ok_is_choice {P : Program} {w : World} {K : PySem.W.Frag} {mg : Str → Option Value} {base : Heap} (z_len : mg "len" = none) (z_set : mg "set" = none) (d_is_string_of : DF P w K mg base 1 "is_string_of" P_is_string_of [false, false] F_is_string_of) : ∀ {f : Addr} {fd : FuncData}, Fun K "is_choice" "is_choice" s_is_choice f fd → FnOk P w K mg base (L2.CX P w) 2 f fd P_is_choice (spF K mg [false, false] F_is_choice) := by
  intro f fd Fn
  refine ok_def Fn sc_is_choice rfl rfl (fun cdv A outer s H vs E hr => ?_)
  have C : Cok (cxOf (L2.CX P w) P w K mg base N_is_choice "is_choice" (defScope s_is_choice) f cdv A outer s H E) (fun cls od _ H' => E cls od H') 1 := ⟨rfl, takes_of rfl rfl rfl rfl, passes_of rfl, hr⟩
  have N : NamesOk (cxOf (L2.CX P w) P w K mg base N_is_choice "is_choice" (defScope s_is_choice) f cdv A outer s H E) [true, true] [true, true] := namesOk_of rfl rfl (fun _ => rfl) sc_is_choice.nd nm_is_choice
  exact (fb_one (fs_ret (fe_and (fe_call ⟨d_is_string_of⟩ (C.hr.mono (by decide)) C.tk (by rfl) (fc_x (fe_v N 0) (fc_x (fe_v N 1) fc_nil))) (fe_one (fe_co (co_eq C.hu64) (fa_x (fe_lset C.calm ⟨by rfl, z_len⟩ ⟨by rfl, z_set⟩ (fe_v N 0))) (fa_x (fe_cb cb_len ⟨by rfl, z_len⟩ (by decide +kernel) (fl_cons (fa_x (fe_v N 0)) fl_nil))))))))
abbrev s_is_pair : Stmt := topS 24
abbrev N_is_pair : List Str := ["thing", "given", "said"]
abbrev P_is_pair : List Str := ["thing", "given", "said"]
noncomputable def F_is_pair : GF := fnF [false, false, false] 0 (ySeq (yIf (xOr (xNot (xL gIsi (lCons (aX (xV 0)) (lCons (aX (xC (.ty "str"))) lNil)))) (xB gNe (aX (xL gLen (lCons (aX (xV 0)) lNil))) (aX (xC (.int 4))))) (yRet (xC (.bl false))) yNil)
    (yRet (xAnd (xB gInX (aX (xB ixD (aX (xV 0)) (aX (xC (.int 0))))) (aX (xV 1))) (xAnd (xB gInX (aX (xB ixD (aX (xV 0)) (aX (xC (.int 1))))) (aX (xV 2))) (xAnd (xB gInX (aX (xB ixD (aX (xV 0)) (aX (xC (.int 2))))) (aX (xV 1))) (xB gInX (aX (xB ixD (aX (xV 0)) (aX (xC (.int 3))))) (aX (xV 2))))))))
theorem sc_is_pair : FnScope N_is_pair P_is_pair (defScope s_is_pair) := ⟨rfl, rfl, rfl, by decide +kernel, rfl, by decide +kernel, by decide +kernel⟩
theorem nm_is_pair : nmB (defScope s_is_pair) (fun _ => true) N_is_pair [true, true, true] [true, true, true] = true := by decide +kernel
theorem ok_is_pair {P : Program} {w : World} {K : PySem.W.Frag} {mg : Str → Option Value} {base : Heap} (z_isinstance : mg "isinstance" = none) (z_len : mg "len" = none) (z_str : mg "str" = none) : ∀ {f : Addr} {fd : FuncData}, Fun K "is_pair" "is_pair" s_is_pair f fd → FnOk P w K mg base (L2.CX P w) 1 f fd P_is_pair (spF K mg [false, false, false] F_is_pair) := by
  intro f fd Fn
  refine ok_def Fn sc_is_pair rfl rfl (fun cdv A outer s H vs E hr => ?_)
  have C : Cok (cxOf (L2.CX P w) P w K mg base N_is_pair "is_pair" (defScope s_is_pair) f cdv A outer s H E) (fun cls od _ H' => E cls od H') 0 := ⟨rfl, takes_of rfl rfl rfl rfl, passes_of rfl, hr⟩
  have N : NamesOk (cxOf (L2.CX P w) P w K mg base N_is_pair "is_pair" (defScope s_is_pair) f cdv A outer s H E) [true, true, true] [true, true, true] := namesOk_of rfl rfl (fun _ => rfl) sc_is_pair.nd nm_is_pair
  exact (fb_cons (fs_if (ft_w (fw_or (ft_not (ft_e (fe_cb cb_isi ⟨by rfl, z_isinstance⟩ (by decide +kernel) (fl_cons (fa_x (fe_v N 0)) (fl_cons (fa_x (fe_ty ⟨by rfl, z_str⟩ (by decide +kernel))) fl_nil))))) (fw_or1 (ft_co (co_ne C.hu64) (fa_x (fe_cb cb_len ⟨by rfl, z_len⟩ (by decide +kernel) (fl_cons (fa_x (fe_v N 0)) fl_nil))) (fa_x fe_int))))) (fb_one (fs_ret fe_bl)) fb_nil)
    (fb_one (fs_ret (fe_and (fe_co (co_inX C.hu C.hu65) (fa_x (fe_ix C.hu (fa_x (fe_v N 0)) (fa_x fe_int))) (fa_x (fe_v N 1))) (fe_and (fe_co (co_inX C.hu C.hu65) (fa_x (fe_ix C.hu (fa_x (fe_v N 0)) (fa_x fe_int))) (fa_x (fe_v N 2))) (fe_and (fe_co (co_inX C.hu C.hu65) (fa_x (fe_ix C.hu (fa_x (fe_v N 0)) (fa_x fe_int))) (fa_x (fe_v N 1))) (fe_one (fe_co (co_inX C.hu C.hu65) (fa_x (fe_ix C.hu (fa_x (fe_v N 0)) (fa_x fe_int))) (fa_x (fe_v N 2))))))))))
abbrev s_are_pairs : Stmt := topS 25
abbrev N_are_pairs : List Str := ["thing", "given", "said", "seen", "pair"]
abbrev P_are_pairs : List Str := ["thing", "given", "said"]
noncomputable def F_are_pairs : GF := fnF [false, false, false] 2 (ySeq (yIf (xNot (xL gIsi (lCons (aX (xV 0)) (lCons (aX (xC (.ty "list"))) lNil)))) (yRet (xC (.bl false))) yNil)
    (ySeq (ySet 3 xDic0)
    (ySeq (yFor [4] (wIt (xV 0)) (tgN 4) (ySeq (yIf (xOr (xNot (xCall [false, false, false] F_is_pair (cX (xV 4) (cX (xV 1) (cX (xV 2) cNil))))) (xB gInX (aX (xV 4)) (aR 3))) (yRet (xC (.bl false))) yNil)
    (ySetI 3 (xV 4) (xC (.bl true)))))
    (yRet (xC (.bl true))))))
theorem sc_are_pairs : FnScope N_are_pairs P_are_pairs (defScope s_are_pairs) := ⟨rfl, rfl, rfl, by decide +kernel, rfl, by decide +kernel, by decide +kernel⟩
theorem nm_are_pairs : nmB (defScope s_are_pairs) (fun _ => true) N_are_pairs [true, true, true, true, true] [true, true, true, true, true] = true := by decide +kernel
theorem ok_are_pairs {P : Program} {w : World} {K : PySem.W.Frag} {mg : Str → Option Value} {base : Heap} (z_isinstance : mg "isinstance" = none) (z_list : mg "list" = none) (d_is_pair : DF P w K mg base 1 "is_pair" P_is_pair [false, false, false] F_is_pair) : ∀ {f : Addr} {fd : FuncData}, Fun K "are_pairs" "are_pairs" s_are_pairs f fd → FnOk P w K mg base (L2.CX P w) 2 f fd P_are_pairs (spF K mg [false, false, false] F_are_pairs) := by
  intro f fd Fn
  refine ok_def Fn sc_are_pairs rfl rfl (fun cdv A outer s H vs E hr => ?_)
  have C : Cok (cxOf (L2.CX P w) P w K mg base N_are_pairs "are_pairs" (defScope s_are_pairs) f cdv A outer s H E) (fun cls od _ H' => E cls od H') 1 := ⟨rfl, takes_of rfl rfl rfl rfl, passes_of rfl, hr⟩
  have N : NamesOk (cxOf (L2.CX P w) P w K mg base N_are_pairs "are_pairs" (defScope s_are_pairs) f cdv A outer s H E) [true, true, true, true, true] [true, true, true, true, true] := namesOk_of rfl rfl (fun _ => rfl) sc_are_pairs.nd nm_are_pairs
  exact (fb_cons (fs_if (ft_not (ft_e (fe_cb cb_isi ⟨by rfl, z_isinstance⟩ (by decide +kernel) (fl_cons (fa_x (fe_v N 0)) (fl_cons (fa_x (fe_ty ⟨by rfl, z_list⟩ (by decide +kernel))) fl_nil))))) (fb_one (fs_ret fe_bl)) fb_nil)
    (fb_cons (fs_set N 3 fe_dic0)
    (fb_cons (fs_for [4] C (FI.fj (fi_it (fe_v N 0))) (fg_n N 4) (fb_cons (fs_if (ft_w (fw_or (ft_not (ft_e (fe_call ⟨d_is_pair⟩ (C.hr.mono (by decide)) C.tk (by rfl) (fc_x (fe_v N 4) (fc_x (fe_v N 1) (fc_x (fe_v N 2) fc_nil)))))) (fw_or1 (ft_co (co_inX C.hu C.hu65) (fa_x (fe_v N 4)) (fa_r N 3))))) (fb_one (fs_ret fe_bl)) fb_nil)
    (fb_one (fs_setI N 3 C.hu fe_bl (fe_v N 4)))))
    (fb_one (fs_ret fe_bl)))))
abbrev s_Wish_keep : Stmt := clsS 26 1
abbrev N_Wish_keep : List Str := ["self", "given", "said", "pairs", "bit", "one", "index", "cell", "behind", "letter", "word", "pair", "other"]
abbrev P_Wish_keep : List Str := ["self", "given", "said", "pairs"]
noncomputable def F_Wish_keep : GF := fnF [true, false, false, false] 9 (ySeq (yFset "Wish" "kept_given" 0 (xF (xV 1)))
    (ySeq (yFset "Wish" "kept_said" 0 (xF (xV 2)))
    (ySeq (yFset "Wish" "kept_cells" 0 (xF (xLc2 [9, 10] [10] (wIt (xV 1)) (tgN 9) xYes (wIt (xV 2)) (tgN 10) xYes (xB gAdd (aX (xV 9)) (aX (xV 10))))))
    (ySeq (yFset "Wish" "kept_index" 0 (xF (xVw 0 (fun tv => (xDc [6, 7] (wEn (cX (xLf (T.fld "Wish" "kept_cells" tv)) cNil)) (tgT 2 (tgsCons (tgN 6) (tgsCons (tgN 7) tgsNil))) xYes (xV 7) (xV 6))))))
    (ySeq (yFset "Wish" "kept_places" 0 (xDcT [9] (wIt (xV 1)) (tgN 9) xYes (xV 9) (xLst cNil)))
    (ySeq (yFset "Wish" "kept_bits" 0 (xLst cNil))
    (ySeq (ySet 4 (xC (.int 1)))
    (ySeq (yFor [6, 7] (wVw 0 (fun tv => (wEn (cX (xLf (T.fld "Wish" "kept_cells" tv)) cNil)))) (tgT 2 (tgsCons (tgN 6) (tgsCons (tgN 7) tgsNil))) (ySeq (yX (xMuT 0 (fun tv => (plK tv (plF "Wish" "kept_places" tv) (xB ixD (aX (xV 7)) (aX (xC (.int 0)))))) mApp (fun tv => (cX (xV 6) cNil))))
    (ySeq (yX (xMuT 0 (fun tv => (plF "Wish" "kept_bits" tv)) mApp (fun tv => (cX (xV 4) cNil))))
    (ySet 4 (xB gMulX (aX (xC (.int 2))) (aX (xV 4)))))))
    (ySeq (yFset "Wish" "kept_known" 0 (xF (xDc [11] (wIt (xV 3)) (tgN 11) xYes (xV 11) (xC (.bl true)))))
    (ySeq (yFset "Wish" "kept_pairs" 0 (xLst cNil))
    (ySeq (yFset "Wish" "kept_rows" 0 (xLst cNil))
    (ySeq (yFor [5, 8] (wVw 0 (fun tv => (wIt (xLf (T.fld "Wish" "kept_cells" tv))))) (tgN 5) (ySeq (yVw 0 (fun tv => (ySet 8 (xLc [12] (wIt (xLf (T.fld "Wish" "kept_cells" tv))) (tgN 12) (xB gInX (aX (xB gAdd (aX (xV 5)) (aX (xV 12)))) (aFlat (T.fld "Wish" "kept_known" tv))) (xV 12)))))
    (ySeq (yX (xMuT 0 (fun tv => (plF "Wish" "kept_pairs" tv)) mExt (fun tv => (cX (xLc [12] (wIt (xV 8)) (tgN 12) xYes (xB gAdd (aX (xV 5)) (aX (xV 12)))) cNil))))
    (yX (xMuT 0 (fun tv => (plF "Wish" "kept_rows" tv)) mApp (fun tv => (cX (xL gSum (lCons (aX (xLc [12] (wIt (xV 8)) (tgN 12) xYes (xB ixD (aFlat (T.fld "Wish" "kept_bits" tv)) (aX (xB ixD (aFlat (T.fld "Wish" "kept_index" tv)) (aX (xV 12))))))) lNil)) cNil)))))))
    (yFset "Wish" "kept_closure" 0 (xF (xC .non)))))))))))))))
theorem sc_Wish_keep : FnScope N_Wish_keep P_Wish_keep (defScope s_Wish_keep) := ⟨rfl, rfl, rfl, by decide +kernel, rfl, by decide +kernel, by decide +kernel⟩
theorem nm_Wish_keep : nmB (defScope s_Wish_keep) (fun _ => true) N_Wish_keep [true, true, true, true, true, true, true, true, true, false, false, false, false] [true, true, true, true, true, true, true, true, true, false, false, false, false] = true := by decide +kernel
theorem ok_Wish_keep {P : Program} {w : World} {K : PySem.W.Frag} {mg : Str → Option Value} {base : Heap} (z_enumerate : mg "enumerate" = none) (z_sum : mg "sum" = none) (Ck_Wish : ClsK K mg "Wish" ["kept_given", "kept_said", "kept_cells", "kept_index", "kept_places", "kept_bits", "kept_known", "kept_pairs", "kept_rows", "kept_closure"]) : ∀ {f : Addr} {fd : FuncData}, Fun K "keep" "Wish.keep" s_Wish_keep f fd → FnOk P w K mg base (L2.CX P w) 1 f fd P_Wish_keep (spF K mg [true, false, false, false] F_Wish_keep) := by
  intro f fd Fn
  refine ok_def Fn sc_Wish_keep rfl rfl (fun cdv A outer s H vs E hr => ?_)
  have C : Cok (cxOf (L2.CX P w) P w K mg base N_Wish_keep "Wish.keep" (defScope s_Wish_keep) f cdv A outer s H E) (fun cls od _ H' => E cls od H') 0 := ⟨rfl, takes_of rfl rfl rfl rfl, passes_of rfl, hr⟩
  have N : NamesOk (cxOf (L2.CX P w) P w K mg base N_Wish_keep "Wish.keep" (defScope s_Wish_keep) f cdv A outer s H E) [true, true, true, true, true, true, true, true, true, false, false, false, false] [true, true, true, true, true, true, true, true, true, false, false, false, false] := namesOk_of rfl rfl (fun _ => rfl) sc_Wish_keep.nd nm_Wish_keep
  exact (fb_cons (fs_fset N 0 (fe_f (fe_v N 1)) Ck_Wish)
    (fb_cons (fs_fset N 0 (fe_f (fe_v N 2)) Ck_Wish)
    (fb_cons (fs_fset N 0 (fe_f (fe_lc2 (ov1 := [10]) C N.nd (FI.fj (fi_it (fe_v N 1))) (blkOk_of (N := N_Wish_keep) (sc := (defScope s_Wish_keep)) (own := [("letter", 9), ("word", 10)]) rfl rfl (by decide +kernel)) (fun s0 H0 C0 cl0 fp0 => (namesOk_blk (N := N_Wish_keep) (sc := (defScope s_Wish_keep)) rfl rfl (M := [false, false, true, false, false, false, false, false, false, true, true, false, false]) (L := [false, false, false, false, false, false, false, false, false, true, true, false, false]) sc_Wish_keep.nd (by decide +kernel))) (fun s0 H0 C0 cl0 fp0 NB => (fg_n NB 9)) (fun s0 H0 C0 cl0 fp0 NB => fts_nil) (fun s0 H0 C0 cl0 fp0 NB => (fi_it (fe_v NB 2))) (fun s0 H0 C0 cl0 fp0 NB => (fg_n NB 10)) (fun s0 H0 C0 cl0 fp0 NB => fts_nil) (fun s0 H0 C0 cl0 fp0 NB => (fe_bo bo_add (fa_x (fe_v NB 9)) (fa_x (fe_v NB 10)))))) Ck_Wish)
    (fb_cons (fs_fset N 0 (fe_f (fe_view (i := 0) (by decide) (fun σv tv V => (fe_dc C N.nd (FI.fj (fi_enum ⟨by rfl, z_enumerate⟩ (fc_x (fe_vf N 0 V Ck_Wish) fc_nil))) (blkOk_of (N := N_Wish_keep) (sc := (defScope s_Wish_keep)) (own := [("index", 6), ("cell", 7)]) rfl rfl (by decide +kernel)) (fun s0 H0 C0 cl0 fp0 => (namesOk_blk (N := N_Wish_keep) (sc := (defScope s_Wish_keep)) rfl rfl (M := [false, false, false, false, false, false, true, true, false, false, false, false, false]) (L := [false, false, false, false, false, false, true, true, false, false, false, false, false]) sc_Wish_keep.nd (by decide +kernel))) (fun s0 H0 C0 cl0 fp0 NB => (fg_t rfl (fgs_cons (fg_n NB 6) (fgs_cons (fg_n NB 7) fgs_nil)))) (fun s0 H0 C0 cl0 fp0 NB => fts_nil) (fun s0 H0 C0 cl0 fp0 NB => (fe_v NB 7)) (fun s0 H0 C0 cl0 fp0 NB => (fe_v NB 6)))))) Ck_Wish)
    (fb_cons (fs_fset N 0 (fe_dcT C N.nd (FI.fj (fi_it (fe_v N 1))) (blkOk_of (N := N_Wish_keep) (sc := (defScope s_Wish_keep)) (own := [("letter", 9)]) rfl rfl (by decide +kernel)) (fun s0 H0 C0 cl0 fp0 => (namesOk_blk (N := N_Wish_keep) (sc := (defScope s_Wish_keep)) rfl rfl (M := [false, false, false, false, false, false, false, false, false, true, false, false, false]) (L := [false, false, false, false, false, false, false, false, false, true, false, false, false]) sc_Wish_keep.nd (by decide +kernel))) (fun s0 H0 C0 cl0 fp0 NB => (fg_n NB 9)) (fun s0 H0 C0 cl0 fp0 NB => fts_nil) (fun s0 H0 C0 cl0 fp0 NB => (fe_v NB 9)) (fun s0 H0 C0 cl0 fp0 NB => (fe_lst fc_nil))) Ck_Wish)
    (fb_cons (fs_fset N 0 (fe_lst fc_nil) Ck_Wish)
    (fb_cons (fs_set N 4 fe_int)
    (fb_cons (fs_for [6, 7] C (FI.fj (fi_view (i := 0) (by decide) (fun σv tv V => (fi_enum ⟨by rfl, z_enumerate⟩ (fc_x (fe_vf N 0 V Ck_Wish) fc_nil))))) (fg_t rfl (fgs_cons (fg_n N 6) (fgs_cons (fg_n N 7) fgs_nil))) (fb_cons (fs_expr (fe_muT (i := 0) (by decide) PySem.F.slot_list_append PySem.F.type_list_append mu_app (fun σv tv V => (fn_k C.hu V (fn_f N 0 V Ck_Wish) (fe_ix C.hu (fa_x (fe_v N 7)) (fa_x fe_int)))) (fun σv tv V => (fc_x (fe_v N 6) fc_nil))))
    (fb_cons (fs_expr (fe_muT (i := 0) (by decide) PySem.F.slot_list_append PySem.F.type_list_append mu_app (fun σv tv V => (fn_f N 0 V Ck_Wish)) (fun σv tv V => (fc_x (fe_v N 4) fc_nil))))
    (fb_one (fs_set N 4 (fe_bo bo_mulX (fa_x fe_int) (fa_x (fe_v N 4))))))))
    (fb_cons (fs_fset N 0 (fe_f (fe_dc C N.nd (FI.fj (fi_it (fe_v N 3))) (blkOk_of (N := N_Wish_keep) (sc := (defScope s_Wish_keep)) (own := [("pair", 11)]) rfl rfl (by decide +kernel)) (fun s0 H0 C0 cl0 fp0 => (namesOk_blk (N := N_Wish_keep) (sc := (defScope s_Wish_keep)) rfl rfl (M := [false, false, false, false, false, false, false, false, false, false, false, true, false]) (L := [false, false, false, false, false, false, false, false, false, false, false, true, false]) sc_Wish_keep.nd (by decide +kernel))) (fun s0 H0 C0 cl0 fp0 NB => (fg_n NB 11)) (fun s0 H0 C0 cl0 fp0 NB => fts_nil) (fun s0 H0 C0 cl0 fp0 NB => (fe_v NB 11)) (fun s0 H0 C0 cl0 fp0 NB => fe_bl))) Ck_Wish)
    (fb_cons (fs_fset N 0 (fe_lst fc_nil) Ck_Wish)
    (fb_cons (fs_fset N 0 (fe_lst fc_nil) Ck_Wish)
    (fb_cons (fs_for [5, 8] C (FI.fj (fi_view (i := 0) (by decide) (fun σv tv V => (fi_it (fe_vf N 0 V Ck_Wish))))) (fg_n N 5) (fb_cons (fs_view (i := 0) (by decide) (fun σv tv V => (fs_setLc N 8 C (FI.fj (fi_it (fe_vf N 0 V Ck_Wish))) (blkOk_of (N := N_Wish_keep) (sc := (defScope s_Wish_keep)) (own := [("other", 12)]) rfl rfl (by decide +kernel)) (fun s0 H0 C0 cl0 fp0 => (namesOk_blk (N := N_Wish_keep) (sc := (defScope s_Wish_keep)) rfl rfl (M := [true, false, false, false, false, true, false, false, false, false, false, false, true]) (L := [false, false, false, false, false, false, false, false, false, false, false, false, true]) sc_Wish_keep.nd (by decide +kernel))) (fun s0 H0 C0 cl0 fp0 NB => (fg_n NB 12)) (fun s0 H0 C0 cl0 fp0 NB => (fts_one (ft_co (co_inX C.hu C.hu65) (fa_x (fe_bo bo_add (fa_x (fe_v NB 5)) (fa_x (fe_v NB 12)))) (fa_vf NB 0 V Ck_Wish)))) (fun s0 H0 C0 cl0 fp0 NB => (fe_v NB 12)) (loc_of (sc := defScope s_Wish_keep) rfl (by decide +kernel)) (sw_true rfl (loc_of (sc := defScope s_Wish_keep) rfl (by decide +kernel)) rfl (by decide +kernel)))))
    (fb_cons (fs_expr (fe_muT (i := 0) (by decide) PySem.F.slot_list_extend PySem.F.type_list_extend mu_ext (fun σv tv V => (fn_f N 0 V Ck_Wish)) (fun σv tv V => (fc_x (fe_lc C N.nd (FI.fj (fi_it (fe_v N 8))) (blkOk_of (N := N_Wish_keep) (sc := (defScope s_Wish_keep)) (own := [("other", 12)]) rfl rfl (by decide +kernel)) (fun s0 H0 C0 cl0 fp0 => (namesOk_blk (N := N_Wish_keep) (sc := (defScope s_Wish_keep)) rfl rfl (M := [false, false, false, false, false, true, false, false, false, false, false, false, true]) (L := [false, false, false, false, false, false, false, false, false, false, false, false, true]) sc_Wish_keep.nd (by decide +kernel))) (fun s0 H0 C0 cl0 fp0 NB => (fg_n NB 12)) (fun s0 H0 C0 cl0 fp0 NB => fts_nil) (fun s0 H0 C0 cl0 fp0 NB => (fe_bo bo_add (fa_x (fe_v NB 5)) (fa_x (fe_v NB 12))))) fc_nil))))
    (fb_one (fs_expr (fe_muT (i := 0) (by decide) PySem.F.slot_list_append PySem.F.type_list_append mu_app (fun σv tv V => (fn_f N 0 V Ck_Wish)) (fun σv tv V => (fc_x (fe_cb (cb_sum C.calm) ⟨by rfl, z_sum⟩ (by decide +kernel) (fl_cons (fa_x (fe_lc C N.nd (FI.fj (fi_it (fe_v N 8))) (blkOk_of (N := N_Wish_keep) (sc := (defScope s_Wish_keep)) (own := [("other", 12)]) rfl rfl (by decide +kernel)) (fun s0 H0 C0 cl0 fp0 => (namesOk_blk (N := N_Wish_keep) (sc := (defScope s_Wish_keep)) rfl rfl (M := [true, false, false, false, false, false, false, false, false, false, false, false, true]) (L := [false, false, false, false, false, false, false, false, false, false, false, false, true]) sc_Wish_keep.nd (by decide +kernel))) (fun s0 H0 C0 cl0 fp0 NB => (fg_n NB 12)) (fun s0 H0 C0 cl0 fp0 NB => fts_nil) (fun s0 H0 C0 cl0 fp0 NB => (fe_ix C.hu (fa_vf NB 0 V Ck_Wish) (fa_x (fe_ix C.hu (fa_vf NB 0 V Ck_Wish) (fa_x (fe_v NB 12)))))))) fl_nil)) fc_nil))))))))
    (fb_one (fs_fset N 0 (fe_f fe_non) Ck_Wish))))))))))))))
abbrev s_Wish___init__ : Stmt := clsS 26 0
abbrev N_Wish___init__ : List Str := ["self", "given", "said", "pairs"]
abbrev P_Wish___init__ : List Str := ["self", "given", "said", "pairs"]
noncomputable def F_Wish___init__ : GF := fnF [true, false, false, false] 0 (ySeq (yIf (xOr (xNot (xCall [false, false] F_is_choice (cX (xV 1) (cX (xC (.str "abcdefghijklmnopqrstuvwxyz")) cNil)))) (xNot (xCh gLe gLe (aX (xC (.int 1))) (aX (xL gLen (lCons (aX (xV 1)) lNil))) (aX (xC (.int 3)))))) (fun _ => .bad) yNil)
    (ySeq (yIf (xOr (xNot (xCall [false, false] F_is_choice (cX (xV 2) (cX (xC (.str "ABCDEFGHIJKLMNOPQRSTUVWXYZ")) cNil)))) (xNot (xCh gLe gLe (aX (xC (.int 1))) (aX (xL gLen (lCons (aX (xV 2)) lNil))) (aX (xC (.int 4)))))) (fun _ => .bad) yNil)
    (ySeq (yIf (xNot (xCall [false, false, false] F_are_pairs (cX (xV 3) (cX (xV 1) (cX (xV 2) cNil))))) (fun _ => .bad) yNil)
    (yX (xMeth "Wish" "keep" [true, false, false, false] F_Wish_keep (rO 0) (cX (xV 1) (cX (xV 2) (cX (xV 3) cNil))))))))
theorem sc_Wish___init__ : FnScope N_Wish___init__ P_Wish___init__ (defScope s_Wish___init__) := ⟨rfl, rfl, rfl, by decide +kernel, rfl, by decide +kernel, by decide +kernel⟩
theorem nm_Wish___init__ : nmB (defScope s_Wish___init__) (fun _ => true) N_Wish___init__ [true, true, true, true] [true, true, true, true] = true := by decide +kernel
theorem ok_Wish___init__ {P : Program} {w : World} {K : PySem.W.Frag} {mg : Str → Option Value} {base : Heap} (z_len : mg "len" = none) (k_GREAT : ∃ t, mg "GREAT" = some (.str "ABCDEFGHIJKLMNOPQRSTUVWXYZ" t)) (k_SMALL : ∃ t, mg "SMALL" = some (.str "abcdefghijklmnopqrstuvwxyz" t)) (d_are_pairs : DF P w K mg base 2 "are_pairs" P_are_pairs [false, false, false] F_are_pairs) (d_is_choice : DF P w K mg base 2 "is_choice" P_is_choice [false, false] F_is_choice) (t_Wish_keep : TF P w K mg base 1 "Wish" "keep" P_Wish_keep [true, false, false, false] F_Wish_keep) : ∀ {f : Addr} {fd : FuncData}, Fun K "__init__" "Wish.__init__" s_Wish___init__ f fd → FnOk P w K mg base (L2.CX P w) 3 f fd P_Wish___init__ (spF K mg [true, false, false, false] F_Wish___init__) := by
  intro f fd Fn
  refine ok_def Fn sc_Wish___init__ rfl rfl (fun cdv A outer s H vs E hr => ?_)
  have C : Cok (cxOf (L2.CX P w) P w K mg base N_Wish___init__ "Wish.__init__" (defScope s_Wish___init__) f cdv A outer s H E) (fun cls od _ H' => E cls od H') 2 := ⟨rfl, takes_of rfl rfl rfl rfl, passes_of rfl, hr⟩
  have N : NamesOk (cxOf (L2.CX P w) P w K mg base N_Wish___init__ "Wish.__init__" (defScope s_Wish___init__) f cdv A outer s H E) [true, true, true, true] [true, true, true, true] := namesOk_of rfl rfl (fun _ => rfl) sc_Wish___init__.nd nm_Wish___init__
  exact (fb_cons (fs_if (ft_w (fw_or (ft_not (ft_e (fe_call ⟨d_is_choice⟩ (C.hr.mono (by decide)) C.tk (by rfl) (fc_x (fe_v N 1) (fc_x (fe_gs (by rfl) k_SMALL) fc_nil))))) (fw_or1 (ft_not (ft_chain co_le co_le (fa_x fe_int) (fa_x (fe_cb cb_len ⟨by rfl, z_len⟩ (by decide +kernel) (fl_cons (fa_x (fe_v N 1)) fl_nil))) (fa_x fe_int)))))) (fb_one fs_bad) fb_nil)
    (fb_cons (fs_if (ft_w (fw_or (ft_not (ft_e (fe_call ⟨d_is_choice⟩ (C.hr.mono (by decide)) C.tk (by rfl) (fc_x (fe_v N 2) (fc_x (fe_gs (by rfl) k_GREAT) fc_nil))))) (fw_or1 (ft_not (ft_chain co_le co_le (fa_x fe_int) (fa_x (fe_cb cb_len ⟨by rfl, z_len⟩ (by decide +kernel) (fl_cons (fa_x (fe_v N 2)) fl_nil))) (fa_x fe_int)))))) (fb_one fs_bad) fb_nil)
    (fb_cons (fs_if (ft_not (ft_e (fe_call ⟨d_are_pairs⟩ (C.hr.mono (by decide)) C.tk (by rfl) (fc_x (fe_v N 3) (fc_x (fe_v N 1) (fc_x (fe_v N 2) fc_nil)))))) (fb_one fs_bad) fb_nil)
    (fb_one (fs_expr (fe_meth ⟨t_Wish_keep⟩ (C.hr.mono (by decide)) C.tk (fr_o N 0) (fc_x (fe_v N 1) (fc_x (fe_v N 2) (fc_x (fe_v N 3) fc_nil)))))))))
abbrev s_Wish_pairs : Stmt := clsS 26 5
abbrev N_Wish_pairs : List Str := ["self"]
abbrev P_Wish_pairs : List Str := ["self"]
noncomputable def F_Wish_pairs : GF := fnF [false] 0 (yRet (xL gListX (lCons (aX (xFl "Wish" "kept_pairs" (xV 0))) lNil)))
theorem sc_Wish_pairs : FnScope N_Wish_pairs P_Wish_pairs (defScope s_Wish_pairs) := ⟨rfl, rfl, rfl, by decide +kernel, rfl, by decide +kernel, by decide +kernel⟩
theorem nm_Wish_pairs : nmB (defScope s_Wish_pairs) (fun _ => true) N_Wish_pairs [true] [true] = true := by decide +kernel
theorem ok_Wish_pairs {P : Program} {w : World} {K : PySem.W.Frag} {mg : Str → Option Value} {base : Heap} (z_list : mg "list" = none) (Ck_Wish : ClsK K mg "Wish" ["kept_given", "kept_said", "kept_cells", "kept_index", "kept_places", "kept_bits", "kept_known", "kept_pairs", "kept_rows", "kept_closure"]) : ∀ {f : Addr} {fd : FuncData}, Fun K "pairs" "Wish.pairs" s_Wish_pairs f fd → FnOk P w K mg base (L2.CX P w) 1 f fd P_Wish_pairs (spF K mg [false] F_Wish_pairs) := by
  intro f fd Fn
  refine ok_def Fn sc_Wish_pairs rfl rfl (fun cdv A outer s H vs E hr => ?_)
  have C : Cok (cxOf (L2.CX P w) P w K mg base N_Wish_pairs "Wish.pairs" (defScope s_Wish_pairs) f cdv A outer s H E) (fun cls od _ H' => E cls od H') 0 := ⟨rfl, takes_of rfl rfl rfl rfl, passes_of rfl, hr⟩
  have N : NamesOk (cxOf (L2.CX P w) P w K mg base N_Wish_pairs "Wish.pairs" (defScope s_Wish_pairs) f cdv A outer s H E) [true] [true] := namesOk_of rfl rfl (fun _ => rfl) sc_Wish_pairs.nd nm_Wish_pairs
  exact (fb_one (fs_ret (fe_ct (cb_listX C.calm) ⟨by rfl, z_list⟩ (by decide +kernel) (fl_cons (fa_x (fe_fl (fe_v N 0) Ck_Wish)) fl_nil))))
abbrev s__law_hand : Stmt := topS 28
abbrev N__law_hand : List Str := ["_law_script", "_law_cells_here", "_law_cell"]
abbrev P__law_hand : List Str := ["_law_script"]
noncomputable def F__law_hand : GF := fnF [false] 2 (ySeq (ySet 1 (xLc [2] (wIt (xSl (aX (xV 0)) pN (pS (xC (.int 63))))) (tgN 2) xYes (xL gAbs (lCons (aX (xL gInt (lCons (aX (xV 2)) lNil))) lNil))))
    (yRet (xLst (cX (xV 1) (cX (xC (.int 0)) (cX (xC (.int 0)) (cX (xB gAdd (aX (xC (.int 1))) (aX (xL gLen (lCons (aX (xV 1)) lNil)))) (cX (xC (.int 0)) cNil))))))))
theorem sc__law_hand : FnScope N__law_hand P__law_hand (defScope s__law_hand) := ⟨rfl, rfl, rfl, by decide +kernel, rfl, by decide +kernel, by decide +kernel⟩
theorem nm__law_hand : nmB (defScope s__law_hand) (fun _ => true) N__law_hand [true, true, false] [true, true, false] = true := by decide +kernel
theorem ok__law_hand {P : Program} {w : World} {K : PySem.W.Frag} {mg : Str → Option Value} {base : Heap} (z_abs : mg "abs" = none) (z_int : mg "int" = none) (z_len : mg "len" = none) : ∀ {f : Addr} {fd : FuncData}, Fun K "_law_hand" "_law_hand" s__law_hand f fd → FnOk P w K mg base (L2.CX P w) 1 f fd P__law_hand (spF K mg [false] F__law_hand) := by
  intro f fd Fn
  refine ok_def Fn sc__law_hand rfl rfl (fun cdv A outer s H vs E hr => ?_)
  have C : Cok (cxOf (L2.CX P w) P w K mg base N__law_hand "_law_hand" (defScope s__law_hand) f cdv A outer s H E) (fun cls od _ H' => E cls od H') 0 := ⟨rfl, takes_of rfl rfl rfl rfl, passes_of rfl, hr⟩
  have N : NamesOk (cxOf (L2.CX P w) P w K mg base N__law_hand "_law_hand" (defScope s__law_hand) f cdv A outer s H E) [true, true, false] [true, true, false] := namesOk_of rfl rfl (fun _ => rfl) sc__law_hand.nd nm__law_hand
  exact (fb_cons (fs_setLc N 1 C (FI.fj (fi_it (fe_sl (fa_x (fe_v N 0)) fp_n (fp_s fe_int)))) (blkOk_of (N := N__law_hand) (sc := (defScope s__law_hand)) (own := [("_law_cell", 2)]) rfl rfl (by decide +kernel)) (fun s0 H0 C0 cl0 fp0 => (namesOk_blk (N := N__law_hand) (sc := (defScope s__law_hand)) rfl rfl (M := [false, false, true]) (L := [false, false, true]) sc__law_hand.nd (by decide +kernel))) (fun s0 H0 C0 cl0 fp0 NB => (fg_n NB 2)) (fun s0 H0 C0 cl0 fp0 NB => fts_nil) (fun s0 H0 C0 cl0 fp0 NB => (fe_cb cb_abs ⟨by rfl, z_abs⟩ (by decide +kernel) (fl_cons (fa_x (fe_ct cb_int ⟨by rfl, z_int⟩ (by decide +kernel) (fl_cons (fa_x (fe_v NB 2)) fl_nil))) fl_nil))) (loc_of (sc := defScope s__law_hand) rfl (by decide +kernel)) (sw_true rfl (loc_of (sc := defScope s__law_hand) rfl (by decide +kernel)) rfl (by decide +kernel)))
    (fb_one (fs_ret (fe_lst (fc_x (fe_v N 1) (fc_x fe_int (fc_x fe_int (fc_x (fe_bo bo_add (fa_x fe_int) (fa_x (fe_cb cb_len ⟨by rfl, z_len⟩ (by decide +kernel) (fl_cons (fa_x (fe_v N 1)) fl_nil)))) (fc_x fe_int fc_nil)))))))))
abbrev s__law_draw : Stmt := topS 29
abbrev N__law_draw : List Str := ["_law_hand_here", "_law_many", "_law_number", "_law_cell", "_law_digit"]
abbrev P__law_draw : List Str := ["_law_hand_here", "_law_many"]
noncomputable def F__law_draw : GF := fnF [true, false] 3 (ySeq (yIf (xAnd (xB gEq (aX (xB ixD (aR 0) (aX (xC (.int 2))))) (aX (xC (.int 0)))) (xB gLt (aX (xB ixD (aR 0) (aX (xC (.int 1))))) (aX (xL gLen (lCons (aX (xB ixD (aR 0) (aX (xC (.int 0))))) lNil))))) (ySeq (ySet 3 (xB ixD (aX (xB ixD (aR 0) (aX (xC (.int 0))))) (aX (xB ixD (aR 0) (aX (xC (.int 1)))))))
    (ySeq (ySetI 0 (xC (.int 1)) (xB gAdd (aX (xB ixD (aR 0) (aX (xC (.int 1))))) (aX (xC (.int 1)))))
    (ySeq (ySetI 0 (xC (.int 3)) (xB gMod (aX (xL gInt (lCons (aX (xB gAdd (aX (xB gAdd (aX (xB gMulX (aX (xB ixD (aR 0) (aX (xC (.int 3))))) (aX (xC (.int 69621))))) (aX (xV 3)))) (aX (xC (.int 11))))) lNil))) (aX (xC (.int 2147483629)))))
    (yIf (xB gGe (aX (xV 3)) (aX (xB gPow (aX (xC (.int 10))) (aX (xC (.int 18)))))) (ySetI 0 (xC (.int 2)) (xV 3)) yNil)))) yNil)
    (ySeq (yIf (xB gGt (aX (xB ixD (aR 0) (aX (xC (.int 2))))) (aX (xC (.int 0)))) (ySeq (ySet 4 (xB gMod (aX (xL gInt (lCons (aX (xB ixD (aR 0) (aX (xC (.int 2))))) lNil))) (aX (xV 1))))
    (ySeq (ySetI 0 (xC (.int 2)) (xB gDiv (aX (xB ixD (aR 0) (aX (xC (.int 2))))) (aX (xV 1))))
    (yRet (xV 4)))) yNil)
    (ySeq (ySetI 0 (xC (.int 4)) (xB gAdd (aX (xB ixD (aR 0) (aX (xC (.int 4))))) (aX (xC (.int 1)))))
    (ySeq (ySet 2 (xB gMod (aX (xL gInt (lCons (aX (xB gMulX (aX (xL gInt (lCons (aX (xB gAdd (aX (xB ixD (aR 0) (aX (xC (.int 3))))) (aX (xB gMulX (aX (xC (.int 7919))) (aX (xB ixD (aR 0) (aX (xC (.int 4))))))))) lNil))) (aX (xC (.int 48271))))) lNil))) (aX (xC (.int 2147483647)))))
    (ySeq (ySet 2 (xB gMod (aX (xL gInt (lCons (aX (xB gMulX (aX (xV 2)) (aX (xB gAdd (aX (xB gDiv (aX (xV 2)) (aX (xC (.int 1009))))) (aX (xC (.int 69621))))))) lNil))) (aX (xC (.int 2147483647)))))
    (ySeq (ySet 2 (xB gMod (aX (xL gInt (lCons (aX (xB gMulX (aX (xV 2)) (aX (xB gAdd (aX (xB gDiv (aX (xV 2)) (aX (xC (.int 2003))))) (aX (xC (.int 40692))))))) lNil))) (aX (xC (.int 2147483399)))))
    (yRet (xB gMod (aX (xL gInt (lCons (aX (xB gDiv (aX (xV 2)) (aX (xC (.int 16))))) lNil))) (aX (xV 1))))))))))
theorem sc__law_draw : FnScope N__law_draw P__law_draw (defScope s__law_draw) := ⟨rfl, rfl, rfl, by decide +kernel, rfl, by decide +kernel, by decide +kernel⟩
theorem nm__law_draw : nmB (defScope s__law_draw) (fun _ => true) N__law_draw [true, true, true, true, true] [true, true, true, true, true] = true := by decide +kernel
theorem ok__law_draw {P : Program} {w : World} {K : PySem.W.Frag} {mg : Str → Option Value} {base : Heap} (z_int : mg "int" = none) (z_len : mg "len" = none) : ∀ {f : Addr} {fd : FuncData}, Fun K "_law_draw" "_law_draw" s__law_draw f fd → FnOk P w K mg base (L2.CX P w) 1 f fd P__law_draw (spF K mg [true, false] F__law_draw) := by
  intro f fd Fn
  refine ok_def Fn sc__law_draw rfl rfl (fun cdv A outer s H vs E hr => ?_)
  have C : Cok (cxOf (L2.CX P w) P w K mg base N__law_draw "_law_draw" (defScope s__law_draw) f cdv A outer s H E) (fun cls od _ H' => E cls od H') 0 := ⟨rfl, takes_of rfl rfl rfl rfl, passes_of rfl, hr⟩
  have N : NamesOk (cxOf (L2.CX P w) P w K mg base N__law_draw "_law_draw" (defScope s__law_draw) f cdv A outer s H E) [true, true, true, true, true] [true, true, true, true, true] := namesOk_of rfl rfl (fun _ => rfl) sc__law_draw.nd nm__law_draw
  exact (fb_cons (fs_if (ft_w (fw_and (ft_co (co_eq C.hu64) (fa_x (fe_ix C.hu (fa_r N 0) (fa_x fe_int))) (fa_x fe_int)) (fw_and1 (ft_co co_lt (fa_x (fe_ix C.hu (fa_r N 0) (fa_x fe_int))) (fa_x (fe_cb cb_len ⟨by rfl, z_len⟩ (by decide +kernel) (fl_cons (fa_x (fe_ix C.hu (fa_r N 0) (fa_x fe_int))) fl_nil))))))) (fb_cons (fs_set N 3 (fe_ix C.hu (fa_x (fe_ix C.hu (fa_r N 0) (fa_x fe_int))) (fa_x (fe_ix C.hu (fa_r N 0) (fa_x fe_int)))))
    (fb_cons (fs_setI N 0 C.hu (fe_bo bo_add (fa_x (fe_ix C.hu (fa_r N 0) (fa_x fe_int))) (fa_x fe_int)) fe_int)
    (fb_cons (fs_setI N 0 C.hu (fe_bo bo_mod (fa_x (fe_ct cb_int ⟨by rfl, z_int⟩ (by decide +kernel) (fl_cons (fa_x (fe_bo bo_add (fa_x (fe_bo bo_add (fa_x (fe_bo bo_mulX (fa_x (fe_ix C.hu (fa_r N 0) (fa_x fe_int))) (fa_x fe_int))) (fa_x (fe_v N 3)))) (fa_x fe_int))) fl_nil))) (fa_x fe_int)) fe_int)
    (fb_one (fs_if (ft_co co_ge (fa_x (fe_v N 3)) (fa_x (fe_bo bo_pow (fa_x fe_int) (fa_x fe_int)))) (fb_one (fs_setI N 0 C.hu (fe_v N 3) fe_int)) fb_nil))))) fb_nil)
    (fb_cons (fs_if (ft_co co_gt (fa_x (fe_ix C.hu (fa_r N 0) (fa_x fe_int))) (fa_x fe_int)) (fb_cons (fs_set N 4 (fe_bo bo_mod (fa_x (fe_ct cb_int ⟨by rfl, z_int⟩ (by decide +kernel) (fl_cons (fa_x (fe_ix C.hu (fa_r N 0) (fa_x fe_int))) fl_nil))) (fa_x (fe_v N 1))))
    (fb_cons (fs_setI N 0 C.hu (fe_bo bo_div (fa_x (fe_ix C.hu (fa_r N 0) (fa_x fe_int))) (fa_x (fe_v N 1))) fe_int)
    (fb_one (fs_ret (fe_v N 4))))) fb_nil)
    (fb_cons (fs_setI N 0 C.hu (fe_bo bo_add (fa_x (fe_ix C.hu (fa_r N 0) (fa_x fe_int))) (fa_x fe_int)) fe_int)
    (fb_cons (fs_set N 2 (fe_bo bo_mod (fa_x (fe_ct cb_int ⟨by rfl, z_int⟩ (by decide +kernel) (fl_cons (fa_x (fe_bo bo_mulX (fa_x (fe_ct cb_int ⟨by rfl, z_int⟩ (by decide +kernel) (fl_cons (fa_x (fe_bo bo_add (fa_x (fe_ix C.hu (fa_r N 0) (fa_x fe_int))) (fa_x (fe_bo bo_mulX (fa_x fe_int) (fa_x (fe_ix C.hu (fa_r N 0) (fa_x fe_int))))))) fl_nil))) (fa_x fe_int))) fl_nil))) (fa_x fe_int)))
    (fb_cons (fs_set N 2 (fe_bo bo_mod (fa_x (fe_ct cb_int ⟨by rfl, z_int⟩ (by decide +kernel) (fl_cons (fa_x (fe_bo bo_mulX (fa_x (fe_v N 2)) (fa_x (fe_bo bo_add (fa_x (fe_bo bo_div (fa_x (fe_v N 2)) (fa_x fe_int))) (fa_x fe_int))))) fl_nil))) (fa_x fe_int)))
    (fb_cons (fs_set N 2 (fe_bo bo_mod (fa_x (fe_ct cb_int ⟨by rfl, z_int⟩ (by decide +kernel) (fl_cons (fa_x (fe_bo bo_mulX (fa_x (fe_v N 2)) (fa_x (fe_bo bo_add (fa_x (fe_bo bo_div (fa_x (fe_v N 2)) (fa_x fe_int))) (fa_x fe_int))))) fl_nil))) (fa_x fe_int)))
    (fb_one (fs_ret (fe_bo bo_mod (fa_x (fe_ct cb_int ⟨by rfl, z_int⟩ (by decide +kernel) (fl_cons (fa_x (fe_bo bo_div (fa_x (fe_v N 2)) (fa_x fe_int))) fl_nil))) (fa_x (fe_v N 1)))))))))))
abbrev s__law_cells : Stmt := topS 31
abbrev N__law_cells : List Str := ["_law_given", "_law_said", "_law_cells_here", "_law_letter", "_law_word_here"]
abbrev P__law_cells : List Str := ["_law_given", "_law_said"]
noncomputable def F__law_cells : GF := fnF [false, false] 3 (ySeq (ySet 2 (xLst cNil))
    (ySeq (yFor [3] (wIt (xV 0)) (tgN 3) (ySet 2 (xB gAdd (aX (xV 2)) (aX (xLc [4] (wIt (xV 1)) (tgN 4) xYes (xB gAdd (aX (xV 3)) (aX (xV 4))))))))
    (yRet (xV 2))))
theorem sc__law_cells : FnScope N__law_cells P__law_cells (defScope s__law_cells) := ⟨rfl, rfl, rfl, by decide +kernel, rfl, by decide +kernel, by decide +kernel⟩
theorem nm__law_cells : nmB (defScope s__law_cells) (fun _ => true) N__law_cells [true, true, true, true, false] [true, true, true, true, false] = true := by decide +kernel
theorem ok__law_cells {P : Program} {w : World} {K : PySem.W.Frag} {mg : Str → Option Value} {base : Heap}  : ∀ {f : Addr} {fd : FuncData}, Fun K "_law_cells" "_law_cells" s__law_cells f fd → FnOk P w K mg base (L2.CX P w) 1 f fd P__law_cells (spF K mg [false, false] F__law_cells) := by
  intro f fd Fn
  refine ok_def Fn sc__law_cells rfl rfl (fun cdv A outer s H vs E hr => ?_)
  have C : Cok (cxOf (L2.CX P w) P w K mg base N__law_cells "_law_cells" (defScope s__law_cells) f cdv A outer s H E) (fun cls od _ H' => E cls od H') 0 := ⟨rfl, takes_of rfl rfl rfl rfl, passes_of rfl, hr⟩
  have N : NamesOk (cxOf (L2.CX P w) P w K mg base N__law_cells "_law_cells" (defScope s__law_cells) f cdv A outer s H E) [true, true, true, true, false] [true, true, true, true, false] := namesOk_of rfl rfl (fun _ => rfl) sc__law_cells.nd nm__law_cells
  exact (fb_cons (fs_set N 2 (fe_lst fc_nil))
    (fb_cons (fs_for [3] C (FI.fj (fi_it (fe_v N 0))) (fg_n N 3) (fb_one (fs_set N 2 (fe_bo bo_add (fa_x (fe_v N 2)) (fa_x (fe_lc C N.nd (FI.fj (fi_it (fe_v N 1))) (blkOk_of (N := N__law_cells) (sc := (defScope s__law_cells)) (own := [("_law_word_here", 4)]) rfl rfl (by decide +kernel)) (fun s0 H0 C0 cl0 fp0 => (namesOk_blk (N := N__law_cells) (sc := (defScope s__law_cells)) rfl rfl (M := [false, false, false, true, true]) (L := [false, false, false, false, true]) sc__law_cells.nd (by decide +kernel))) (fun s0 H0 C0 cl0 fp0 NB => (fg_n NB 4)) (fun s0 H0 C0 cl0 fp0 NB => fts_nil) (fun s0 H0 C0 cl0 fp0 NB => (fe_bo bo_add (fa_x (fe_v NB 3)) (fa_x (fe_v NB 4))))))))))
    (fb_one (fs_ret (fe_v N 2)))))
abbrev s__law_known : Stmt := topS 32
abbrev N__law_known : List Str := ["_law_pairs_here", "_law_known_here", "_law_pair"]
abbrev P__law_known : List Str := ["_law_pairs_here"]
noncomputable def F__law_known : GF := fnF [false] 2 (ySeq (ySet 1 xDic0)
    (ySeq (yFor [2] (wIt (xV 0)) (tgN 2) (ySetI 1 (xV 2) (xC (.bl true))))
    (yRet (xM 1))))
theorem sc__law_known : FnScope N__law_known P__law_known (defScope s__law_known) := ⟨rfl, rfl, rfl, by decide +kernel, rfl, by decide +kernel, by decide +kernel⟩
theorem nm__law_known : nmB (defScope s__law_known) (fun _ => true) N__law_known [true, true, true] [true, true, true] = true := by decide +kernel
theorem ok__law_known {P : Program} {w : World} {K : PySem.W.Frag} {mg : Str → Option Value} {base : Heap}  : ∀ {f : Addr} {fd : FuncData}, Fun K "_law_known" "_law_known" s__law_known f fd → FnOk P w K mg base (L2.CX P w) 1 f fd P__law_known (spF K mg [false] F__law_known) := by
  intro f fd Fn
  refine ok_def Fn sc__law_known rfl rfl (fun cdv A outer s H vs E hr => ?_)
  have C : Cok (cxOf (L2.CX P w) P w K mg base N__law_known "_law_known" (defScope s__law_known) f cdv A outer s H E) (fun cls od _ H' => E cls od H') 0 := ⟨rfl, takes_of rfl rfl rfl rfl, passes_of rfl, hr⟩
  have N : NamesOk (cxOf (L2.CX P w) P w K mg base N__law_known "_law_known" (defScope s__law_known) f cdv A outer s H E) [true, true, true] [true, true, true] := namesOk_of rfl rfl (fun _ => rfl) sc__law_known.nd nm__law_known
  exact (fb_cons (fs_set N 1 fe_dic0)
    (fb_cons (fs_for [2] C (FI.fj (fi_it (fe_v N 0))) (fg_n N 2) (fb_one (fs_setI N 1 C.hu fe_bl (fe_v N 2))))
    (fb_one (fs_ret (fe_m N 1)))))
abbrev s__law_letters : Stmt := topS 30
abbrev N__law_letters : List Str := ["_law_hand_here", "_law_signs", "_law_many", "_law_rest", "_law_found", "_law_turn", "_law_at"]
abbrev P__law_letters : List Str := ["_law_hand_here", "_law_signs", "_law_many"]
noncomputable def F__law_letters : GF := fnF [true, false, false] 4 (ySeq (ySet 3 (xV 1))
    (ySeq (ySet 4 (xC (.str "")))
    (ySeq (yFor [5, 6] (wR rng1 (lCons (aX (xV 2)) lNil)) (tgN 5) (ySeq (ySet 6 (xCall [true, false] F__law_draw (cO 0 (cX (xL gLen (lCons (aX (xV 3)) lNil)) cNil))))
    (ySeq (ySet 4 (xB gAdd (aX (xV 4)) (aX (xB ixD (aX (xV 3)) (aX (xV 6))))))
    (ySet 3 (xB gAdd (aX (xSl (aX (xV 3)) pN (pS (xV 6)))) (aX (xSl (aX (xV 3)) (pS (xB gAdd (aX (xV 6)) (aX (xC (.int 1))))) pN)))))))
    (yRet (xV 4)))))
theorem sc__law_letters : FnScope N__law_letters P__law_letters (defScope s__law_letters) := ⟨rfl, rfl, rfl, by decide +kernel, rfl, by decide +kernel, by decide +kernel⟩
theorem nm__law_letters : nmB (defScope s__law_letters) (fun _ => true) N__law_letters [true, true, true, true, true, true, true] [true, true, true, true, true, true, true] = true := by decide +kernel
theorem ok__law_letters {P : Program} {w : World} {K : PySem.W.Frag} {mg : Str → Option Value} {base : Heap} (z_len : mg "len" = none) (z_range : mg "range" = none) (d__law_draw : DF P w K mg base 1 "_law_draw" P__law_draw [true, false] F__law_draw) : ∀ {f : Addr} {fd : FuncData}, Fun K "_law_letters" "_law_letters" s__law_letters f fd → FnOk P w K mg base (L2.CX P w) 2 f fd P__law_letters (spF K mg [true, false, false] F__law_letters) := by
  intro f fd Fn
  refine ok_def Fn sc__law_letters rfl rfl (fun cdv A outer s H vs E hr => ?_)
  have C : Cok (cxOf (L2.CX P w) P w K mg base N__law_letters "_law_letters" (defScope s__law_letters) f cdv A outer s H E) (fun cls od _ H' => E cls od H') 1 := ⟨rfl, takes_of rfl rfl rfl rfl, passes_of rfl, hr⟩
  have N : NamesOk (cxOf (L2.CX P w) P w K mg base N__law_letters "_law_letters" (defScope s__law_letters) f cdv A outer s H E) [true, true, true, true, true, true, true] [true, true, true, true, true, true, true] := namesOk_of rfl rfl (fun _ => rfl) sc__law_letters.nd nm__law_letters
  exact (fb_cons (fs_set N 3 (fe_v N 1))
    (fb_cons (fs_set N 4 fe_str)
    (fb_cons (fs_for [5, 6] C (FI.fj (fi_rng1 ⟨by rfl, z_range⟩ (fl_cons (fa_x (fe_v N 2)) fl_nil))) (fg_n N 5) (fb_cons (fs_set N 6 (fe_call ⟨d__law_draw⟩ (C.hr.mono (by decide)) C.tk (by rfl) (fc_o N 0 (fc_x (fe_cb cb_len ⟨by rfl, z_len⟩ (by decide +kernel) (fl_cons (fa_x (fe_v N 3)) fl_nil)) fc_nil))))
    (fb_cons (fs_set N 4 (fe_bo bo_add (fa_x (fe_v N 4)) (fa_x (fe_ix C.hu (fa_x (fe_v N 3)) (fa_x (fe_v N 6))))))
    (fb_one (fs_set N 3 (fe_bo bo_add (fa_x (fe_sl (fa_x (fe_v N 3)) fp_n (fp_s (fe_v N 6)))) (fa_x (fe_sl (fa_x (fe_v N 3)) (fp_s (fe_bo bo_add (fa_x (fe_v N 6)) (fa_x fe_int))) fp_n))))))))
    (fb_one (fs_ret (fe_v N 4))))))
abbrev s__law_fits : Stmt := topS 33
abbrev N__law_fits : List Str := ["_law_kind", "_law_given", "_law_said", "_law_one", "_law_other", "_law_first", "_law_second", "_law_last", "_law_ends"]
abbrev P__law_fits : List Str := ["_law_kind", "_law_given", "_law_said", "_law_one", "_law_other"]
noncomputable def F__law_fits : GF := fnF [false, false, false, false, false] 4 (ySeq (ySet 5 (xSm1 (gs1 fun a b => .int (Txt.find a b)) (xV 2) (xB ixD (aX (xV 3)) (aX (xC (.int 1))))))
    (ySeq (ySet 6 (xSm1 (gs1 fun a b => .int (Txt.find a b)) (xV 2) (xB ixD (aX (xV 4)) (aX (xC (.int 1))))))
    (ySeq (ySet 7 (xB gSub (aX (xL gLen (lCons (aX (xV 2)) lNil))) (aX (xC (.int 1)))))
    (ySeq (yIf (xB gEq (aX (xV 0)) (aX (xC (.int 4)))) (yRet (xOr (xB gEq (aX (xV 6)) (aX (xV 5))) (xB gEq (aX (xV 6)) (aX (xB gMod (aX (xL gInt (lCons (aX (xB gAdd (aX (xV 5)) (aX (xC (.int 1))))) lNil))) (aX (xL gLen (lCons (aX (xV 2)) lNil)))))))) yNil)
    (ySeq (yIf (xB gEq (aX (xV 0)) (aX (xC (.int 6)))) (yRet (xB gEq (aX (xV 6)) (aX (xB gMod (aX (xL gInt (lCons (aX (xB gAdd (aX (xV 5)) (aX (xC (.int 1))))) lNil))) (aX (xL gLen (lCons (aX (xV 2)) lNil))))))) yNil)
    (ySeq (yIf (xOr (xB gLt (aX (xV 0)) (aX (xC (.int 7)))) (xOr (xB gEq (aX (xL gLen (lCons (aX (xV 1)) lNil))) (aX (xC (.int 1)))) (xB gLt (aX (xV 7)) (aX (xC (.int 2)))))) (yRet (xB gNe (aX (xV 5)) (aX (xV 6)))) yNil)
    (ySeq (ySet 8 (xLst (cX (xB gEq (aX (xB ixD (aX (xV 3)) (aX (xC (.int 0))))) (aX (xB ixD (aX (xV 1)) (aX (xU gNeg (aX (xC (.int 1)))))))) (cX (xB gEq (aX (xB ixD (aX (xV 4)) (aX (xC (.int 0))))) (aX (xB ixD (aX (xV 1)) (aX (xU gNeg (aX (xC (.int 1)))))))) cNil))))
    (ySeq (yIf (xB gEq (aX (xV 8)) (aX (xLst (cX (xC (.bl true)) (cX (xC (.bl true)) cNil))))) (yRet (xAnd (xB gEq (aX (xV 5)) (aX (xC (.int 0)))) (xB gEq (aX (xV 6)) (aX (xC (.int 0)))))) yNil)
    (ySeq (yIf (xB gEq (aX (xV 8)) (aX (xLst (cX (xC (.bl true)) (cX (xC (.bl false)) cNil))))) (yRet (xAnd (xB gEq (aX (xV 5)) (aX (xC (.int 0)))) (xB gLt (aX (xV 6)) (aX (xV 7))))) yNil)
    (ySeq (yIf (xB gEq (aX (xV 8)) (aX (xLst (cX (xC (.bl false)) (cX (xC (.bl true)) cNil))))) (yRet (xAnd (xB gEq (aX (xV 6)) (aX (xC (.int 0)))) (xB gLt (aX (xV 5)) (aX (xV 7))))) yNil)
    (ySeq (yIf (xOr (xB gEq (aX (xV 5)) (aX (xV 7))) (xB gEq (aX (xV 6)) (aX (xV 7)))) (yRet (xB gEq (aX (xV 5)) (aX (xV 6)))) yNil)
    (yRet (xB gNe (aX (xV 5)) (aX (xV 6)))))))))))))))
theorem sc__law_fits : FnScope N__law_fits P__law_fits (defScope s__law_fits) := ⟨rfl, rfl, rfl, by decide +kernel, rfl, by decide +kernel, by decide +kernel⟩
theorem nm__law_fits : nmB (defScope s__law_fits) (fun _ => true) N__law_fits [true, true, true, true, true, true, true, true, true] [true, true, true, true, true, true, true, true, true] = true := by decide +kernel
theorem ok__law_fits {P : Program} {w : World} {K : PySem.W.Frag} {mg : Str → Option Value} {base : Heap} (z_int : mg "int" = none) (z_len : mg "len" = none) : ∀ {f : Addr} {fd : FuncData}, Fun K "_law_fits" "_law_fits" s__law_fits f fd → FnOk P w K mg base (L2.CX P w) 1 f fd P__law_fits (spF K mg [false, false, false, false, false] F__law_fits) := by
  intro f fd Fn
  refine ok_def Fn sc__law_fits rfl rfl (fun cdv A outer s H vs E hr => ?_)
  have C : Cok (cxOf (L2.CX P w) P w K mg base N__law_fits "_law_fits" (defScope s__law_fits) f cdv A outer s H E) (fun cls od _ H' => E cls od H') 0 := ⟨rfl, takes_of rfl rfl rfl rfl, passes_of rfl, hr⟩
  have N : NamesOk (cxOf (L2.CX P w) P w K mg base N__law_fits "_law_fits" (defScope s__law_fits) f cdv A outer s H E) [true, true, true, true, true, true, true, true, true] [true, true, true, true, true, true, true, true, true] := namesOk_of rfl rfl (fun _ => rfl) sc__law_fits.nd nm__law_fits
  exact (fb_cons (fs_set N 5 (fe_sm1 PySem.F.slot_str_find PySem.F.type_str_find sm_find (fe_v N 2) (fe_ix C.hu (fa_x (fe_v N 3)) (fa_x fe_int))))
    (fb_cons (fs_set N 6 (fe_sm1 PySem.F.slot_str_find PySem.F.type_str_find sm_find (fe_v N 2) (fe_ix C.hu (fa_x (fe_v N 4)) (fa_x fe_int))))
    (fb_cons (fs_set N 7 (fe_bo bo_sub (fa_x (fe_cb cb_len ⟨by rfl, z_len⟩ (by decide +kernel) (fl_cons (fa_x (fe_v N 2)) fl_nil))) (fa_x fe_int)))
    (fb_cons (fs_if (ft_co (co_eq C.hu64) (fa_x (fe_v N 0)) (fa_x fe_int)) (fb_one (fs_ret (fe_or (fe_co (co_eq C.hu64) (fa_x (fe_v N 6)) (fa_x (fe_v N 5))) (fe_one (fe_co (co_eq C.hu64) (fa_x (fe_v N 6)) (fa_x (fe_bo bo_mod (fa_x (fe_ct cb_int ⟨by rfl, z_int⟩ (by decide +kernel) (fl_cons (fa_x (fe_bo bo_add (fa_x (fe_v N 5)) (fa_x fe_int))) fl_nil))) (fa_x (fe_cb cb_len ⟨by rfl, z_len⟩ (by decide +kernel) (fl_cons (fa_x (fe_v N 2)) fl_nil)))))))))) fb_nil)
    (fb_cons (fs_if (ft_co (co_eq C.hu64) (fa_x (fe_v N 0)) (fa_x fe_int)) (fb_one (fs_ret (fe_co (co_eq C.hu64) (fa_x (fe_v N 6)) (fa_x (fe_bo bo_mod (fa_x (fe_ct cb_int ⟨by rfl, z_int⟩ (by decide +kernel) (fl_cons (fa_x (fe_bo bo_add (fa_x (fe_v N 5)) (fa_x fe_int))) fl_nil))) (fa_x (fe_cb cb_len ⟨by rfl, z_len⟩ (by decide +kernel) (fl_cons (fa_x (fe_v N 2)) fl_nil)))))))) fb_nil)
    (fb_cons (fs_if (ft_w (fw_or (ft_co co_lt (fa_x (fe_v N 0)) (fa_x fe_int)) (fw_or (ft_co (co_eq C.hu64) (fa_x (fe_cb cb_len ⟨by rfl, z_len⟩ (by decide +kernel) (fl_cons (fa_x (fe_v N 1)) fl_nil))) (fa_x fe_int)) (fw_or1 (ft_co co_lt (fa_x (fe_v N 7)) (fa_x fe_int)))))) (fb_one (fs_ret (fe_co (co_ne C.hu64) (fa_x (fe_v N 5)) (fa_x (fe_v N 6))))) fb_nil)
    (fb_cons (fs_set N 8 (fe_lst (fc_x (fe_co (co_eq C.hu64) (fa_x (fe_ix C.hu (fa_x (fe_v N 3)) (fa_x fe_int))) (fa_x (fe_ix C.hu (fa_x (fe_v N 1)) (fa_x (fe_uo uo_neg (fa_x fe_int)))))) (fc_x (fe_co (co_eq C.hu64) (fa_x (fe_ix C.hu (fa_x (fe_v N 4)) (fa_x fe_int))) (fa_x (fe_ix C.hu (fa_x (fe_v N 1)) (fa_x (fe_uo uo_neg (fa_x fe_int)))))) fc_nil))))
    (fb_cons (fs_if (ft_co (co_eq C.hu64) (fa_x (fe_v N 8)) (fa_x (fe_lst (fc_x fe_bl (fc_x fe_bl fc_nil))))) (fb_one (fs_ret (fe_and (fe_co (co_eq C.hu64) (fa_x (fe_v N 5)) (fa_x fe_int)) (fe_one (fe_co (co_eq C.hu64) (fa_x (fe_v N 6)) (fa_x fe_int)))))) fb_nil)
    (fb_cons (fs_if (ft_co (co_eq C.hu64) (fa_x (fe_v N 8)) (fa_x (fe_lst (fc_x fe_bl (fc_x fe_bl fc_nil))))) (fb_one (fs_ret (fe_and (fe_co (co_eq C.hu64) (fa_x (fe_v N 5)) (fa_x fe_int)) (fe_one (fe_co co_lt (fa_x (fe_v N 6)) (fa_x (fe_v N 7))))))) fb_nil)
    (fb_cons (fs_if (ft_co (co_eq C.hu64) (fa_x (fe_v N 8)) (fa_x (fe_lst (fc_x fe_bl (fc_x fe_bl fc_nil))))) (fb_one (fs_ret (fe_and (fe_co (co_eq C.hu64) (fa_x (fe_v N 6)) (fa_x fe_int)) (fe_one (fe_co co_lt (fa_x (fe_v N 5)) (fa_x (fe_v N 7))))))) fb_nil)
    (fb_cons (fs_if (ft_w (fw_or (ft_co (co_eq C.hu64) (fa_x (fe_v N 5)) (fa_x (fe_v N 7))) (fw_or1 (ft_co (co_eq C.hu64) (fa_x (fe_v N 6)) (fa_x (fe_v N 7)))))) (fb_one (fs_ret (fe_co (co_eq C.hu64) (fa_x (fe_v N 5)) (fa_x (fe_v N 6))))) fb_nil)
    (fb_one (fs_ret (fe_co (co_ne C.hu64) (fa_x (fe_v N 5)) (fa_x (fe_v N 6))))))))))))))))
abbrev s__law_pairs : Stmt := topS 34
abbrev N__law_pairs : List Str := ["_law_hand_here", "_law_given", "_law_said", "_law_kind", "_law_share", "_law_cells_here", "_law_pairs_here", "_law_one", "_law_other", "_law_fits_here"]
abbrev P__law_pairs : List Str := ["_law_hand_here", "_law_given", "_law_said"]
noncomputable def F__law_pairs : GF := fnF [true, false, false] 7 (ySeq (ySet 3 (xCall [true, false] F__law_draw (cO 0 (cX (xC (.int 8)) cNil))))
    (ySeq (ySet 4 (xB gAdd (aX (xC (.int 1))) (aX (xCall [true, false] F__law_draw (cO 0 (cX (xC (.int 3)) cNil))))))
    (ySeq (ySet 5 (xCall [false, false] F__law_cells (cX (xV 1) (cX (xV 2) cNil))))
    (ySeq (ySet 6 (xLst cNil))
    (ySeq (yFor [7, 8, 9] (wIt (xV 5)) (tgN 7) (yFor [8, 9] (wIt (xV 5)) (tgN 8) (ySeq (ySet 9 (xOr (xB gLt (aX (xV 3)) (aX (xC (.int 3)))) (xCall [false, false, false, false, false] F__law_fits (cX (xV 3) (cX (xV 1) (cX (xV 2) (cX (xV 7) (cX (xV 8) cNil))))))))
    (yIf (xAnd (xV 9) (xOr (xB gGt (aX (xV 3)) (aX (xC (.int 4)))) (xB gLt (aX (xCall [true, false] F__law_draw (cO 0 (cX (xC (.int 4)) cNil)))) (aX (xB gAdd (aX (xV 4)) (aX (xL gInt (lCons (aX (xB gGt (aX (xV 3)) (aX (xC (.int 2))))) lNil)))))))) (yX (xMu 6 mApp (cX (xB gAdd (aX (xV 7)) (aX (xV 8))) cNil))) yNil))))
    (yRet (xM 6)))))))
theorem sc__law_pairs : FnScope N__law_pairs P__law_pairs (defScope s__law_pairs) := ⟨rfl, rfl, rfl, by decide +kernel, rfl, by decide +kernel, by decide +kernel⟩
theorem nm__law_pairs : nmB (defScope s__law_pairs) (fun _ => true) N__law_pairs [true, true, true, true, true, true, true, true, true, true] [true, true, true, true, true, true, true, true, true, true] = true := by decide +kernel
theorem ok__law_pairs {P : Program} {w : World} {K : PySem.W.Frag} {mg : Str → Option Value} {base : Heap} (z_int : mg "int" = none) (d__law_cells : DF P w K mg base 1 "_law_cells" P__law_cells [false, false] F__law_cells) (d__law_draw : DF P w K mg base 1 "_law_draw" P__law_draw [true, false] F__law_draw) (d__law_fits : DF P w K mg base 1 "_law_fits" P__law_fits [false, false, false, false, false] F__law_fits) : ∀ {f : Addr} {fd : FuncData}, Fun K "_law_pairs" "_law_pairs" s__law_pairs f fd → FnOk P w K mg base (L2.CX P w) 2 f fd P__law_pairs (spF K mg [true, false, false] F__law_pairs) := by
  intro f fd Fn
  refine ok_def Fn sc__law_pairs rfl rfl (fun cdv A outer s H vs E hr => ?_)
  have C : Cok (cxOf (L2.CX P w) P w K mg base N__law_pairs "_law_pairs" (defScope s__law_pairs) f cdv A outer s H E) (fun cls od _ H' => E cls od H') 1 := ⟨rfl, takes_of rfl rfl rfl rfl, passes_of rfl, hr⟩
  have N : NamesOk (cxOf (L2.CX P w) P w K mg base N__law_pairs "_law_pairs" (defScope s__law_pairs) f cdv A outer s H E) [true, true, true, true, true, true, true, true, true, true] [true, true, true, true, true, true, true, true, true, true] := namesOk_of rfl rfl (fun _ => rfl) sc__law_pairs.nd nm__law_pairs
  exact (fb_cons (fs_set N 3 (fe_call ⟨d__law_draw⟩ (C.hr.mono (by decide)) C.tk (by rfl) (fc_o N 0 (fc_x fe_int fc_nil))))
    (fb_cons (fs_set N 4 (fe_bo bo_add (fa_x fe_int) (fa_x (fe_call ⟨d__law_draw⟩ (C.hr.mono (by decide)) C.tk (by rfl) (fc_o N 0 (fc_x fe_int fc_nil))))))
    (fb_cons (fs_set N 5 (fe_call ⟨d__law_cells⟩ (C.hr.mono (by decide)) C.tk (by rfl) (fc_x (fe_v N 1) (fc_x (fe_v N 2) fc_nil))))
    (fb_cons (fs_set N 6 (fe_lst fc_nil))
    (fb_cons (fs_for [7, 8, 9] C (FI.fj (fi_it (fe_v N 5))) (fg_n N 7) (fb_one (fs_for [8, 9] C (FI.fj (fi_it (fe_v N 5))) (fg_n N 8) (fb_cons (fs_set N 9 (fe_or (fe_co co_lt (fa_x (fe_v N 3)) (fa_x fe_int)) (fe_one (fe_call ⟨d__law_fits⟩ (C.hr.mono (by decide)) C.tk (by rfl) (fc_x (fe_v N 3) (fc_x (fe_v N 1) (fc_x (fe_v N 2) (fc_x (fe_v N 7) (fc_x (fe_v N 8) fc_nil)))))))))
    (fb_one (fs_if (ft_w (fw_and (ft_e (fe_v N 9)) (fw_and1 (ft_w (fw_or (ft_co co_gt (fa_x (fe_v N 3)) (fa_x fe_int)) (fw_or1 (ft_co co_lt (fa_x (fe_call ⟨d__law_draw⟩ (C.hr.mono (by decide)) C.tk (by rfl) (fc_o N 0 (fc_x fe_int fc_nil)))) (fa_x (fe_bo bo_add (fa_x (fe_v N 4)) (fa_x (fe_ct cb_int ⟨by rfl, z_int⟩ (by decide +kernel) (fl_cons (fa_x (fe_co co_gt (fa_x (fe_v N 3)) (fa_x fe_int))) fl_nil)))))))))))) (fb_one (fs_expr (fe_mu N 6 PySem.F.slot_list_append PySem.F.type_list_append mu_app (fc_x (fe_bo bo_add (fa_x (fe_v N 7)) (fa_x (fe_v N 8))) fc_nil)))) fb_nil))))))
    (fb_one (fs_ret (fe_m N 6))))))))
abbrev s__law_parts : Stmt := topS 35
abbrev N__law_parts : List Str := ["_law_hand_here", "_law_given", "_law_said", "_law_many", "_law_told"]
abbrev P__law_parts : List Str := ["_law_hand_here"]
noncomputable def F__law_parts : GF := fnF [true] 4 (ySeq (yAsg (tgT 2 (tgsCons (tgN 3) (tgsCons (tgN 4) tgsNil))) (xB ixD (aX (xLst (cX (xTup (cX (xC (.int 1)) (cX (xC (.int 2)) cNil))) (cX (xTup (cX (xC (.int 1)) (cX (xC (.int 3)) cNil))) (cX (xTup (cX (xC (.int 2)) (cX (xC (.int 2)) cNil))) (cX (xTup (cX (xC (.int 2)) (cX (xC (.int 3)) cNil))) (cX (xTup (cX (xC (.int 2)) (cX (xC (.int 2)) cNil))) (cX (xTup (cX (xC (.int 1)) (cX (xC (.int 4)) cNil))) (cX (xTup (cX (xC (.int 3)) (cX (xC (.int 2)) cNil))) (cX (xTup (cX (xC (.int 2)) (cX (xC (.int 3)) cNil))) (cX (xTup (cX (xC (.int 3)) (cX (xC (.int 1)) cNil))) (cX (xTup (cX (xC (.int 2)) (cX (xC (.int 1)) cNil))) cNil)))))))))))) (aX (xCall [true, false] F__law_draw (cO 0 (cX (xC (.int 10)) cNil))))))
    (ySeq (ySet 1 (xCall [true, false, false] F__law_letters (cO 0 (cX (xC (.str "abcdefghijklmnopqrstuvwxyz")) (cX (xV 3) cNil)))))
    (ySeq (ySet 2 (xCall [true, false, false] F__law_letters (cO 0 (cX (xC (.str "ABCDEFGHIJKLMNOPQRSTUVWXYZ")) (cX (xV 4) cNil)))))
    (yRet (xTup (cX (xV 1) (cX (xV 2) (cX (xCall [true, false, false] F__law_pairs (cO 0 (cX (xV 1) (cX (xV 2) cNil)))) cNil))))))))
theorem sc__law_parts : FnScope N__law_parts P__law_parts (defScope s__law_parts) := ⟨rfl, rfl, rfl, by decide +kernel, rfl, by decide +kernel, by decide +kernel⟩
theorem nm__law_parts : nmB (defScope s__law_parts) (fun _ => true) N__law_parts [true, true, true, true, true] [true, true, true, true, true] = true := by decide +kernel
theorem ok__law_parts {P : Program} {w : World} {K : PySem.W.Frag} {mg : Str → Option Value} {base : Heap} (d__law_draw : DF P w K mg base 1 "_law_draw" P__law_draw [true, false] F__law_draw) (d__law_letters : DF P w K mg base 2 "_law_letters" P__law_letters [true, false, false] F__law_letters) (d__law_pairs : DF P w K mg base 2 "_law_pairs" P__law_pairs [true, false, false] F__law_pairs) : ∀ {f : Addr} {fd : FuncData}, Fun K "_law_parts" "_law_parts" s__law_parts f fd → FnOk P w K mg base (L2.CX P w) 3 f fd P__law_parts (spF K mg [true] F__law_parts) := by
  intro f fd Fn
  refine ok_def Fn sc__law_parts rfl rfl (fun cdv A outer s H vs E hr => ?_)
  have C : Cok (cxOf (L2.CX P w) P w K mg base N__law_parts "_law_parts" (defScope s__law_parts) f cdv A outer s H E) (fun cls od _ H' => E cls od H') 2 := ⟨rfl, takes_of rfl rfl rfl rfl, passes_of rfl, hr⟩
  have N : NamesOk (cxOf (L2.CX P w) P w K mg base N__law_parts "_law_parts" (defScope s__law_parts) f cdv A outer s H E) [true, true, true, true, true] [true, true, true, true, true] := namesOk_of rfl rfl (fun _ => rfl) sc__law_parts.nd nm__law_parts
  exact (fb_cons (fs_asg (fe_ix C.hu (fa_x (fe_lst (fc_x (fe_tup (fc_x fe_int (fc_x fe_int fc_nil))) (fc_x (fe_tup (fc_x fe_int (fc_x fe_int fc_nil))) (fc_x (fe_tup (fc_x fe_int (fc_x fe_int fc_nil))) (fc_x (fe_tup (fc_x fe_int (fc_x fe_int fc_nil))) (fc_x (fe_tup (fc_x fe_int (fc_x fe_int fc_nil))) (fc_x (fe_tup (fc_x fe_int (fc_x fe_int fc_nil))) (fc_x (fe_tup (fc_x fe_int (fc_x fe_int fc_nil))) (fc_x (fe_tup (fc_x fe_int (fc_x fe_int fc_nil))) (fc_x (fe_tup (fc_x fe_int (fc_x fe_int fc_nil))) (fc_x (fe_tup (fc_x fe_int (fc_x fe_int fc_nil))) fc_nil)))))))))))) (fa_x (fe_call ⟨d__law_draw⟩ (C.hr.mono (by decide)) C.tk (by rfl) (fc_o N 0 (fc_x fe_int fc_nil))))) (fg_t rfl (fgs_cons (fg_n N 3) (fgs_cons (fg_n N 4) fgs_nil))))
    (fb_cons (fs_set N 1 (fe_call ⟨d__law_letters⟩ (C.hr.mono (by decide)) C.tk (by rfl) (fc_o N 0 (fc_x fe_str (fc_x (fe_v N 3) fc_nil)))))
    (fb_cons (fs_set N 2 (fe_call ⟨d__law_letters⟩ (C.hr.mono (by decide)) C.tk (by rfl) (fc_o N 0 (fc_x fe_str (fc_x (fe_v N 4) fc_nil)))))
    (fb_one (fs_ret (fe_tup (fc_x (fe_v N 1) (fc_x (fe_v N 2) (fc_x (fe_call ⟨d__law_pairs⟩ (C.hr.mono (by decide)) C.tk (by rfl) (fc_o N 0 (fc_x (fe_v N 1) (fc_x (fe_v N 2) fc_nil)))) fc_nil)))))))))
abbrev s__law_word : Stmt := topS 36
abbrev N__law_word : List Str := ["_law_hand_here", "_law_given", "_law_many", "_law_word_here", "_law_turn"]
abbrev P__law_word : List Str := ["_law_hand_here", "_law_given", "_law_many"]
noncomputable def F__law_word : GF := fnF [true, false, false] 2 (ySeq (ySet 3 (xC (.str "")))
    (ySeq (yFor [4] (wR rng1 (lCons (aX (xV 2)) lNil)) (tgN 4) (ySet 3 (xB gAdd (aX (xV 3)) (aX (xB ixD (aX (xV 1)) (aX (xCall [true, false] F__law_draw (cO 0 (cX (xL gLen (lCons (aX (xV 1)) lNil)) cNil)))))))))
    (yRet (xV 3))))
theorem sc__law_word : FnScope N__law_word P__law_word (defScope s__law_word) := ⟨rfl, rfl, rfl, by decide +kernel, rfl, by decide +kernel, by decide +kernel⟩
theorem nm__law_word : nmB (defScope s__law_word) (fun _ => true) N__law_word [true, true, true, true, true] [true, true, true, true, true] = true := by decide +kernel
theorem ok__law_word {P : Program} {w : World} {K : PySem.W.Frag} {mg : Str → Option Value} {base : Heap} (z_len : mg "len" = none) (z_range : mg "range" = none) (d__law_draw : DF P w K mg base 1 "_law_draw" P__law_draw [true, false] F__law_draw) : ∀ {f : Addr} {fd : FuncData}, Fun K "_law_word" "_law_word" s__law_word f fd → FnOk P w K mg base (L2.CX P w) 2 f fd P__law_word (spF K mg [true, false, false] F__law_word) := by
  intro f fd Fn
  refine ok_def Fn sc__law_word rfl rfl (fun cdv A outer s H vs E hr => ?_)
  have C : Cok (cxOf (L2.CX P w) P w K mg base N__law_word "_law_word" (defScope s__law_word) f cdv A outer s H E) (fun cls od _ H' => E cls od H') 1 := ⟨rfl, takes_of rfl rfl rfl rfl, passes_of rfl, hr⟩
  have N : NamesOk (cxOf (L2.CX P w) P w K mg base N__law_word "_law_word" (defScope s__law_word) f cdv A outer s H E) [true, true, true, true, true] [true, true, true, true, true] := namesOk_of rfl rfl (fun _ => rfl) sc__law_word.nd nm__law_word
  exact (fb_cons (fs_set N 3 fe_str)
    (fb_cons (fs_for [4] C (FI.fj (fi_rng1 ⟨by rfl, z_range⟩ (fl_cons (fa_x (fe_v N 2)) fl_nil))) (fg_n N 4) (fb_one (fs_set N 3 (fe_bo bo_add (fa_x (fe_v N 3)) (fa_x (fe_ix C.hu (fa_x (fe_v N 1)) (fa_x (fe_call ⟨d__law_draw⟩ (C.hr.mono (by decide)) C.tk (by rfl) (fc_o N 0 (fc_x (fe_cb cb_len ⟨by rfl, z_len⟩ (by decide +kernel) (fl_cons (fa_x (fe_v N 1)) fl_nil)) fc_nil))))))))))
    (fb_one (fs_ret (fe_v N 3)))))
abbrev s__law_rows : Stmt := topS 37
abbrev N__law_rows : List Str := ["_law_known_here", "_law_said", "_law_word_here", "_law_rows_here", "_law_place", "_law_longer", "_law_row", "_law_letter"]
abbrev P__law_rows : List Str := ["_law_known_here", "_law_said", "_law_word_here"]
noncomputable def F__law_rows : GF := fnF [false, false, false] 5 (ySeq (ySet 3 (xLst (cX (xC (.str "")) cNil)))
    (ySeq (yFor [4, 5, 6, 7] (wR rng1 (lCons (aX (xL gLen (lCons (aX (xV 2)) lNil))) lNil)) (tgN 4) (ySeq (ySet 5 (xLst cNil))
    (ySeq (yFor [6, 7] (wIt (xV 3)) (tgN 6) (yFor [7] (wIt (xV 1)) (tgN 7) (yIf (xOr (xB gEq (aX (xV 4)) (aX (xC (.int 0)))) (xB gInX (aX (xB gAdd (aX (xB gAdd (aX (xB gAdd (aX (xB ixD (aX (xV 2)) (aX (xB gSub (aX (xV 4)) (aX (xC (.int 1))))))) (aX (xB ixD (aX (xV 6)) (aX (xB gSub (aX (xV 4)) (aX (xC (.int 1))))))))) (aX (xB ixD (aX (xV 2)) (aX (xV 4)))))) (aX (xV 7)))) (aX (xV 0)))) (yX (xMu 5 mApp (cX (xB gAdd (aX (xV 6)) (aX (xV 7))) cNil))) yNil)))
    (ySet 3 (xV 5)))))
    (yRet (xV 3))))
theorem sc__law_rows : FnScope N__law_rows P__law_rows (defScope s__law_rows) := ⟨rfl, rfl, rfl, by decide +kernel, rfl, by decide +kernel, by decide +kernel⟩
theorem nm__law_rows : nmB (defScope s__law_rows) (fun _ => true) N__law_rows [true, true, true, true, true, true, true, true] [true, true, true, true, true, true, true, true] = true := by decide +kernel
theorem ok__law_rows {P : Program} {w : World} {K : PySem.W.Frag} {mg : Str → Option Value} {base : Heap} (z_len : mg "len" = none) (z_range : mg "range" = none) : ∀ {f : Addr} {fd : FuncData}, Fun K "_law_rows" "_law_rows" s__law_rows f fd → FnOk P w K mg base (L2.CX P w) 1 f fd P__law_rows (spF K mg [false, false, false] F__law_rows) := by
  intro f fd Fn
  refine ok_def Fn sc__law_rows rfl rfl (fun cdv A outer s H vs E hr => ?_)
  have C : Cok (cxOf (L2.CX P w) P w K mg base N__law_rows "_law_rows" (defScope s__law_rows) f cdv A outer s H E) (fun cls od _ H' => E cls od H') 0 := ⟨rfl, takes_of rfl rfl rfl rfl, passes_of rfl, hr⟩
  have N : NamesOk (cxOf (L2.CX P w) P w K mg base N__law_rows "_law_rows" (defScope s__law_rows) f cdv A outer s H E) [true, true, true, true, true, true, true, true] [true, true, true, true, true, true, true, true] := namesOk_of rfl rfl (fun _ => rfl) sc__law_rows.nd nm__law_rows
  exact (fb_cons (fs_set N 3 (fe_lst (fc_x fe_str fc_nil)))
    (fb_cons (fs_for [4, 5, 6, 7] C (FI.fj (fi_rng1 ⟨by rfl, z_range⟩ (fl_cons (fa_x (fe_cb cb_len ⟨by rfl, z_len⟩ (by decide +kernel) (fl_cons (fa_x (fe_v N 2)) fl_nil))) fl_nil))) (fg_n N 4) (fb_cons (fs_set N 5 (fe_lst fc_nil))
    (fb_cons (fs_for [6, 7] C (FI.fj (fi_it (fe_v N 3))) (fg_n N 6) (fb_one (fs_for [7] C (FI.fj (fi_it (fe_v N 1))) (fg_n N 7) (fb_one (fs_if (ft_w (fw_or (ft_co (co_eq C.hu64) (fa_x (fe_v N 4)) (fa_x fe_int)) (fw_or1 (ft_co (co_inX C.hu C.hu65) (fa_x (fe_bo bo_add (fa_x (fe_bo bo_add (fa_x (fe_bo bo_add (fa_x (fe_ix C.hu (fa_x (fe_v N 2)) (fa_x (fe_bo bo_sub (fa_x (fe_v N 4)) (fa_x fe_int))))) (fa_x (fe_ix C.hu (fa_x (fe_v N 6)) (fa_x (fe_bo bo_sub (fa_x (fe_v N 4)) (fa_x fe_int))))))) (fa_x (fe_ix C.hu (fa_x (fe_v N 2)) (fa_x (fe_v N 4)))))) (fa_x (fe_v N 7)))) (fa_x (fe_v N 0)))))) (fb_one (fs_expr (fe_mu N 5 PySem.F.slot_list_append PySem.F.type_list_append mu_app (fc_x (fe_bo bo_add (fa_x (fe_v N 6)) (fa_x (fe_v N 7))) fc_nil)))) fb_nil)))))
    (fb_one (fs_set N 3 (fe_v N 5))))))
    (fb_one (fs_ret (fe_v N 3)))))
abbrev s__law_due : Stmt := topS 38
abbrev N__law_due : List Str := ["_law_cells_here", "_law_known_here", "_law_said", "_law_word_here", "_law_found", "_law_rows_here", "_law_one", "_law_other", "_law_fits_here", "_law_row", "_law_begins", "_law_place", "_law_at"]
abbrev P__law_due : List Str := ["_law_cells_here", "_law_known_here", "_law_said", "_law_word_here"]
noncomputable def F__law_due : GF := fnF [false, false, false, false] 9 (ySeq (ySet 4 (xLst cNil))
    (ySeq (ySet 5 (xCall [false, false, false] F__law_rows (cX (xV 1) (cX (xV 2) (cX (xV 3) cNil)))))
    (ySeq (yFor [6, 7, 8, 9, 10] (wIt (xV 0)) (tgN 6) (yFor [7, 8, 9, 10] (wIt (xV 0)) (tgN 7) (ySeq (ySet 8 (xC (.bl false)))
    (ySeq (yFor [9, 10] (wIt (xV 5)) (tgN 9) (ySeq (ySet 10 (xB gAdd (aX (xB gAdd (aX (xLst (cX (xV 6) cNil))) (aX (xLc [11] (wR rng1 (lCons (aX (xL gLen (lCons (aX (xV 3)) lNil))) lNil)) (tgN 11) xYes (xB gAdd (aX (xB ixD (aX (xV 3)) (aX (xV 11)))) (aX (xB ixD (aX (xV 9)) (aX (xV 11))))))))) (aX (xLst (cX (xV 7) cNil)))))
    (ySet 8 (xOr (xV 8) (xL gAll (lCons (aX (xLc [12] (wR rng1 (lCons (aX (xB gSub (aX (xL gLen (lCons (aX (xV 10)) lNil))) (aX (xC (.int 1))))) lNil)) (tgN 12) xYes (xB gInX (aX (xB gAdd (aX (xB ixD (aX (xV 10)) (aX (xV 12)))) (aX (xB ixD (aX (xV 10)) (aX (xB gAdd (aX (xV 12)) (aX (xC (.int 1))))))))) (aX (xV 1))))) lNil))))))
    (yIf (xV 8) (yX (xMu 4 mApp (cX (xB gAdd (aX (xV 6)) (aX (xV 7))) cNil))) yNil)))))
    (yRet (xL gTupleX (lCons (aR 4) lNil))))))
theorem sc__law_due : FnScope N__law_due P__law_due (defScope s__law_due) := ⟨rfl, rfl, rfl, by decide +kernel, rfl, by decide +kernel, by decide +kernel⟩
theorem nm__law_due : nmB (defScope s__law_due) (fun _ => true) N__law_due [true, true, true, true, true, true, true, true, true, true, true, false, false] [true, true, true, true, true, true, true, true, true, true, true, false, false] = true := by decide +kernel
theorem ok__law_due {P : Program} {w : World} {K : PySem.W.Frag} {mg : Str → Option Value} {base : Heap} (z_all : mg "all" = none) (z_len : mg "len" = none) (z_range : mg "range" = none) (z_tuple : mg "tuple" = none) (d__law_rows : DF P w K mg base 1 "_law_rows" P__law_rows [false, false, false] F__law_rows) : ∀ {f : Addr} {fd : FuncData}, Fun K "_law_due" "_law_due" s__law_due f fd → FnOk P w K mg base (L2.CX P w) 2 f fd P__law_due (spF K mg [false, false, false, false] F__law_due) := by
  intro f fd Fn
  refine ok_def Fn sc__law_due rfl rfl (fun cdv A outer s H vs E hr => ?_)
  have C : Cok (cxOf (L2.CX P w) P w K mg base N__law_due "_law_due" (defScope s__law_due) f cdv A outer s H E) (fun cls od _ H' => E cls od H') 1 := ⟨rfl, takes_of rfl rfl rfl rfl, passes_of rfl, hr⟩
  have N : NamesOk (cxOf (L2.CX P w) P w K mg base N__law_due "_law_due" (defScope s__law_due) f cdv A outer s H E) [true, true, true, true, true, true, true, true, true, true, true, false, false] [true, true, true, true, true, true, true, true, true, true, true, false, false] := namesOk_of rfl rfl (fun _ => rfl) sc__law_due.nd nm__law_due
  exact (fb_cons (fs_set N 4 (fe_lst fc_nil))
    (fb_cons (fs_set N 5 (fe_call ⟨d__law_rows⟩ (C.hr.mono (by decide)) C.tk (by rfl) (fc_x (fe_v N 1) (fc_x (fe_v N 2) (fc_x (fe_v N 3) fc_nil)))))
    (fb_cons (fs_for [6, 7, 8, 9, 10] C (FI.fj (fi_it (fe_v N 0))) (fg_n N 6) (fb_one (fs_for [7, 8, 9, 10] C (FI.fj (fi_it (fe_v N 0))) (fg_n N 7) (fb_cons (fs_set N 8 fe_bl)
    (fb_cons (fs_for [9, 10] C (FI.fj (fi_it (fe_v N 5))) (fg_n N 9) (fb_cons (fs_set N 10 (fe_bo bo_add (fa_x (fe_bo bo_add (fa_x (fe_lst (fc_x (fe_v N 6) fc_nil))) (fa_x (fe_lc C N.nd (FI.fj (fi_rng1 ⟨by rfl, z_range⟩ (fl_cons (fa_x (fe_cb cb_len ⟨by rfl, z_len⟩ (by decide +kernel) (fl_cons (fa_x (fe_v N 3)) fl_nil))) fl_nil))) (blkOk_of (N := N__law_due) (sc := (defScope s__law_due)) (own := [("_law_place", 11)]) rfl rfl (by decide +kernel)) (fun s0 H0 C0 cl0 fp0 => (namesOk_blk (N := N__law_due) (sc := (defScope s__law_due)) rfl rfl (M := [false, false, false, true, false, false, false, false, false, true, false, true, false]) (L := [false, false, false, false, false, false, false, false, false, false, false, true, false]) sc__law_due.nd (by decide +kernel))) (fun s0 H0 C0 cl0 fp0 NB => (fg_n NB 11)) (fun s0 H0 C0 cl0 fp0 NB => fts_nil) (fun s0 H0 C0 cl0 fp0 NB => (fe_bo bo_add (fa_x (fe_ix C.hu (fa_x (fe_v NB 3)) (fa_x (fe_v NB 11)))) (fa_x (fe_ix C.hu (fa_x (fe_v NB 9)) (fa_x (fe_v NB 11)))))))))) (fa_x (fe_lst (fc_x (fe_v N 7) fc_nil)))))
    (fb_one (fs_set N 8 (fe_or (fe_v N 8) (fe_one (fe_cb (cb_all C.calm) ⟨by rfl, z_all⟩ (by decide +kernel) (fl_cons (fa_x (fe_lc C N.nd (FI.fj (fi_rng1 ⟨by rfl, z_range⟩ (fl_cons (fa_x (fe_bo bo_sub (fa_x (fe_cb cb_len ⟨by rfl, z_len⟩ (by decide +kernel) (fl_cons (fa_x (fe_v N 10)) fl_nil))) (fa_x fe_int))) fl_nil))) (blkOk_of (N := N__law_due) (sc := (defScope s__law_due)) (own := [("_law_at", 12)]) rfl rfl (by decide +kernel)) (fun s0 H0 C0 cl0 fp0 => (namesOk_blk (N := N__law_due) (sc := (defScope s__law_due)) rfl rfl (M := [false, true, false, false, false, false, false, false, false, false, true, false, true]) (L := [false, false, false, false, false, false, false, false, false, false, false, false, true]) sc__law_due.nd (by decide +kernel))) (fun s0 H0 C0 cl0 fp0 NB => (fg_n NB 12)) (fun s0 H0 C0 cl0 fp0 NB => fts_nil) (fun s0 H0 C0 cl0 fp0 NB => (fe_co (co_inX C.hu C.hu65) (fa_x (fe_bo bo_add (fa_x (fe_ix C.hu (fa_x (fe_v NB 10)) (fa_x (fe_v NB 12)))) (fa_x (fe_ix C.hu (fa_x (fe_v NB 10)) (fa_x (fe_bo bo_add (fa_x (fe_v NB 12)) (fa_x fe_int))))))) (fa_x (fe_v NB 1)))))) fl_nil))))))))
    (fb_one (fs_if (ft_e (fe_v N 8)) (fb_one (fs_expr (fe_mu N 4 PySem.F.slot_list_append PySem.F.type_list_append mu_app (fc_x (fe_bo bo_add (fa_x (fe_v N 6)) (fa_x (fe_v N 7))) fc_nil)))) fb_nil)))))))
    (fb_one (fs_ret (fe_ct (cb_tupleX C.calm) ⟨by rfl, z_tuple⟩ (by decide +kernel) (fl_cons (fa_r N 4) fl_nil)))))))
abbrev s__law_is_refused : Stmt := topS 39
abbrev N__law_is_refused : List Str := ["_law_wish", "_law_thing", "_law_refused", "e"]
abbrev P__law_is_refused : List Str := ["_law_wish", "_law_thing"]
noncomputable def F__law_is_refused : GF := fnF [false, false] 2 (ySeq (ySet 2 (xC (.bl false)))
    (ySeq (yTryAs 3 (fun c => ([("NearError", false), ("NoWord", true), ("NoWish", false)] : List (Str × Bool)).lookup c) (yX (xCall [false, false] F_table (cX (xV 0) (cX (xV 1) cNil)))) (fun c fs => (ySet 2 (xEx [("NearError", true), ("NoWord", true), ("NoWish", true)] c fs))))
    (yRet (xV 2))))
theorem sc__law_is_refused : FnScope N__law_is_refused P__law_is_refused (defScope s__law_is_refused) := ⟨rfl, rfl, rfl, by decide +kernel, rfl, by decide +kernel, by decide +kernel⟩
theorem nm__law_is_refused : nmB (defScope s__law_is_refused) (fun _ => true) N__law_is_refused [true, true, true, true] [true, true, true, true] = true := by decide +kernel
theorem ok__law_is_refused {P : Program} {w : World} {K : PySem.W.Frag} {mg : Str → Option Value} {base : Heap} (z_isinstance : mg "isinstance" = none) (g_NoWord : ∃ C, mg "NoWord" = some (.ref C)) (m_NoWord : MtK K mg "NoWord" [("NearError", false), ("NoWord", true), ("NoWish", false)]) (i_NearError : IsK K mg "NearError" [("NearError", true), ("NoWord", true), ("NoWish", true)]) (d_table : DF P w K mg base 3 "table" P_table [false, false] F_table) : ∀ {f : Addr} {fd : FuncData}, Fun K "_law_is_refused" "_law_is_refused" s__law_is_refused f fd → FnOk P w K mg base (L2.CX P w) 4 f fd P__law_is_refused (spF K mg [false, false] F__law_is_refused) := by
  intro f fd Fn
  refine ok_def Fn sc__law_is_refused rfl rfl (fun cdv A outer s H vs E hr => ?_)
  have C : Cok (cxOf (L2.CX P w) P w K mg base N__law_is_refused "_law_is_refused" (defScope s__law_is_refused) f cdv A outer s H E) (fun cls od _ H' => E cls od H') 3 := ⟨rfl, takes_of rfl rfl rfl rfl, passes_of rfl, hr⟩
  have N : NamesOk (cxOf (L2.CX P w) P w K mg base N__law_is_refused "_law_is_refused" (defScope s__law_is_refused) f cdv A outer s H E) [true, true, true, true] [true, true, true, true] := namesOk_of rfl rfl (fun _ => rfl) sc__law_is_refused.nd nm__law_is_refused
  obtain ⟨C_NoWord, g_NoWord⟩ := g_NoWord
  exact (fb_cons (fs_set N 2 fe_bl)
    (fb_cons (fs_tryAs N 3 C rfl rfl ⟨by rfl, by decide, .inl g_NoWord⟩ (MtK.ok (X := cxOf (L2.CX P w) P w K mg base N__law_is_refused "_law_is_refused" (defScope s__law_is_refused) f cdv A outer s H E) m_NoWord g_NoWord) (fun W1 pn xe C => have NT := N.tr (pn := pn) (xe := xe); (fb_one (fs_expr (fe_call ⟨d_table⟩ (C.hr.mono (by decide)) C.tk (by rfl) (fc_x (fe_v NT 0) (fc_x (fe_v NT 1) fc_nil))))))
    (fun c fs Ca a oe od pn σ1 hm1 hg1 hz1 hv1 hs1 hc1 => have NS := N.suite (a := a) (pn := (a, oe) :: pn); (fb_one (fs_set NS 2 (fe_isE NS 3 i_NearError hg1 hz1 hv1 hs1 hc1 ⟨by rfl, z_isinstance⟩ (by rfl))))) rfl)
    (fb_one (fs_ret (fe_v N 2)))))
abbrev s_law : Stmt := topS 40
abbrev N_law : List Str := ["_law_script", "_law_hand_here", "_law_known_here", "_law_cells_here", "_law_wish", "_law_back", "_law_most", "_law_turn", "_law_word_here", "_law_bad", "_law_given", "_law_said", "_law_pairs_here", "_law_told", "_law_letter", "_law_loops", "_law_pair", "_law_cell"]
abbrev P_law : List Str := ["_law_script"]
noncomputable def F_law : GF := fnF [false] 17 (ySeq (ySet 1 (xCall [false] F__law_hand (cX (xV 0) cNil)))
    (ySeq (yAsg (tgT 3 (tgsCons (tgN 10) (tgsCons (tgN 11) (tgsCons (tgN 12) tgsNil)))) (xCall [true] F__law_parts (cO 1 cNil)))
    (ySeq (ySet 2 (xCall [false] F__law_known (cX (xV 12) cNil)))
    (ySeq (ySet 3 (xCall [false, false] F__law_cells (cX (xV 10) (cX (xV 11) cNil))))
    (ySeq (ySet 4 (xMake "Wish" [false, false, false] F_Wish___init__ (cX (xV 10) (cX (xV 11) (cX (xV 12) cNil)))))
    (ySeq (ySet 5 (xMake "Wish" [false, false, false] F_Wish___init__ (cX (xV 10) (cX (xV 11) (cX (xLc [16] (wIt (xV 12)) (tgN 16) xYes (xB gAdd (aX (xSl (aX (xV 16)) (pS (xC (.int 2))) pN)) (aX (xSl (aX (xV 16)) pN (pS (xC (.int 2))))))) cNil)))))
    (ySeq (ySet 6 (xC (.int 4)))
    (ySeq (yIf (xB gGt (aX (xL gLen (lCons (aX (xV 3)) lNil))) (aX (xC (.int 4)))) (ySet 6 (xC (.int 3))) yNil)
    (ySeq (yFor [7, 8, 13, 14, 15] (wR rng1 (lCons (aX (xC (.int 3))) lNil)) (tgN 7) (ySeq (ySet 8 (xCall [true, false, false] F__law_word (cO 1 (cX (xV 10) (cX (xCall [true, false] F__law_draw (cO 1 (cX (xV 6) cNil))) cNil)))))
    (ySeq (ySet 13 (xCall [false, false] F_table (cX (xV 4) (cX (xV 8) cNil))))
    (ySeq (yIf (xOr (xNot (xL gIsi (lCons (aX (xV 13)) (lCons (aX (xC (.ty "tuple"))) lNil)))) (xOr (xB gNe (aX (xV 13)) (aX (xCall [false, false, false, false] F__law_due (cX (xV 3) (cX (xV 2) (cX (xV 11) (cX (xV 8) cNil))))))) (xB gNe (aX (xCall [false, false] F_table (cX (xV 4) (cX (xV 8) cNil)))) (aX (xV 13))))) (yRet (xC (.bl false))) yNil)
    (ySeq (yIf (xB gNe (aX (xL gSorted (lCons (aX (xLc [16] (wIt (xV 13)) (tgN 16) xYes (xB gAdd (aX (xSl (aX (xV 16)) (pS (xC (.int 2))) pN)) (aX (xSl (aX (xV 16)) pN (pS (xC (.int 2)))))))) lNil))) (aX (xL gSorted (lCons (aX (xL gListX (lCons (aX (xCall [false, false] F_table (cX (xV 5) (cX (xU revD (aX (xV 8))) cNil)))) lNil))) lNil)))) (yRet (xC (.bl false))) yNil)
    (yFor [14, 15] (wIt (xV 10)) (tgN 14) (ySeq (ySet 15 (xLc [17] (wIt (xV 3)) (tgN 17) (xAnd (xB gEq (aX (xB ixD (aX (xV 17)) (aX (xC (.int 0))))) (aX (xV 14))) (xB gInX (aX (xB gAdd (aX (xV 17)) (aX (xV 17)))) (aX (xV 13)))) (xV 17)))
    (yIf (xB gNe (aX (xB gIsN (aX (xCall [false, false] F_first_answer (cX (xV 4) (cX (xB gAdd (aX (xV 14)) (aX (xV 8))) cNil)))) (aX (xC .non)))) (aX (xB gEq (aX (xV 15)) (aX (xLst cNil))))) (yRet (xC (.bl false))) yNil))))))))
    (ySeq (yIf (xB gNe (aX (xCall [false, false] F_table (cX (xV 4) (cX (xC (.str "")) cNil)))) (aX (xL gTupleX (lCons (aX (xMeth "Wish" "pairs" [false] F_Wish_pairs (rX (xV 4)) cNil)) lNil)))) (yRet (xC (.bl false))) yNil)
    (ySeq (ySet 8 (xCall [true, false, false] F__law_word (cO 1 (cX (xV 10) (cX (xC (.int 2)) cNil)))))
    (ySeq (ySet 9 (xB ixD (aX (xLst (cX (xB gAdd (aX (xV 8)) (aX (xC (.str "!")))) (cX (xB gAdd (aX (xSm0 (gs0 Txt.upper) (xV 8))) (aX (xC (.str "Q")))) (cX (xLst (cX (xV 8) cNil)) (cX (xTup (cX (xV 8) cNil)) (cX (xC .non) (cX (xC (.int 0)) (cX (xC (.bl true)) (cX (xDsp (dCons (xV 8) (xC (.int 1)) dNil)) (cX (xB gAdd (aX (xV 8)) (aX (xC (.str " ")))) cNil))))))))))) (aX (xCall [true, false] F__law_draw (cO 1 (cX (xC (.int 9)) cNil))))))
    (yRet (xCall [false, false] F__law_is_refused (cX (xV 4) (cX (xV 9) cNil))))))))))))))))
theorem sc_law : FnScope N_law P_law (defScope s_law) := ⟨rfl, rfl, rfl, by decide +kernel, rfl, by decide +kernel, by decide +kernel⟩
theorem nm_law : nmB (defScope s_law) (fun _ => true) N_law [true, true, true, true, true, true, true, true, true, true, true, true, true, true, true, true, false, false] [true, true, true, true, true, true, true, true, true, true, true, true, true, true, true, true, false, false] = true := by decide +kernel
theorem ok_law {P : Program} {w : World} {K : PySem.W.Frag} {mg : Str → Option Value} {base : Heap} (z_isinstance : mg "isinstance" = none) (z_len : mg "len" = none) (z_list : mg "list" = none) (z_range : mg "range" = none) (z_sorted : mg "sorted" = none) (z_tuple : mg "tuple" = none) (d__law_cells : DF P w K mg base 1 "_law_cells" P__law_cells [false, false] F__law_cells) (d__law_draw : DF P w K mg base 1 "_law_draw" P__law_draw [true, false] F__law_draw) (d__law_due : DF P w K mg base 2 "_law_due" P__law_due [false, false, false, false] F__law_due) (d__law_hand : DF P w K mg base 1 "_law_hand" P__law_hand [false] F__law_hand) (d__law_is_refused : DF P w K mg base 4 "_law_is_refused" P__law_is_refused [false, false] F__law_is_refused) (d__law_known : DF P w K mg base 1 "_law_known" P__law_known [false] F__law_known) (d__law_parts : DF P w K mg base 3 "_law_parts" P__law_parts [true] F__law_parts) (d__law_word : DF P w K mg base 2 "_law_word" P__law_word [true, false, false] F__law_word) (d_first_answer : DF P w K mg base 4 "first_answer" P_first_answer [false, false] F_first_answer) (d_table : DF P w K mg base 3 "table" P_table [false, false] F_table) (m_Wish : MF P w K mg base 3 "Wish" P_Wish___init__ [false, false, false] F_Wish___init__) (t_Wish_pairs : TF P w K mg base 1 "Wish" "pairs" P_Wish_pairs [false] F_Wish_pairs) : ∀ {f : Addr} {fd : FuncData}, Fun K "law" "law" s_law f fd → FnOk P w K mg base (L2.CX P w) 5 f fd P_law (spF K mg [false] F_law) := by
  intro f fd Fn
  refine ok_def Fn sc_law rfl rfl (fun cdv A outer s H vs E hr => ?_)
  have C : Cok (cxOf (L2.CX P w) P w K mg base N_law "law" (defScope s_law) f cdv A outer s H E) (fun cls od _ H' => E cls od H') 4 := ⟨rfl, takes_of rfl rfl rfl rfl, passes_of rfl, hr⟩
  have N : NamesOk (cxOf (L2.CX P w) P w K mg base N_law "law" (defScope s_law) f cdv A outer s H E) [true, true, true, true, true, true, true, true, true, true, true, true, true, true, true, true, false, false] [true, true, true, true, true, true, true, true, true, true, true, true, true, true, true, true, false, false] := namesOk_of rfl rfl (fun _ => rfl) sc_law.nd nm_law
  exact (fb_cons (fs_set N 1 (fe_call ⟨d__law_hand⟩ (C.hr.mono (by decide)) C.tk (by rfl) (fc_x (fe_v N 0) fc_nil)))
    (fb_cons (fs_asg (fe_call ⟨d__law_parts⟩ (C.hr.mono (by decide)) C.tk (by rfl) (fc_o N 1 fc_nil)) (fg_t rfl (fgs_cons (fg_n N 10) (fgs_cons (fg_n N 11) (fgs_cons (fg_n N 12) fgs_nil)))))
    (fb_cons (fs_set N 2 (fe_call ⟨d__law_known⟩ (C.hr.mono (by decide)) C.tk (by rfl) (fc_x (fe_v N 12) fc_nil)))
    (fb_cons (fs_set N 3 (fe_call ⟨d__law_cells⟩ (C.hr.mono (by decide)) C.tk (by rfl) (fc_x (fe_v N 10) (fc_x (fe_v N 11) fc_nil))))
    (fb_cons (fs_set N 4 (fe_make (k := 3) (c := "Wish") ⟨m_Wish⟩ (C.hr.mono (by decide)) C.tk (by rfl) (fc_x (fe_v N 10) (fc_x (fe_v N 11) (fc_x (fe_v N 12) fc_nil)))))
    (fb_cons (fs_set N 5 (fe_make (k := 3) (c := "Wish") ⟨m_Wish⟩ (C.hr.mono (by decide)) C.tk (by rfl) (fc_x (fe_v N 10) (fc_x (fe_v N 11) (fc_x (fe_lc C N.nd (FI.fj (fi_it (fe_v N 12))) (blkOk_of (N := N_law) (sc := (defScope s_law)) (own := [("_law_pair", 16)]) rfl rfl (by decide +kernel)) (fun s0 H0 C0 cl0 fp0 => (namesOk_blk (N := N_law) (sc := (defScope s_law)) rfl rfl (M := [false, false, false, false, false, false, false, false, false, false, false, false, false, false, false, false, true, false]) (L := [false, false, false, false, false, false, false, false, false, false, false, false, false, false, false, false, true, false]) sc_law.nd (by decide +kernel))) (fun s0 H0 C0 cl0 fp0 NB => (fg_n NB 16)) (fun s0 H0 C0 cl0 fp0 NB => fts_nil) (fun s0 H0 C0 cl0 fp0 NB => (fe_bo bo_add (fa_x (fe_sl (fa_x (fe_v NB 16)) (fp_s fe_int) fp_n)) (fa_x (fe_sl (fa_x (fe_v NB 16)) fp_n (fp_s fe_int)))))) fc_nil)))))
    (fb_cons (fs_set N 6 fe_int)
    (fb_cons (fs_if (ft_co co_gt (fa_x (fe_cb cb_len ⟨by rfl, z_len⟩ (by decide +kernel) (fl_cons (fa_x (fe_v N 3)) fl_nil))) (fa_x fe_int)) (fb_one (fs_set N 6 fe_int)) fb_nil)
    (fb_cons (fs_for [7, 8, 13, 14, 15] C (FI.fj (fi_rng1 ⟨by rfl, z_range⟩ (fl_cons (fa_x fe_int) fl_nil))) (fg_n N 7) (fb_cons (fs_set N 8 (fe_call ⟨d__law_word⟩ (C.hr.mono (by decide)) C.tk (by rfl) (fc_o N 1 (fc_x (fe_v N 10) (fc_x (fe_call ⟨d__law_draw⟩ (C.hr.mono (by decide)) C.tk (by rfl) (fc_o N 1 (fc_x (fe_v N 6) fc_nil))) fc_nil)))))
    (fb_cons (fs_set N 13 (fe_call ⟨d_table⟩ (C.hr.mono (by decide)) C.tk (by rfl) (fc_x (fe_v N 4) (fc_x (fe_v N 8) fc_nil))))
    (fb_cons (fs_if (ft_w (fw_or (ft_not (ft_e (fe_cb cb_isi ⟨by rfl, z_isinstance⟩ (by decide +kernel) (fl_cons (fa_x (fe_v N 13)) (fl_cons (fa_x (fe_ty ⟨by rfl, z_tuple⟩ (by decide +kernel))) fl_nil))))) (fw_or (ft_co (co_ne C.hu64) (fa_x (fe_v N 13)) (fa_x (fe_call ⟨d__law_due⟩ (C.hr.mono (by decide)) C.tk (by rfl) (fc_x (fe_v N 3) (fc_x (fe_v N 2) (fc_x (fe_v N 11) (fc_x (fe_v N 8) fc_nil))))))) (fw_or1 (ft_co (co_ne C.hu64) (fa_x (fe_call ⟨d_table⟩ (C.hr.mono (by decide)) C.tk (by rfl) (fc_x (fe_v N 4) (fc_x (fe_v N 8) fc_nil)))) (fa_x (fe_v N 13))))))) (fb_one (fs_ret fe_bl)) fb_nil)
    (fb_cons (fs_if (ft_co (co_ne C.hu64) (fa_x (fe_cb (cb_sorted C.hu65) ⟨by rfl, z_sorted⟩ (by decide +kernel) (fl_cons (fa_x (fe_lc C N.nd (FI.fj (fi_it (fe_v N 13))) (blkOk_of (N := N_law) (sc := (defScope s_law)) (own := [("_law_pair", 16)]) rfl rfl (by decide +kernel)) (fun s0 H0 C0 cl0 fp0 => (namesOk_blk (N := N_law) (sc := (defScope s_law)) rfl rfl (M := [false, false, false, false, false, false, false, false, false, false, false, false, false, false, false, false, true, false]) (L := [false, false, false, false, false, false, false, false, false, false, false, false, false, false, false, false, true, false]) sc_law.nd (by decide +kernel))) (fun s0 H0 C0 cl0 fp0 NB => (fg_n NB 16)) (fun s0 H0 C0 cl0 fp0 NB => fts_nil) (fun s0 H0 C0 cl0 fp0 NB => (fe_bo bo_add (fa_x (fe_sl (fa_x (fe_v NB 16)) (fp_s fe_int) fp_n)) (fa_x (fe_sl (fa_x (fe_v NB 16)) fp_n (fp_s fe_int))))))) fl_nil))) (fa_x (fe_cb (cb_sorted C.hu65) ⟨by rfl, z_sorted⟩ (by decide +kernel) (fl_cons (fa_x (fe_ct (cb_listX C.calm) ⟨by rfl, z_list⟩ (by decide +kernel) (fl_cons (fa_x (fe_call ⟨d_table⟩ (C.hr.mono (by decide)) C.tk (by rfl) (fc_x (fe_v N 5) (fc_x (fe_rev (fa_x (fe_v N 8))) fc_nil)))) fl_nil))) fl_nil)))) (fb_one (fs_ret fe_bl)) fb_nil)
    (fb_one (fs_for [14, 15] C (FI.fj (fi_it (fe_v N 10))) (fg_n N 14) (fb_cons (fs_setLc N 15 C (FI.fj (fi_it (fe_v N 3))) (blkOk_of (N := N_law) (sc := (defScope s_law)) (own := [("_law_cell", 17)]) rfl rfl (by decide +kernel)) (fun s0 H0 C0 cl0 fp0 => (namesOk_blk (N := N_law) (sc := (defScope s_law)) rfl rfl (M := [false, false, false, false, false, false, false, false, false, false, false, false, false, true, true, false, false, true]) (L := [false, false, false, false, false, false, false, false, false, false, false, false, false, false, false, false, false, true]) sc_law.nd (by decide +kernel))) (fun s0 H0 C0 cl0 fp0 NB => (fg_n NB 17)) (fun s0 H0 C0 cl0 fp0 NB => (fts_one (ft_w (fw_and (ft_co (co_eq C.hu64) (fa_x (fe_ix C.hu (fa_x (fe_v NB 17)) (fa_x fe_int))) (fa_x (fe_v NB 14))) (fw_and1 (ft_co (co_inX C.hu C.hu65) (fa_x (fe_bo bo_add (fa_x (fe_v NB 17)) (fa_x (fe_v NB 17)))) (fa_x (fe_v NB 13)))))))) (fun s0 H0 C0 cl0 fp0 NB => (fe_v NB 17)) (loc_of (sc := defScope s_law) rfl (by decide +kernel)) (sw_true rfl (loc_of (sc := defScope s_law) rfl (by decide +kernel)) rfl (by decide +kernel)))
    (fb_one (fs_if (ft_co (co_ne C.hu64) (fa_x (fe_co co_isN (fa_x (fe_call ⟨d_first_answer⟩ (C.hr.mono (by decide)) C.tk (by rfl) (fc_x (fe_v N 4) (fc_x (fe_bo bo_add (fa_x (fe_v N 14)) (fa_x (fe_v N 8))) fc_nil)))) (fa_x fe_non))) (fa_x (fe_co (co_eq C.hu64) (fa_x (fe_v N 15)) (fa_x (fe_lst fc_nil))))) (fb_one (fs_ret fe_bl)) fb_nil))))))))))
    (fb_cons (fs_if (ft_co (co_ne C.hu64) (fa_x (fe_call ⟨d_table⟩ (C.hr.mono (by decide)) C.tk (by rfl) (fc_x (fe_v N 4) (fc_x fe_str fc_nil)))) (fa_x (fe_ct (cb_tupleX C.calm) ⟨by rfl, z_tuple⟩ (by decide +kernel) (fl_cons (fa_x (fe_meth0 ⟨t_Wish_pairs⟩ (C.hr.mono (by decide)) C.tk (fr_x (fe_v N 4)))) fl_nil)))) (fb_one (fs_ret fe_bl)) fb_nil)
    (fb_cons (fs_set N 8 (fe_call ⟨d__law_word⟩ (C.hr.mono (by decide)) C.tk (by rfl) (fc_o N 1 (fc_x (fe_v N 10) (fc_x fe_int fc_nil)))))
    (fb_cons (fs_set N 9 (fe_ix C.hu (fa_x (fe_lst (fc_x (fe_bo bo_add (fa_x (fe_v N 8)) (fa_x fe_str)) (fc_x (fe_bo bo_add (fa_x (fe_sm0 PySem.F.slot_str_upper PySem.F.type_str_upper sm_upper (fe_v N 8))) (fa_x fe_str)) (fc_x (fe_lst (fc_x (fe_v N 8) fc_nil)) (fc_x (fe_tup (fc_x (fe_v N 8) fc_nil)) (fc_x fe_non (fc_x fe_int (fc_x fe_bl (fc_x (fe_dsp (fd_cons (fe_v N 8) fe_int fd_nil) rfl rfl (by decide) (dCons_len (fun _ _ _ h => dNil_len h))) (fc_x (fe_bo bo_add (fa_x (fe_v N 8)) (fa_x fe_str)) fc_nil))))))))))) (fa_x (fe_call ⟨d__law_draw⟩ (C.hr.mono (by decide)) C.tk (by rfl) (fc_o N 1 (fc_x fe_int fc_nil))))))
    (fb_one (fs_ret (fe_call ⟨d__law_is_refused⟩ (C.hr.mono (by decide)) C.tk (by rfl) (fc_x (fe_v N 4) (fc_x (fe_v N 9) fc_nil)))))))))))))))))
local macro_rules | `(tactic| walk_at "ev") => `(tactic| simp only [ev_fnF, ev_nil, ev_bk, ev_ct, ev_seq, ev_x, ev_ret, ev_retN, ev_set, ev_if, ev_aug, ev_raise, ev_c, ev_v, ev_m, ev_f, ev_ax, ev_rd, ev_ar, rd_at, ev_b, ev_u, ev_l, ev_lnil, ev_lcons, ev_th0, ev_th1, co1_some, cst_at, ev_not, ev_and, ev_or, ev_ife, ev_call, ev_cnil, ev_cx, ev_co, ars0, ars1, ars2, slots0, slots1, slots2, arsB_eq, arg0, arg1, arg2, coE_some, sla_ow, endC_rt, endC_nx, endC_exc, back0, back1, back2, keepO0, keepO1, keepO2, ev_lst, ev_tup, ds0, ds1, coD_some, fOwL_eq, fFzT_eq, kDs_ok, ev_for, ev_wr, ev_wi, ev_asg, kAsg2_some, tgN_at, tgT_at, tgs0, tgs1, ev_si, ev_sl, ev_pn, ev_ps, ev_lc, ev_yes, ev_mu, isOL_ow, ev_try, kTry2_t, kTry2_f, endT_ok, ev_ex, kEx_some, kSeq_nx, kSeq_rt, kSeq_bk, kSeq_ct, kSeq_exc, kFin_ok, kFin_exc, kX_ok, kX_exc, kRet_ok, kRet_exc, kSet_ok, kSet_exc, kIf_t, kIf_f, kIf_exc, kIfx_t, kIfx_f, kIfx_exc, kAnd_t, kAnd_f, kAnd_exc, kOr_t, kOr_f, kOr_exc, kNot_ok, kNot_exc, kF_fz, kF_ow, kF_exc, kA_fz, kA_ow, kA_exc, slDp_fz, slDp_ow, kR_fz, kR_ow, kV_fz, kV_ow, kM_fz, kM_ow, ap2_some, ap1_some, apL_some, ofO_some_, kB2_ok, kB2_exc, kB1_ok, kB1_exc, kU_ok, kU_exc, kL_ok, kL_exc, kLc2_ok, kLc2_exc, kLc1_ok, kLc1_exc, kCc2_ok, kCc2_exc, kCc1_fz, kCc1_ow, kCc1_exc, kCo_ow, kCall_ok, kCall_exc, kArg_ok, kLst_ok, kLst_exc, kW_ok, kW_exc, apW_some, ofW_some, kWR_ok, kWR_exc, kWI_fz, kWI_ow, kWI_exc, kAsg_fz, kAsg_ow, kAsg_exc, kSI1_fz, kSI1_ow, kSI1_exc, kSI1b_some, kSI2_fz, kSI2_exc, kSI3_ow, kSI4_some, kP_int, kP_exc, kSl3_ok, kSl2_ok, kSl1_ok, kLC_ok, kLC_exc, kLC2_ok, kMu_t, kMu2_ok, kMu2_exc, kMu3_some, kMu4_ow, kMu5_some, kTry_ok, kTry_exc, forget0, forget1, Ret_ok, Nx_nx, Nx_ct, gAdd_ii, gAddI_ii, gSub_ii, gMul_ii, gDiv_ii, gMod_ii, gPow_ii, gLt_ii, gLe_ii, gGt_ii, gGe_ii, gEq_ii, gNe_ii, gEq_ss, gNe_ss, gEq_bb, gNeg_i, gLen_l, gLen_t, gLen_s, gAbs_i, gInt_i, gMax2_i, gMin2_i, gList_l, gList_t, gTuple_l, gTuple_t, gBits_i, ixD_l, ixD_t, rng1_i, rng2_i, items_l, items_t, slD_l, slD_r, setD_l, isi_int_int, isi_bool_int, isi_str_int, isi_list_int, isi_tuple_int, isi_NoneType_int, isi_int_bool, isi_bool_bool, isi_str_bool, isi_list_bool, isi_tuple_bool, isi_NoneType_bool, isi_int_str, isi_bool_str, isi_str_str, isi_list_str, isi_tuple_str, isi_NoneType_str, isi_int_list, isi_bool_list, isi_str_list, isi_list_list, isi_tuple_list, isi_NoneType_list, isi_int_tuple, isi_bool_tuple, isi_str_tuple, isi_list_tuple, isi_tuple_tuple, isi_NoneType_tuple, isi_int_dict, isi_bool_dict, isi_str_dict, isi_list_dict, isi_tuple_dict, isi_NoneType_dict, List.getElem?_cons_zero, List.getElem?_cons_succ, List.getElem?_nil, List.set_cons_zero, List.set_cons_succ, List.set_nil, Option.getD_some, Option.getD_none, Option.bind_some, Option.map_some, List.cons_append, List.nil_append, List.append_nil, List.replicate_succ, List.replicate_zero, Bool.true_and, Bool.and_true, Bool.not_true, Bool.not_false, List.length_cons, List.length_nil, List.length_map, decide_true, decide_false, List.headD_cons, List.tail_cons, atI_nn, ixN_nn, Int.reduceLE, and_self, and_true, true_and, nod0, nod1, nod2, ne_eq, eq_self, decide_true, Nat.reduceEqDiff, not_false_eq_true, Int.reducePow, Int.reduceLT, Int.reduceToNat, Nat.reduceLeDiff, Nat.reduceLT, Nat.reduceAdd, Nat.reduceMul, Int.reduceAdd, Int.reduceSub, Int.reduceMul, Int.reducePow, Int.reduceNeg, Int.reduceEq, Int.reduceNe, ev_vw, ev_vwy, ev_vww, kVw_dp, kVwY_dp, kVwW_dp, kVwE_ok, kVwE_exc, kVwEY_ok, kVwEY_exc, kVwEW_ok, ev_lf, flat_lf, flat_ls, ev_fl, kFl_exc, ev_fset, kFsE_ok, ev_make, kMake_ok, kMake_exc, kMkA_ok, endMake_dp, endMake_fz, endMake_exc, ev_rx, kRx_fz, kRx_exc, ev_ro, kRo_dp, ev_meth, kMth_ok, kMth_exc, kMthB_t, kMth2_ok, kMth2_exc, ev_lset, kLsE_ok, kLset_s, ev_tryM, kTM_ok, kTM_exc, kMany_nil, kMany_cons, kMn_t, kMn_f, kMnE_ok, ev_ho, ev_hoY, hOf_ow, hOf_fz, kHo1_some, kHoY1_some, kHo_ok, kHo_exc, kHoY_ok, kHoY_exc, wH_ls, wH_lf, ev_dsp, kDsp_ok, ev_dnil, ev_dcons, kD0_fz, kD1_some, kD2_fz, kD3_ok, keyOf_i, keyOf_s, ev_dc, kDC_ok, kDCE_ok, ev_dct, kDT_ok, kDTE_ok, ev_en, kEn_ok, kEn2_l, ev_sm0, ev_sm1, kSm0_s, kSm1_s, kSm2_fz, gs1_s, gs0_s, ev_ch, kC1_ok, kC2_ok, kCh1_t, kCh1_f, kCh2_ok, isi_dict_int, isi_dict_bool, isi_dict_str, isi_dict_list, isi_dict_tuple, isi_dict_dict, items_s, gListX_l, gListX_t, gListX_s, gTupleX_l, gTupleX_t, gTupleX_s, gAdd_s, gAddI_s, gInX_s, gNotInX_s, gInX_d, gNotInX_d, ixD_d, gLen_tx, gEq_tx, gNe_tx, tx_size, tx_length, tx_one, w_given, w_said, w_cells, w_index, w_places, w_bits, w_known, w_pairs, w_rows, ch_tx, ev_lc2, kL2_ok, items_s, ixD_s, in_kn, notIn_kn, gEq_l2b, gInt_b, setD_d, ev_dic0, Int.cast_ofNat_Int, gEq_nat, gNe_nat, gEq_nat0, in_2s_bl, gNe_bb, beq_self_eq_true, ev_zip, kZp_ok, kZp1_ok, kZp2_ok, kDi_ok, revD_l, gNotN_s, gIsN_s, gNotN_t, gIsN_t, gNotN_n, gIsN_n, gNotN_i, gIsN_i, ev_di, gIsB_b, gNotB_b, ev_lix, kLix_ok, kLix1_ok, kLix2_ok, gMulX_i, gMulX_l, kCo_dp, kV_dp, sla_dp])
def wN6 : List Str := ["kept_given", "kept_said", "kept_cells", "kept_index", "kept_places", "kept_bits"]
def wN9 : List Str := ["kept_given", "kept_said", "kept_cells", "kept_index", "kept_places", "kept_bits", "kept_known", "kept_pairs", "kept_rows"]
def wPl (gs : List Nat) (cs : List (List Nat)) (n : Nat) : T := .nd (.dc (gs.map fun a => sK [a])) (gs.map fun a => .nd .ls (((plc cs n a).map fun i => D.int (i : Nat)).map .lf))
def wBt (n : Nat) : T := .nd .ls (((List.range n).map fun i => D.int (2 ^ i)).map .lf)
theorem wPl_step {gs : List Nat} {cs : List (List Nat)} {n a : Nat} (hg : gs.Nodup) (ha : a ∈ gs) (hc : (cs.getD n []).headD 0 = a) :
    (gs.map fun a => T.nd .ls (((plc cs n a).map fun i => D.int (i : Nat)).map .lf)).set (gs.idxOf a) (.nd .ls (((plc cs n a).map fun i => D.int (i : Nat)) ++ [D.int (n : Nat)] |>.map .lf)) = gs.map fun a => T.nd .ls (((plc cs (n + 1) a).map fun i => D.int (i : Nat)).map .lf) := by
  have := map_set_idx (F := fun a => T.nd .ls (((plc cs n a).map fun i => D.int (i : Nat)).map .lf)) (F' := fun a => T.nd .ls (((plc cs (n + 1) a).map fun i => D.int (i : Nat)).map .lf)) hg ha (fun x hx hne => by
    show T.nd .ls _ = T.nd .ls _
    rw [plc_succ, if_neg (by rw [hc]; simpa using fun e => hne e.symm)])
  rw [← this]
  congr 1
  rw [plc_succ, if_pos (by rw [hc]; simp)]
  simp only [List.map_append, List.map_cons, List.map_nil]
theorem flat_bt {n : Nat} {ρ : En} : aFlat (some (wBt n)) ρ = .ok (cst (btD n)) ρ := flat_ls
def wTB (gs ss : List Nat) (ps : List (List Nat)) (n : Nat) : T := .nd (.is "Wish" wN9) [.lf (sD gs), .lf (sD ss), .lf (.lst ((cel gs ss).map sD)), .lf (ixDc (cel gs ss)), wPl gs (cel gs ss) (cel gs ss).length, wBt (cel gs ss).length, .lf (knD ps),
  .nd .ls (((prs (cel gs ss) ps ((cel gs ss).take n)).map sD).map .lf), .nd .ls ((((cel gs ss).take n).map fun c => D.int (rowI (cel gs ss) ps c)).map .lf)]
section
variable {gs ss : List Nat} {ps : List (List Nat)} {n : Nat} {ρ : En}
theorem wb_cells : T.fld "Wish" "kept_cells" (wTB gs ss ps n) = some (.lf (.lst ((cel gs ss).map sD))) := fld_at 2 (by decide +kernel)
theorem wb_index : T.fld "Wish" "kept_index" (wTB gs ss ps n) = some (.lf (ixDc (cel gs ss))) := fld_at 3 (by decide +kernel)
theorem wb_bits : T.fld "Wish" "kept_bits" (wTB gs ss ps n) = some (wBt (cel gs ss).length) := fld_at 5 (by decide +kernel)
theorem wb_known : T.fld "Wish" "kept_known" (wTB gs ss ps n) = some (.lf (knD ps)) := fld_at 6 (by decide +kernel)
theorem wb_p7 : plF "Wish" "kept_pairs" (wTB gs ss ps n) ρ = .ok [7] ρ := plF_at 7 (by decide +kernel) rfl
theorem wb_p8 : plF "Wish" "kept_rows" (wTB gs ss ps n) ρ = .ok [8] ρ := plF_at 8 (by decide +kernel) rfl
end
def wTC (gs ss : List Nat) (ps : List (List Nat)) (n : Nat) : T := .nd (.is "Wish" wN9) [.lf (sD gs), .lf (sD ss), .lf (.lst ((cel gs ss).map sD)), .lf (ixDc (cel gs ss)), wPl gs (cel gs ss) (cel gs ss).length, wBt (cel gs ss).length, .lf (knD ps),
  .nd .ls (((prs (cel gs ss) ps ((cel gs ss).take (n + 1))).map sD).map .lf), .nd .ls ((((cel gs ss).take n).map fun c => D.int (rowI (cel gs ss) ps c)).map .lf)]
section
variable {gs ss : List Nat} {ps : List (List Nat)} {n : Nat} {ρ : En}
theorem wc_index : T.fld "Wish" "kept_index" (wTC gs ss ps n) = some (.lf (ixDc (cel gs ss))) := fld_at 3 (by decide +kernel)
theorem wc_bits : T.fld "Wish" "kept_bits" (wTC gs ss ps n) = some (wBt (cel gs ss).length) := fld_at 5 (by decide +kernel)
theorem wc_p8 : plF "Wish" "kept_rows" (wTC gs ss ps n) ρ = .ok [8] ρ := plF_at 8 (by decide +kernel) rfl
end
theorem keep_spec {gs ss : List Nat} {ps : List (List Nat)} (hg : gs.Nodup) (hs : ss.Nodup) (hp : ps.Nodup) (lg : gs.length ≤ 26) (ls : ss.length ≤ 26) (lp : ps.length ≤ 1000000) :
    ∃ t, F_Wish_keep [.dp (.nd (.is "Wish" []) []), .fz (sD gs), .fz (sD ss), .fz (.lst (ps.map sD))] = .ok .nx [.dp t, .no, .no, .no] ∧ t.strip = wishD gs ss ps := by
  have lc : (cel gs ss).length ≤ 676 := by
    rw [cel_length]
    exact Nat.le_trans (Nat.mul_le_mul lg ls) (by decide)
  have nc := cel_nodup hg hs
  have hcs : ∀ c ∈ cel gs ss, ∃ a b, a ∈ gs ∧ b ∈ ss ∧ c = [a, b] := fun c h => mem_cel.1 h
  have i1 : ixStr ([] : List Str) "kept_given" = none := by decide +kernel
  have i2 : ixStr ["kept_given"] "kept_said" = none := by decide +kernel
  have i3 : ixStr ["kept_given", "kept_said"] "kept_cells" = none := by decide +kernel
  have i4 : ixStr ["kept_given", "kept_said", "kept_cells"] "kept_index" = none := by decide +kernel
  have i5 : ixStr ["kept_given", "kept_said", "kept_cells", "kept_index"] "kept_places" = none := by decide +kernel
  have i6 : ixStr ["kept_given", "kept_said", "kept_cells", "kept_index", "kept_places"] "kept_bits" = none := by decide +kernel
  have i7 : ixStr ["kept_given", "kept_said", "kept_cells", "kept_index", "kept_places", "kept_bits"] "kept_known" = none := by decide +kernel
  have i8 : ixStr ["kept_given", "kept_said", "kept_cells", "kept_index", "kept_places", "kept_bits", "kept_known"] "kept_pairs" = none := by decide +kernel
  have i9 : ixStr ["kept_given", "kept_said", "kept_cells", "kept_index", "kept_places", "kept_bits", "kept_known", "kept_pairs"] "kept_rows" = none := by decide +kernel
  have i10 : ixStr ["kept_given", "kept_said", "kept_cells", "kept_index", "kept_places", "kept_bits", "kept_known", "kept_pairs", "kept_rows"] "kept_closure" = none := by decide +kernel
  have j3 : ixStr ["kept_given", "kept_said", "kept_cells"] "kept_cells" = some 2 := by decide +kernel
  have j6c : ixStr ["kept_given", "kept_said", "kept_cells", "kept_index", "kept_places", "kept_bits"] "kept_cells" = some 2 := by decide +kernel
  have j6p : ixStr ["kept_given", "kept_said", "kept_cells", "kept_index", "kept_places", "kept_bits"] "kept_places" = some 4 := by decide +kernel
  have j6b : ixStr ["kept_given", "kept_said", "kept_cells", "kept_index", "kept_places", "kept_bits"] "kept_bits" = some 5 := by decide +kernel
  unfold F_Wish_keep
  walk_at "ev"
  rw [fset_new (by rfl) i1 (by rfl) (by decide)]
  walk_at "ev"
  rw [fset_new (by rfl) i2 (by rfl) (by decide)]
  walk_at "ev"
  rw [lc2L_all (fun c => D.str (tx [c])) (fun c => D.str (tx [c])) ss (fun a b => sD [a, b]) _ gs [] (by
    rw [List.length_nil, Nat.zero_add]
    exact Nat.le_trans (Nat.mul_le_mul lg ls) (by decide)) fun a ha => ⟨_, _, by rfl, by (walk_at "ev") <;> rfl, by rfl, fun b hb => ⟨_, _, by rfl, by
      walk_at "ev"
      rfl, by rfl⟩⟩]
  walk_at "ev"
  rw [cel_map, fset_new (by rfl) i3 (by rfl) (by decide)]
  walk_at "ev"
  rw [fld_at 2 j3]
  walk_at "ev"
  rw [enD_map, dcL_new (fun p : List Nat × Nat => .tup [.int (p.2 : Nat), sD p.1]) (fun p => sK p.1) (fun p => .int (p.2 : Nat)) _ (cel gs ss).zipIdx [] (by simp; omega) (by
    rw [List.map_nil, List.nil_append]
    have : ((cel gs ss).zipIdx.map fun p => sK p.1) = (cel gs ss).map sK := by
      conv => rhs; rw [← List.zipIdx_map_fst 0 (cel gs ss)]
      rw [List.map_map]
      rfl
    rw [this]
    exact List.Pairwise.map sK (fun a b hne e => hne (sK_inj e)) nc) fun p hp => ⟨_, _, _, _, by rfl, by (walk_at "ev") <;> rfl, by rfl, by (walk_at "ev") <;> rfl, by rfl⟩]
  rw [List.nil_append, zip_ix nc]
  walk_at "ev"
  rw [fset_new (by rfl) i4 (by rfl) (by decide)]
  walk_at "ev"
  rw [dcTL_new (fun c => D.str (tx [c])) (fun a => sK [a]) (.ow (.lst [])) (.nd .ls []) rfl _ gs [] [] (by simp; omega) (by
    rw [List.nil_append]
    exact List.Pairwise.map _ (fun a b hne e => hne (by have := sK_inj e; simpa using this)) hg) fun a ha => ⟨_, _, _, _, by rfl, by (walk_at "ev") <;> rfl, by rfl, by (walk_at "ev") <;> rfl, by rfl⟩]
  walk_at "ev"
  rw [fset_new (by rfl) i5 (by rfl) (by decide)]
  walk_at "ev"
  rw [fset_new (by rfl) i6 (by rfl) (by decide)]
  walk_at "ev"
  rw [fld_at 2 j6c]
  walk_at "ev"
  rw [enD_map]
  refine seq_ex (P := fun r => ∃ t, r = R.ok Fl.nx [Sl.dp t, Sl.no, Sl.no, Sl.no] ∧ t.strip = wishD gs ss ps) (I := fun ρ => ∃ x, ρ = [.dp (.nd (.is "Wish" wN6) [.lf (sD gs), .lf (sD ss), .lf (.lst ((cel gs ss).map sD)), .lf (ixDc (cel gs ss)), wPl gs (cel gs ss) (cel gs ss).length, wBt (cel gs ss).length]), .fz (sD gs), .fz (sD ss), .fz (.lst (ps.map sD)), x, .no, .no, .no, .no, .no, .no, .no, .no])
    (Nxx_for (fun n ρ => ∃ x y, ρ = [.dp (.nd (.is "Wish" wN6) [.lf (sD gs), .lf (sD ss), .lf (.lst ((cel gs ss).map sD)), .lf (ixDc (cel gs ss)), wPl gs (cel gs ss) n, wBt n]), .fz (sD gs), .fz (sD ss), .fz (.lst (ps.map sD)), .fz (.int (2 ^ n)), .no, x, y, .no, .no, .no, .no, .no]) ⟨_, _, rfl⟩ ?_ ?_) ?_
  · rintro n d ρ hd ⟨x, y, rfl⟩
    rw [List.getElem?_map] at hd
    cases hz : (cel gs ss).zipIdx[n]? with
    | none => rw [hz] at hd; cases hd
    | some p =>
      rw [hz] at hd
      obtain ⟨c, m⟩ := p
      rw [List.getElem?_zipIdx] at hz
      cases hcn : (cel gs ss)[n]? with
      | none => rw [hcn] at hz; cases hz
      | some c' =>
        rw [hcn] at hz
        simp only [Option.map_some, Option.some.injEq, Prod.mk.injEq] at hz
        obtain ⟨rfl, rfl⟩ := hz
        simp only [Option.map_some, Option.some.injEq] at hd
        subst hd
        have hn : n < (cel gs ss).length := (List.getElem?_eq_some_iff.1 hcn).1
        obtain ⟨a, b, ha, hb, rfl⟩ := hcs _ (List.mem_of_getElem? hcn)
        have hgd : ((cel gs ss).getD n []).headD 0 = a := by rw [List.getD_eq_getElem?_getD, hcn]; rfl
        refine ⟨_, by rfl, ?_⟩
        rw [Nat.zero_add]
        walk_at "ev"
        have hkl : gs.idxOf a < gs.length := List.idxOf_lt_length_iff.2 ha
        have hk : gs[gs.idxOf a]? = some a := by rw [List.getElem?_eq_getElem hkl, List.getElem_idxOf]
        rw [ev_mut (t := .nd (.is "Wish" wN6) [.lf (sD gs), .lf (sD ss), .lf (.lst ((cel gs ss).map sD)), .lf (ixDc (cel gs ss)), wPl gs (cel gs ss) n, wBt n]) (js := [4, gs.idxOf a]) (ds := (plc (cel gs ss) n a).map fun i => D.int (i : Nat)) (es := [.int n]) (by rfl)
          (plK_at (js := [4]) (x := tx [a]) (ks := gs.map fun a => sK [a]) (k := gs.idxOf a) (plF_at 4 j6p (by rfl)) (by (walk_at "ev") <;> rfl) (by rfl) (ixKey_map (k := fun a => sK [a]) (fun a b e => by simpa using sK_inj e) ha) (by rw [List.length_map]; exact hkl))
          (by
            show ((gs.map fun a => T.nd .ls (((plc (cel gs ss) n a).map fun i => D.int (i : Nat)).map .lf))[gs.idxOf a]?).bind (fun u => u.at []) = _
            rw [List.getElem?_map, hk]
            rfl) (by (walk_at "ev") <;> rfl) (by rfl) (mApp_1 (by
            rw [List.length_map]
            exact Nat.lt_of_le_of_lt (List.length_filter_le _ _) (by rw [List.length_range]; omega))) (Nat.succ_pos _)]
        rw [show T.put (.nd (.is "Wish" wN6) [.lf (sD gs), .lf (sD ss), .lf (.lst ((cel gs ss).map sD)), .lf (ixDc (cel gs ss)), wPl gs (cel gs ss) n, wBt n]) [4, gs.idxOf a] (.nd .ls (((plc (cel gs ss) n a).map fun i => D.int (i : Nat)) ++ [D.int (n : Nat)] |>.map .lf)) = .nd (.is "Wish" wN6) [.lf (sD gs), .lf (sD ss), .lf (.lst ((cel gs ss).map sD)), .lf (ixDc (cel gs ss)), wPl gs (cel gs ss) (n + 1), wBt n] from by
          simp only [T.put, T.putL, wPl, putL_nil]
          rw [wPl_step hg ha hgd]]
        walk_at "ev"
        rw [ev_mut (t := .nd (.is "Wish" wN6) [.lf (sD gs), .lf (sD ss), .lf (.lst ((cel gs ss).map sD)), .lf (ixDc (cel gs ss)), wPl gs (cel gs ss) (n + 1), wBt n]) (js := [5]) (ds := (List.range n).map fun i => D.int (2 ^ i)) (es := [.int (2 ^ n)]) (by rfl)
          (plF_at 5 j6b (by rfl)) (by rfl) (by (walk_at "ev") <;> rfl) (by rfl) (mApp_1 (by rw [List.length_map, List.length_range]; omega)) (Nat.succ_pos _)]
        rw [show T.put (.nd (.is "Wish" wN6) [.lf (sD gs), .lf (sD ss), .lf (.lst ((cel gs ss).map sD)), .lf (ixDc (cel gs ss)), wPl gs (cel gs ss) (n + 1), wBt n]) [5] (.nd .ls (((List.range n).map fun i => D.int (2 ^ i)) ++ [D.int (2 ^ n)] |>.map .lf)) = .nd (.is "Wish" wN6) [.lf (sD gs), .lf (sD ss), .lf (.lst ((cel gs ss).map sD)), .lf (ixDc (cel gs ss)), wPl gs (cel gs ss) (n + 1), wBt (n + 1)] from by
          simp only [T.put, T.putL, wBt, putL_nil, List.range_succ, List.map_append, List.map_cons, List.map_nil]]
        walk_at "ev"
        have b0 : (0 : Int) < 2 ^ n := Int.pow_pos (by decide)
        have b1 : (2 : Int) ^ n ≤ 2 ^ 676 := by exact_mod_cast Nat.pow_le_pow_right (n := 2) (by decide) (show n ≤ 676 by omega)
        rw [gMul_ii (cMul_of (by omega) (by omega) (by omega) (by omega))]
        walk_at "ev"
        rw [Int.mul_comm, ← Int.pow_succ]
        exact ⟨_, _, rfl⟩
  · rintro ρ ⟨x, y, rfl⟩
    rw [List.length_map, List.length_zipIdx]
    exact ⟨_, rfl⟩
  · rintro ρ ⟨x, rfl⟩
    walk_at "ev"
    rw [dcL_new sD sK (fun _ => .bl true) _ ps [] (by simpa using lp) (by
      rw [List.map_nil, List.nil_append]
      exact List.Pairwise.map sK (fun a b hne e => hne (sK_inj e)) hp) fun p hp => ⟨_, _, _, _, by rfl, by (walk_at "ev") <;> rfl, by rfl, by (walk_at "ev") <;> rfl, by rfl⟩]
    walk_at "ev"
    rw [fset_new (by rfl) i7 (by rfl) (by decide)]
    walk_at "ev"
    rw [fset_new (by rfl) i8 (by rfl) (by decide)]
    walk_at "ev"
    rw [fset_new (by rfl) i9 (by rfl) (by decide)]
    walk_at "ev"
    rw [fld_at 2 (by decide +kernel)]
    walk_at "ev"
    refine seq_ex (P := fun r => ∃ t, r = R.ok Fl.nx [Sl.dp t, Sl.no, Sl.no, Sl.no] ∧ t.strip = wishD gs ss ps) (I := fun ρ => ρ = [.dp (wTB gs ss ps (cel gs ss).length), .fz (sD gs), .fz (sD ss), .fz (.lst (ps.map sD)), x, .no, .no, .no, .no, .no, .no, .no, .no])
      (Nxx_for (fun n ρ => ∃ y z, ρ = [.dp (wTB gs ss ps n), .fz (sD gs), .fz (sD ss), .fz (.lst (ps.map sD)), x, y, .no, .no, z, .no, .no, .no, .no]) ⟨_, _, rfl⟩ ?_ ?_) ?_
    · rintro n d ρ hd ⟨y, z, rfl⟩
      rw [List.getElem?_map] at hd
      cases hcn : (cel gs ss)[n]? with
      | none => rw [hcn] at hd; cases hd
      | some c =>
        rw [hcn] at hd
        simp only [Option.map_some, Option.some.injEq] at hd
        subst hd
        have hn : n < (cel gs ss).length := (List.getElem?_eq_some_iff.1 hcn).1
        have htk : (cel gs ss).take (n + 1) = (cel gs ss).take n ++ [c] := by rw [List.take_add_one, hcn]; rfl
        obtain ⟨a, b, ha, hb, rfl⟩ := hcs _ (List.mem_of_getElem? hcn)
        refine ⟨_, by rfl, ?_⟩
        walk_at "ev"
        rw [wb_cells, wb_known]
        walk_at "ev"
        rw [lcL_of sD (fun o => decide ([a, b] ++ o ∈ ps)) sD _ (cel gs ss) [] (by simp; omega) fun o ho => by
          obtain ⟨a', b', ha', hb', rfl⟩ := hcs _ ho
          refine ⟨_, _, by rfl, by (walk_at "ev") <;> rfl, fun _ => by rfl, fun _ => ⟨_, by (walk_at "ev") <;> rfl, by rfl⟩⟩]
        rw [show ((cel gs ss).filter fun o => decide ([a, b] ++ o ∈ ps)) = bhd (cel gs ss) ps [a, b] from rfl]
        walk_at "ev"
        have hbl : (bhd (cel gs ss) ps [a, b]).length ≤ 676 := Nat.le_trans (List.length_filter_le _ _) lc
        have hbm : ∀ o ∈ bhd (cel gs ss) ps [a, b], o ∈ cel gs ss := fun o ho => (List.mem_filter.1 ho).1
        have hpl : (prs (cel gs ss) ps ((cel gs ss).take n)).length ≤ n * 676 := by
          refine Nat.le_trans prs_len ?_
          refine Nat.mul_le_mul ?_ lc
          rw [List.length_take]
          omega
        have hpn : n * 676 ≤ 676 * 676 := Nat.mul_le_mul (by omega) (Nat.le_refl _)
        rw [ev_mut (t := wTB gs ss ps n) (js := [7]) (ds := (prs (cel gs ss) ps ((cel gs ss).take n)).map sD) (es := [.lst ((bhd (cel gs ss) ps [a, b]).map fun o => sD ([a, b] ++ o))]) (ds' := (prs (cel gs ss) ps ((cel gs ss).take n)).map sD ++ (bhd (cel gs ss) ps [a, b]).map fun o => sD ([a, b] ++ o)) (d := .non) (by rfl)
          wb_p7 (by rfl) (by
            walk_at "ev"
            rw [lcL_yes sD (fun o => sD ([a, b] ++ o)) _ (bhd (cel gs ss) ps [a, b]) (by omega) fun o ho => by
              obtain ⟨a', b', ha', hb', rfl⟩ := hcs _ (hbm o ho)
              exact ⟨_, _, by rfl, by (walk_at "ev") <;> rfl, by rfl⟩]
            (walk_at "ev") <;> rfl) (by rfl) (by
            unfold mExt
            simp only [List.length_map]
            rw [if_pos (by omega)]) (Nat.succ_pos _)]
        rw [show T.put (wTB gs ss ps n) [7] (.nd .ls (((prs (cel gs ss) ps ((cel gs ss).take n)).map sD ++ (bhd (cel gs ss) ps [a, b]).map fun o => sD ([a, b] ++ o)).map .lf)) = wTC gs ss ps n from by
          unfold wTB wTC
          simp only [T.put, T.putL, putL_nil]
          rw [htk, show prs (cel gs ss) ps ((cel gs ss).take n ++ [[a, b]]) = prs (cel gs ss) ps ((cel gs ss).take n) ++ (bhd (cel gs ss) ps [a, b]).map fun o => [a, b] ++ o from by
            unfold prs
            rw [List.flatMap_append, List.flatMap_singleton]]
          simp only [List.map_append, List.map_map]
          rfl]
        walk_at "ev"
        rw [ev_mut (t := wTC gs ss ps n) (js := [8]) (ds := ((cel gs ss).take n).map fun c => D.int (rowI (cel gs ss) ps c)) (es := [.int (rowI (cel gs ss) ps [a, b])]) (by rfl)
          wc_p8 (by rfl) (by
            rw [wc_index, wc_bits]
            walk_at "ev"
            rw [lcL_yes sD (fun o => .int (2 ^ ((cel gs ss).idxOf o))) _ (bhd (cel gs ss) ps [a, b]) (by omega) fun o ho => by
              have hm := hbm o ho
              refine ⟨_, _, by rfl, by
                walk_at "ev"
                rw [flat_bt]
                walk_at "ev"
                rw [ix_index hm]
                walk_at "ev"
                rw [ix_bits (List.idxOf_lt_length_iff.2 hm)]
                (walk_at "ev") <;> rfl, by rfl⟩]
            walk_at "ev"
            rw [gSum_map]
            (walk_at "ev") <;> rfl) (by rfl) (mApp_1 (by
            rw [List.length_map, List.length_take]
            omega)) (Nat.succ_pos _)]
        rw [show T.put (wTC gs ss ps n) [8] (.nd .ls ((((cel gs ss).take n).map fun c => D.int (rowI (cel gs ss) ps c)) ++ [D.int (rowI (cel gs ss) ps [a, b])] |>.map .lf)) = wTB gs ss ps (n + 1) from by
          unfold wTB wTC
          simp only [T.put, T.putL, putL_nil]
          rw [htk, List.map_append (l₁ := (cel gs ss).take n), List.map_singleton]]
        walk_at "ev"
        exact ⟨_, _, rfl⟩
    · rintro ρ ⟨y, z, rfl⟩
      rw [List.length_map]
      rfl
    · rintro ρ rfl
      walk_at "ev"
      rw [fset_new (c := "Wish") (fs := wN9) (by rfl) (by decide +kernel) (by rfl) (by decide)]
      walk_at "ev"
      refine ⟨_, rfl, ?_⟩
      rw [List.take_length]
      unfold wPl wBt
      simp only [List.cons_append, List.nil_append, T.strip, T.stripL, stripL_map, List.map_map]
      rw [zip_map2]
      simp only [Function.comp_def, T.strip]
      rfl

theorem draw_ret {m : Nat} {h : D} {n : Int} (H : Hd (m + 1) h) (hn : 0 < n) (hb : n < 2 ^ 1000) :
    Ret (F__law_draw [.ow h, .fz (.int n)]) fun s ρ => ∃ r h', s = .fz (.int r) ∧ ρ = [.ow h', .no] ∧ 0 ≤ r ∧ r < n ∧ Hd m h' := by
  obtain ⟨cells, a, b, s, c, rfl, h1, h2, h3, h4, h5, h6, h7⟩ := H.ex
  unfold F__law_draw
  rw [ev_fnF]
  refine Ret_seq' (I := fun ρ => ∃ (a b s : Int) (x : Sl), ρ = [.ow (.lst [.lst (cells.map .int), .int a, .int b, .int s, .int c]), .fz (.int n), .no, x, .no] ∧ 0 ≤ a ∧ 0 ≤ b ∧ 0 ≤ s ∧ s < 2147483629) ?_ ?_
  · walk_at "ev"
    by_cases hb0 : b = 0
    · subst hb0
      walk_at "ev"
      by_cases ha : a < cells.length
      · obtain ⟨x, hx⟩ : ∃ x, cells[a.toNat]? = some x := ⟨cells[a.toNat]'(by omega), List.getElem?_eq_getElem _⟩
        have hx0 : 0 ≤ x := h1 x (List.mem_of_getElem? hx)
        rw [decide_eq_true ha]
        walk_at "ev"
        rw [atI_nn h2, List.getElem?_map, hx]
        walk_at "ev"
        rw [gMul_ii (cMul_of (by omega) (by omega) (by omega) (by omega))]
        walk_at "ev"
        rw [gMod_ii (cMod_of (by omega))]
        walk_at "ev"
        rw [gPow_ii (by decide)]
        walk_at "ev"
        by_cases hg : (1000000000000000000 : Int) ≤ x
        · rw [decide_eq_true hg]
          walk_at "ev"
          exact .mk ⟨_, _, _, _, rfl, by omega, by omega, by omega, by omega⟩
        · rw [decide_eq_false hg]
          walk_at "ev"
          exact .mk ⟨_, _, _, _, rfl, by omega, by omega, by omega, by omega⟩
      · rw [decide_eq_false ha]
        walk_at "ev"
        exact .mk ⟨_, _, _, _, rfl, h2, by omega, h4, h5⟩
    · rw [decide_eq_false hb0]
      walk_at "ev"
      exact .mk ⟨_, _, _, _, rfl, h2, h3, h4, h5⟩
  · rintro ρ ⟨a, b, s, x, rfl, h2, h3, h4, h5⟩
    walk_at "ev"
    by_cases hb0 : 0 < b
    · rw [decide_eq_true hb0]
      walk_at "ev"
      rw [gMod_ii (cMod_of hn)]
      walk_at "ev"
      rw [gDiv_ii (cDiv_of hn hb)]
      walk_at "ev"
      exact ⟨_, _, rfl, rfl, Int.emod_nonneg _ (by omega), Int.emod_lt_of_pos _ hn, ⟨cells, _, _, _, _, rfl, h1, h2, Int.ediv_nonneg h3 (by omega), h4, h5, h6, by omega⟩⟩
    · rw [decide_eq_false hb0]
      walk_at "ev"
      rw [gMul_ii (cMul_of (by omega) (by omega) (by omega) (by omega))]
      walk_at "ev"
      rw [gMul_ii (cMul_of (by omega) (by omega) (by omega) (by omega))]
      walk_at "ev"
      rw [gMod_ii (cMod_of (by omega))]
      walk_at "ev"
      have q1 := Int.emod_nonneg ((s + 7919 * (c + 1)) * 48271) (show (2147483647:Int) ≠ 0 by omega)
      have q2 := Int.emod_lt_of_pos ((s + 7919 * (c + 1)) * 48271) (show 0 < (2147483647:Int) by omega)
      generalize (s + 7919 * (c + 1)) * 48271 % 2147483647 = u at q1 q2 ⊢
      rw [gDiv_ii (cDiv_of (by omega) (by omega))]
      walk_at "ev"
      rw [gMul_ii (cMul_of (by omega) (by omega) (by omega) (by omega))]
      walk_at "ev"
      rw [gMod_ii (cMod_of (by omega))]
      walk_at "ev"
      have q3 := Int.emod_nonneg (u * (u / 1009 + 69621)) (show (2147483647:Int) ≠ 0 by omega)
      have q4 := Int.emod_lt_of_pos (u * (u / 1009 + 69621)) (show 0 < (2147483647:Int) by omega)
      generalize u * (u / 1009 + 69621) % 2147483647 = v at q3 q4 ⊢
      rw [gDiv_ii (cDiv_of (by omega) (by omega))]
      walk_at "ev"
      rw [gMul_ii (cMul_of (by omega) (by omega) (by omega) (by omega))]
      walk_at "ev"
      rw [gMod_ii (cMod_of (by omega))]
      walk_at "ev"
      have q5 := Int.emod_nonneg (v * (v / 2003 + 40692)) (show (2147483399:Int) ≠ 0 by omega)
      have q6 := Int.emod_lt_of_pos (v * (v / 2003 + 40692)) (show 0 < (2147483399:Int) by omega)
      generalize v * (v / 2003 + 40692) % 2147483399 = w at q5 q6 ⊢
      rw [gDiv_ii (cDiv_of (by omega) (by omega))]
      walk_at "ev"
      rw [gMod_ii (cMod_of hn)]
      walk_at "ev"
      exact ⟨_, _, rfl, rfl, Int.emod_nonneg _ (by omega), Int.emod_lt_of_pos _ hn, ⟨cells, _, _, _, _, rfl, h1, h2, h3, h4, h5, by omega, by omega⟩⟩
theorem draw_spec {m : Nat} {h : D} {n : Int} (H : Hd (m + 1) h) (hn : 0 < n) (hb : n < 2 ^ 1000) :
    ∃ r h', F__law_draw [.ow h, .fz (.int n)] = .ok (.rt (.fz (.int r))) [.ow h', .no] ∧ 0 ≤ r ∧ r < n ∧ Hd m h' := by
  obtain ⟨s, ρ, e, r, h', rfl, rfl, q1, q2, q3⟩ := (draw_ret H hn hb).ex
  exact ⟨r, h', e, q1, q2, q3⟩
theorem hand_spec (ns : List Int) : ∃ h, F__law_hand [.fz (.scr ns)] = .ok (.rt (.ow h)) [.no] ∧ Hd (2 ^ 59) h := by
  unfold F__law_hand
  walk_at "ev"
  have hc := cut63 ns
  generalize FV.cutD ns none (some 63) = ms at hc ⊢
  rw [lcL_yes (α := Int) .int (fun i => .int (if i < 0 then -i else i)) [.fz (.scr ns), .no, .no] ms (by omega) fun a _ => ⟨[.fz (.scr ns), .no, .fz (.int a)], [.fz (.scr ns), .no, .fz (.int a)], rfl, by walk_at "ev", rfl⟩]
  walk_at "ev"
  refine ⟨_, rfl, ⟨ms.map fun i => if i < 0 then -i else i, 0, 0, 1 + ms.length, 0, by rw [List.map_map]; rfl, fun x hx => ?_, by decide, by decide, by omega, by omega, by decide, by decide⟩⟩
  obtain ⟨i, _, rfl⟩ := List.mem_map.1 hx
  split <;> omega
def stp (n : Int) : Int := 2 * (Builtin.Int.intBits (n - 1) : Nat)
def hv : Nat → Int → Int
  | 0, _ => 0
  | k + 1, n => if n > 6 then 1 + hv k (stp n) else 0

/-! ### the parts that laws draw -/
theorem draw_nat {m : Nat} {h : D} {n : Nat} (H : Hd (m + 1) h) (hn : 0 < n) (hb : n ≤ 1000000) :
    ∃ (r : Nat) (h' : D), F__law_draw [.ow h, .fz (.int n)] = .ok (.rt (.fz (.int r))) [.ow h', .no] ∧ r < n ∧ Hd m h' := by
  obtain ⟨r, h', e, q1, q2, q3⟩ := draw_spec H (n := n) (by omega) (by omega)
  refine ⟨r.toNat, h', ?_, by omega, q3⟩
  rw [e, Int.toNat_of_nonneg q1]
theorem letters_ret {k : Nat} : ∀ {m : Nat} {h : D} {sg : List Nat}, Hd (m + k) h → sg.Nodup → k ≤ sg.length → sg.length ≤ 1000 →
    Ret (F__law_letters [.ow h, .fz (sD sg), .fz (.int k)]) fun s ρ => ∃ l h', s = .fz (sD l) ∧ ρ = [.ow h', .no, .no] ∧ l.Nodup ∧ (∀ c ∈ l, c ∈ sg) ∧ l.length = k ∧ Hd m h' := by
  intro m h sg H nd hk hl
  unfold F__law_letters
  walk_at "ev"
  rw [rng1_i (by omega)]
  walk_at "ev"
  rw [show (Str.ofString "") = tx [] from by decide +kernel]
  refine Ret_seq2 (I := fun ρ => ∃ (rest l : List Nat) (h : D) (x y : Sl), ρ = [.ow h, .fz (sD sg), .fz (.int k), .fz (sD rest), .fz (sD l), x, y] ∧ l.Nodup ∧ (∀ c ∈ l, c ∈ sg) ∧ l.length = k ∧ Hd m h)
    (Nxx_for (fun j ρ => ∃ (rest l : List Nat) (h : D) (x y : Sl), ρ = [.ow h, .fz (sD sg), .fz (.int k), .fz (sD rest), .fz (sD l), x, y] ∧ (l ++ rest).Nodup ∧ (∀ c ∈ l ++ rest, c ∈ sg) ∧ l.length = j ∧ rest.length + j = sg.length ∧ Hd (m + (k - j)) h) ⟨sg, [], h, .no, .no, rfl, by simpa using nd, fun c hc => by simpa using hc, rfl, rfl, H⟩ ?_ ?_) ?_
  · rintro j d ρ hd ⟨rest, l, h, x, y, rfl, n1, n2, n3, n4, H⟩
    have hj : j < k := by
      have := (List.getElem?_eq_some_iff.1 hd).1
      simpa using this
    refine ⟨_, rfl, ?_⟩
    walk_at "ev"
    rw [gLen_tx (by omega)]
    walk_at "ev"
    obtain ⟨r, h', e, r1, H'⟩ := draw_nat (m := m + (k - (j + 1))) (h := h) (n := rest.length) (by rw [show m + (k - (j + 1)) + 1 = m + (k - j) by omega]; exact H) (by omega) (by omega)
    rw [e]
    walk_at "ev"
    rw [ixD_s (by omega)]
    rw [atI_nn (by omega), show ((r : Int).toNat) = r from rfl, List.getElem?_eq_getElem r1]
    walk_at "ev"
    rw [gAdd_s (by simp; omega)]
    walk_at "ev"
    rw [slD_s (by omega), cut_to (by omega)]
    walk_at "ev"
    rw [slD_s (by omega), cut_from (by omega)]
    walk_at "ev"
    rw [show ((r : Int).toNat) = r from rfl, show ((r : Int) + 1).toNat = r + 1 from rfl, gAdd_s (by simp; omega)]
    walk_at "ev"
    have hp : (l ++ [rest[r]] ++ (rest.take r ++ rest.drop (r + 1))).Perm (l ++ rest) := by
      rw [List.append_assoc]
      refine List.Perm.append_left l ?_
      have e1 : rest = rest.take r ++ rest[r] :: rest.drop (r + 1) := by
        rw [List.getElem_cons_drop, List.take_append_drop]
      exact (show (rest[r] :: (rest.take r ++ rest.drop (r + 1))).Perm (rest.take r ++ rest[r] :: rest.drop (r + 1)) from List.perm_middle.symm).trans (List.Perm.of_eq e1.symm)
    refine ⟨_, _, _, _, _, rfl, hp.nodup_iff.2 n1, fun c hc => n2 c (hp.mem_iff.1 hc), by simp [n3], by simp; omega, H'⟩
  · rintro ρ ⟨rest, l, h, x, y, rfl, n1, n2, n3, n4, H⟩
    have e1 : ((List.range (k : Int).toNat).map fun (i : Nat) => D.int (0 + (i : Int))).length = k := by simp
    rw [e1] at n3 H
    exact ⟨_, _, _, _, _, rfl, (List.nodup_append.1 n1).1, fun c hc => n2 c (List.mem_append_left _ hc), n3, by simpa using H⟩
  · rintro ρ ⟨rest, l, h, x, y, rfl, n1, n2, n3, H⟩
    walk_at "ev"
    exact ⟨_, _, rfl, rfl, n1, n2, n3, H⟩
theorem letters_spec {k m : Nat} {h : D} {sg : List Nat} (H : Hd (m + k) h) (nd : sg.Nodup) (hk : k ≤ sg.length) (hl : sg.length ≤ 1000) :
    ∃ l h', F__law_letters [.ow h, .fz (sD sg), .fz (.int k)] = .ok (.rt (.fz (sD l))) [.ow h', .no, .no] ∧ l.Nodup ∧ (∀ c ∈ l, c ∈ sg) ∧ l.length = k ∧ Hd m h' := by
  obtain ⟨s, ρ, e, l, h', rfl, rfl, q⟩ := (letters_ret H nd hk hl).ex
  exact ⟨l, h', e, q⟩
theorem cells_spec {g s : List Nat} (hg : g.length ≤ 26) (hs : s.length ≤ 26) : F__law_cells [.fz (sD g), .fz (sD s)] = .ok (.rt (.fz (.lst ((cel g s).map sD)))) [.no, .no] := by
  refine ret_eq ?_
  unfold F__law_cells
  walk_at "ev"
  refine Ret_seq2 (I := fun ρ => ∃ x y, ρ = [.fz (sD g), .fz (sD s), .ow (.lst ((cel g s).map sD)), x, y]) (Nxx_for (fun j ρ => ∃ x y, ρ = [.fz (sD g), .fz (sD s), .ow (.lst ((cel (g.take j) s).map sD)), x, y]) ⟨_, _, rfl⟩ ?_ ?_) ?_
  · rintro j d ρ hd ⟨x, y, rfl⟩
    rw [List.getElem?_map] at hd
    cases hc : g[j]? with
    | none => rw [hc] at hd; cases hd
    | some c =>
      rw [hc] at hd
      cases hd
      refine ⟨_, rfl, ?_⟩
      walk_at "ev"
      rw [lcL_yes (fun b => D.str (tx [b])) (fun b => sD [c, b]) _ s (by omega) fun b hb => ⟨_, _, by rfl, by (walk_at "ev") <;> rfl, by rfl⟩]
      walk_at "ev"
      have hj : (g.take j).length ≤ 26 := by rw [List.length_take]; omega
      rw [gAdd_l (by
        rw [List.length_map, List.length_map, cel_length]
        have := Nat.mul_le_mul hj hs
        omega)]
      walk_at "ev"
      refine ⟨.fz (.str (tx [c])), .no, ?_⟩
      rw [List.take_add_one, hc]
      show _ = [_, _, Sl.ow (.lst ((cel (g.take j ++ [c]) s).map sD)), _, _]
      unfold cel
      rw [List.flatMap_append, List.flatMap_singleton, List.map_append, List.map_map]
      rfl
  · rintro ρ ⟨x, y, rfl⟩
    rw [List.length_map, List.take_length]
    exact ⟨_, _, rfl⟩
  · rintro ρ ⟨x, y, rfl⟩
    walk_at "ev"
theorem fits_spec {k : Int} {g s c o : List Nat} (hg : 1 ≤ g.length ∧ g.length ≤ 26) (hs : 1 ≤ s.length ∧ s.length ≤ 26) (hc : c.length = 2) (ho : o.length = 2) :
    ∃ b, F__law_fits [.fz (.int k), .fz (sD g), .fz (sD s), .fz (sD c), .fz (sD o)] = .ok (.rt (.fz (.bl b))) [.no, .no, .no, .no, .no] := by
  obtain ⟨c0, c1, rfl⟩ : ∃ a b, c = [a, b] := by
    match c, hc with
    | [a, b], _ => exact ⟨a, b, rfl⟩
  obtain ⟨o0, o1, rfl⟩ : ∃ a b, o = [a, b] := by
    match o, ho with
    | [a, b], _ => exact ⟨a, b, rfl⟩
  have hgn : g ≠ [] := by intro e; rw [e] at hg; simp at hg
  unfold F__law_fits
  walk_at "ev"
  iterate 20
    all_goals try (first
      | exact ⟨_, rfl⟩
      | (rw [gMod_ii (cMod_of (by omega))]; walk_at "ev")
      | (rw [gLen_tx (by omega)]; walk_at "ev")
      | (rw [ixD_s (by omega), atI_last hgn]; walk_at "ev")
      | ((first | rw [kIf_ok] | rw [kOr_ok] | rw [kAnd_ok]); split <;> walk_at "ev")
      | ((first | rw [kIf_ok] | rw [kOr_ok] | rw [kAnd_ok]); split))
theorem pairs_ret {m : Nat} {h : D} {g s : List Nat} (H : Hd (m + ((cel g s).length * (cel g s).length + 2)) h) (hg : 1 ≤ g.length ∧ g.length ≤ 26) (hs : 1 ≤ s.length ∧ s.length ≤ 26) (hc : (cel g s).length ≤ 100) :
    Ret (F__law_pairs [.ow h, .fz (sD g), .fz (sD s)]) fun r ρ => ∃ ps h', r = .ow (.lst (ps.map sD)) ∧ ρ = [.ow h', .no, .no] ∧ List.Sublist ps (prd (cel g s) (cel g s)) ∧ Hd m h' := by
  have h2 : ∀ c ∈ cel g s, c.length = 2 := fun c h => by
    obtain ⟨a, b, _, _, rfl⟩ := mem_cel.1 h
    rfl
  unfold F__law_pairs
  walk_at "ev"
  obtain ⟨kind, h1, e, k1, k2, H1⟩ := draw_spec (m := m + ((cel g s).length * (cel g s).length + 1)) H (n := 8) (by omega) (by omega)
  rw [e]
  walk_at "ev"
  obtain ⟨share, h2', e, k3, k4, H2⟩ := draw_spec (m := m + ((cel g s).length * (cel g s).length)) H1 (n := 3) (by omega) (by omega)
  rw [e]
  walk_at "ev"
  rw [cells_spec hg.2 hs.2]
  walk_at "ev"
  generalize hcs : cel g s = cs at hc H H1 H2 h2 ⊢
  refine Ret_seq2 (I := fun ρ => ∃ (ps : List (List Nat)) (h : D) (x y z : Sl), ρ = [.ow h, .fz (sD g), .fz (sD s), .fz (.int kind), .fz (.int (1 + share)), .fz (.lst (cs.map sD)), .ow (.lst (ps.map sD)), x, y, z] ∧ List.Sublist ps (prd cs cs) ∧ Hd m h)
    (Nxx_for (fun j ρ => ∃ (ps : List (List Nat)) (h : D) (x y z : Sl), ρ = [.ow h, .fz (sD g), .fz (sD s), .fz (.int kind), .fz (.int (1 + share)), .fz (.lst (cs.map sD)), .ow (.lst (ps.map sD)), x, y, z] ∧ List.Sublist ps (prd cs (cs.take j)) ∧ Hd (m + (cs.length - j) * cs.length) h) ⟨[], _, _, _, _, rfl, List.nil_sublist _, H2⟩ ?_ ?_) ?_
  · rintro j d ρ hd ⟨ps, h, x, y, z, rfl, hp, H⟩
    rw [List.getElem?_map] at hd
    cases hcj : cs[j]? with
    | none => rw [hcj] at hd; cases hd
    | some c =>
      rw [hcj] at hd
      cases hd
      have hjl : j < cs.length := (List.getElem?_eq_some_iff.1 hcj).1
      have htk : cs.take (j + 1) = cs.take j ++ [c] := by rw [List.take_add_one, hcj]; rfl
      have hsub : (cs.length - j) * cs.length = (cs.length - (j + 1)) * cs.length + cs.length := by
        rw [show cs.length - j = (cs.length - (j + 1)) + 1 by omega, Nat.succ_mul]
      refine ⟨_, rfl, ?_⟩
      walk_at "ev"
      refine Nxx.nx (Nxx.imp (Nxx_for (fun i ρ => ∃ (ps : List (List Nat)) (h : D) (y z : Sl), ρ = [.ow h, .fz (sD g), .fz (sD s), .fz (.int kind), .fz (.int (1 + share)), .fz (.lst (cs.map sD)), .ow (.lst (ps.map sD)), .fz (sD c), y, z] ∧ List.Sublist ps (prd cs (cs.take j) ++ (cs.take i).map fun o => c ++ o) ∧ Hd (m + (cs.length - (j + 1)) * cs.length + (cs.length - i)) h)
        (Q := fun ρ => ∃ (ps : List (List Nat)) (h : D) (y z : Sl), ρ = [.ow h, .fz (sD g), .fz (sD s), .fz (.int kind), .fz (.int (1 + share)), .fz (.lst (cs.map sD)), .ow (.lst (ps.map sD)), .fz (sD c), y, z] ∧ List.Sublist ps (prd cs (cs.take (j + 1))) ∧ Hd (m + (cs.length - (j + 1)) * cs.length) h)
        ⟨ps, h, _, _, rfl, by simpa using hp, by rw [hsub, ← Nat.add_assoc] at H; exact H⟩ ?_ ?_) fun ρ ⟨ps, h, y, z, e, q⟩ => ⟨ps, h, _, _, _, e, q⟩)
      · rintro i d ρ hd ⟨ps, h, y, z, rfl, hp, H⟩
        rw [List.getElem?_map] at hd
        cases hci : cs[i]? with
        | none => rw [hci] at hd; cases hd
        | some o =>
          rw [hci] at hd
          cases hd
          have hil : i < cs.length := (List.getElem?_eq_some_iff.1 hci).1
          have htk2 : cs.take (i + 1) = cs.take i ++ [o] := by rw [List.take_add_one, hci]; rfl
          have hpl : ps.length ≤ 1000000 - 1 := by
            have h1 := hp.length_le
            have h2 : (prd cs (cs.take j)).length ≤ 100 * 100 := by
              unfold prd
              rw [List.length_flatMap]
              simp only [List.length_map, List.map_const', List.sum_replicate_nat]
              refine Nat.mul_le_mul ?_ hc
              rw [List.length_take]; omega
            rw [List.length_append, List.length_map, List.length_take] at h1
            omega
          have c1 := h2 c (List.mem_of_getElem? hcj)
          have o1 := h2 o (List.mem_of_getElem? hci)
          have grow : List.Sublist (ps ++ [c ++ o]) (prd cs (cs.take j) ++ (cs.take (i + 1)).map fun o => c ++ o) := by
            rw [htk2, List.map_append, ← List.append_assoc]
            exact hp.append (List.Sublist.refl _)
          have stay : List.Sublist ps (prd cs (cs.take j) ++ (cs.take (i + 1)).map fun o => c ++ o) := by
            rw [htk2, List.map_append, ← List.append_assoc]
            exact hp.trans (List.sublist_append_left _ _)
          refine ⟨_, rfl, ?_⟩
          walk_at "ev"
          obtain ⟨fb, efb⟩ := fits_spec (k := kind) hg hs c1 o1
          refine Nx_seq' (I := fun ρ => ∃ b, ρ = [.ow h, .fz (sD g), .fz (sD s), .fz (.int kind), .fz (.int (1 + share)), .fz (.lst (cs.map sD)), .ow (.lst (ps.map sD)), .fz (sD c), .fz (sD o), .fz (.bl b)]) ?_ ?_
          · rw [kOr_ok]
            split
            · walk_at "ev"
              exact .mk ⟨_, rfl⟩
            · walk_at "ev"
              rw [efb]
              walk_at "ev"
              exact .mk ⟨_, rfl⟩
          · rintro ρ ⟨b, rfl⟩
            have app : (c ++ o).length = 4 := by rw [List.length_append, c1, o1]
            cases b with
            | false =>
              walk_at "ev"
              exact ⟨ps, h, _, _, rfl, stay, H.mono (by omega)⟩
            | true =>
              walk_at "ev"
              rw [kOr_ok]
              split
              · walk_at "ev"
                rw [gAdd_s (by omega)]
                walk_at "ev"
                rw [mApp_1 (by rw [List.length_map]; omega)]
                walk_at "ev"
                exact ⟨ps ++ [c ++ o], h, _, _, by rw [List.map_append]; rfl, grow, H.mono (by omega)⟩
              · walk_at "ev"
                obtain ⟨u, h', e, u1, u2, H'⟩ := draw_spec (m := m + (cs.length - (j + 1)) * cs.length + (cs.length - (i + 1))) (H.mono (by omega)) (n := 4) (by omega) (by omega)
                rw [e]
                walk_at "ev"
                refine Nx_if (fun _ => ?_) (fun _ => ?_)
                · walk_at "ev"
                  rw [gAdd_s (by omega)]
                  walk_at "ev"
                  rw [mApp_1 (by rw [List.length_map]; omega)]
                  walk_at "ev"
                  exact ⟨ps ++ [c ++ o], h', _, _, by rw [List.map_append]; rfl, grow, H'⟩
                · walk_at "ev"
                  exact ⟨ps, h', _, _, rfl, stay, H'⟩
      · rintro ρ ⟨ps, h, y, z, rfl, hp, H⟩
        refine ⟨ps, h, _, _, rfl, ?_, by simpa using H⟩
        rw [htk]
        rw [List.length_map, List.take_length] at hp
        unfold prd at hp ⊢
        rw [List.flatMap_append, List.flatMap_singleton]
        exact hp
  · rintro ρ ⟨ps, h, x, y, z, rfl, hp, H⟩
    rw [List.length_map] at hp H
    rw [List.take_length] at hp
    exact ⟨ps, h, _, _, _, rfl, hp, H.mono (by omega)⟩
  · rintro ρ ⟨ps, h, x, y, z, rfl, hp, H⟩
    walk_at "ev"
    exact ⟨ps, _, rfl, rfl, hp, H⟩
theorem pairs_spec {m : Nat} {h : D} {g s : List Nat} (H : Hd (m + ((cel g s).length * (cel g s).length + 2)) h) (hg : 1 ≤ g.length ∧ g.length ≤ 26) (hs : 1 ≤ s.length ∧ s.length ≤ 26) (hc : (cel g s).length ≤ 100) :
    ∃ ps h', F__law_pairs [.ow h, .fz (sD g), .fz (sD s)] = .ok (.rt (.ow (.lst (ps.map sD)))) [.ow h', .no, .no] ∧ List.Sublist ps (prd (cel g s) (cel g s)) ∧ Hd m h' := by
  obtain ⟨r, ρ, e, ps, h', rfl, rfl, q⟩ := (pairs_ret H hg hs hc).ex
  exact ⟨ps, h', e, q⟩
/-- a drawn wish's parts -/
structure Parts (g s : List Nat) (ps : List (List Nat)) : Prop where
  g1 : 1 ≤ g.length
  g3 : g.length ≤ 3
  gn : g.Nodup
  ga : ∀ c ∈ g, 97 ≤ c ∧ c < 123
  s1 : 1 ≤ s.length
  s4 : s.length ≤ 4
  sn : s.Nodup
  sa : ∀ c ∈ s, 65 ≤ c ∧ c < 91
  c6 : (cel g s).length ≤ 6
  sub : List.Sublist ps (prd (cel g s) (cel g s))
def smallL : List Nat := (List.range 26).map (97 + ·)
def greatL : List Nat := (List.range 26).map (65 + ·)
theorem small_tx : Str.ofString "abcdefghijklmnopqrstuvwxyz" = tx smallL := by decide +kernel
theorem great_tx : Str.ofString "ABCDEFGHIJKLMNOPQRSTUVWXYZ" = tx greatL := by decide +kernel
theorem parts_spec {m : Nat} {h : D} (H : Hd (m + 50) h) : ∃ g s ps h', F__law_parts [.ow h] = .ok (.rt (.fz (.tup [sD g, sD s, .lst (ps.map sD)]))) [.ow h'] ∧ Parts g s ps ∧ Hd m h' := by
  have go : ∀ (a b : Nat) (A B : Int) (h : D), A = a → B = b → 1 ≤ a → a ≤ 3 → 1 ≤ b → b ≤ 4 → a * b ≤ 6 → Hd (m + 49) h → ∃ g s ps h1 h2 h', F__law_letters [.ow h, .fz (sD smallL), .fz (.int A)] = .ok (.rt (.fz (sD g))) [.ow h1, .no, .no] ∧ F__law_letters [.ow h1, .fz (sD greatL), .fz (.int B)] = .ok (.rt (.fz (sD s))) [.ow h2, .no, .no] ∧
      F__law_pairs [.ow h2, .fz (sD g), .fz (sD s)] = .ok (.rt (.ow (.lst (ps.map sD)))) [.ow h', .no, .no] ∧ Parts g s ps ∧ Hd m h' := by
    intro a b A B h hA hB a1 a3 b1 b4 ab H
    subst hA
    subst hB
    obtain ⟨g, h1, e1, n1, q1, l1, H1⟩ := letters_spec (m := m + 46) (k := a) (sg := smallL) (H.mono (by omega)) (by decide +kernel) (by show a ≤ 26; omega) (by decide)
    obtain ⟨s, h2, e2, n2, q2, l2, H2⟩ := letters_spec (m := m + 42) (k := b) (sg := greatL) (H1.mono (by omega)) (by decide +kernel) (by show b ≤ 26; omega) (by decide)
    have hl : (cel g s).length = a * b := by rw [cel_length, l1, l2]
    have hq : (cel g s).length * (cel g s).length ≤ 6 * 6 := Nat.mul_le_mul (by omega) (by omega)
    obtain ⟨ps, h', e3, q3, H3⟩ := pairs_spec (m := m) (h := h2) (g := g) (s := s) (H2.mono (by omega)) (by omega) (by omega) (by omega)
    refine ⟨g, s, ps, h1, h2, h', e1, e2, e3, ⟨by omega, by omega, n1, fun c hc => ?_, by omega, by omega, n2, fun c hc => ?_, by omega, q3⟩, H3⟩
    · obtain ⟨i, hi, rfl⟩ := List.mem_map.1 (q1 c hc)
      have := List.mem_range.1 hi
      omega
    · obtain ⟨i, hi, rfl⟩ := List.mem_map.1 (q2 c hc)
      have := List.mem_range.1 hi
      omega
  unfold F__law_parts
  walk_at "ev"
  obtain ⟨r, h1, e, r0, r1, H1⟩ := draw_spec (m := m + 49) H (n := 10) (by omega) (by omega)
  rw [e, small_tx, great_tx]
  walk_at "ev"
  have hr : r = 0 ∨ r = 1 ∨ r = 2 ∨ r = 3 ∨ r = 4 ∨ r = 5 ∨ r = 6 ∨ r = 7 ∨ r = 8 ∨ r = 9 := by omega
  rcases hr with rfl | rfl | rfl | rfl | rfl | rfl | rfl | rfl | rfl | rfl
  · obtain ⟨g, s, ps, h1, h2, h', e1, e2, e3, q, H'⟩ := go 1 2 1 2 _ rfl rfl (by decide) (by decide) (by decide) (by decide) (by decide) H1
    walk_at "ev"
    rw [e1]
    walk_at "ev"
    rw [e2]
    walk_at "ev"
    rw [e3]
    walk_at "ev"
    exact ⟨_, _, _, _, rfl, q, H'⟩
  · obtain ⟨g, s, ps, h1, h2, h', e1, e2, e3, q, H'⟩ := go 1 3 1 3 _ rfl rfl (by decide) (by decide) (by decide) (by decide) (by decide) H1
    walk_at "ev"
    rw [e1]
    walk_at "ev"
    rw [e2]
    walk_at "ev"
    rw [e3]
    walk_at "ev"
    exact ⟨_, _, _, _, rfl, q, H'⟩
  · obtain ⟨g, s, ps, h1, h2, h', e1, e2, e3, q, H'⟩ := go 2 2 2 2 _ rfl rfl (by decide) (by decide) (by decide) (by decide) (by decide) H1
    walk_at "ev"
    rw [e1]
    walk_at "ev"
    rw [e2]
    walk_at "ev"
    rw [e3]
    walk_at "ev"
    exact ⟨_, _, _, _, rfl, q, H'⟩
  · obtain ⟨g, s, ps, h1, h2, h', e1, e2, e3, q, H'⟩ := go 2 3 2 3 _ rfl rfl (by decide) (by decide) (by decide) (by decide) (by decide) H1
    walk_at "ev"
    rw [e1]
    walk_at "ev"
    rw [e2]
    walk_at "ev"
    rw [e3]
    walk_at "ev"
    exact ⟨_, _, _, _, rfl, q, H'⟩
  · obtain ⟨g, s, ps, h1, h2, h', e1, e2, e3, q, H'⟩ := go 2 2 2 2 _ rfl rfl (by decide) (by decide) (by decide) (by decide) (by decide) H1
    walk_at "ev"
    rw [e1]
    walk_at "ev"
    rw [e2]
    walk_at "ev"
    rw [e3]
    walk_at "ev"
    exact ⟨_, _, _, _, rfl, q, H'⟩
  · obtain ⟨g, s, ps, h1, h2, h', e1, e2, e3, q, H'⟩ := go 1 4 1 4 _ rfl rfl (by decide) (by decide) (by decide) (by decide) (by decide) H1
    walk_at "ev"
    rw [e1]
    walk_at "ev"
    rw [e2]
    walk_at "ev"
    rw [e3]
    walk_at "ev"
    exact ⟨_, _, _, _, rfl, q, H'⟩
  · obtain ⟨g, s, ps, h1, h2, h', e1, e2, e3, q, H'⟩ := go 3 2 3 2 _ rfl rfl (by decide) (by decide) (by decide) (by decide) (by decide) H1
    walk_at "ev"
    rw [e1]
    walk_at "ev"
    rw [e2]
    walk_at "ev"
    rw [e3]
    walk_at "ev"
    exact ⟨_, _, _, _, rfl, q, H'⟩
  · obtain ⟨g, s, ps, h1, h2, h', e1, e2, e3, q, H'⟩ := go 2 3 2 3 _ rfl rfl (by decide) (by decide) (by decide) (by decide) (by decide) H1
    walk_at "ev"
    rw [e1]
    walk_at "ev"
    rw [e2]
    walk_at "ev"
    rw [e3]
    walk_at "ev"
    exact ⟨_, _, _, _, rfl, q, H'⟩
  · obtain ⟨g, s, ps, h1, h2, h', e1, e2, e3, q, H'⟩ := go 3 1 3 1 _ rfl rfl (by decide) (by decide) (by decide) (by decide) (by decide) H1
    walk_at "ev"
    rw [e1]
    walk_at "ev"
    rw [e2]
    walk_at "ev"
    rw [e3]
    walk_at "ev"
    exact ⟨_, _, _, _, rfl, q, H'⟩
  · obtain ⟨g, s, ps, h1, h2, h', e1, e2, e3, q, H'⟩ := go 2 1 2 1 _ rfl rfl (by decide) (by decide) (by decide) (by decide) (by decide) H1
    walk_at "ev"
    rw [e1]
    walk_at "ev"
    rw [e2]
    walk_at "ev"
    rw [e3]
    walk_at "ev"
    exact ⟨_, _, _, _, rfl, q, H'⟩

/-! ### words, checks, the making of a wish -/
theorem word_ret {m n : Nat} {h : D} {g : List Nat} (H : Hd (m + n) h) (hg : 1 ≤ g.length ∧ g.length ≤ 1000) (hn : n ≤ 1000) :
    Ret (F__law_word [.ow h, .fz (sD g), .fz (.int n)]) fun s ρ => ∃ w h', s = .fz (sD w) ∧ ρ = [.ow h', .no, .no] ∧ w.length = n ∧ (∀ c ∈ w, c ∈ g) ∧ Hd m h' := by
  unfold F__law_word
  walk_at "ev"
  rw [rng1_i (by omega)]
  walk_at "ev"
  rw [show (Str.ofString "") = tx [] from by decide +kernel]
  refine Ret_seq2 (I := fun ρ => ∃ (w : List Nat) (h : D) (x : Sl), ρ = [.ow h, .fz (sD g), .fz (.int n), .fz (sD w), x] ∧ w.length = n ∧ (∀ c ∈ w, c ∈ g) ∧ Hd m h)
    (Nxx_for (fun j ρ => ∃ (w : List Nat) (h : D) (x : Sl), ρ = [.ow h, .fz (sD g), .fz (.int n), .fz (sD w), x] ∧ w.length = j ∧ (∀ c ∈ w, c ∈ g) ∧ Hd (m + (n - j)) h) ⟨[], _, _, rfl, rfl, (fun c hc => by cases hc), H⟩ ?_ ?_) ?_
  · rintro j d ρ hd ⟨w, h, x, rfl, n1, n2, H⟩
    have hj : j < n := by
      have := (List.getElem?_eq_some_iff.1 hd).1
      simpa using this
    refine ⟨_, rfl, ?_⟩
    walk_at "ev"
    rw [gLen_tx (by omega)]
    walk_at "ev"
    obtain ⟨r, h', e, r1, H'⟩ := draw_nat (m := m + (n - (j + 1))) (h := h) (n := g.length) (by rw [show m + (n - (j + 1)) + 1 = m + (n - j) by omega]; exact H) (by omega) (by omega)
    rw [e]
    walk_at "ev"
    rw [ixD_s (by omega), atI_nn (by omega), show ((r : Int).toNat) = r from rfl, List.getElem?_eq_getElem r1]
    walk_at "ev"
    rw [gAdd_s (by simp; omega)]
    walk_at "ev"
    refine ⟨_, _, _, rfl, by simp [n1], fun c hc => ?_, H'⟩
    rcases List.mem_append.1 hc with hc | hc
    · exact n2 c hc
    · rw [List.mem_singleton.1 hc]
      exact List.getElem_mem r1
  · rintro ρ ⟨w, h, x, rfl, n1, n2, H⟩
    have e1 : ((List.range (n : Int).toNat).map fun (i : Nat) => D.int (0 + (i : Int))).length = n := by simp
    rw [e1] at n1 H
    exact ⟨_, _, _, rfl, n1, n2, by simpa using H⟩
  · rintro ρ ⟨w, h, x, rfl, n1, n2, H⟩
    walk_at "ev"
    exact ⟨_, _, rfl, rfl, n1, n2, H⟩
theorem word_spec {m n : Nat} {h : D} {g : List Nat} (H : Hd (m + n) h) (hg : 1 ≤ g.length ∧ g.length ≤ 1000) (hn : n ≤ 1000) :
    ∃ w h', F__law_word [.ow h, .fz (sD g), .fz (.int n)] = .ok (.rt (.fz (sD w))) [.ow h', .no, .no] ∧ w.length = n ∧ (∀ c ∈ w, c ∈ g) ∧ Hd m h' := by
  obtain ⟨s, ρ, e, w, h', rfl, rfl, q⟩ := (word_ret H hg hn).ex
  exact ⟨w, h', e, q⟩
/-- is_string_of of a text -/
theorem isof_spec {w g : List Nat} : F_is_string_of [.fz (sD w), .fz (sD g)] = .ok (.rt (.fz (.bl (decide (∀ c ∈ w, c ∈ g))))) [.no, .no] := by
  refine ret_eq ?_
  unfold F_is_string_of
  walk_at "ev"
  rcases forL_find (fg := [2]) (gg := tgN 2) (y := yIf (xB gNotInX (aX (xV 2)) (aX (xV 1))) (yRet (xC (D.bl false))) yNil) (s := .fz (.bl false)) (fun _ ρ => ∃ x, ρ = [.fz (sD w), .fz (sD g), x]) (fun ρ => ∃ x, ρ = [.fz (sD w), .fz (sD g), x]) (fun d => match d with | .str x => !decide (x.cps.toList.headD 0 ∈ g) | _ => false) (w.map fun c => D.str (tx [c])) 0 [.fz (sD w), .fz (sD g), .no] ⟨_, rfl⟩
    (fun m d ρ hd ⟨x, e⟩ => by
      subst e
      rw [List.getElem?_map] at hd
      cases hc : w[m]? with
      | none => rw [hc] at hd; cases hd
      | some c =>
        rw [hc] at hd
        cases hd
        refine ⟨_, rfl, fun hb => ?_, fun hb => ?_⟩
        · have hb' : decide (c ∈ g) = false := by simpa [tx_cps] using hb
          exact ⟨_, by walk_at "ev"; rw [hb']; walk_at "ev"; rfl, _, rfl⟩
        · have hb' : decide (c ∈ g) = true := by simpa [tx_cps] using hb
          exact ⟨_, .inl (by walk_at "ev"; rw [hb']; walk_at "ev"; rfl), _, rfl⟩) with ⟨a1, ρ2, a2, x, a3⟩ | ⟨a1, ρ2, a2, x, a3⟩
  · rw [a2, a3]
    walk_at "ev"
    have : decide (∀ c ∈ w, c ∈ g) = false := by
      refine decide_eq_false fun hall => ?_
      obtain ⟨d, hd, hb⟩ := List.any_eq_true.1 a1
      obtain ⟨c, hc, rfl⟩ := List.mem_map.1 hd
      simp [tx_cps, hall c hc] at hb
    rw [this]
  · rw [a2, a3]
    walk_at "ev"
    have : decide (∀ c ∈ w, c ∈ g) = true := by
      refine decide_eq_true fun c hc => ?_
      have := List.any_eq_false.1 a1 _ (List.mem_map_of_mem hc)
      simpa [tx_cps] using this
    rw [this]
theorem choice_spec {w g : List Nat} (hl : w.length ≤ 1000) (hn : w.Nodup) (ha : ∀ c ∈ w, c ∈ g) : F_is_choice [.fz (sD w), .fz (sD g)] = .ok (.rt (.fz (.bl true))) [.no, .no] := by
  unfold F_is_choice
  walk_at "ev"
  rw [isof_spec, decide_eq_true ha]
  walk_at "ev"
  rw [kLset_s (by rw [tx_size]; omega)]
  walk_at "ev"
  rw [gLen_tx (by omega), ded_len hn]
  walk_at "ev"
theorem pair_spec {g s p : List Nat} (h : ∃ a b c d, p = [a, b, c, d] ∧ a ∈ g ∧ b ∈ s ∧ c ∈ g ∧ d ∈ s) : F_is_pair [.fz (sD p), .fz (sD g), .fz (sD s)] = .ok (.rt (.fz (.bl true))) [.no, .no, .no] := by
  obtain ⟨a, b, c, d, rfl, h1, h2, h3, h4⟩ := h
  unfold F_is_pair
  walk_at "ev"
  rw [decide_eq_true h1]
  walk_at "ev"
  rw [decide_eq_true h2]
  walk_at "ev"
  rw [decide_eq_true h3]
  walk_at "ev"
  rw [decide_eq_true h4]
theorem arepairs_spec {g s : List Nat} {ps : List (List Nat)} (hp : ∀ p ∈ ps, ∃ a b c d, p = [a, b, c, d] ∧ a ∈ g ∧ b ∈ s ∧ c ∈ g ∧ d ∈ s) (nd : ps.Nodup) (hl : ps.length < 1000000) :
    F_are_pairs [.fz (.lst (ps.map sD)), .fz (sD g), .fz (sD s)] = .ok (.rt (.fz (.bl true))) [.no, .no, .no] := by
  refine ret_eq ?_
  unfold F_are_pairs
  walk_at "ev"
  refine Ret_seq2 (I := fun ρ => ∃ x y, ρ = [.fz (.lst (ps.map sD)), .fz (sD g), .fz (sD s), x, y]) (Nxx_for (fun j ρ => ∃ y, ρ = [.fz (.lst (ps.map sD)), .fz (sD g), .fz (sD s), .ow (.dic ((ps.take j).map fun p => (sK p, .bl true))), y]) ⟨_, rfl⟩ ?_ ?_) ?_
  · rintro j d ρ hd ⟨y, rfl⟩
    rw [List.getElem?_map] at hd
    cases hc : ps[j]? with
    | none => rw [hc] at hd; cases hd
    | some p =>
      rw [hc] at hd
      cases hd
      have htk : ps.take (j + 1) = ps.take j ++ [p] := by rw [List.take_add_one, hc]; rfl
      have hnew : p ∉ ps.take j := by
        intro hm
        have : (ps.take (j + 1)).Nodup := nd.sublist (List.take_sublist _ _)
        rw [htk] at this
        exact (List.nodup_append.1 this).2.2 p hm p (by simp) rfl
      refine ⟨_, rfl, ?_⟩
      walk_at "ev"
      rw [pair_spec (hp p (List.mem_of_getElem? hc))]
      walk_at "ev"
      rw [show (valD ((ps.take j).map fun p => (sK p, D.bl true)) (Sum.inr (tx p))).isSome = decide (p ∈ ps.take j) from valD_kn, decide_eq_false hnew]
      walk_at "ev"
      rw [setD_d (by rw [List.length_map, List.length_take]; omega), putD_new (by
        intro q hq z
        obtain ⟨u, hu, rfl⟩ := List.mem_map.1 hq
        exact hnew (by rw [← sK_inj z]; exact hu))]
      walk_at "ev"
      exact ⟨_, by rw [htk, List.map_append]; rfl⟩
  · rintro ρ ⟨y, rfl⟩
    exact ⟨_, _, rfl⟩
  · rintro ρ ⟨x, y, rfl⟩
    walk_at "ev"

structure Wsh (g s : List Nat) (ps : List (List Nat)) : Prop where
  g1 : 1 ≤ g.length
  g3 : g.length ≤ 3
  gn : g.Nodup
  ga : ∀ c ∈ g, 97 ≤ c ∧ c < 123
  s1 : 1 ≤ s.length
  s4 : s.length ≤ 4
  sn : s.Nodup
  sa : ∀ c ∈ s, 65 ≤ c ∧ c < 91
  np : ps.Nodup
  hp : ∀ p ∈ ps, ∃ a b c d, p = [a, b, c, d] ∧ a ∈ g ∧ b ∈ s ∧ c ∈ g ∧ d ∈ s
  lp : ps.length ≤ 1000
theorem Parts.wsh {g s : List Nat} {ps : List (List Nat)} (P : Parts g s ps) : Wsh g s ps := by
  obtain ⟨g1, g3, gn, ga, s1, s4, sn, sa, c6, sub⟩ := P
  refine ⟨g1, g3, gn, ga, s1, s4, sn, sa, (prd_nodup gn sn).sublist sub, fun p hp => ?_, ?_⟩
  · obtain ⟨c, o, hc, ho, rfl⟩ := mem_prd.1 (sub.subset hp)
    obtain ⟨a, b, ha, hb, rfl⟩ := mem_cel.1 hc
    obtain ⟨a', b', ha', hb', rfl⟩ := mem_cel.1 ho
    exact ⟨a, b, a', b', rfl, ha, hb, ha', hb'⟩
  · have h : ps.length ≤ 36 := by
      refine Nat.le_trans sub.length_le ?_
      unfold prd
      rw [List.length_flatMap]
      simp only [List.length_map, List.map_const', List.sum_replicate_nat]
      exact Nat.mul_le_mul c6 c6
    omega
theorem wish_init2 {g s : List Nat} {ps : List (List Nat)} (P : Wsh g s ps) : ∃ t, F_Wish___init__ [.dp (.nd (.is "Wish" []) []), .fz (sD g), .fz (sD s), .fz (.lst (ps.map sD))] = .ok .nx [.dp t, .no, .no, .no] ∧ t.strip = wishD g s ps := by
  obtain ⟨g1, g3, gn, ga, s1, s4, sn, sa, np, hp, lp⟩ := P
  have q1 : ∀ c ∈ g, c ∈ smallL := fun c hc => List.mem_map.2 ⟨c - 97, List.mem_range.2 (by have := ga c hc; omega), by have := ga c hc; omega⟩
  have q2 : ∀ c ∈ s, c ∈ greatL := fun c hc => List.mem_map.2 ⟨c - 65, List.mem_range.2 (by have := sa c hc; omega), by have := sa c hc; omega⟩
  obtain ⟨t, e, ht⟩ := keep_spec gn sn np (by omega) (by omega) (by omega)
  refine ⟨t, ?_, ht⟩
  unfold F_Wish___init__
  rw [small_tx, great_tx]
  walk_at "ev"
  rw [choice_spec (by omega) gn q1]
  walk_at "ev"
  rw [gLen_tx (by omega)]
  walk_at "ev"
  rw [decide_eq_true (show (1 : Int) ≤ (g.length : Nat) by omega)]
  walk_at "ev"
  rw [decide_eq_true (show ((g.length : Nat) : Int) ≤ 3 by omega)]
  walk_at "ev"
  rw [choice_spec (by omega) sn q2]
  walk_at "ev"
  rw [gLen_tx (by omega)]
  walk_at "ev"
  rw [decide_eq_true (show (1 : Int) ≤ (s.length : Nat) by omega)]
  walk_at "ev"
  rw [decide_eq_true (show ((s.length : Nat) : Int) ≤ 4 by omega)]
  walk_at "ev"
  rw [arepairs_spec hp np (by omega)]
  walk_at "ev"
  rw [show hasM (Str.ofString "Wish") (Str.ofString "keep") (Ar.sl 0) [Sl.dp (T.nd (TH.is (Str.ofString "Wish") []) []), Sl.fz (sD g), Sl.fz (sD s), Sl.fz (D.lst (List.map sD ps))] = true from by simp [hasM]]
  walk_at "ev"
  rw [e]
  walk_at "ev"
theorem wish_init {g s : List Nat} {ps : List (List Nat)} (P : Parts g s ps) : ∃ t, F_Wish___init__ [.dp (.nd (.is "Wish" []) []), .fz (sD g), .fz (sD s), .fz (.lst (ps.map sD))] = .ok .nx [.dp t, .no, .no, .no] ∧ t.strip = wishD g s ps := wish_init2 P.wsh
theorem known_spec {ps : List (List Nat)} (nd : ps.Nodup) (hl : ps.length < 1000000) : F__law_known [.fz (.lst (ps.map sD))] = .ok (.rt (.ow (knD ps))) [.no] := by
  refine ret_eq ?_
  unfold F__law_known
  walk_at "ev"
  refine Ret_seq2 (I := fun ρ => ∃ x, ρ = [.fz (.lst (ps.map sD)), .ow (knD ps), x]) (Nxx_for (fun j ρ => ∃ y, ρ = [.fz (.lst (ps.map sD)), .ow (.dic ((ps.take j).map fun p => (sK p, .bl true))), y]) ⟨.no, rfl⟩ ?_ ?_) ?_
  · rintro j d ρ hd ⟨y, rfl⟩
    rw [List.getElem?_map] at hd
    cases hc : ps[j]? with
    | none => rw [hc] at hd; cases hd
    | some p =>
      rw [hc] at hd
      cases hd
      have htk : ps.take (j + 1) = ps.take j ++ [p] := by rw [List.take_add_one, hc]; rfl
      have hnew : p ∉ ps.take j := by
        intro hm
        have : (ps.take (j + 1)).Nodup := nd.sublist (List.take_sublist _ _)
        rw [htk] at this
        exact (List.nodup_append.1 this).2.2 p hm p (by simp) rfl
      refine ⟨_, rfl, ?_⟩
      walk_at "ev"
      rw [setD_d (by rw [List.length_map, List.length_take]; omega), putD_new (by
        intro q hq z
        obtain ⟨u, hu, rfl⟩ := List.mem_map.1 hq
        exact hnew (by rw [← sK_inj z]; exact hu))]
      walk_at "ev"
      exact ⟨_, by rw [htk, List.map_append]; rfl⟩
  · rintro ρ ⟨y, rfl⟩
    rw [List.length_map, List.take_length]
    exact ⟨_, rfl⟩
  · rintro ρ ⟨x, rfl⟩
    walk_at "ev"

def flt (ps : List (List Nat)) (w a : List Nat) (n : Nat) : List Nat := (List.range n).filter fun i => !decide ([w.getD i 0, a.getD i 0, w.getD ((i + 1) % w.length) 0, a.getD ((i + 1) % w.length) 0] ∈ ps)
theorem flt_succ {ps : List (List Nat)} {w a : List Nat} {n : Nat} : flt ps w a (n + 1) = if [w.getD n 0, a.getD n 0, w.getD ((n + 1) % w.length) 0, a.getD ((n + 1) % w.length) 0] ∈ ps then flt ps w a n else flt ps w a n ++ [n] := by
  unfold flt
  rw [List.range_succ, List.filter_append, List.filter_cons, List.filter_nil]
  split <;> split <;> simp_all
theorem flt_len {ps : List (List Nat)} {w a : List Nat} {n : Nat} : (flt ps w a n).length ≤ n := by
  have := List.length_filter_le (fun i => !decide ([w.getD i 0, a.getD i 0, w.getD ((i + 1) % w.length) 0, a.getD ((i + 1) % w.length) 0] ∈ ps)) (List.range n)
  rw [List.length_range] at this
  exact this

theorem word_ok {g s w : List Nat} {ps : List (List Nat)} (h : ∀ c ∈ w, c ∈ g) : F_check_word [.fz (wishD g s ps), .fz (sD w)] = .ok .nx [.no, .no] := by
  unfold F_check_word
  walk_at "ev"
  rw [isof_spec, decide_eq_true h]
  walk_at "ev"
theorem empty_tx : Str.ofString "" = tx [] := by decide +kernel
theorem ring_ok {g s w : List Nat} {ps : List (List Nat)} (h : ∀ c ∈ w, c ∈ g) (hn : w ≠ []) : F_check_ring [.fz (wishD g s ps), .fz (sD w)] = .ok .nx [.no, .no] := by
  unfold F_check_ring
  walk_at "ev"
  rw [word_ok h, empty_tx]
  walk_at "ev"
  rw [decide_eq_false fun e => hn (tx_inj e)]
  walk_at "ev"

theorem mks_len {g s : List Nat} {ps : List (List Nat)} {y : List Nat} : ∀ {w : List Nat}, (mks g s ps y w).length = w.length
  | [] => rfl
  | _ :: w => by rw [mks, List.length_cons, mks_len, List.length_cons]
theorem drop_rev {w : List Nat} {j c : Nat} (h : w.reverse[j]? = some c) : w.drop (w.length - (j + 1)) = c :: w.drop (w.length - j) := by
  have hj : j < w.length := by have := (List.getElem?_eq_some_iff.1 h).1; simpa using this
  rw [List.getElem?_reverse hj] at h
  have e : w.length - (j + 1) = w.length - 1 - j := by omega
  have hlt : w.length - 1 - j < w.length := by omega
  rw [e, List.drop_eq_getElem_cons hlt]
  rw [List.getElem?_eq_getElem hlt] at h
  cases h
  congr 2
  omega
theorem take_filter {s : List Nat} {p : Nat → Bool} {k b : Nat} (h : s[k]? = some b) : (s.take (k + 1)).filter p = (s.take k).filter p ++ if p b = true then [b] else [] := by
  rw [List.take_add_one, h, Option.toList_some, List.filter_append, List.filter_cons, List.filter_nil]
theorem living_spec {g s w : List Nat} {ps : List (List Nat)} (hg : g.Nodup) (hs : s.Nodup) (hw : ∀ c ∈ w, c ∈ g) (hl : w.length ≤ 1000) {y : List Nat} (hy : y ∈ cel g s) :
    F_living [.fz (wishD g s ps), .fz (sD w), .fz (sD y)] = .ok (.rt (.ow (.lst (natD (mks g s ps y w))))) [.no, .no, .no] := by
  refine ret_eq ?_
  unfold F_living
  walk_at "ev"
  rw [ix_index hy]
  walk_at "ev"
  rw [ix_bitsN (List.idxOf_lt_length_of_mem hy)]
  walk_at "ev"
  rw [revD_s (by omega)]
  walk_at "ev"
  refine Ret_seq2 (I := fun ρ => ∃ b x y' z, ρ = [.fz (wishD g s ps), .fz (sD w), .fz (sD y), .ow (.lst (natD (mks g s ps y w).reverse)), b, x, y', z]) (Nxx_for (fun j ρ => ∃ x y' z, ρ = [.fz (wishD g s ps), .fz (sD w), .fz (sD y), .ow (.lst (natD (mks g s ps y (w.drop (w.length - j))).reverse)), .fz (.int (bev g s ps (w.drop (w.length - j)) y : Nat)), x, y', z]) ⟨.no, .no, .no, ?_⟩ ?_ ?_) ?_
  · rw [Nat.sub_zero, List.drop_length]
    rfl
  · rintro j d ρ hd ⟨x, y', z, rfl⟩
    rw [List.getElem?_map] at hd
    cases hc : w.reverse[j]? with
    | none => rw [hc] at hd; cases hd
    | some c =>
      rw [hc] at hd
      cases hd
      have hcg : c ∈ g := hw c (List.mem_reverse.1 (List.mem_of_getElem? hc))
      have hj : j < w.length := by have := (List.getElem?_eq_some_iff.1 hc).1; simpa using this
      have hdr := drop_rev hc
      generalize hu : w.drop (w.length - j) = u at hdr
      have hug : ∀ c ∈ u, c ∈ g := fun c h => hw c (List.mem_of_mem_drop (by rw [hu]; exact h))
      refine ⟨_, rfl, ?_⟩
      walk_at "ev"
      rw [ix_placesN hg hs hcg]
      walk_at "ev"
      refine Nx_seq' (I := fun ρ => ∃ z, ρ = [.fz (wishD g s ps), .fz (sD w), .fz (sD y), .ow (.lst (natD (mks g s ps y u).reverse)), .fz (.int (bev g s ps u y : Nat)), .fz (sD [c]), .fz (.int (bev g s ps (c :: u) y : Nat)), z]) (Nxx_for (fun k ρ => ∃ z, ρ = [.fz (wishD g s ps), .fz (sD w), .fz (sD y), .ow (.lst (natD (mks g s ps y u).reverse)), .fz (.int (bev g s ps u y : Nat)), .fz (sD [c]), .fz (.int (msk (((s.take k).filter fun b => !(paths s ps [c, b] u y).isEmpty).map (idx g s c)) : Nat)), z]) ⟨.no, rfl⟩ ?_ ?_) ?_
      · rintro k d ρ hd ⟨z, rfl⟩
        rw [List.getElem?_map] at hd
        cases hb : s[k]? with
        | none => rw [hb] at hd; cases hd
        | some b =>
          rw [hb] at hd
          cases hd
          have hbs : b ∈ s := List.mem_of_getElem? hb
          refine ⟨_, rfl, ?_⟩
          walk_at "ev"
          rw [at_rows hcg hbs]
          walk_at "ev"
          rw [gAnd_nn]
          walk_at "ev"
          have hdec : decide ((0 : Int) < ((rowN g s ps [c, b] &&& bev g s ps u y : Nat) : Int)) = !(paths s ps [c, b] u y).isEmpty := by
            have := row_bev (ps := ps) (x := [c, b]) hg hs hug hy
            by_cases hp : paths s ps [c, b] u y = []
            · rw [decide_eq_false (fun z => this.1 (by omega) hp), hp]
              rfl
            · rw [decide_eq_true (by have := this.2 hp; omega)]
              cases hq : paths s ps [c, b] u y with
              | nil => exact (hp hq).elim
              | cons _ _ => rfl
          rw [hdec, take_filter hb]
          refine Nx_if (fun hb1 => ?_) (fun hb0 => ?_)
          · walk_at "ev"
            rw [ix_bitsI hcg hbs]
            walk_at "ev"
            rw [if_pos hb1]
            refine ⟨.fz (.int (idx g s c b : Nat)), ?_⟩
            rw [List.map_append]
            unfold msk
            rw [List.map_append, List.sum_append]
            simp only [List.map_cons, List.map_nil, List.sum_cons, List.sum_nil, Nat.add_zero, Int.natCast_add]
          · walk_at "ev"
            rw [if_neg (by rw [hb0]; exact Bool.false_ne_true), List.append_nil]
            exact ⟨_, rfl⟩
      · rintro ρ ⟨z, rfl⟩
        rw [List.length_map, List.take_length]
        exact ⟨_, rfl⟩
      · rintro ρ ⟨z, rfl⟩
        walk_at "ev"
        rw [mApp_1 (by unfold natD; rw [List.length_map, List.length_reverse, mks_len, ← hu, List.length_drop]; omega)]
        walk_at "ev"
        refine ⟨.fz (sD [c]), .fz (.int (bev g s ps (c :: u) y : Nat)), z, ?_⟩
        rw [hdr, mks, List.reverse_cons]
        unfold natD
        rw [List.map_append]
        rfl
  · rintro ρ ⟨x, y', z, rfl⟩
    rw [List.length_map, List.length_reverse, Nat.sub_self, List.drop_zero]
    exact ⟨_, _, _, _, rfl⟩
  · rintro ρ ⟨b, x, y', z, rfl⟩
    walk_at "ev"
    unfold natD
    rw [List.map_reverse, List.reverse_reverse]

def fndD (g s : List Nat) (c : Nat) (o : Option Nat) : D := match o with
  | some b => .int (idx g s c b : Nat)
  | none => .non
theorem first_of_spec {g s : List Nat} {ps : List (List Nat)} (hg : g.Nodup) (hs : s.Nodup) {c m : Nat} (hc : c ∈ g) {p : Nat → Bool} (hp : ∀ b ∈ s, m.testBit (idx g s c b) = p b) :
    F_first_of [.fz (wishD g s ps), .fz (sD [c]), .fz (.int (m : Nat))] = .ok (.rt (.fz (fndD g s c (s.find? p)))) [.no, .no, .no] := by
  refine ret_eq ?_
  unfold F_first_of
  walk_at "ev"
  rw [ix_placesN hg hs hc]
  walk_at "ev"
  refine forL_wp (Q := fun r => Ret (kFin _ (kSeq _ r)) _) (fun k ρ => (∃ z, ρ = [.fz (wishD g s ps), .fz (sD [c]), .fz (.int (m : Nat)), z]) ∧ (s.take k).find? p = none) _ 0 _ ⟨⟨_, rfl⟩, by simp⟩ ?_ ?_
  · rintro k d ρ hd ⟨⟨z, rfl⟩, hn⟩
    rw [Nat.zero_add] at hn ⊢
    rw [List.getElem?_map] at hd
    cases hb : s[k]? with
    | none => rw [hb] at hd; cases hd
    | some b =>
      rw [hb] at hd
      cases hd
      have hbs : b ∈ s := List.mem_of_getElem? hb
      have htk : s.take (k + 1) = s.take k ++ [b] := by rw [List.take_add_one, hb]; rfl
      refine ⟨_, rfl, ?_⟩
      walk_at "ev"
      rw [ix_bitsI hc hbs]
      walk_at "ev"
      rw [gAnd_nn]
      walk_at "ev"
      have hdec : decide ((0 : Int) < ((m &&& 2 ^ idx g s c b : Nat) : Int)) = p b := by
        have := and_pow (x := m) (i := idx g s c b)
        rw [hp b hbs] at this
        cases hpb : p b with
        | true => exact decide_eq_true (by have := this.2 hpb; omega)
        | false => exact decide_eq_false (fun z => by rw [hpb] at this; exact Bool.false_ne_true (this.1 (by omega)))
      rw [hdec]
      cases hpb : p b with
      | true =>
        right
        walk_at "ev"
        refine ⟨_, _, rfl, ?_⟩
        walk_at "ev"
        have : s.find? p = some b := by
          have h1 : s = s.take k ++ b :: s.drop (k + 1) := by
            conv => lhs; rw [← List.take_append_drop (k + 1) s, htk]
            simp
          rw [h1, List.find?_append, hn, Option.none_or, List.find?_cons, hpb]
        rw [this]
        rfl
      | false =>
        left
        walk_at "ev"
        refine ⟨_, .inl rfl, ⟨_, rfl⟩, ?_⟩
        rw [htk, List.find?_append, hn, Option.none_or, List.find?_cons, hpb]
        rfl
  · rintro ρ ⟨⟨z, rfl⟩, hn⟩
    rw [Nat.zero_add, List.length_map, List.take_length] at hn
    walk_at "ev"
    rw [hn]
    rfl

theorem head_flat {q : Nat → Prop} [DecidablePred q] {P : Nat → List (List Nat)} : ∀ {l : List Nat}, (l.flatMap fun b => if q b then (P b).map (b :: ·) else []).head? = (l.find? fun b => decide (q b) && !(P b).isEmpty).bind fun b => (P b).head?.map (b :: ·)
  | [] => rfl
  | a :: l => by
    rw [List.flatMap_cons, List.head?_append, head_flat (l := l), List.find?_cons]
    by_cases h : q a
    · rw [if_pos h, decide_eq_true h]
      cases hp : P a with
      | nil => rfl
      | cons z zs => simp [hp]
    · rw [if_neg h, decide_eq_false h]
      rfl
theorem paths_cons {s : List Nat} {ps : List (List Nat)} {x y w : List Nat} {c : Nat} : (paths s ps x (c :: w) y).head? = (s.find? fun b => decide (x ++ [c, b] ∈ ps) && !(paths s ps [c, b] w y).isEmpty).bind fun b => (paths s ps [c, b] w y).head?.map (b :: ·) := by
  rw [paths, head_flat]
theorem mks_get {g s : List Nat} {ps : List (List Nat)} {y : List Nat} : ∀ {w : List Nat} {k : Nat}, k < w.length → (mks g s ps y w)[k]? = some (bev g s ps (w.drop k) y)
  | [], _, h => by cases h
  | c :: w, 0, _ => rfl
  | c :: w, k + 1, h => by
    rw [mks, List.getElem?_cons_succ, List.drop_succ_cons]
    exact mks_get (by simpa using h)
theorem zipD_get {xs ys : List D} {k : Nat} {d : D} (h : (zipD xs ys)[k]? = some d) : ∃ a b, xs[k]? = some a ∧ ys[k]? = some b ∧ d = .tup [a, b] := by
  unfold zipD at h
  rw [List.getElem?_map] at h
  cases ez : (xs.zip ys)[k]? with
  | none => rw [ez] at h; cases h
  | some pr =>
    rw [ez] at h
    cases h
    obtain ⟨e1, e2⟩ := List.getElem?_zip_eq_some.mp ez
    exact ⟨_, _, e1, e2, rfl⟩
def optD : Option (List Nat) → D
  | some a => sD a
  | none => .non
theorem filled_spec {g s w : List Nat} {ps : List (List Nat)} (hg : g.Nodup) (hs : s.Nodup) (hw : ∀ c ∈ w, c ∈ g) (hl : w.length ≤ 1000) {cx bx : Nat} (hcx : cx ∈ g) (hbx : bx ∈ s) {y : List Nat} (hy : y ∈ cel g s) :
    F_filled [.fz (wishD g s ps), .fz (sD [cx, bx]), .fz (sD w), .fz (sD y)] = .ok (.rt (.fz (optD (paths s ps [cx, bx] w y).head?))) [.no, .no, .no, .no] := by
  refine ret_eq ?_
  unfold F_filled
  walk_at "ev"
  rw [empty_tx]
  cases w with
  | nil =>
    rw [decide_eq_true rfl]
    walk_at "ev"
    rw [gAdd_s (by simp [tx_length]; have := mem_cel.1 hy; obtain ⟨a, b, _, _, rfl⟩ := this; simp)]
    walk_at "ev"
    rw [paths]
    by_cases hin : cx :: bx :: y ∈ ps
    · rw [decide_eq_true hin, if_pos (show [cx, bx] ++ y ∈ ps from hin)]
      walk_at "ev"
      rfl
    · rw [decide_eq_false hin, if_neg (show ¬ [cx, bx] ++ y ∈ ps from hin)]
      walk_at "ev"
      rfl
  | cons c0 w0 =>
    generalize hw0 : c0 :: w0 = w at *
    have hn : w ≠ [] := by rw [← hw0]; exact List.cons_ne_nil _ _
    rw [decide_eq_false (fun z => hn (tx_inj z))]
    walk_at "ev"
    rw [ix_index (cel_in hcx hbx)]
    walk_at "ev"
    rw [living_spec hg hs hw hl hy]
    walk_at "ev"
    refine forL_wp (Q := fun r => Ret (kFin _ (kSeq _ r)) _) (fun k ρ => ∃ c b t x' y', ρ = [.fz (wishD g s ps), .fz (sD [cx, bx]), .fz (sD w), .fz (sD y), .fz (.int (idx g s c b : Nat)), .fz (sD t), x', y'] ∧ c ∈ g ∧ b ∈ s ∧ t.length = k ∧ (paths s ps [cx, bx] w y).head? = (paths s ps [c, b] (w.drop k) y).head?.map (t ++ ·) ∧ (k = 0 ∨ paths s ps [c, b] (w.drop k) y ≠ [])) _ 0 _ ⟨cx, bx, [], _, _, rfl, hcx, hbx, rfl, ?_, .inl rfl⟩ ?_ ?_
    · simp
    · rintro k d ρ hd ⟨c, b, t, x', y', rfl, hc, hb, ht, he, _⟩
      obtain ⟨d1, d2, h1, h2, rfl⟩ := zipD_get hd
      rw [Nat.zero_add] at ht he
      have hk : k < w.length := by have := (List.getElem?_eq_some_iff.1 h1).1; rw [List.length_map] at this; exact this
      have hwk : w[k]? = some w[k] := List.getElem?_eq_getElem hk
      generalize w[k] = c' at hwk
      have hc' : c' ∈ g := hw c' (List.mem_of_getElem? hwk)
      rw [List.getElem?_map, hwk] at h1
      cases h1
      unfold natD at h2
      rw [List.getElem?_map, mks_get hk] at h2
      cases h2
      have hdr : w.drop k = c' :: w.drop (k + 1) := by
        rw [List.drop_eq_getElem_cons hk]
        rw [List.getElem?_eq_getElem hk] at hwk
        cases hwk
        rfl
      generalize hu : w.drop (k + 1) = u at hdr
      rw [hdr] at he ⊢
      refine ⟨_, rfl, ?_⟩
      walk_at "ev"
      rw [at_rows hc hb]
      walk_at "ev"
      rw [gAnd_nn]
      walk_at "ev"
      rw [first_of_spec hg hs hc' (p := fun b' => decide ([c, b] ++ [c', b'] ∈ ps) && !(paths s ps [c', b'] u y).isEmpty) (fun b' hb' => by
        rw [Nat.testBit_and, bev_bit hs hc' hb', show (rowN g s ps [c, b]).testBit (idx g s c' b') = _ from rowN_bit hg hs (cel_in hc' hb'), Bool.and_comm]
        congr 1
        cases paths s ps [c', b'] u y <;> rfl)]
      rw [paths_cons] at he
      cases hf : s.find? (fun b' => decide ([c, b] ++ [c', b'] ∈ ps) && !(paths s ps [c', b'] u y).isEmpty) with
      | none =>
        rw [hf] at he
        right
        unfold fndD
        walk_at "ev"
        refine ⟨_, _, rfl, ?_⟩
        walk_at "ev"
        rw [he]
        rfl
      | some b' =>
        have hb' : b' ∈ s := List.mem_of_find?_eq_some hf
        have hp := List.find?_some hf
        simp only [Bool.and_eq_true, Bool.not_eq_true', List.isEmpty_eq_false_iff] at hp
        rw [hf] at he
        left
        unfold fndD
        walk_at "ev"
        rw [at_cells hc' hb']
        walk_at "ev"
        rw [gAddI_s (by simp; omega)]
        walk_at "ev"
        refine ⟨_, .inl rfl, c', b', t ++ [b'], _, _, rfl, hc', hb', by simp; omega, ?_, .inr ?_⟩
        · rw [he, Nat.zero_add, hu, Option.bind_some, Option.map_map]
          congr 1
          funext z
          simp
        · rw [Nat.zero_add, hu]
          exact hp.2
    · rintro ρ ⟨c, b, t, x', y', rfl, hc, hb, ht, he, hne⟩
      have hlen : (zipD (List.map (fun c => D.str (tx [c])) w) (natD (mks g s ps y w))).length = w.length := by
        unfold zipD natD
        simp [mks_len]
      rw [hlen, Nat.zero_add] at ht he hne
      rw [List.drop_length] at he hne
      walk_at "ev"
      rw [he]
      rcases hne with e | hne
      · exact (hn (List.length_eq_zero_iff.1 e)).elim
      · rw [paths] at hne ⊢
        split at hne
        · rename_i hin
          rw [if_pos hin]
          simp [optD]
        · exact (hne rfl).elim

def due (s : List Nat) (ps : List (List Nat)) (c : Nat) (w : List Nat) : List (List Nat) := s.flatMap fun b => (paths s ps [c, b] w [c, b]).map (b :: ·)
theorem paths_len {s : List Nat} {ps : List (List Nat)} {y : List Nat} : ∀ {w x : List Nat} {a : List Nat}, a ∈ paths s ps x w y → a.length = w.length ∧ ∀ b ∈ a, b ∈ s
  | [], x, a, h => by
    rw [paths] at h
    split at h
    · rw [List.mem_singleton.1 h]
      exact ⟨rfl, fun b hb => by cases hb⟩
    · cases h
  | c :: w, x, a, h => by
    rw [paths, List.mem_flatMap] at h
    obtain ⟨b, hb, h⟩ := h
    split at h
    · obtain ⟨r, hr, rfl⟩ := List.mem_map.1 h
      obtain ⟨h1, h2⟩ := paths_len hr
      refine ⟨by simp [h1], fun b' hb' => ?_⟩
      rcases List.mem_cons.1 hb' with rfl | hb'
      · exact hb
      · exact h2 b' hb'
    · cases h
theorem first_spec {g s w : List Nat} {ps : List (List Nat)} {c : Nat} (hg : g.Nodup) (hs : s.Nodup) (hw : ∀ c' ∈ c :: w, c' ∈ g) (hl : w.length ≤ 900) :
    F_first_answer [.fz (wishD g s ps), .fz (sD (c :: w))] = .ok (.rt (.fz (optD (due s ps c w).head?))) [.no, .no] := by
  have hc : c ∈ g := hw c List.mem_cons_self
  have hw' : ∀ c' ∈ w, c' ∈ g := fun c' h => hw c' (List.mem_cons_of_mem _ h)
  refine ret_eq ?_
  unfold F_first_answer
  walk_at "ev"
  rw [ring_ok hw (List.cons_ne_nil _ _)]
  walk_at "ev"
  rw [show ixD (sD (c :: w)) (.int 0) = some (.fz (.str (tx [c]))) from ix_at 0 rfl (by simp) (by simp; omega)]
  walk_at "ev"
  rw [ix_placesN hg hs hc]
  walk_at "ev"
  refine forL_wp (Q := fun r => Ret (kFin _ (kSeq _ r)) _) (fun k ρ => (∃ x y z, ρ = [.fz (wishD g s ps), .fz (sD (c :: w)), x, y, z]) ∧ ((s.take k).flatMap fun b => (paths s ps [c, b] w [c, b]).map (b :: ·)) = []) _ 0 _ ⟨⟨_, _, _, rfl⟩, by simp⟩ ?_ ?_
  · rintro k d ρ hd ⟨⟨x, y, z, rfl⟩, hn⟩
    rw [Nat.zero_add] at hn ⊢
    rw [List.getElem?_map] at hd
    cases hb : s[k]? with
    | none => rw [hb] at hd; cases hd
    | some b =>
      rw [hb] at hd
      cases hd
      have hbs : b ∈ s := List.mem_of_getElem? hb
      have htk : s.take (k + 1) = s.take k ++ [b] := by rw [List.take_add_one, hb]; rfl
      refine ⟨_, rfl, ?_⟩
      walk_at "ev"
      rw [at_cells hc hbs]
      walk_at "ev"
      rw [slD_s (by simp; omega), show cutD (c :: w) (some 1) none = w from cut_from (by decide)]
      walk_at "ev"
      rw [filled_spec hg hs hw' (by omega) hc hbs (cel_in hc hbs)]
      walk_at "ev"
      cases hp : paths s ps [c, b] w [c, b] with
      | nil =>
        left
        rw [List.head?_nil]
        unfold optD
        walk_at "ev"
        refine ⟨_, .inl rfl, ⟨_, _, _, rfl⟩, ?_⟩
        rw [htk, List.flatMap_append, hn, List.nil_append, List.flatMap_cons, hp]
        rfl
      | cons r rs =>
        right
        have hr := paths_len (a := r) (by rw [hp]; exact List.mem_cons_self)
        rw [List.head?_cons]
        unfold optD
        walk_at "ev"
        rw [gAdd_s (by simp; omega)]
        walk_at "ev"
        refine ⟨_, _, rfl, ?_⟩
        walk_at "ev"
        have h1 : s = s.take k ++ b :: s.drop (k + 1) := by
          conv => lhs; rw [← List.take_append_drop (k + 1) s, htk]
          simp
        have h2 : (due s ps c w).head? = some (b :: r) := by
          have h3 : due s ps c w = ((s.take k).flatMap fun b => (paths s ps [c, b] w [c, b]).map (b :: ·)) ++ ((b :: s.drop (k + 1)).flatMap fun b => (paths s ps [c, b] w [c, b]).map (b :: ·)) := by
            rw [← List.flatMap_append, ← h1]
            rfl
          rw [h3, hn, List.nil_append, List.flatMap_cons, hp]
          rfl
        rw [h2]
  · rintro ρ ⟨⟨x, y, z, rfl⟩, hn⟩
    rw [Nat.zero_add, List.length_map, List.take_length] at hn
    walk_at "ev"
    unfold due
    rw [hn]
    rfl

def rws (s : List Nat) (ps : List (List Nat)) (w : List Nat) : Nat → List (List Nat)
  | 0 => [[]]
  | k + 1 => (rws s ps w k).flatMap fun r => (s.filter fun b => decide (k = 0) || decide ([w.getD (k - 1) 0, r.getD (k - 1) 0, w.getD k 0, b] ∈ ps)).map fun b => r ++ [b]
theorem rws_len {s : List Nat} {ps : List (List Nat)} {w : List Nat} : ∀ {k : Nat} {r : List Nat}, r ∈ rws s ps w k → r.length = k ∧ ∀ b ∈ r, b ∈ s
  | 0, r, h => by
    rw [rws, List.mem_singleton] at h
    rw [h]
    exact ⟨rfl, fun b hb => by cases hb⟩
  | k + 1, r, h => by
    rw [rws, List.mem_flatMap] at h
    obtain ⟨r', hr', h⟩ := h
    obtain ⟨b, hb, rfl⟩ := List.mem_map.1 h
    obtain ⟨h1, h2⟩ := rws_len hr'
    refine ⟨by simp [h1], fun x hx => ?_⟩
    rcases List.mem_append.1 hx with hx | hx
    · exact h2 x hx
    · rw [List.mem_singleton.1 hx]
      exact (List.mem_filter.1 hb).1
theorem len_flat {α β : Type} {f : α → List β} {m : Nat} : ∀ {l : List α}, (∀ a ∈ l, (f a).length ≤ m) → (l.flatMap f).length ≤ l.length * m
  | [], _ => by simp
  | a :: l, h => by
    rw [List.flatMap_cons, List.length_append, List.length_cons, Nat.succ_mul]
    have h1 := h a List.mem_cons_self
    have h2 := len_flat (l := l) fun b hb => h b (List.mem_cons_of_mem _ hb)
    omega
theorem rws_many {s : List Nat} {ps : List (List Nat)} {w : List Nat} (hs : s.length ≤ 4) : ∀ {k : Nat}, (rws s ps w k).length ≤ 4 ^ k
  | 0 => by simp [rws]
  | k + 1 => by
    rw [rws, Nat.pow_succ]
    refine Nat.le_trans (len_flat (m := 4) fun r _ => ?_) (Nat.mul_le_mul_right 4 (rws_many hs))
    rw [List.length_map]
    exact Nat.le_trans (List.length_filter_le _ _) hs
theorem rows_spec {s w : List Nat} {ps : List (List Nat)} (h4 : s.length ≤ 4) (hl : w.length ≤ 7) (hn : w ≠ []) :
    F__law_rows [.fz (knD ps), .fz (sD s), .fz (sD w)] = .ok (.rt (.fz (.lst ((rws s ps w w.length).map sD)))) [.no, .no, .no] := by
  have hn0 : 0 < w.length := List.length_pos_iff.2 hn
  refine ret_eq ?_
  unfold F__law_rows
  walk_at "ev"
  rw [empty_tx, gLen_tx (by omega)]
  walk_at "ev"
  rw [rng1_i (by omega)]
  walk_at "ev"
  refine Ret_seq2 (I := fun ρ => ∃ x y z u, ρ = [.fz (knD ps), .fz (sD s), .fz (sD w), .fz (.lst ((rws s ps w w.length).map sD)), x, y, z, u]) (Nxx_for (fun k ρ => ∃ x y z u t, ρ = [.fz (knD ps), .fz (sD s), .fz (sD w), t, x, y, z, u] ∧ ((t = .ow (.lst ((rws s ps w k).map sD)) ∧ k = 0) ∨ (t = .fz (.lst ((rws s ps w k).map sD)) ∧ k ≠ 0))) ⟨.no, .no, .no, .no, _, rfl, .inl ⟨rfl, rfl⟩⟩ ?_ ?_) ?_
  · rintro k d ρ hd ⟨x, y, z, u, t, rfl, ht⟩
    obtain ⟨hk, rfl⟩ := mem_rng hd
    have hmany := rws_many (ps := ps) (w := w) h4 (k := k)
    have hmany' := rws_many (ps := ps) (w := w) h4 (k := k + 1)
    have hpow : 4 ^ (k + 1) ≤ 4 ^ 7 := Nat.pow_le_pow_right (by decide) (by omega)
    have hpow' : (4 : Nat) ^ 7 = 16384 := by decide
    refine ⟨_, rfl, ?_⟩
    have e0 : (0 + (k : Int)) = (k : Int) := by omega
    rw [e0]
    have inner : ∀ x z u : Sl, Nx (kSeq (ySet 3 (xV 5)) (forL [6, 7] (tgN 6) (yFor [7] (wIt (xV 1)) (tgN 7) (yIf (xOr (xB gEq (aX (xV 4)) (aX (xC (.int 0)))) (xB gInX (aX (xB gAdd (aX (xB gAdd (aX (xB gAdd (aX (xB ixD (aX (xV 2)) (aX (xB gSub (aX (xV 4)) (aX (xC (.int 1))))))) (aX (xB ixD (aX (xV 6)) (aX (xB gSub (aX (xV 4)) (aX (xC (.int 1))))))))) (aX (xB ixD (aX (xV 2)) (aX (xV 4)))))) (aX (xV 7)))) (aX (xV 0)))) (yX (xMu 5 mApp (cX (xB gAdd (aX (xV 6)) (aX (xV 7))) cNil))) yNil)) ((rws s ps w k).map sD) [.fz (knD ps), .fz (sD s), .fz (sD w), .fz (.lst ((rws s ps w k).map sD)), .fz (.int (k : Nat)), .ow (.lst []), z, u])) (fun ρ => ∃ x y z u, ρ = [.fz (knD ps), .fz (sD s), .fz (sD w), .fz (.lst ((rws s ps w (k + 1)).map sD)), x, y, z, u]) := by
      intro x z u
      let q : List Nat → Nat → Bool := fun r b => decide (k = 0) || decide ([w.getD (k - 1) 0, r.getD (k - 1) 0, w.getD k 0, b] ∈ ps)
      refine Nx_seq' (I := fun ρ => ∃ z u, ρ = [.fz (knD ps), .fz (sD s), .fz (sD w), .fz (.lst ((rws s ps w k).map sD)), .fz (.int (k : Nat)), .ow (.lst ((rws s ps w (k + 1)).map sD)), z, u]) (Nxx_for (fun m ρ => ∃ z u, ρ = [.fz (knD ps), .fz (sD s), .fz (sD w), .fz (.lst ((rws s ps w k).map sD)), .fz (.int (k : Nat)), .ow (.lst ((((rws s ps w k).take m).flatMap fun r => (s.filter (q r)).map fun b => r ++ [b]).map sD)), z, u]) ⟨_, _, rfl⟩ ?_ ?_) ?_
      · rintro m d ρ hd ⟨z, u, rfl⟩
        rw [List.getElem?_map] at hd
        cases hr : (rws s ps w k)[m]? with
        | none => rw [hr] at hd; cases hd
        | some r =>
          rw [hr] at hd
          cases hd
          have hrm := List.mem_of_getElem? hr
          obtain ⟨hr1, hr2⟩ := rws_len hrm
          have htk : (rws s ps w k).take (m + 1) = (rws s ps w k).take m ++ [r] := by rw [List.take_add_one, hr]; rfl
          generalize hold : (((rws s ps w k).take m).flatMap fun r => (s.filter (q r)).map fun b => r ++ [b]) = old
          have holdl : old.length ≤ 16384 := by
            rw [← hold]
            refine Nat.le_trans (len_flat (m := 4) fun r _ => ?_) ?_
            · rw [List.length_map]; exact Nat.le_trans (List.length_filter_le _ _) h4
            · rw [List.length_take]
              have : (rws s ps w k).length ≤ 4 ^ k := hmany
              have h5 : 4 ^ (k + 1) = 4 ^ k * 4 := Nat.pow_succ ..
              omega
          refine ⟨_, rfl, ?_⟩
          walk_at "ev"
          refine (Nxx_for (fun t ρ => ∃ u, ρ = [.fz (knD ps), .fz (sD s), .fz (sD w), .fz (.lst ((rws s ps w k).map sD)), .fz (.int (k : Nat)), .ow (.lst ((old ++ ((s.take t).filter (q r)).map fun b => r ++ [b]).map sD)), .fz (sD r), u]) ⟨_, by rw [List.take_zero, List.filter_nil, List.map_nil, List.append_nil]⟩ ?_ ?_).nx
          · rintro t d ρ hd ⟨u, rfl⟩
            rw [List.getElem?_map] at hd
            cases hb : s[t]? with
            | none => rw [hb] at hd; cases hd
            | some b =>
              rw [hb] at hd
              cases hd
              have ht : t < s.length := (List.getElem?_eq_some_iff.1 hb).1
              have hbound : (old ++ ((s.take t).filter (q r)).map fun b => r ++ [b]).length ≤ 20000 := by
                rw [List.length_append, List.length_map]
                have := List.length_filter_le (q r) (s.take t)
                rw [List.length_take] at this
                omega
              generalize hnew : (old ++ ((s.take t).filter (q r)).map fun b => r ++ [b]) = new at hbound
              have hnext : (old ++ ((s.take (t + 1)).filter (q r)).map fun b => r ++ [b]) = new ++ if q r b = true then [r ++ [b]] else [] := by
                rw [take_filter hb, List.map_append, ← List.append_assoc, hnew]
                split <;> rfl
              rw [hnext]
              refine ⟨_, rfl, ?_⟩
              walk_at "ev"
              by_cases hk0 : k = 0
              · have hq : q r b = true := by simp only [q, hk0, decide_true, Bool.true_or]
                rw [if_pos hq, decide_eq_true (show ((k : Nat) : Int) = 0 by omega)]
                walk_at "ev"
                rw [gAdd_s (by simp; omega)]
                walk_at "ev"
                rw [mApp_1 (by rw [List.length_map]; omega)]
                walk_at "ev"
                exact ⟨_, by rw [List.map_append]; rfl⟩
              · have hqe : q r b = decide ([w.getD (k - 1) 0, r.getD (k - 1) 0, w.getD k 0, b] ∈ ps) := by simp only [q, hk0, decide_false, Bool.false_or]
                rw [hqe, decide_eq_false (show ¬ ((k : Nat) : Int) = 0 by omega)]
                walk_at "ev"
                rw [ix_at (k - 1) (by omega) (by omega) (by omega)]
                walk_at "ev"
                rw [ix_at (k - 1) (by omega) (by omega) (by omega)]
                walk_at "ev"
                rw [ix_at k rfl (by omega) (by omega)]
                walk_at "ev"
                by_cases hin : [w.getD (k - 1) 0, r.getD (k - 1) 0, w.getD k 0, b] ∈ ps
                · rw [decide_eq_true hin]
                  walk_at "ev"
                  rw [gAdd_s (by simp; omega)]
                  walk_at "ev"
                  rw [mApp_1 (by rw [List.length_map]; omega)]
                  walk_at "ev"
                  exact ⟨_, by rw [List.map_append]; rfl⟩
                · rw [decide_eq_false hin]
                  walk_at "ev"
                  exact ⟨_, by rw [if_neg Bool.false_ne_true, List.append_nil]⟩
          · rintro ρ ⟨u, rfl⟩
            rw [List.length_map, List.take_length]
            refine ⟨.fz (sD r), .no, ?_⟩
            rw [htk, List.flatMap_append, hold, List.flatMap_singleton]
            rfl
      · rintro ρ ⟨z, u, rfl⟩
        rw [List.length_map, List.take_length]
        exact ⟨.no, .no, rfl⟩
      · rintro ρ ⟨z, u, rfl⟩
        walk_at "ev"
        exact ⟨_, _, _, _, rfl⟩
    rcases ht with ⟨rfl, hk0⟩ | ⟨rfl, hk0⟩
    · walk_at "ev"
      obtain ⟨ρ, e, x, y, z, u, h⟩ := (inner .no .no .no).ex
      exact ⟨⟨ρ, e, x, y, z, u, _, h, .inr rfl⟩⟩
    · walk_at "ev"
      obtain ⟨ρ, e, x, y, z, u, h⟩ := (inner .no .no .no).ex
      exact ⟨⟨ρ, e, x, y, z, u, _, h, .inr rfl⟩⟩
  · rintro ρ ⟨x, y, z, u, t, rfl, ht⟩
    have e1 : ((List.range (w.length : Int).toNat).map fun (i : Nat) => D.int (0 + (i : Int))).length = w.length := by simp
    rw [e1] at ht
    rcases ht with ⟨_, h0⟩ | ⟨rfl, _⟩
    · omega
    · exact ⟨_, _, _, _, rfl⟩
  · rintro ρ ⟨x, y, z, u, rfl⟩
    walk_at "ev"

/-- a row of cells in which each one goes to the next -/
def chn (ps : List (List Nat)) : List Nat → List Nat → List Nat → List Nat → Prop
  | x, c :: w, b :: a, y => x ++ [c, b] ∈ ps ∧ chn ps [c, b] w a y
  | x, [], [], y => x ++ y ∈ ps
  | _, _, _, _ => False
theorem chn_len {ps : List (List Nat)} {y : List Nat} : ∀ {w x a : List Nat}, chn ps x w a y → a.length = w.length
  | [], _, [], _ => rfl
  | [], _, _ :: _, h => by simp [chn] at h
  | _ :: _, _, [], h => by simp [chn] at h
  | c :: w, x, b :: a, h => by rw [chn] at h; rw [List.length_cons, List.length_cons, chn_len h.2]
theorem mem_paths {s : List Nat} {ps : List (List Nat)} {y : List Nat} : ∀ {w x a : List Nat}, a ∈ paths s ps x w y ↔ (∀ b ∈ a, b ∈ s) ∧ chn ps x w a y
  | [], x, a => by
    rw [paths]
    cases a with
    | nil =>
      rw [chn]
      by_cases h : x ++ y ∈ ps <;> simp [h]
    | cons b a =>
      rw [chn]
      · by_cases h : x ++ y ∈ ps <;> simp [h]
      all_goals simp
  | c :: w, x, a => by
    rw [paths, List.mem_flatMap]
    cases a with
    | nil =>
      rw [chn]
      · constructor
        · rintro ⟨b, _, h⟩
          split at h
          · simp at h
          · cases h
        · rintro ⟨_, h⟩; exact h.elim
      all_goals simp
    | cons b a =>
      rw [chn]
      constructor
      · rintro ⟨b', hb, h⟩
        split at h
        · rename_i hin
          obtain ⟨r, hr, e⟩ := List.mem_map.1 h
          cases e
          obtain ⟨h1, h2⟩ := mem_paths.1 hr
          refine ⟨fun z hz => ?_, hin, h2⟩
          rcases List.mem_cons.1 hz with rfl | hz
          · exact hb
          · exact h1 z hz
        · cases h
      · rintro ⟨h1, hin, h2⟩
        exact ⟨b, h1 b List.mem_cons_self, by
          rw [if_pos hin]
          exact List.mem_map_of_mem (mem_paths.2 ⟨fun z hz => h1 z (List.mem_cons_of_mem _ hz), h2⟩)⟩
theorem chn_iff {ps : List (List Nat)} {y0 y1 : Nat} : ∀ {w a : List Nat} {x0 x1 : Nat}, a.length = w.length → (chn ps [x0, x1] w a [y0, y1] ↔ ∀ j, j ≤ w.length → [(x0 :: (w ++ [y0])).getD j 0, (x1 :: (a ++ [y1])).getD j 0, (x0 :: (w ++ [y0])).getD (j + 1) 0, (x1 :: (a ++ [y1])).getD (j + 1) 0] ∈ ps)
  | [], [], x0, x1, _ => by
    rw [chn]
    constructor
    · intro h j hj
      have : j = 0 := by simpa using hj
      subst this
      exact h
    · intro h
      exact h 0 (Nat.zero_le _)
  | [], _ :: _, _, _, h => by simp at h
  | _ :: _, [], _, _, h => by simp at h
  | c :: w, b :: a, x0, x1, h => by
    rw [chn, chn_iff (w := w) (a := a) (by simpa using h)]
    constructor
    · rintro ⟨h1, h2⟩ j hj
      cases j with
      | zero => exact h1
      | succ j => exact h2 j (by simpa using hj)
    · intro h2
      exact ⟨h2 0 (Nat.zero_le _), fun j hj => h2 (j + 1) (by simpa using hj)⟩
theorem wrap_get {x : Nat} {w : List Nat} {j : Nat} (hj : j ≤ w.length) : (x :: (w ++ [x])).getD j 0 = (x :: w).getD j 0 ∧ (x :: (w ++ [x])).getD (j + 1) 0 = (x :: w).getD ((j + 1) % (w.length + 1)) 0 := by
  have e : x :: (w ++ [x]) = (x :: w) ++ [x] := rfl
  constructor
  · rw [e, List.getD_eq_getElem?_getD, List.getElem?_append_left (by simp; omega), ← List.getD_eq_getElem?_getD]
  · by_cases h : j + 1 < w.length + 1
    · rw [Nat.mod_eq_of_lt h, e, List.getD_eq_getElem?_getD, List.getElem?_append_left (by simpa using h), ← List.getD_eq_getElem?_getD]
    · have h1 : j + 1 = w.length + 1 := by omega
      rw [h1, Nat.mod_self, e, List.getD_eq_getElem?_getD, List.getElem?_append_right (by simp)]
      simp
theorem mem_due {s : List Nat} {ps : List (List Nat)} {c : Nat} {w a : List Nat} : a ∈ due s ps c w ↔ a.length = w.length + 1 ∧ (∀ b ∈ a, b ∈ s) ∧ flt ps (c :: w) a (c :: w).length = [] := by
  unfold due
  rw [List.mem_flatMap]
  cases a with
  | nil => simp
  | cons b a =>
    have key : a.length = w.length → (chn ps [c, b] w a [c, b] ↔ flt ps (c :: w) (b :: a) (c :: w).length = []) := fun hl => by
      rw [chn_iff hl]
      unfold flt
      rw [List.filter_eq_nil_iff]
      simp only [List.mem_range, List.length_cons, Bool.not_eq_true', Bool.not_eq_true, decide_eq_false_iff_not, Decidable.not_not, Bool.not_eq_false, decide_eq_true_eq]
      constructor
      · intro h i hi
        have := h i (by omega)
        rw [(wrap_get (by omega)).1, (wrap_get (by omega)).2, (wrap_get (x := b) (w := a) (by omega)).1, (wrap_get (x := b) (w := a) (by omega)).2, hl] at this
        exact this
      · intro h i hi
        rw [(wrap_get (by omega)).1, (wrap_get (by omega)).2, (wrap_get (x := b) (w := a) (by omega)).1, (wrap_get (x := b) (w := a) (by omega)).2, hl]
        exact h i (by omega)
    constructor
    · rintro ⟨b', hb, h⟩
      obtain ⟨r, hr, e⟩ := List.mem_map.1 h
      cases e
      obtain ⟨h1, h2⟩ := mem_paths.1 hr
      have hl := chn_len h2
      refine ⟨by simp [hl], fun z hz => ?_, (key hl).1 h2⟩
      rcases List.mem_cons.1 hz with rfl | hz
      · exact hb
      · exact h1 z hz
    · rintro ⟨hl, h1, h2⟩
      have hl' : a.length = w.length := by simpa using hl
      exact ⟨b, h1 b List.mem_cons_self, List.mem_map_of_mem (mem_paths.2 ⟨fun z hz => h1 z (List.mem_cons_of_mem _ hz), (key hl').2 h2⟩)⟩

/-- all words of k letters, in their order -/
def wds (s : List Nat) : Nat → List (List Nat)
  | 0 => [[]]
  | k + 1 => s.flatMap fun b => (wds s k).map (b :: ·)
theorem mem_wds {s : List Nat} : ∀ {k : Nat} {a : List Nat}, a ∈ wds s k ↔ a.length = k ∧ ∀ b ∈ a, b ∈ s
  | 0, a => by
    rw [wds, List.mem_singleton]
    constructor
    · rintro rfl; exact ⟨rfl, fun b hb => by cases hb⟩
    · rintro ⟨h, _⟩; exact List.length_eq_zero_iff.1 h
  | k + 1, a => by
    rw [wds, List.mem_flatMap]
    constructor
    · rintro ⟨b, hb, h⟩
      obtain ⟨r, hr, rfl⟩ := List.mem_map.1 h
      obtain ⟨h1, h2⟩ := mem_wds.1 hr
      refine ⟨by simp [h1], fun z hz => ?_⟩
      rcases List.mem_cons.1 hz with rfl | hz
      · exact hb
      · exact h2 z hz
    · rintro ⟨h1, h2⟩
      cases a with
      | nil => simp at h1
      | cons b a => exact ⟨b, h2 b List.mem_cons_self, List.mem_map_of_mem (mem_wds.2 ⟨by simpa using h1, fun z hz => h2 z (List.mem_cons_of_mem _ hz)⟩)⟩
theorem paths_wds {s : List Nat} {ps : List (List Nat)} {y : List Nat} : ∀ {w x : List Nat} (P : List Nat → Bool), (∀ a, a ∈ wds s w.length → (P a = true ↔ chn ps x w a y)) → paths s ps x w y = (wds s w.length).filter P
  | [], x, P, h => by
    have := h [] (by simp [wds])
    rw [chn] at this
    rw [paths, show wds s ([] : List Nat).length = [[]] from rfl, List.filter_cons, List.filter_nil]
    by_cases q : x ++ y ∈ ps
    · rw [if_pos q, if_pos (this.2 q)]
    · rw [if_neg q, if_neg (fun z => q (this.1 z))]
  | c :: w, x, P, h => by
    rw [paths, show wds s (c :: w).length = s.flatMap fun b => (wds s w.length).map (b :: ·) from rfl, List.filter_flatMap]
    refine congrArg List.flatten (List.map_congr_left fun b hb => ?_)
    rw [List.filter_map]
    have h' : ∀ a, a ∈ wds s w.length → (P (b :: a) = true ↔ x ++ [c, b] ∈ ps ∧ chn ps [c, b] w a y) := fun a ha => by
      have := h (b :: a) (by
        show b :: a ∈ s.flatMap fun b => (wds s w.length).map (b :: ·)
        exact List.mem_flatMap.2 ⟨b, hb, List.mem_map_of_mem ha⟩)
      rw [chn] at this
      exact this
    by_cases q : x ++ [c, b] ∈ ps
    · rw [if_pos q]
      rw [paths_wds (w := w) (x := [c, b]) (P ∘ (b :: ·)) (fun a ha => by
        rw [show (P ∘ (b :: ·)) a = P (b :: a) from rfl, h' a ha]
        exact ⟨fun z => z.2, fun z => ⟨q, z⟩⟩)]
    · rw [if_neg q]
      symm
      rw [List.map_eq_nil_iff, List.filter_eq_nil_iff]
      intro a ha z
      exact q ((h' a ha).1 z).1
def rgt (ps : List (List Nat)) (w a : List Nat) : Bool := decide (flt ps w a w.length = [])
theorem due_wds {s : List Nat} {ps : List (List Nat)} {c : Nat} {w : List Nat} : due s ps c w = (wds s (w.length + 1)).filter (rgt ps (c :: w)) := by
  unfold due
  rw [wds, List.filter_flatMap]
  refine congrArg List.flatten (List.map_congr_left fun b hb => ?_)
  rw [List.filter_map]
  congr 1
  refine paths_wds _ fun a ha => ?_
  obtain ⟨h1, h2⟩ := mem_wds.1 ha
  show rgt ps (c :: w) (b :: a) = true ↔ _
  unfold rgt
  rw [decide_eq_true_eq]
  have := mem_due (s := s) (ps := ps) (c := c) (w := w) (a := b :: a)
  constructor
  · intro h
    have hm := this.2 ⟨by simp [h1], fun z hz => by
      rcases List.mem_cons.1 hz with rfl | hz
      · exact hb
      · exact h2 z hz, h⟩
    unfold due at hm
    obtain ⟨b', _, hm⟩ := List.mem_flatMap.1 hm
    obtain ⟨r, hr, e⟩ := List.mem_map.1 hm
    cases e
    exact (mem_paths.1 hr).2
  · intro h
    refine (this.1 ?_).2.2
    unfold due
    exact List.mem_flatMap.2 ⟨b, hb, List.mem_map_of_mem (mem_paths.2 ⟨h2, h⟩)⟩
theorem idx_filter_le {p q : List Nat → Bool} {a : List Nat} : ∀ {l : List (List Nat)}, (∀ x ∈ l, p x = true → q x = true) → a ∈ l → p a = true → (l.filter p).idxOf a ≤ (l.filter q).idxOf a
  | [], _, h, _ => by cases h
  | x :: l, hpq, h, pa => by
    have ih := fun h' => idx_filter_le (l := l) (fun y hy => hpq y (List.mem_cons_of_mem _ hy)) h' pa
    rw [List.filter_cons, List.filter_cons]
    by_cases e : x = a
    · subst e
      rw [if_pos pa, if_pos (hpq x List.mem_cons_self pa), List.idxOf_cons_self]
      exact Nat.zero_le _
    · have h' : a ∈ l := by
        rcases List.mem_cons.1 h with rfl | h
        · exact (e rfl).elim
        · exact h
      have hx : (x == a) = false := by simpa using e
      by_cases px : p x = true
      · rw [if_pos px, if_pos (hpq x List.mem_cons_self px), List.idxOf_cons, List.idxOf_cons, hx]
        exact Nat.succ_le_succ (ih h')
      · rw [if_neg px]
        split
        · rw [List.idxOf_cons, hx]
          exact Nat.le_succ_of_le (ih h')
        · exact ih h'
/-- the order of the answers, by the places of their letters -/
def pls (s a : List Nat) : List Int := a.map fun b => ((s.idxOf b : Nat) : Int)
theorem idx_pair {s : List Nat} (hs : s.Nodup) : s.Pairwise fun b b' => s.idxOf b < s.idxOf b' := by
  rw [List.pairwise_iff_getElem]
  intro i j hi hj hij
  rw [hs.idxOf_getElem i hi, hs.idxOf_getElem j hj]
  exact hij
theorem wds_sorted {s : List Nat} (hs : s.Nodup) : ∀ {k : Nat}, (wds s k).Pairwise fun a b => pls s a < pls s b
  | 0 => by simp [wds]
  | k + 1 => by
    rw [wds, List.pairwise_flatMap]
    refine ⟨fun b _ => ?_, (idx_pair hs).imp fun {b b'} hlt u hu v hv => ?_⟩
    · rw [List.pairwise_map]
      refine (wds_sorted hs (k := k)).imp fun {u v} h => ?_
      show pls s (b :: u) < pls s (b :: v)
      unfold pls at h ⊢
      rw [List.map_cons, List.map_cons, List.cons_lt_cons_iff]
      exact .inr ⟨rfl, h⟩
    · obtain ⟨r, _, rfl⟩ := List.mem_map.1 hu
      obtain ⟨r', _, rfl⟩ := List.mem_map.1 hv
      unfold pls
      rw [List.map_cons, List.map_cons, List.cons_lt_cons_iff]
      exact .inl (by omega)
theorem head_least {s : List Nat} (hs : s.Nodup) {k : Nat} {p : List Nat → Bool} {a r : List Nat} {t : List (List Nat)} (e : (wds s k).filter p = r :: t) (h : a ∈ (wds s k).filter p) : ¬ pls s a < pls s r := by
  have hp := (wds_sorted hs (k := k)).sublist (List.filter_sublist (p := p))
  rw [e] at hp h
  rcases List.mem_cons.1 h with rfl | h
  · exact List.lt_irrefl _
  · exact List.lt_asymm ((List.pairwise_cons.1 hp).1 a h)

/-- whether some way leads from a cell through a word to a cell -/
def rch (s : List Nat) (ps : List (List Nat)) (x u y : List Nat) : Prop := paths s ps x u y ≠ []
instance {s : List Nat} {ps : List (List Nat)} {x u y : List Nat} : Decidable (rch s ps x u y) := inferInstanceAs (Decidable (paths s ps x u y ≠ []))
theorem rch_nil {s : List Nat} {ps : List (List Nat)} {x y : List Nat} : rch s ps x [] y ↔ x ++ y ∈ ps := by
  unfold rch
  rw [paths]
  by_cases h : x ++ y ∈ ps <;> simp [h]
theorem rch_cons {s : List Nat} {ps : List (List Nat)} {x u y : List Nat} {c : Nat} : rch s ps x (c :: u) y ↔ ∃ b ∈ s, x ++ [c, b] ∈ ps ∧ rch s ps [c, b] u y := by
  unfold rch
  rw [paths, Ne, List.flatMap_eq_nil_iff]
  constructor
  · intro h
    simp only [Classical.not_forall] at h
    obtain ⟨b, hb, h⟩ := h
    by_cases hin : x ++ [c, b] ∈ ps
    · rw [if_pos hin, List.map_eq_nil_iff] at h
      exact ⟨b, hb, hin, h⟩
    · rw [if_neg hin] at h
      exact (h rfl).elim
  · rintro ⟨b, hb, hin, h⟩ hn
    have := hn b hb
    rw [if_pos hin, List.map_eq_nil_iff] at this
    exact h this
theorem rch_snoc {s : List Nat} {ps : List (List Nat)} {y : List Nat} {c : Nat} : ∀ {u x : List Nat}, rch s ps x (u ++ [c]) y ↔ ∃ b ∈ s, rch s ps x u [c, b] ∧ [c, b] ++ y ∈ ps
  | [], x => by
    rw [List.nil_append, rch_cons]
    constructor
    · rintro ⟨b, hb, h1, h2⟩; exact ⟨b, hb, rch_nil.2 h1, rch_nil.1 h2⟩
    · rintro ⟨b, hb, h1, h2⟩; exact ⟨b, hb, rch_nil.1 h1, rch_nil.2 h2⟩
  | d :: u, x => by
    rw [List.cons_append, rch_cons]
    constructor
    · rintro ⟨b, hb, h1, h2⟩
      obtain ⟨b2, hb2, h3, h4⟩ := rch_snoc.1 h2
      exact ⟨b2, hb2, rch_cons.2 ⟨b, hb, h1, h3⟩, h4⟩
    · rintro ⟨b2, hb2, h1, h4⟩
      obtain ⟨b, hb, h1, h3⟩ := rch_cons.1 h1
      exact ⟨b, hb, h1, rch_snoc.2 ⟨b2, hb2, h3, h4⟩⟩
theorem rch_turn {s : List Nat} {ps ps2 : List (List Nat)} (ht : ∀ a b c d, [a, b] ++ [c, d] ∈ ps ↔ [c, d] ++ [a, b] ∈ ps2) : ∀ {u : List Nat} {a b c d : Nat}, rch s ps [a, b] u [c, d] ↔ rch s ps2 [c, d] u.reverse [a, b]
  | [], a, b, c, d => by rw [List.reverse_nil, rch_nil, rch_nil]; exact ht a b c d
  | e :: u, a, b, c, d => by
    rw [List.reverse_cons, rch_cons, rch_snoc]
    constructor
    · rintro ⟨z, hz, h1, h2⟩
      exact ⟨z, hz, (rch_turn ht).1 h2, (ht a b e z).1 h1⟩
    · rintro ⟨z, hz, h1, h2⟩
      exact ⟨z, hz, (ht a b e z).2 h2, (rch_turn ht).2 h1⟩
/-- the cells to which ways lead, as a mask -/
def tcl (g s : List Nat) (ps : List (List Nat)) (x u : List Nat) : List (List Nat) := (cel g s).filter fun y => decide (rch s ps x u y)
def rowU (g s : List Nat) (ps : List (List Nat)) (x u : List Nat) : Nat := msk ((tcl g s ps x u).map (cel g s).idxOf)
theorem cel_inj {g s : List Nat} {a b : List Nat} (ha : a ∈ cel g s) (hb : b ∈ cel g s) (e : (cel g s).idxOf a = (cel g s).idxOf b) : a = b := by
  have h1 := List.getElem_idxOf (List.idxOf_lt_length_of_mem ha)
  have h2 := List.getElem_idxOf (List.idxOf_lt_length_of_mem hb)
  rw [← h1, ← h2]
  simp only [e]
theorem tcl_nodup {g s : List Nat} {ps : List (List Nat)} (hg : g.Nodup) (hs : s.Nodup) {x u : List Nat} : ((tcl g s ps x u).map (cel g s).idxOf).Nodup := by
  unfold List.Nodup
  rw [List.pairwise_map]
  have : (tcl g s ps x u).Nodup := (cel_nodup hg hs).filter _
  exact List.Pairwise.imp_of_mem (fun {a b} ha hb hne e => hne (cel_inj (List.mem_filter.1 ha).1 (List.mem_filter.1 hb).1 e)) this
theorem rowU_bit {g s : List Nat} {ps : List (List Nat)} (hg : g.Nodup) (hs : s.Nodup) {x u : List Nat} {i : Nat} : (rowU g s ps x u).testBit i = true ↔ ∃ y ∈ cel g s, (cel g s).idxOf y = i ∧ rch s ps x u y := by
  unfold rowU
  rw [msk_bit (tcl_nodup hg hs), decide_eq_true_eq, List.mem_map]
  unfold tcl
  constructor
  · rintro ⟨y, hy, rfl⟩
    obtain ⟨h1, h2⟩ := List.mem_filter.1 hy
    exact ⟨y, h1, rfl, of_decide_eq_true h2⟩
  · rintro ⟨y, hy, rfl, h⟩
    exact ⟨y, List.mem_filter.2 ⟨hy, decide_eq_true h⟩, rfl⟩
theorem rowU_at {g s : List Nat} {ps : List (List Nat)} (hg : g.Nodup) (hs : s.Nodup) {x u y : List Nat} (hy : y ∈ cel g s) : (rowU g s ps x u).testBit ((cel g s).idxOf y) = true ↔ rch s ps x u y := by
  rw [rowU_bit hg hs]
  constructor
  · rintro ⟨z, hz, e, h⟩
    rw [← cel_inj hz hy e]
    exact h
  · intro h
    exact ⟨y, hy, rfl, h⟩
theorem rowU_nil {g s : List Nat} {ps : List (List Nat)} {x : List Nat} : rowU g s ps x [] = rowN g s ps x := by
  unfold rowU rowN tcl bhd
  congr 2
  refine List.filter_congr fun y _ => ?_
  exact decide_eq_decide.2 rch_nil
/-- the mask behind one letter more, as far as k said letters are gone through -/
def orK (g s : List Nat) (ps : List (List Nat)) (r c : Nat) : Nat → Nat
  | 0 => 0
  | k + 1 => if h : k < s.length then (if r.testBit (idx g s c s[k]) then orK g s ps r c k ||| rowN g s ps [c, s[k]] else orK g s ps r c k) else orK g s ps r c k
theorem orK_bit {g s : List Nat} {ps : List (List Nat)} {r c i : Nat} : ∀ {k : Nat}, k ≤ s.length → ((orK g s ps r c k).testBit i = true ↔ ∃ b ∈ s.take k, r.testBit (idx g s c b) = true ∧ (rowN g s ps [c, b]).testBit i = true)
  | 0, _ => by simp [orK]
  | k + 1, h => by
    have hk : k < s.length := h
    have ih := orK_bit (g := g) (s := s) (ps := ps) (r := r) (c := c) (i := i) (k := k) (Nat.le_of_lt hk)
    have htk : s.take (k + 1) = s.take k ++ [s[k]] := by rw [List.take_add_one, List.getElem?_eq_getElem hk]; rfl
    rw [orK, dif_pos hk, htk]
    by_cases q : r.testBit (idx g s c s[k]) = true
    · rw [if_pos q, Nat.testBit_or, Bool.or_eq_true, ih]
      constructor
      · rintro (⟨b, hb, h1⟩ | h1)
        · exact ⟨b, List.mem_append_left _ hb, h1⟩
        · exact ⟨s[k], List.mem_append_right _ (List.mem_singleton.2 rfl), q, h1⟩
      · rintro ⟨b, hb, h1⟩
        rcases List.mem_append.1 hb with hb | hb
        · exact .inl ⟨b, hb, h1⟩
        · rw [List.mem_singleton.1 hb] at h1
          exact .inr h1.2
    · rw [if_neg q, ih]
      constructor
      · rintro ⟨b, hb, h1⟩; exact ⟨b, List.mem_append_left _ hb, h1⟩
      · rintro ⟨b, hb, h1⟩
        rcases List.mem_append.1 hb with hb | hb
        · exact ⟨b, hb, h1⟩
        · rw [List.mem_singleton.1 hb] at h1
          exact (q h1.1).elim
theorem orK_row {g s : List Nat} {ps : List (List Nat)} (hg : g.Nodup) (hs : s.Nodup) {x u : List Nat} {c : Nat} (hc : c ∈ g) : orK g s ps (rowU g s ps x u) c s.length = rowU g s ps x (u ++ [c]) := by
  refine Nat.eq_of_testBit_eq fun i => ?_
  rw [Bool.eq_iff_iff, orK_bit (Nat.le_refl _), List.take_length, rowU_bit hg hs]
  constructor
  · rintro ⟨b, hb, h1, h2⟩
    rw [← rowU_nil, rowU_bit hg hs] at h2
    obtain ⟨y, hy, e, h2⟩ := h2
    exact ⟨y, hy, e, rch_snoc.2 ⟨b, hb, (rowU_at hg hs (cel_in hc hb)).1 h1, rch_nil.1 h2⟩⟩
  · rintro ⟨y, hy, e, h⟩
    obtain ⟨b, hb, h1, h2⟩ := rch_snoc.1 h
    refine ⟨b, hb, (rowU_at hg hs (cel_in hc hb)).2 h1, ?_⟩
    rw [← rowU_nil, rowU_bit hg hs]
    exact ⟨y, hy, e, rch_nil.2 h2⟩

theorem gOr_nn {a b : Nat} : gOr (.int (a : Nat)) (.int (b : Nat)) = some (.fz (.int ((a ||| b : Nat) : Int))) := by
  show some (Sl.fz (.int (Builtin.bitOr (a : Int) (b : Int)))) = _
  congr 3
  unfold Builtin.bitOr Builtin.bitAnd
  have h : ∀ n : Nat, decide (0 ≤ Builtin.bitNot (n : Int)) = false := fun n => decide_eq_false (by unfold Builtin.bitNot; omega)
  have h2 : ∀ n : Int, Builtin.bitNot (Builtin.bitNot n) = n := fun n => by unfold Builtin.bitNot; omega
  rw [h, h]
  simp only [h2, Int.toNat_natCast]
def tabR (g s : List Nat) (ps : List (List Nat)) (u : List Nat) : List D := (cel g s).map fun x => D.int (rowU g s ps x u : Nat)
theorem tabR_nil {g s : List Nat} {ps : List (List Nat)} : tabR g s ps [] = (cel g s).map fun c => D.int (rowI (cel g s) ps c) := by
  unfold tabR
  refine List.map_congr_left fun x _ => ?_
  rw [rowU_nil, rowI_eq]
theorem plain_spec {g s : List Nat} {ps : List (List Nat)} : F_plain_rows [.fz (wishD g s ps)] = .ok (.rt (.fz (.tup (tabR g s ps [])))) [.no] := by
  refine ret_eq ?_
  unfold F_plain_rows
  walk_at "ev"
  rw [tabR_nil]
theorem crossed_spec {g s u : List Nat} {ps : List (List Nat)} {c : Nat} (hg : g.Nodup) (hs : s.Nodup) (hc : c ∈ g) (hl : (cel g s).length ≤ 100) :
    F_crossed [.fz (wishD g s ps), .fz (.tup (tabR g s ps u)), .fz (sD [c]), .fz (.lst ((cel g s).map fun c => .int (rowI (cel g s) ps c)))] = .ok (.rt (.fz (.tup (tabR g s ps (u ++ [c]))))) [.no, .no, .no, .no] := by
  refine ret_eq ?_
  unfold F_crossed
  walk_at "ev"
  rw [ix_placesN hg hs hc]
  walk_at "ev"
  generalize hM : ((cel g s).map fun c => D.int (rowI (cel g s) ps c)) = M
  have hMat : ∀ b ∈ s, atI M (idx g s c b : Nat) = some (.int (rowN g s ps [c, b] : Nat)) := fun b hb => by rw [← hM]; exact at_rows hc hb
  refine Ret_seq2 (I := fun ρ => ∃ x y z, ρ = [.fz (wishD g s ps), .fz (.tup (tabR g s ps u)), .fz (sD [c]), .fz (.lst M), .fz (.lst (s.map fun b => .int (idx g s c b : Nat))), .ow (.lst (tabR g s ps (u ++ [c]))), x, y, z]) (Nxx_for (fun k ρ => ∃ x y z, ρ = [.fz (wishD g s ps), .fz (.tup (tabR g s ps u)), .fz (sD [c]), .fz (.lst M), .fz (.lst (s.map fun b => .int (idx g s c b : Nat))), .ow (.lst (((cel g s).take k).map fun x => D.int (rowU g s ps x (u ++ [c]) : Nat))), x, y, z]) ⟨.no, .no, .no, rfl⟩ ?_ ?_) ?_
  · rintro k d ρ hd ⟨x, y, z, rfl⟩
    unfold tabR at hd
    rw [List.getElem?_map] at hd
    cases hx : (cel g s)[k]? with
    | none => rw [hx] at hd; cases hd
    | some xc =>
      rw [hx] at hd
      cases hd
      refine ⟨_, rfl, ?_⟩
      walk_at "ev"
      refine Nx_seq' (I := fun ρ => ∃ z, ρ = [.fz (wishD g s ps), .fz (.tup (tabR g s ps u)), .fz (sD [c]), .fz (.lst M), .fz (.lst (s.map fun b => .int (idx g s c b : Nat))), .ow (.lst (((cel g s).take k).map fun x => D.int (rowU g s ps x (u ++ [c]) : Nat))), .fz (.int (rowU g s ps xc u : Nat)), .fz (.int (rowU g s ps xc (u ++ [c]) : Nat)), z]) (Nxx_for (fun m ρ => ∃ z, ρ = [.fz (wishD g s ps), .fz (.tup (tabR g s ps u)), .fz (sD [c]), .fz (.lst M), .fz (.lst (s.map fun b => .int (idx g s c b : Nat))), .ow (.lst (((cel g s).take k).map fun x => D.int (rowU g s ps x (u ++ [c]) : Nat))), .fz (.int (rowU g s ps xc u : Nat)), .fz (.int (orK g s ps (rowU g s ps xc u) c m : Nat)), z]) ⟨.no, rfl⟩ ?_ ?_) ?_
      · rintro m d ρ hd ⟨z, rfl⟩
        rw [List.getElem?_map] at hd
        cases hb : s[m]? with
        | none => rw [hb] at hd; cases hd
        | some b =>
          rw [hb] at hd
          cases hd
          obtain ⟨hm, hbe⟩ := List.getElem?_eq_some_iff.1 hb
          have hbs : b ∈ s := List.mem_of_getElem? hb
          refine ⟨_, rfl, ?_⟩
          walk_at "ev"
          rw [ix_bitsI hc hbs]
          walk_at "ev"
          rw [gAnd_nn]
          walk_at "ev"
          have hbit := and_pow (x := rowU g s ps xc u) (i := idx g s c b)
          have hor : orK g s ps (rowU g s ps xc u) c (m + 1) = if (rowU g s ps xc u).testBit (idx g s c b) then orK g s ps (rowU g s ps xc u) c m ||| rowN g s ps [c, b] else orK g s ps (rowU g s ps xc u) c m := by
            rw [orK, dif_pos hm, hbe]
          by_cases q : (rowU g s ps xc u).testBit (idx g s c b) = true
          · rw [decide_eq_true (show (0 : Int) < ((rowU g s ps xc u &&& 2 ^ idx g s c b : Nat) : Int) by have := hbit.2 q; omega)]
            walk_at "ev"
            rw [hMat b hbs]
            walk_at "ev"
            rw [gOr_nn]
            walk_at "ev"
            rw [hor, if_pos q]
            exact ⟨_, rfl⟩
          · rw [decide_eq_false (show ¬ (0 : Int) < ((rowU g s ps xc u &&& 2 ^ idx g s c b : Nat) : Int) from fun z => q (hbit.1 (by omega)))]
            walk_at "ev"
            rw [hor, if_neg q]
            exact ⟨_, rfl⟩
      · rintro ρ ⟨z, rfl⟩
        rw [List.length_map, orK_row hg hs hc]
        exact ⟨_, rfl⟩
      · rintro ρ ⟨z, rfl⟩
        walk_at "ev"
        rw [mApp_1 (by rw [List.length_map, List.length_take]; omega)]
        walk_at "ev"
        have htk : (cel g s).take (k + 1) = (cel g s).take k ++ [xc] := by rw [List.take_add_one, hx]; rfl
        rw [htk, List.map_append]
        exact ⟨_, _, _, rfl⟩
  · rintro ρ ⟨x, y, z, rfl⟩
    rw [show (tabR g s ps u).length = (cel g s).length from by unfold tabR; rw [List.length_map], List.take_length]
    exact ⟨_, _, _, rfl⟩
  · rintro ρ ⟨x, y, z, rfl⟩
    walk_at "ev"
def tblS (g s : List Nat) (ps : List (List Nat)) (u : List Nat) : List (List Nat) := (cel g s).flatMap fun x => (tcl g s ps x u).map fun y => x ++ y
theorem flat_sub {f f' : List Nat → List (List Nat)} (h : ∀ a, (f a).Sublist (f' a)) : ∀ l : List (List Nat), (l.flatMap f).Sublist (l.flatMap f')
  | [] => by simp
  | a :: l => by
    rw [List.flatMap_cons, List.flatMap_cons]
    exact (h a).append (flat_sub h l)
theorem tbl_sub {g s : List Nat} {ps : List (List Nat)} {u : List Nat} {l : List (List Nat)} : (l.flatMap fun x => (tcl g s ps x u).map fun y => x ++ y).Sublist (prd (cel g s) l) :=
  flat_sub (fun x => List.filter_sublist.map _) _
theorem tbl_nodup {g s : List Nat} {ps : List (List Nat)} (hg : g.Nodup) (hs : s.Nodup) {u : List Nat} : (tblS g s ps u).Nodup := (prd_nodup hg hs).sublist tbl_sub
theorem mem_tbl {g s : List Nat} {ps : List (List Nat)} {u z : List Nat} : z ∈ tblS g s ps u ↔ ∃ x y, x ∈ cel g s ∧ y ∈ cel g s ∧ rch s ps x u y ∧ z = x ++ y := by
  unfold tblS tcl
  rw [List.mem_flatMap]
  constructor
  · rintro ⟨x, hx, h⟩
    obtain ⟨y, hy, rfl⟩ := List.mem_map.1 h
    obtain ⟨h1, h2⟩ := List.mem_filter.1 hy
    exact ⟨x, y, hx, h1, of_decide_eq_true h2, rfl⟩
  · rintro ⟨x, y, hx, hy, h, rfl⟩
    exact ⟨x, hx, List.mem_map_of_mem (List.mem_filter.2 ⟨hy, decide_eq_true h⟩)⟩
theorem prd_len {cs l : List (List Nat)} : (prd cs l).length = l.length * cs.length := by
  unfold prd
  rw [List.length_flatMap]
  simp only [List.length_map, List.map_const', List.sum_replicate_nat]
theorem zip_mapD {α : Type} {f h : α → D} {l : List α} : zipD (l.map f) (l.map h) = l.map fun a => .tup [f a, h a] := by
  unfold zipD
  rw [List.zip_map', List.map_map]
  rfl
theorem bits_cel {g s : List Nat} (hg : g.Nodup) (hs : s.Nodup) : (List.range (cel g s).length).map (fun i => D.int (2 ^ i)) = (cel g s).map fun y => D.int ((2 ^ (cel g s).idxOf y : Nat) : Int) := by
  apply List.ext_getElem
  · simp
  · intro i h1 h2
    have h3 : i < (cel g s).length := by simpa using h1
    simp only [List.getElem_map, List.getElem_range]
    rw [(cel_nodup hg hs).idxOf_getElem i h3, Int.natCast_pow]
    rfl
theorem as_table_spec {g s u : List Nat} {ps : List (List Nat)} (hg : g.Nodup) (hs : s.Nodup) (hl : (cel g s).length ≤ 100) :
    F_as_table [.fz (wishD g s ps), .fz (.tup (tabR g s ps u))] = .ok (.rt (.fz (.tup ((tblS g s ps u).map sD)))) [.no, .no] := by
  refine ret_eq ?_
  unfold F_as_table
  walk_at "ev"
  have hcl : ∀ x ∈ cel g s, x.length = 2 := fun x hx => by
    obtain ⟨a, b, _, _, rfl⟩ := mem_cel.1 hx
    rfl
  generalize hT : D.tup (tabR g s ps u) = T
  rw [show zipD ((cel g s).map sD) (tabR g s ps u) = (cel g s).map fun x => .tup [sD x, D.int (rowU g s ps x u : Nat)] from zip_mapD (f := sD) (h := fun x => D.int (rowU g s ps x u : Nat))]
  refine Ret_seq2 (I := fun ρ => ∃ x y z p, ρ = [.fz (wishD g s ps), .fz T, .ow (.lst ((tblS g s ps u).map sD)), x, y, z, p]) (Nxx_for (fun k ρ => ∃ x y z p, ρ = [.fz (wishD g s ps), .fz T, .ow (.lst ((((cel g s).take k).flatMap fun x => (tcl g s ps x u).map fun y => x ++ y).map sD)), x, y, z, p]) ⟨.no, .no, .no, .no, rfl⟩ ?_ ?_) ?_
  · rintro k d ρ hd ⟨x, y, z, p, rfl⟩
    rw [List.getElem?_map] at hd
    cases hx : (cel g s)[k]? with
    | none => rw [hx] at hd; cases hd
    | some xc =>
      rw [hx] at hd
      cases hd
      have hxc : xc ∈ cel g s := List.mem_of_getElem? hx
      have htk : (cel g s).take (k + 1) = (cel g s).take k ++ [xc] := by rw [List.take_add_one, hx]; rfl
      refine ⟨_, rfl, ?_⟩
      walk_at "ev"
      rw [show btD (cel g s).length = .lst ((List.range (cel g s).length).map fun i => D.int (2 ^ i)) from rfl, bits_cel hg hs]
      walk_at "ev"
      rw [show zipD ((cel g s).map sD) ((cel g s).map fun y => D.int ((2 ^ (cel g s).idxOf y : Nat) : Int)) = (cel g s).map fun y => .tup [sD y, D.int ((2 ^ (cel g s).idxOf y : Nat) : Int)] from zip_mapD (f := sD)]
      refine (Nxx_for (fun m ρ => ∃ z p, ρ = [.fz (wishD g s ps), .fz T, .ow (.lst (((((cel g s).take k).flatMap fun x => (tcl g s ps x u).map fun y => x ++ y) ++ (((cel g s).take m).filter fun y => decide (rch s ps xc u y)).map fun y => xc ++ y).map sD)), .fz (sD xc), .fz (.int (rowU g s ps xc u : Nat)), z, p]) ⟨.no, .no, by simp⟩ ?_ ?_).nx
      · rintro m d ρ hd ⟨z, p, rfl⟩
        rw [List.getElem?_map] at hd
        cases hy : (cel g s)[m]? with
        | none => rw [hy] at hd; cases hd
        | some yc =>
          rw [hy] at hd
          cases hd
          have hyc : yc ∈ cel g s := List.mem_of_getElem? hy
          have hty : (cel g s).take (m + 1) = (cel g s).take m ++ [yc] := by rw [List.take_add_one, hy]; rfl
          refine ⟨_, rfl, ?_⟩
          walk_at "ev"
          rw [gAnd_nn]
          walk_at "ev"
          have hbit := and_pow (x := rowU g s ps xc u) (i := (cel g s).idxOf yc)
          rw [rowU_at hg hs hyc] at hbit
          rw [hty, List.filter_append, List.filter_cons, List.filter_nil]
          by_cases q : rch s ps xc u yc
          · rw [decide_eq_true (show (0 : Int) < ((rowU g s ps xc u &&& 2 ^ (cel g s).idxOf yc : Nat) : Int) by have := hbit.2 q; omega), if_pos (decide_eq_true q)]
            walk_at "ev"
            rw [gAdd_s (by rw [hcl xc hxc, hcl yc hyc]; decide)]
            walk_at "ev"
            have h1 : (((cel g s).take k).flatMap fun x => (tcl g s ps x u).map fun y => x ++ y).length ≤ 10000 := by
              refine Nat.le_trans tbl_sub.length_le ?_
              rw [prd_len, List.length_take]
              exact Nat.le_trans (Nat.mul_le_mul (show min k (cel g s).length ≤ 100 by omega) hl) (by decide)
            have h2 := List.length_filter_le (fun y => decide (rch s ps xc u y)) ((cel g s).take m)
            rw [List.length_take] at h2
            rw [mApp_1 (by rw [List.length_map, List.length_append, List.length_map]; omega)]
            walk_at "ev"
            rw [List.map_append (l₂ := [yc]), ← List.append_assoc, List.map_append (l₂ := [yc].map _)]
            exact ⟨_, _, rfl⟩
          · rw [decide_eq_false (show ¬ (0 : Int) < ((rowU g s ps xc u &&& 2 ^ (cel g s).idxOf yc : Nat) : Int) from fun z => q (hbit.1 (by omega))), if_neg (by rw [decide_eq_false q]; exact Bool.false_ne_true)]
            walk_at "ev"
            exact ⟨_, _, rfl⟩
      · rintro ρ ⟨z, p, rfl⟩
        rw [List.length_map, List.take_length, htk, List.flatMap_append, List.flatMap_singleton]
        exact ⟨_, _, _, _, rfl⟩
  · rintro ρ ⟨x, y, z, p, rfl⟩
    rw [List.length_map, List.take_length]
    exact ⟨_, _, _, _, rfl⟩
  · rintro ρ ⟨x, y, z, p, rfl⟩
    walk_at "ev"
theorem behind_spec {g s u : List Nat} {ps : List (List Nat)} {c : Nat} (hg : g.Nodup) (hs : s.Nodup) (hc : c ∈ g) (hl : (cel g s).length ≤ 100) :
    F_put_behind [.fz (wishD g s ps), .fz (.tup (tabR g s ps u)), .fz (sD [c])] = .ok (.rt (.fz (.tup (tabR g s ps (u ++ [c]))))) [.no, .no, .no] := by
  refine ret_eq ?_
  unfold F_put_behind
  walk_at "ev"
  rw [crossed_spec hg hs hc hl]
  walk_at "ev"
theorem table_spec {g s u : List Nat} {ps : List (List Nat)} (hg : g.Nodup) (hs : s.Nodup) (hl : (cel g s).length ≤ 100) (hu : ∀ c ∈ u, c ∈ g) :
    F_table [.fz (wishD g s ps), .fz (sD u)] = .ok (.rt (.fz (.tup ((tblS g s ps u).map sD)))) [.no, .no] := by
  refine ret_eq ?_
  unfold F_table
  walk_at "ev"
  rw [word_ok hu]
  walk_at "ev"
  rw [plain_spec]
  walk_at "ev"
  refine Ret_seq2 (I := fun ρ => ∃ x, ρ = [.fz (wishD g s ps), .fz (sD u), .fz (.tup (tabR g s ps u)), x]) (Nxx_for (fun k ρ => ∃ x, ρ = [.fz (wishD g s ps), .fz (sD u), .fz (.tup (tabR g s ps (u.take k))), x]) ⟨.no, rfl⟩ ?_ ?_) ?_
  · rintro k d ρ hd ⟨x, rfl⟩
    rw [List.getElem?_map] at hd
    cases hc : u[k]? with
    | none => rw [hc] at hd; cases hd
    | some c =>
      rw [hc] at hd
      cases hd
      have htk : u.take (k + 1) = u.take k ++ [c] := by rw [List.take_add_one, hc]; rfl
      refine ⟨_, rfl, ?_⟩
      walk_at "ev"
      rw [behind_spec hg hs (hu c (List.mem_of_getElem? hc)) hl]
      walk_at "ev"
      rw [htk]
      exact ⟨_, rfl⟩
  · rintro ρ ⟨x, rfl⟩
    rw [List.length_map, List.take_length]
    exact ⟨_, rfl⟩
  · rintro ρ ⟨x, rfl⟩
    walk_at "ev"
    rw [as_table_spec hg hs hl]
    walk_at "ev"

theorem rws_pairs {s : List Nat} {ps : List (List Nat)} {w : List Nat} : ∀ {k : Nat} {r : List Nat}, r ∈ rws s ps w k → ∀ i, i + 1 < k → [w.getD i 0, r.getD i 0, w.getD (i + 1) 0, r.getD (i + 1) 0] ∈ ps
  | 0, _, _, i, hi => by omega
  | k + 1, r, h, i, hi => by
    rw [rws, List.mem_flatMap] at h
    obtain ⟨r', hr', h⟩ := h
    obtain ⟨b, hb, rfl⟩ := List.mem_map.1 h
    have hl := (rws_len hr').1
    have g1 : ∀ j, j < k → (r' ++ [b]).getD j 0 = r'.getD j 0 := fun j hj => by
      rw [List.getD_eq_getElem?_getD, List.getD_eq_getElem?_getD, List.getElem?_append_left (by omega)]
    rw [g1 i (by omega)]
    by_cases e : i + 1 < k
    · rw [g1 (i + 1) e]
      exact rws_pairs hr' i e
    · have hq := (List.mem_filter.1 hb).2
      rw [decide_eq_false (show ¬ k = 0 by omega), Bool.false_or, decide_eq_true_eq] at hq
      have g2 : (r' ++ [b]).getD (i + 1) 0 = b := by
        rw [List.getD_eq_getElem?_getD, show i + 1 = r'.length by omega, List.getElem?_append_right (Nat.le_refl _)]
        simp
      rw [g2]
      rw [show k - 1 = i by omega, show k = i + 1 by omega] at hq
      exact hq
theorem mem_rws {s : List Nat} {ps : List (List Nat)} {w : List Nat} : ∀ {k : Nat} {a : List Nat}, a.length = k → (∀ b ∈ a, b ∈ s) → (∀ i, i + 1 < k → [w.getD i 0, a.getD i 0, w.getD (i + 1) 0, a.getD (i + 1) 0] ∈ ps) → a ∈ rws s ps w k
  | 0, a, h, _, _ => by
    rw [rws, List.mem_singleton]
    exact List.length_eq_zero_iff.1 h
  | k + 1, a, h, hs, hp => by
    obtain ⟨r, b, rfl⟩ : ∃ r b, a = r ++ [b] := by
      have hn : a ≠ [] := fun e => by rw [e] at h; cases h
      exact ⟨a.dropLast, a.getLast hn, (List.dropLast_concat_getLast hn).symm⟩
    have hl : r.length = k := by simpa using h
    have g1 : ∀ j, j < k → (r ++ [b]).getD j 0 = r.getD j 0 := fun j hj => by
      rw [List.getD_eq_getElem?_getD, List.getD_eq_getElem?_getD, List.getElem?_append_left (by omega)]
    have g2 : (r ++ [b]).getD k 0 = b := by
      rw [List.getD_eq_getElem?_getD, ← hl, List.getElem?_append_right (Nat.le_refl _)]
      simp
    rw [rws, List.mem_flatMap]
    refine ⟨r, mem_rws hl (fun x hx => hs x (List.mem_append_left _ hx)) (fun i hi => ?_), List.mem_map_of_mem (List.mem_filter.2 ⟨hs b (List.mem_append_right _ (List.mem_singleton.2 rfl)), ?_⟩)⟩
    · have := hp i (by omega)
      rw [g1 i (by omega), g1 (i + 1) hi] at this
      exact this
    · by_cases h0 : k = 0
      · simp [h0]
      · have := hp (k - 1) (by omega)
        rw [show k - 1 + 1 = k by omega, g1 (k - 1) (by omega), g2] at this
        rw [Bool.or_eq_true]
        exact .inr (decide_eq_true this)
/-- a row of cells with both its ends -/
def bgs (x u r y : List Nat) : List (List Nat) := x :: ((List.range u.length).map (fun i => [u.getD i 0, r.getD i 0]) ++ [y])
theorem bgs_len {x u r y : List Nat} : (bgs x u r y).length = u.length + 2 := by simp [bgs]
theorem bgs_get {u r : List Nat} {x0 x1 y0 y1 : Nat} (hl : r.length = u.length) {j : Nat} (hj : j ≤ u.length + 1) : (bgs [x0, x1] u r [y0, y1]).getD j [] = [(x0 :: (u ++ [y0])).getD j 0, (x1 :: (r ++ [y1])).getD j 0] := by
  cases j with
  | zero => rfl
  | succ j =>
    unfold bgs
    rw [List.getD_cons_succ, List.getD_cons_succ, List.getD_cons_succ]
    by_cases h : j < u.length
    · rw [List.getD_eq_getElem?_getD, List.getElem?_append_left (by simpa using h), List.getElem?_map, List.getElem?_range h]
      rw [List.getD_eq_getElem?_getD (l := u ++ [y0]), List.getElem?_append_left h, List.getD_eq_getElem?_getD (l := r ++ [y1]), List.getElem?_append_left (by omega)]
      simp only [Option.map_some, Option.getD_some, List.getD_eq_getElem?_getD]
    · have : j = u.length := by omega
      subst this
      rw [List.getD_eq_getElem?_getD, List.getElem?_append_right (by simp)]
      rw [List.getD_eq_getElem?_getD (l := u ++ [y0]), List.getElem?_append_right (Nat.le_refl _), List.getD_eq_getElem?_getD (l := r ++ [y1]), List.getElem?_append_right (by omega)]
      simp [hl]
def fitB (ps : List (List Nat)) (x u r y : List Nat) : Bool := (List.range (u.length + 1)).all fun j => decide ((bgs x u r y).getD j [] ++ (bgs x u r y).getD (j + 1) [] ∈ ps)
theorem fit_chn {ps : List (List Nat)} {u r : List Nat} {x0 x1 y0 y1 : Nat} (hl : r.length = u.length) : fitB ps [x0, x1] u r [y0, y1] = true ↔ chn ps [x0, x1] u r [y0, y1] := by
  rw [chn_iff hl]
  unfold fitB
  rw [List.all_eq_true]
  constructor
  · intro h j hj
    have := of_decide_eq_true (h j (List.mem_range.2 (by omega)))
    rw [bgs_get hl (by omega), bgs_get hl (by omega)] at this
    exact this
  · intro h j hj
    have hj := List.mem_range.1 hj
    refine decide_eq_true ?_
    rw [bgs_get hl (by omega), bgs_get hl (by omega)]
    exact h j (by omega)
theorem rch_rows {s u : List Nat} {ps : List (List Nat)} {x0 x1 y0 y1 : Nat} : rch s ps [x0, x1] u [y0, y1] ↔ (rws s ps u u.length).any (fun r => fitB ps [x0, x1] u r [y0, y1]) = true := by
  unfold rch
  rw [List.any_eq_true]
  constructor
  · intro h
    obtain ⟨a, ha⟩ := List.exists_mem_of_ne_nil _ h
    obtain ⟨h1, h2⟩ := mem_paths.1 ha
    have hl := chn_len h2
    refine ⟨a, mem_rws hl h1 (fun i hi => ?_), (fit_chn hl).2 h2⟩
    have := (chn_iff hl).1 h2 (i + 1) (by omega)
    rw [List.getD_cons_succ, List.getD_cons_succ, List.getD_cons_succ, List.getD_cons_succ] at this
    rw [List.getD_eq_getElem?_getD (l := u ++ _), List.getD_eq_getElem?_getD (l := u ++ _), List.getD_eq_getElem?_getD (l := a ++ _), List.getD_eq_getElem?_getD (l := a ++ _), List.getElem?_append_left (by omega), List.getElem?_append_left (by omega), List.getElem?_append_left (by omega), List.getElem?_append_left (by omega)] at this
    rw [List.getD_eq_getElem?_getD, List.getD_eq_getElem?_getD, List.getD_eq_getElem?_getD, List.getD_eq_getElem?_getD]
    exact this
  · rintro ⟨r, hr, h⟩
    obtain ⟨hl, hs⟩ := rws_len hr
    exact List.ne_nil_of_mem (mem_paths.2 ⟨hs, (fit_chn hl).1 h⟩)
theorem rows_any {s w : List Nat} {ps : List (List Nat)} (h4 : s.length ≤ 4) (hl : w.length ≤ 7) :
    F__law_rows [.fz (knD ps), .fz (sD s), .fz (sD w)] = .ok (.rt (.fz (.lst ((rws s ps w w.length).map sD)))) [.no, .no, .no] := by
  by_cases hn : w = []
  · subst hn
    refine ret_eq ?_
    unfold F__law_rows
    walk_at "ev"
    rw [empty_tx]
    rw [show List.range 0 = [] from rfl, List.map_nil, forL]
    walk_at "ev"
    rfl
  · exact rows_spec h4 hl hn

theorem law_due_spec {g s u : List Nat} {ps : List (List Nat)} (h4 : s.length ≤ 4) (hu : u.length ≤ 7) (hl : (cel g s).length ≤ 100) :
    F__law_due [.fz (.lst ((cel g s).map sD)), .fz (knD ps), .fz (sD s), .fz (sD u)] = .ok (.rt (.fz (.tup ((tblS g s ps u).map sD)))) [.no, .no, .no, .no] := by
  have hcl : ∀ x ∈ cel g s, ∃ a b, x = [a, b] := fun x hx => by
    obtain ⟨a, b, _, _, rfl⟩ := mem_cel.1 hx
    exact ⟨a, b, rfl⟩
  refine ret_eq ?_
  unfold F__law_due
  walk_at "ev"
  rw [rows_any h4 hu]
  walk_at "ev"
  generalize hR : rws s ps u u.length = R
  have hRl : ∀ r ∈ R, r.length = u.length := fun r hr => by rw [← hR] at hr; exact (rws_len hr).1
  refine Ret_seq2 (I := fun ρ => ∃ a b c d e, ρ = [.fz (.lst ((cel g s).map sD)), .fz (knD ps), .fz (sD s), .fz (sD u), .ow (.lst ((tblS g s ps u).map sD)), .fz (.lst (R.map sD)), a, b, c, d, e, .no, .no]) (Nxx_for (fun k ρ => ∃ a b c d e, ρ = [.fz (.lst ((cel g s).map sD)), .fz (knD ps), .fz (sD s), .fz (sD u), .ow (.lst ((((cel g s).take k).flatMap fun x => (tcl g s ps x u).map fun y => x ++ y).map sD)), .fz (.lst (R.map sD)), a, b, c, d, e, .no, .no]) ⟨_, _, _, _, _, rfl⟩ ?_ ?_) ?_
  · rintro k d ρ hd ⟨a, b, c, d', e, rfl⟩
    rw [List.getElem?_map] at hd
    cases hx : (cel g s)[k]? with
    | none => rw [hx] at hd; cases hd
    | some xc =>
      rw [hx] at hd
      cases hd
      have hxc : xc ∈ cel g s := List.mem_of_getElem? hx
      have htk : (cel g s).take (k + 1) = (cel g s).take k ++ [xc] := by rw [List.take_add_one, hx]; rfl
      obtain ⟨x0, x1, rfl⟩ := hcl xc hxc
      refine ⟨_, rfl, ?_⟩
      walk_at "ev"
      have h1 : (((cel g s).take k).flatMap fun x => (tcl g s ps x u).map fun y => x ++ y).length ≤ 10000 := by
        refine Nat.le_trans tbl_sub.length_le ?_
        rw [prd_len, List.length_take]
        exact Nat.le_trans (Nat.mul_le_mul (show min k (cel g s).length ≤ 100 by omega) hl) (by decide)
      refine (Nxx_for (fun m ρ => ∃ b c d e, ρ = [.fz (.lst ((cel g s).map sD)), .fz (knD ps), .fz (sD s), .fz (sD u), .ow (.lst (((((cel g s).take k).flatMap fun x => (tcl g s ps x u).map fun y => x ++ y) ++ (((cel g s).take m).filter fun y => decide (rch s ps [x0, x1] u y)).map fun y => [x0, x1] ++ y).map sD)), .fz (.lst (R.map sD)), .fz (sD [x0, x1]), b, c, d, e, .no, .no]) ⟨_, _, _, _, by rw [List.take_zero, List.filter_nil, List.map_nil, List.append_nil]⟩ ?_ ?_).nx
      · rintro m d ρ hd ⟨b, c, d', e, rfl⟩
        rw [List.getElem?_map] at hd
        cases hy : (cel g s)[m]? with
        | none => rw [hy] at hd; cases hd
        | some yc =>
          rw [hy] at hd
          cases hd
          have hyc : yc ∈ cel g s := List.mem_of_getElem? hy
          have hty : (cel g s).take (m + 1) = (cel g s).take m ++ [yc] := by rw [List.take_add_one, hy]; rfl
          obtain ⟨y0, y1, rfl⟩ := hcl yc hyc
          have hrr := rch_rows (s := s) (u := u) (ps := ps) (x0 := x0) (x1 := x1) (y0 := y0) (y1 := y1)
          rw [hR] at hrr
          have h2 := List.length_filter_le (fun y => decide (rch s ps [x0, x1] u y)) ((cel g s).take m)
          rw [List.length_take] at h2
          obtain ⟨acc, hacc⟩ : ∃ acc, ((((cel g s).take k).flatMap fun x => (tcl g s ps x u).map fun y => x ++ y) ++ (((cel g s).take m).filter fun y => decide (rch s ps [x0, x1] u y)).map fun y => [x0, x1] ++ y) = acc := ⟨_, rfl⟩
          have hnext : ((((cel g s).take k).flatMap fun x => (tcl g s ps x u).map fun y => x ++ y) ++ (((cel g s).take (m + 1)).filter fun y => decide (rch s ps [x0, x1] u y)).map fun y => [x0, x1] ++ y) = acc ++ if rch s ps [x0, x1] u [y0, y1] then [[x0, x1, y0, y1]] else [] := by
            rw [hty, List.filter_append, List.map_append, ← List.append_assoc, hacc, List.filter_cons, List.filter_nil]
            by_cases q : rch s ps [x0, x1] u [y0, y1]
            · rw [if_pos (decide_eq_true q), if_pos q]; rfl
            · rw [if_neg (by rw [decide_eq_false q]; exact Bool.false_ne_true), if_neg q]; rfl
          have haccl : acc.length ≤ 20000 := by
            rw [← hacc, List.length_append, List.length_map]
            omega
          rw [hacc, hnext]
          refine ⟨_, rfl, ?_⟩
          walk_at "ev"
          refine Nx_seq' (I := fun ρ => ∃ d e, ρ = [.fz (.lst ((cel g s).map sD)), .fz (knD ps), .fz (sD s), .fz (sD u), .ow (.lst (acc.map sD)), .fz (.lst (R.map sD)), .fz (sD [x0, x1]), .fz (sD [y0, y1]), .fz (.bl (R.any fun r => fitB ps [x0, x1] u r [y0, y1])), d, e, .no, .no]) (Nxx_for (fun t ρ => ∃ d e, ρ = [.fz (.lst ((cel g s).map sD)), .fz (knD ps), .fz (sD s), .fz (sD u), .ow (.lst (acc.map sD)), .fz (.lst (R.map sD)), .fz (sD [x0, x1]), .fz (sD [y0, y1]), .fz (.bl ((R.take t).any fun r => fitB ps [x0, x1] u r [y0, y1])), d, e, .no, .no]) ⟨_, _, rfl⟩ ?_ ?_) ?_
          · rintro t d ρ hd ⟨d', e, rfl⟩
            rw [List.getElem?_map] at hd
            cases hr : R[t]? with
            | none => rw [hr] at hd; cases hd
            | some r =>
              rw [hr] at hd
              cases hd
              have hrm : r ∈ R := List.mem_of_getElem? hr
              have hrl := hRl r hrm
              have htr : R.take (t + 1) = R.take t ++ [r] := by rw [List.take_add_one, hr]; rfl
              rw [htr, List.any_append, List.any_cons, List.any_nil, Bool.or_false]
              refine ⟨_, rfl, ?_⟩
              walk_at "ev"
              rw [gLen_tx (by omega)]
              walk_at "ev"
              rw [rng1_i (by omega)]
              walk_at "ev"
              rw [show ((u.length : Int)).toNat = u.length by omega]
              rw [lcL_yes (fun j : Nat => D.int (0 + (j : Int))) (fun j => sD [u.getD j 0, r.getD j 0]) _ (List.range u.length) (by simp; omega) fun j hj => by
                have hj : j < u.length := List.mem_range.1 hj
                refine ⟨_, _, by rfl, by
                  walk_at "ev"
                  rw [ix_at j (by omega) (by omega) (by omega)]
                  walk_at "ev"
                  rw [ix_at j (by omega) (by omega) (by omega)]
                  (walk_at "ev") <;> rfl, by rfl⟩]
              walk_at "ev"
              rw [gAdd_l (by simp; omega)]
              walk_at "ev"
              rw [gAdd_l (by simp; omega)]
              walk_at "ev"
              rw [show (sD [x0, x1] :: (List.map (fun j => sD [u.getD j 0, r.getD j 0]) (List.range u.length) ++ [sD [y0, y1]])) = (bgs [x0, x1] u r [y0, y1]).map sD from by simp [bgs]]
              have hBl := bgs_len (x := [x0, x1]) (u := u) (r := r) (y := [y0, y1])
              have hB2 : ∀ j, j ≤ u.length + 1 → ((bgs [x0, x1] u r [y0, y1]).getD j []).length = 2 := fun j hj => by rw [bgs_get hrl hj]; rfl
              have hfit : fitB ps [x0, x1] u r [y0, y1] = (List.range (u.length + 1)).all fun j => decide ((bgs [x0, x1] u r [y0, y1]).getD j [] ++ (bgs [x0, x1] u r [y0, y1]).getD (j + 1) [] ∈ ps) := rfl
              generalize hB : bgs [x0, x1] u r [y0, y1] = B at hBl hB2 hfit
              have hget : ∀ j, j ≤ u.length + 1 → (B.map sD)[j]? = some (sD (B.getD j [])) := fun j hj => by
                rw [List.getElem?_map, List.getD_eq_getElem?_getD, List.getElem?_eq_getElem (by omega)]; rfl
              cases hany : (R.take t).any fun r => fitB ps [x0, x1] u r [y0, y1] with
              | true =>
                rw [Bool.true_or]
                walk_at "ev"
                exact ⟨_, _, rfl⟩
              | false =>
                rw [Bool.false_or]
                walk_at "ev"
                rw [show ((B.length : Nat) : Int) - 1 = ((u.length + 1 : Nat) : Int) by omega]
                rw [rng1_i (by omega)]
                walk_at "ev"
                rw [show (((u.length + 1 : Nat) : Int)).toNat = u.length + 1 by omega]
                rw [lcL_yes (fun j : Nat => D.int (0 + (j : Int))) (fun j => D.bl (decide (B.getD j [] ++ B.getD (j + 1) [] ∈ ps))) _ (List.range (u.length + 1)) (by simp; omega) fun j hj => by
                  have hj : j < u.length + 1 := List.mem_range.1 hj
                  refine ⟨_, _, by rfl, by
                    rw [show (0 : Int) + (j : Int) = ((j : Nat) : Int) by omega]
                    walk_at "ev"
                    rw [at_lst (hget j (by omega))]
                    walk_at "ev"
                    rw [show ((j : Nat) : Int) + 1 = ((j + 1 : Nat) : Int) by omega]
                    rw [at_lst (hget (j + 1) (by omega))]
                    walk_at "ev"
                    rw [gAdd_s (by rw [hB2 j (by omega), hB2 (j + 1) (by omega)]; decide)]
                    (walk_at "ev") <;> rfl, by rfl⟩]
                walk_at "ev"
                rw [gAll_map, ← hfit]
                walk_at "ev"
                exact ⟨_, _, rfl⟩
          · rintro ρ ⟨d', e, rfl⟩
            rw [List.length_map, List.take_length]
            exact ⟨_, _, rfl⟩
          · rintro ρ ⟨d', e, rfl⟩
            by_cases q : rch s ps [x0, x1] u [y0, y1]
            · rw [hrr.1 q, if_pos q]
              walk_at "ev"
              rw [mApp_1 (by rw [List.length_map]; omega)]
              walk_at "ev"
              rw [List.map_append]
              exact ⟨_, _, _, _, rfl⟩
            · rw [Bool.eq_false_iff.2 fun z => q (hrr.2 z), if_neg q, List.append_nil]
              walk_at "ev"
              exact ⟨_, _, _, _, rfl⟩
      · rintro ρ ⟨b, c, d', e, rfl⟩
        rw [List.length_map, List.take_length, htk, List.flatMap_append, List.flatMap_singleton]
        exact ⟨_, _, _, _, _, rfl⟩
  · rintro ρ ⟨a, b, c, d', e, rfl⟩
    rw [List.length_map, List.take_length]
    exact ⟨_, _, _, _, _, rfl⟩
  · rintro ρ ⟨a, b, c, d', e, rfl⟩
    walk_at "ev"

def NoStr (d : D) : Prop := gIsi [d, .ty "str"] = some (.fz (.bl false))
theorem isof_no {d : D} {g : List Nat} (h : NoStr d) : F_is_string_of [.fz d, .fz (sD g)] = .ok (.rt (.fz (.bl false))) [.no, .no] := by
  unfold F_is_string_of
  walk_at "ev"
  rw [show gIsi [d, .ty "str"] = some (.fz (.bl false)) from h]
  walk_at "ev"
/-- no text of these signs -/
def Off (d : D) (g : List Nat) : Prop := NoStr d ∨ ∃ w, d = sD w ∧ ∃ c ∈ w, c ∉ g
theorem isof_off {d : D} {g : List Nat} (h : Off d g) : F_is_string_of [.fz d, .fz (sD g)] = .ok (.rt (.fz (.bl false))) [.no, .no] := by
  rcases h with h | ⟨w, rfl, c, hc, hn⟩
  · exact isof_no h
  · rw [isof_spec, decide_eq_false fun h => hn (h c hc)]

theorem pairs_told {g s : List Nat} {ps : List (List Nat)} : F_Wish_pairs [.fz (wishD g s ps)] = .ok (.rt (.ow (.lst ((prs (cel g s) ps (cel g s)).map sD)))) [.no] := by
  unfold F_Wish_pairs
  walk_at "ev"
theorem prs_tbl {g s : List Nat} {ps : List (List Nat)} : prs (cel g s) ps (cel g s) = tblS g s ps [] := by
  unfold prs tblS tcl bhd
  congr 1
  funext x
  congr 1
  refine List.filter_congr fun y _ => ?_
  exact decide_eq_decide.2 rch_nil.symm
theorem word_bad {g s : List Nat} {ps : List (List Nat)} {d : D} (h : Off d g) : F_check_word [.fz (wishD g s ps), .fz d] = .exc "NoWord" [] [.no, .no] := by
  unfold F_check_word
  walk_at "ev"
  rw [isof_off h]
  walk_at "ev"
theorem table_bad {g s : List Nat} {ps : List (List Nat)} {d : D} (h : Off d g) : F_table [.fz (wishD g s ps), .fz d] = .exc "NoWord" [] [.no, .no] := by
  unfold F_table
  walk_at "ev"
  rw [word_bad h]
  walk_at "ev"
theorem refused_spec {g s : List Nat} {ps : List (List Nat)} {d : D} (h : Off d g) : F__law_is_refused [.fz (wishD g s ps), .fz d] = .ok (.rt (.fz (.bl true))) [.no, .no] := by
  refine ret_eq ?_
  unfold F__law_is_refused
  walk_at "ev"
  rw [table_bad h]
  walk_at "ev"
  rw [show List.lookup (Str.ofString "NoWord") ([(Str.ofString "NearError", false), (Str.ofString "NoWord", true), (Str.ofString "NoWish", false)] : List (Str × Bool)) = some true from by decide +kernel]
  walk_at "ev"
  rw [show List.lookup (Str.ofString "NoWord") ([(Str.ofString "NearError", true), (Str.ofString "NoWord", true), (Str.ofString "NoWish", true)] : List (Str × Bool)) = some true from by decide +kernel]
  walk_at "ev"
def trn (p : List Nat) : List Nat := p.drop 2 ++ p.take 2
theorem tbl_four {g s u : List Nat} {ps : List (List Nat)} {z : List Nat} (h : z ∈ tblS g s ps u) : ∃ a b c d, z = [a, b, c, d] ∧ a ∈ g ∧ b ∈ s ∧ c ∈ g ∧ d ∈ s ∧ rch s ps [a, b] u [c, d] := by
  obtain ⟨x, y, hx, hy, hr, rfl⟩ := mem_tbl.1 h
  obtain ⟨a, b, ha, hb, rfl⟩ := mem_cel.1 hx
  obtain ⟨c, d, hc, hd, rfl⟩ := mem_cel.1 hy
  exact ⟨a, b, c, d, rfl, ha, hb, hc, hd, hr⟩
theorem four_tbl {g s u : List Nat} {ps : List (List Nat)} {a b c d : Nat} (ha : a ∈ g) (hb : b ∈ s) (hc : c ∈ g) (hd : d ∈ s) (hr : rch s ps [a, b] u [c, d]) : [a, b, c, d] ∈ tblS g s ps u :=
  mem_tbl.2 ⟨[a, b], [c, d], cel_in ha hb, cel_in hc hd, hr, rfl⟩
theorem trn_inj {ps : List (List Nat)} (h4 : ∀ p ∈ ps, ∃ a b c d, p = [a, b, c, d]) {a b c d : Nat} : [a, b, c, d] ∈ ps ↔ [c, d, a, b] ∈ ps.map trn := by
  rw [List.mem_map]
  constructor
  · intro h
    exact ⟨_, h, rfl⟩
  · rintro ⟨p, hp, e⟩
    obtain ⟨a', b', c', d', rfl⟩ := h4 p hp
    have e : [c', d', a', b'] = [c, d, a, b] := e
    simp only [List.cons.injEq, and_true] at e
    obtain ⟨rfl, rfl, rfl, rfl⟩ := e
    exact hp
theorem trn_nodup {ps : List (List Nat)} (h4 : ∀ p ∈ ps, ∃ a b c d, p = [a, b, c, d]) (nd : ps.Nodup) : (ps.map trn).Nodup := by
  unfold List.Nodup
  rw [List.pairwise_map]
  refine List.Pairwise.imp_of_mem (fun {x y} hx hy hne e => hne ?_) nd
  obtain ⟨a, b, c, d, rfl⟩ := h4 x hx
  obtain ⟨a', b', c', d', rfl⟩ := h4 y hy
  have e : [c, d, a, b] = [c', d', a', b'] := e
  simp only [List.cons.injEq, and_true] at e
  obtain ⟨rfl, rfl, rfl, rfl⟩ := e
  rfl
theorem Wsh.turn {g s : List Nat} {ps : List (List Nat)} (W : Wsh g s ps) : Wsh g s (ps.map trn) := by
  obtain ⟨g1, g3, gn, ga, s1, s4, sn, sa, np, hp, lp⟩ := W
  have h4 : ∀ p ∈ ps, ∃ a b c d, p = [a, b, c, d] := fun p h => by
    obtain ⟨a, b, c, d, e, _⟩ := hp p h
    exact ⟨a, b, c, d, e⟩
  refine ⟨g1, g3, gn, ga, s1, s4, sn, sa, trn_nodup h4 np, fun p h => ?_, by rw [List.length_map]; exact lp⟩
  obtain ⟨q, hq, rfl⟩ := List.mem_map.1 h
  obtain ⟨a, b, c, d, rfl, h1, h2, h3, h4⟩ := hp q hq
  exact ⟨c, d, a, b, rfl, h3, h4, h1, h2⟩
theorem turn_perm {g s u : List Nat} {ps : List (List Nat)} (W : Wsh g s ps) : ((tblS g s ps u).map trn).Perm (tblS g s (ps.map trn) u.reverse) := by
  have h4 : ∀ p ∈ ps, ∃ a b c d, p = [a, b, c, d] := fun p h => by
    obtain ⟨a, b, c, d, e, _⟩ := W.hp p h
    exact ⟨a, b, c, d, e⟩
  have ht : ∀ a b c d, [a, b] ++ [c, d] ∈ ps ↔ [c, d] ++ [a, b] ∈ ps.map trn := fun a b c d => trn_inj h4
  have n1 : ((tblS g s ps u).map trn).Nodup := trn_nodup (fun p h => by
    obtain ⟨a, b, c, d, e, _⟩ := tbl_four h
    exact ⟨a, b, c, d, e⟩) (tbl_nodup W.gn W.sn)
  refine (List.perm_ext_iff_of_nodup n1 (tbl_nodup W.gn W.sn)).2 fun z => ?_
  rw [List.mem_map]
  constructor
  · rintro ⟨p, hp, rfl⟩
    obtain ⟨a, b, c, d, rfl, h1, h2, h3, h4, hr⟩ := tbl_four hp
    exact four_tbl h3 h4 h1 h2 ((rch_turn ht).1 hr)
  · intro hz
    obtain ⟨a, b, c, d, rfl, h1, h2, h3, h4, hr⟩ := tbl_four hz
    exact ⟨[c, d, a, b], four_tbl h3 h4 h1 h2 ((rch_turn ht).2 hr), rfl⟩
/-- the cells with a letter that stand twice side by side in a table -/
def lps (g s : List Nat) (ps : List (List Nat)) (u : List Nat) (c : Nat) : List (List Nat) := (cel g s).filter fun x => decide (x.getD 0 0 = c) && decide (x ++ x ∈ tblS g s ps u)
theorem lps_due {g s u : List Nat} {ps : List (List Nat)} {c : Nat} (hc : c ∈ g) : due s ps c u = [] ↔ lps g s ps u c = [] := by
  unfold due lps
  rw [List.flatMap_eq_nil_iff, List.filter_eq_nil_iff]
  constructor
  · intro h x hx q
    obtain ⟨a, b, ha, hb, rfl⟩ := mem_cel.1 hx
    rw [Bool.and_eq_true] at q
    have e : a = c := of_decide_eq_true q.1
    subst e
    obtain ⟨a1, b1, a2, b2, e, _, _, _, _, hr⟩ := tbl_four (of_decide_eq_true q.2)
    have e : [a, b, a, b] = [a1, b1, a2, b2] := e
    simp only [List.cons.injEq, and_true] at e
    obtain ⟨rfl, rfl, h1, h2⟩ := e
    rw [← h1, ← h2] at hr
    exact hr (List.map_eq_nil_iff.1 (h b hb))
  · intro h b hb
    rw [List.map_eq_nil_iff]
    refine Classical.byContradiction fun hr => ?_
    exact h [c, b] (cel_in hc hb) (by
      rw [Bool.and_eq_true]
      exact ⟨decide_eq_true rfl, decide_eq_true (four_tbl hc hb hc hb hr)⟩)

theorem bang_tx : Str.ofString "!" = tx [33] := by decide +kernel
theorem big_q_tx : Str.ofString "Q" = tx [81] := by decide +kernel
theorem blank_tx : Str.ofString " " = tx [32] := by decide +kernel
theorem tbl_len {g s u : List Nat} {ps : List (List Nat)} (hl : (cel g s).length ≤ 100) : (tblS g s ps u).length ≤ 10000 := by
  refine Nat.le_trans tbl_sub.length_le ?_
  rw [prd_len]
  exact Nat.le_trans (Nat.mul_le_mul hl hl) (by decide)
theorem law_go (ns : List Int) : Ret (F_law [.fz (.scr ns)]) fun s _ => s = .fz (.bl true) := by
  unfold F_law
  rw [empty_tx, bang_tx, big_q_tx, blank_tx]
  walk_at "ev"
  obtain ⟨h, e, H⟩ := hand_spec ns
  rw [e]
  walk_at "ev"
  obtain ⟨g, s, ps, h1, e, P, H1⟩ := parts_spec (m := 100000) (h := h) (H.mono (by decide))
  rw [e]
  walk_at "ev"
  have W1 := P.wsh
  have W2 := W1.turn
  have hg3 := P.g3
  have hg1 := P.g1
  have hs4 := P.s4
  have hs1 := P.s1
  have hg := P.gn
  have hs := P.sn
  have hc6 := P.c6
  have hlp : ps.length ≤ 1000 := W1.lp
  rw [known_spec W1.np (by omega)]
  walk_at "ev"
  rw [cells_spec (by omega) (by omega)]
  walk_at "ev"
  obtain ⟨t, e, ht⟩ := wish_init2 W1
  rw [e]
  walk_at "ev"
  rw [ht]
  rw [lcL_yes sD (fun p => sD (trn p)) _ ps (by omega) fun p hp => by
    obtain ⟨a, b, c, d, rfl, _⟩ := W1.hp p hp
    refine ⟨_, _, by rfl, by (walk_at "ev") <;> rfl, by rfl⟩]
  walk_at "ev"
  obtain ⟨t2, e, ht2⟩ := wish_init2 W2
  rw [show (ps.map fun p => sD (trn p)) = (ps.map trn).map sD from by rw [List.map_map]; rfl]
  rw [e]
  walk_at "ev"
  rw [ht2]
  refine Ret_seq2 (I := fun ρ => ∃ (n : Nat), ρ = [.fz (.scr ns), .ow h1, .ow (knD ps), .fz (.lst ((cel g s).map sD)), .fz (wishD g s ps), .fz (wishD g s (ps.map trn)), .fz (.int n), .no, .no, .no, .fz (sD g), .fz (sD s), .fz (.lst (ps.map sD)), .no, .no, .no, .no, .no] ∧ 1 ≤ n ∧ n ≤ 4) ?_ ?_
  · refine Nxx_if (fun _ => ?_) (fun _ => ?_)
    · walk_at "ev"
      exact .mk ⟨3, rfl, by omega, by omega⟩
    · walk_at "ev"
      exact .mk ⟨4, rfl, by omega, by omega⟩
  rintro ρ ⟨n, rfl, n1, n2⟩
  walk_at "ev"
  refine Ret_seq2 (I := fun ρ => ∃ h kn a b c d, ρ = [.fz (.scr ns), .ow h, kn, .fz (.lst ((cel g s).map sD)), .fz (wishD g s ps), .fz (wishD g s (ps.map trn)), .fz (.int n), a, b, .no, .fz (sD g), .fz (sD s), .fz (.lst (ps.map sD)), c, d, .no, .no, .no] ∧ Hd 90000 h) (Nxx_for (fun j ρ => ∃ h kn a b c d e, ρ = [.fz (.scr ns), .ow h, kn, .fz (.lst ((cel g s).map sD)), .fz (wishD g s ps), .fz (wishD g s (ps.map trn)), .fz (.int n), a, b, .no, .fz (sD g), .fz (sD s), .fz (.lst (ps.map sD)), c, d, e, .no, .no] ∧ Hd (100000 - 10 * j) h ∧ (kn = .ow (knD ps) ∨ kn = .fz (knD ps))) ⟨_, _, _, _, _, _, _, rfl, H1, .inl rfl⟩ ?_ ?_) ?_
  · rintro j d ρ hd ⟨h2, kn, a, b, c, d', e', rfl, H2, hkn⟩
    obtain ⟨hj, rfl⟩ := mem_rng (n := 3) hd
    refine ⟨_, rfl, ?_⟩
    walk_at "ev"
    obtain ⟨r, h3, e, hr, H3⟩ := draw_nat (m := 100000 - 10 * j - 1) (h := h2) (n := n) (H2.mono (by omega)) (by omega) (by omega)
    rw [e]
    walk_at "ev"
    obtain ⟨u, h4, e, hul, hug, H4⟩ := word_spec (m := 100000 - 10 * j - 1 - r) (n := r) (h := h3) (g := g) (H3.mono (by omega)) (by omega) (by omega)
    rw [e]
    walk_at "ev"
    have hcl : (cel g s).length ≤ 100 := by omega
    have hT := table_spec (ps := ps) hg hs hcl hug
    rw [hT]
    walk_at "ev"
    have hdue := law_due_spec (g := g) (s := s) (u := u) (ps := ps) hs4 (by omega) hcl
    have hcmp : Chr (tblS g s ps u) := fun z hz c hc => by
      obtain ⟨a, b, c', d, rfl, h1, h2, h3, h4, _⟩ := tbl_four hz
      have := P.ga a h1
      have := P.sa b h2
      have := P.ga c' h3
      have := P.sa d h4
      simp only [List.mem_cons, List.not_mem_nil, or_false] at hc
      omega
    have hcmp2 : Chr (tblS g s (ps.map trn) u.reverse) := fun z hz c hc => by
      obtain ⟨a, b, c', d, rfl, h1, h2, h3, h4, _⟩ := tbl_four hz
      have := P.ga a h1
      have := P.sa b h2
      have := P.ga c' h3
      have := P.sa d h4
      simp only [List.mem_cons, List.not_mem_nil, or_false] at hc
      omega
    have hT2 := table_spec (ps := ps.map trn) (u := u.reverse) hg hs hcl (fun c hc => hug c (List.mem_reverse.1 hc))
    have hl1 := tbl_len (u := u) (ps := ps) hcl
    have hl2 := tbl_len (u := u.reverse) (ps := ps.map trn) hcl
    have hcmp3 : Chr ((tblS g s (ps.map trn) u.reverse).mergeSort leN) := fun z hz => hcmp2 z (List.mem_mergeSort.1 hz)
    rcases hkn with rfl | rfl
    all_goals
      walk_at "ev"
      rw [hdue]
      walk_at "ev"
      rw [gNe_txt hcmp hcmp, decide_eq_true rfl]
      walk_at "ev"
      rw [hT]
      walk_at "ev"
      rw [gNe_txt hcmp hcmp, decide_eq_true rfl]
      walk_at "ev"
      rw [lcL_yes sD (fun p => sD (trn p)) _ (tblS g s ps u) (by omega) fun p hp => by
        obtain ⟨a, b, c, d, rfl, _⟩ := tbl_four hp
        refine ⟨_, _, by rfl, by (walk_at "ev") <;> rfl, by rfl⟩]
      walk_at "ev"
      rw [show ((tblS g s ps u).map fun p => sD (trn p)) = ((tblS g s ps u).map trn).map sD from by rw [List.map_map]; rfl, gSorted_tx (by rw [List.length_map]; omega)]
      walk_at "ev"
      rw [revD_s (by omega)]
      walk_at "ev"
      rw [hT2]
      walk_at "ev"
      rw [gSorted_tx (by omega)]
      walk_at "ev"
      rw [sort_perm (turn_perm W1), gNe_txs hcmp3 hcmp3, decide_eq_true rfl]
      walk_at "ev"
      refine (Nxx_for (fun k ρ => ∃ x y, ρ = [.fz (.scr ns), .ow h4, .fz (knD ps), .fz (.lst ((cel g s).map sD)), .fz (wishD g s ps), .fz (wishD g s (ps.map trn)), .fz (.int n), .fz (.int (0 + (j : Int))), .fz (sD u), .no, .fz (sD g), .fz (sD s), .fz (.lst (ps.map sD)), .fz (.tup ((tblS g s ps u).map sD)), x, y, .no, .no]) ⟨_, _, rfl⟩ ?_ ?_).nx
      · rintro k d ρ hd ⟨x, y, rfl⟩
        rw [List.getElem?_map] at hd
        cases hc : g[k]? with
        | none => rw [hc] at hd; cases hd
        | some c =>
          rw [hc] at hd
          cases hd
          have hcg : c ∈ g := List.mem_of_getElem? hc
          refine ⟨_, rfl, ?_⟩
          walk_at "ev"
          rw [lcL_of sD (fun x => decide (x.getD 0 0 = c) && decide (x ++ x ∈ tblS g s ps u)) sD _ (cel g s) [] (by simp; omega) fun x hx => by
            obtain ⟨p, q, _, _, rfl⟩ := mem_cel.1 hx
            by_cases e1 : p = c
            · subst e1
              rw [show (decide ([p, q].getD 0 0 = p) && decide ([p, q] ++ [p, q] ∈ tblS g s ps u)) = decide ([p, q, p, q] ∈ tblS g s ps u) from by rw [decide_eq_true (show [p, q].getD 0 0 = p from rfl), Bool.true_and]; rfl]
              refine ⟨_, _, by rfl, by
                walk_at "ev"
                rw [gInX_txt]
                (walk_at "ev") <;> rfl, fun _ => by rfl, fun _ => ⟨_, by (walk_at "ev") <;> rfl, by rfl⟩⟩
            · rw [show (decide ([p, q].getD 0 0 = c) && decide ([p, q] ++ [p, q] ∈ tblS g s ps u)) = false from by rw [decide_eq_false (show ¬ [p, q].getD 0 0 = c from e1), Bool.false_and]]
              refine ⟨_, _, by rfl, by
                walk_at "ev"
                rw [decide_eq_false (show ¬ tx [p] = tx [c] from fun h => e1 (by have := tx_inj h; simpa using this))]
                (walk_at "ev") <;> rfl, fun _ => by rfl, fun _ => ⟨_, by (walk_at "ev") <;> rfl, by rfl⟩⟩]
          walk_at "ev"
          rw [gAdd_s (by simp; omega)]
          walk_at "ev"
          rw [first_spec hg hs (fun c' h => (List.mem_cons.1 h).elim (fun e => e ▸ hcg) (hug c')) (by omega)]
          have hld := lps_due (s := s) (u := u) (ps := ps) hcg
          unfold lps at hld
          have hle : Chr ((cel g s).filter fun x => decide (x.getD 0 0 = c) && decide (x ++ x ∈ tblS g s ps u)) := fun z hz c hc => by
            obtain ⟨a, b, h1, h2, rfl⟩ := mem_cel.1 (List.mem_filter.1 hz).1
            have := P.ga a h1
            have := P.sa b h2
            simp only [List.mem_cons, List.not_mem_nil, or_false] at hc
            omega
          generalize ((cel g s).filter fun x => decide (x.getD 0 0 = c) && decide (x ++ x ∈ tblS g s ps u)) = Lp at hld hle
          cases hD : due s ps c u with
          | nil =>
            rw [hld.1 hD]
            rw [show optD ([] : List (List Nat)).head? = D.non from rfl]
            walk_at "ev"
            rw [gEq_tx0' (L := []) (fun r h => by cases h), decide_eq_true rfl]
            walk_at "ev"
            exact ⟨_, _, rfl⟩
          | cons a0 as =>
            have hne : Lp ≠ [] := fun e => by have := hld.2 e; rw [hD] at this; cases this
            rw [show optD (a0 :: as).head? = sD a0 from rfl]
            walk_at "ev"
            rw [gEq_tx0' hle, decide_eq_false hne]
            walk_at "ev"
            exact ⟨_, _, rfl⟩
      · rintro ρ ⟨x, y, rfl⟩
        exact ⟨_, _, _, _, _, _, _, rfl, H4.mono (by omega), .inr rfl⟩
  · rintro ρ ⟨h, kn, a, b, c, d, e, rfl, H, _⟩
    rw [show (List.map (fun (i : Nat) => D.int (0 + (i : Int))) (List.range 3)).length = 3 from rfl] at H
    exact ⟨_, _, _, _, _, _, rfl, H.mono (by omega)⟩
  · rintro ρ ⟨h2, kn, a, b, c, d, rfl, H2⟩
    walk_at "ev"
    rw [table_spec hg hs (by omega) (fun c hc => by cases hc)]
    walk_at "ev"
    rw [hasM_pairs]
    walk_at "ev"
    rw [pairs_told]
    walk_at "ev"
    rw [prs_tbl]
    have hcmp : Chr (tblS g s ps []) := fun z hz c hc => by
      obtain ⟨a, b, c', d, rfl, h1, h2, h3, h4, _⟩ := tbl_four hz
      have := P.ga a h1
      have := P.sa b h2
      have := P.ga c' h3
      have := P.sa d h4
      simp only [List.mem_cons, List.not_mem_nil, or_false] at hc
      omega
    rw [gNe_txt hcmp hcmp, decide_eq_true rfl]
    walk_at "ev"
    obtain ⟨u, h4, e, hul, hug, H4⟩ := word_spec (m := 80000) (n := 2) (h := h2) (g := g) (H2.mono (by omega)) (by omega) (by omega)
    rw [show ((2 : Nat) : Int) = 2 from rfl] at e
    rw [e]
    walk_at "ev"
    rw [gAdd_s (by simp; omega)]
    walk_at "ev"
    rw [gs0_s (by rw [tx_length]; omega), upper_tx fun c hc => P.ga c (hug c hc)]
    walk_at "ev"
    rw [gAdd_s (by simp; omega)]
    walk_at "ev"
    rw [gAdd_s (by simp; omega)]
    walk_at "ev"
    obtain ⟨r, h5, e, hr, H5⟩ := draw_nat (m := 79000) (h := h4) (n := 9) (H4.mono (by omega)) (by omega) (by omega)
    rw [show ((9 : Nat) : Int) = 9 from rfl] at e
    rw [e]
    walk_at "ev"
    generalize hds : [D.str (tx (u ++ [33])), D.str (tx (List.map (fun x => x - 32) u ++ [81])), D.lst [sD u], D.tup [sD u], D.non, D.int 0, D.bl true, D.dic (mergeD [] [(Sum.inr (tx u), D.int 1)]), D.str (tx (u ++ [32]))] = ds
    have hall : ∀ d ∈ ds, Off d g := by
      rw [← hds]
      intro d hd
      simp only [List.mem_cons, List.not_mem_nil, or_false] at hd
      rcases hd with rfl | rfl | rfl | rfl | rfl | rfl | rfl | rfl | rfl
      · exact .inr ⟨_, rfl, 33, by simp, fun z => by have := P.ga _ z; omega⟩
      · exact .inr ⟨_, rfl, 81, by simp, fun z => by have := P.ga _ z; omega⟩
      · exact .inl isi_list_str
      · exact .inl isi_tuple_str
      · exact .inl isi_NoneType_str
      · exact .inl isi_int_str
      · exact .inl isi_bool_str
      · exact .inl isi_dict_str
      · exact .inr ⟨_, rfl, 32, by simp, fun z => by have := P.ga _ z; omega⟩
    obtain ⟨d0, hd0, e⟩ := pick_l (ds := ds) (r := (r : Int)) (by omega) (by rw [← hds]; simp only [List.length_cons, List.length_nil]; omega)
    have hbad := hall d0 hd0
    rw [e]
    clear hall hd0 e hds ds
    walk_at "ev"
    rw [refused_spec hbad]
    walk_at "ev"
theorem law_done (ns : List Int) (_ : ns.length ≤ 63) : ∃ ρ', F_law [.fz (.scr ns)] = .ok (.rt (.fz (.bl true))) ρ' := by
  obtain ⟨s, ρ, e, rfl⟩ := (law_go ns).ex
  exact ⟨ρ, e⟩

def facts : List Fi := [.he (.free "isinstance"), .he (.free "str"), .he (.free "tuple"), .he (.free "zip"), .he (.free "len"), .he (.free "set"), .he (.free "list"), .he (.free "enumerate"), .he (.free "sum"), .he (.free "abs"), .he (.free "int"), .he (.free "range"), .he (.free "all"), .he (.free "sorted"), .he (.glo "NoWord"), .he (.exc "NoWord"), .he (.glo "Wish"), .he (.cls "Wish"), .he (.noat "Wish" "kept_given"), .he (.noat "Wish" "kept_said"), .he (.noat "Wish" "kept_cells"), .he (.noat "Wish" "kept_index"), .he (.noat "Wish" "kept_places"), .he (.noat "Wish" "kept_bits"), .he (.noat "Wish" "kept_known"), .he (.noat "Wish" "kept_pairs"), .he (.noat "Wish" "kept_rows"), .he (.noat "Wish" "kept_closure"), .he (.glo "NearError"), .he (.exm "NearError" "NoWord" false), .he (.exm "NoWord" "NoWord" true), .he (.glo "NoWish"), .he (.exm "NoWish" "NoWord" false), .isc "NearError", .kit "NearError" "NearError" true, .isc "NoWord", .kit "NoWord" "NearError" true, .isc "NoWish", .kit "NoWish" "NearError" true, .he (.mkr "Wish")]
theorem all_mk {P : Program} {w : World} {K : PySem.W.Frag} {h : Heap} {mg : Str → Option Value} {lv : List (Str × PySem.W.WData)} {f_is_string_of : Addr} {oc_is_string_of kV_is_string_of doc_is_string_of pm_is_string_of cdv_is_string_of ct_is_string_of : Value} {od_is_string_of an_is_string_of : Option Addr} {osl_is_string_of : Array (Option Value)}
    {f_check_word : Addr} {oc_check_word kV_check_word doc_check_word pm_check_word cdv_check_word ct_check_word : Value} {od_check_word an_check_word : Option Addr} {osl_check_word : Array (Option Value)}
    {f_plain_rows : Addr} {oc_plain_rows kV_plain_rows doc_plain_rows pm_plain_rows cdv_plain_rows ct_plain_rows : Value} {od_plain_rows an_plain_rows : Option Addr} {osl_plain_rows : Array (Option Value)}
    {f_crossed : Addr} {oc_crossed kV_crossed doc_crossed pm_crossed cdv_crossed ct_crossed : Value} {od_crossed an_crossed : Option Addr} {osl_crossed : Array (Option Value)}
    {f_put_behind : Addr} {oc_put_behind kV_put_behind doc_put_behind pm_put_behind cdv_put_behind ct_put_behind : Value} {od_put_behind an_put_behind : Option Addr} {osl_put_behind : Array (Option Value)}
    {f_as_table : Addr} {oc_as_table kV_as_table doc_as_table pm_as_table cdv_as_table ct_as_table : Value} {od_as_table an_as_table : Option Addr} {osl_as_table : Array (Option Value)}
    {f_table : Addr} {oc_table kV_table doc_table pm_table cdv_table ct_table : Value} {od_table an_table : Option Addr} {osl_table : Array (Option Value)}
    {f_check_ring : Addr} {oc_check_ring kV_check_ring doc_check_ring pm_check_ring cdv_check_ring ct_check_ring : Value} {od_check_ring an_check_ring : Option Addr} {osl_check_ring : Array (Option Value)}
    {f_living : Addr} {oc_living kV_living doc_living pm_living cdv_living ct_living : Value} {od_living an_living : Option Addr} {osl_living : Array (Option Value)}
    {f_first_of : Addr} {oc_first_of kV_first_of doc_first_of pm_first_of cdv_first_of ct_first_of : Value} {od_first_of an_first_of : Option Addr} {osl_first_of : Array (Option Value)}
    {f_filled : Addr} {oc_filled kV_filled doc_filled pm_filled cdv_filled ct_filled : Value} {od_filled an_filled : Option Addr} {osl_filled : Array (Option Value)}
    {f_first_answer : Addr} {oc_first_answer kV_first_answer doc_first_answer pm_first_answer cdv_first_answer ct_first_answer : Value} {od_first_answer an_first_answer : Option Addr} {osl_first_answer : Array (Option Value)}
    {f_is_choice : Addr} {oc_is_choice kV_is_choice doc_is_choice pm_is_choice cdv_is_choice ct_is_choice : Value} {od_is_choice an_is_choice : Option Addr} {osl_is_choice : Array (Option Value)}
    {f_is_pair : Addr} {oc_is_pair kV_is_pair doc_is_pair pm_is_pair cdv_is_pair ct_is_pair : Value} {od_is_pair an_is_pair : Option Addr} {osl_is_pair : Array (Option Value)}
    {f_are_pairs : Addr} {oc_are_pairs kV_are_pairs doc_are_pairs pm_are_pairs cdv_are_pairs ct_are_pairs : Value} {od_are_pairs an_are_pairs : Option Addr} {osl_are_pairs : Array (Option Value)}
    {C_Wish : Addr}
    {f_Wish_keep : Addr} {oc_Wish_keep kV_Wish_keep doc_Wish_keep pm_Wish_keep cdv_Wish_keep ct_Wish_keep : Value} {od_Wish_keep an_Wish_keep : Option Addr} {osl_Wish_keep : Array (Option Value)}
    {f_Wish___init__ : Addr} {oc_Wish___init__ kV_Wish___init__ doc_Wish___init__ pm_Wish___init__ cdv_Wish___init__ ct_Wish___init__ : Value} {od_Wish___init__ an_Wish___init__ : Option Addr} {osl_Wish___init__ : Array (Option Value)}
    {f_Wish_pairs : Addr} {oc_Wish_pairs kV_Wish_pairs doc_Wish_pairs pm_Wish_pairs cdv_Wish_pairs ct_Wish_pairs : Value} {od_Wish_pairs an_Wish_pairs : Option Addr} {osl_Wish_pairs : Array (Option Value)}
    {f__law_hand : Addr} {oc__law_hand kV__law_hand doc__law_hand pm__law_hand cdv__law_hand ct__law_hand : Value} {od__law_hand an__law_hand : Option Addr} {osl__law_hand : Array (Option Value)}
    {f__law_draw : Addr} {oc__law_draw kV__law_draw doc__law_draw pm__law_draw cdv__law_draw ct__law_draw : Value} {od__law_draw an__law_draw : Option Addr} {osl__law_draw : Array (Option Value)}
    {f__law_cells : Addr} {oc__law_cells kV__law_cells doc__law_cells pm__law_cells cdv__law_cells ct__law_cells : Value} {od__law_cells an__law_cells : Option Addr} {osl__law_cells : Array (Option Value)}
    {f__law_known : Addr} {oc__law_known kV__law_known doc__law_known pm__law_known cdv__law_known ct__law_known : Value} {od__law_known an__law_known : Option Addr} {osl__law_known : Array (Option Value)}
    {f__law_letters : Addr} {oc__law_letters kV__law_letters doc__law_letters pm__law_letters cdv__law_letters ct__law_letters : Value} {od__law_letters an__law_letters : Option Addr} {osl__law_letters : Array (Option Value)}
    {f__law_fits : Addr} {oc__law_fits kV__law_fits doc__law_fits pm__law_fits cdv__law_fits ct__law_fits : Value} {od__law_fits an__law_fits : Option Addr} {osl__law_fits : Array (Option Value)}
    {f__law_pairs : Addr} {oc__law_pairs kV__law_pairs doc__law_pairs pm__law_pairs cdv__law_pairs ct__law_pairs : Value} {od__law_pairs an__law_pairs : Option Addr} {osl__law_pairs : Array (Option Value)}
    {f__law_parts : Addr} {oc__law_parts kV__law_parts doc__law_parts pm__law_parts cdv__law_parts ct__law_parts : Value} {od__law_parts an__law_parts : Option Addr} {osl__law_parts : Array (Option Value)}
    {f__law_word : Addr} {oc__law_word kV__law_word doc__law_word pm__law_word cdv__law_word ct__law_word : Value} {od__law_word an__law_word : Option Addr} {osl__law_word : Array (Option Value)}
    {f__law_rows : Addr} {oc__law_rows kV__law_rows doc__law_rows pm__law_rows cdv__law_rows ct__law_rows : Value} {od__law_rows an__law_rows : Option Addr} {osl__law_rows : Array (Option Value)}
    {f__law_due : Addr} {oc__law_due kV__law_due doc__law_due pm__law_due cdv__law_due ct__law_due : Value} {od__law_due an__law_due : Option Addr} {osl__law_due : Array (Option Value)}
    {f__law_is_refused : Addr} {oc__law_is_refused kV__law_is_refused doc__law_is_refused pm__law_is_refused cdv__law_is_refused ct__law_is_refused : Value} {od__law_is_refused an__law_is_refused : Option Addr} {osl__law_is_refused : Array (Option Value)}
    {f_law : Addr} {oc_law kV_law doc_law pm_law cdv_law ct_law : Value} {od_law an_law : Option Addr} {osl_law : Array (Option Value)}
    (X : K.In h) (G : h.Ns mainGlobals mg) (V : PySem.W.LooseAre lv mg h) (fi : fisOk K facts = true)
    (K_GREAT : ∃ t, mg "GREAT" = some (.str "ABCDEFGHIJKLMNOPQRSTUVWXYZ" t))
    (K_SMALL : ∃ t, mg "SMALL" = some (.str "abcdefghijklmnopqrstuvwxyz" t))
    (a_is_string_of : PySem.W.nsIn K mainGlobals "is_string_of" = some (some (.ref f_is_string_of))) (l_is_string_of : K.lookup f_is_string_of = some ⟨oc_is_string_of, od_is_string_of, .func (PySem.W.fnOf "is_string_of" "is_string_of" (defArgs s_is_string_of) (defBody s_is_string_of) (defScope s_is_string_of) .none kV_is_string_of doc_is_string_of pm_is_string_of an_is_string_of cdv_is_string_of ct_is_string_of), osl_is_string_of⟩) (c_is_string_of : PySem.W.codeIn K cdv_is_string_of "is_string_of" = true) (k_is_string_of : PySem.W.keepIn K (.ref f_is_string_of) = true)
    (a_check_word : PySem.W.nsIn K mainGlobals "check_word" = some (some (.ref f_check_word))) (l_check_word : K.lookup f_check_word = some ⟨oc_check_word, od_check_word, .func (PySem.W.fnOf "check_word" "check_word" (defArgs s_check_word) (defBody s_check_word) (defScope s_check_word) .none kV_check_word doc_check_word pm_check_word an_check_word cdv_check_word ct_check_word), osl_check_word⟩) (c_check_word : PySem.W.codeIn K cdv_check_word "check_word" = true) (k_check_word : PySem.W.keepIn K (.ref f_check_word) = true)
    (a_plain_rows : PySem.W.nsIn K mainGlobals "plain_rows" = some (some (.ref f_plain_rows))) (l_plain_rows : K.lookup f_plain_rows = some ⟨oc_plain_rows, od_plain_rows, .func (PySem.W.fnOf "plain_rows" "plain_rows" (defArgs s_plain_rows) (defBody s_plain_rows) (defScope s_plain_rows) .none kV_plain_rows doc_plain_rows pm_plain_rows an_plain_rows cdv_plain_rows ct_plain_rows), osl_plain_rows⟩) (c_plain_rows : PySem.W.codeIn K cdv_plain_rows "plain_rows" = true) (k_plain_rows : PySem.W.keepIn K (.ref f_plain_rows) = true)
    (a_crossed : PySem.W.nsIn K mainGlobals "crossed" = some (some (.ref f_crossed))) (l_crossed : K.lookup f_crossed = some ⟨oc_crossed, od_crossed, .func (PySem.W.fnOf "crossed" "crossed" (defArgs s_crossed) (defBody s_crossed) (defScope s_crossed) .none kV_crossed doc_crossed pm_crossed an_crossed cdv_crossed ct_crossed), osl_crossed⟩) (c_crossed : PySem.W.codeIn K cdv_crossed "crossed" = true) (k_crossed : PySem.W.keepIn K (.ref f_crossed) = true)
    (a_put_behind : PySem.W.nsIn K mainGlobals "put_behind" = some (some (.ref f_put_behind))) (l_put_behind : K.lookup f_put_behind = some ⟨oc_put_behind, od_put_behind, .func (PySem.W.fnOf "put_behind" "put_behind" (defArgs s_put_behind) (defBody s_put_behind) (defScope s_put_behind) .none kV_put_behind doc_put_behind pm_put_behind an_put_behind cdv_put_behind ct_put_behind), osl_put_behind⟩) (c_put_behind : PySem.W.codeIn K cdv_put_behind "put_behind" = true) (k_put_behind : PySem.W.keepIn K (.ref f_put_behind) = true)
    (a_as_table : PySem.W.nsIn K mainGlobals "as_table" = some (some (.ref f_as_table))) (l_as_table : K.lookup f_as_table = some ⟨oc_as_table, od_as_table, .func (PySem.W.fnOf "as_table" "as_table" (defArgs s_as_table) (defBody s_as_table) (defScope s_as_table) .none kV_as_table doc_as_table pm_as_table an_as_table cdv_as_table ct_as_table), osl_as_table⟩) (c_as_table : PySem.W.codeIn K cdv_as_table "as_table" = true) (k_as_table : PySem.W.keepIn K (.ref f_as_table) = true)
    (a_table : PySem.W.nsIn K mainGlobals "table" = some (some (.ref f_table))) (l_table : K.lookup f_table = some ⟨oc_table, od_table, .func (PySem.W.fnOf "table" "table" (defArgs s_table) (defBody s_table) (defScope s_table) .none kV_table doc_table pm_table an_table cdv_table ct_table), osl_table⟩) (c_table : PySem.W.codeIn K cdv_table "table" = true) (k_table : PySem.W.keepIn K (.ref f_table) = true)
    (a_check_ring : PySem.W.nsIn K mainGlobals "check_ring" = some (some (.ref f_check_ring))) (l_check_ring : K.lookup f_check_ring = some ⟨oc_check_ring, od_check_ring, .func (PySem.W.fnOf "check_ring" "check_ring" (defArgs s_check_ring) (defBody s_check_ring) (defScope s_check_ring) .none kV_check_ring doc_check_ring pm_check_ring an_check_ring cdv_check_ring ct_check_ring), osl_check_ring⟩) (c_check_ring : PySem.W.codeIn K cdv_check_ring "check_ring" = true) (k_check_ring : PySem.W.keepIn K (.ref f_check_ring) = true)
    (a_living : PySem.W.nsIn K mainGlobals "living" = some (some (.ref f_living))) (l_living : K.lookup f_living = some ⟨oc_living, od_living, .func (PySem.W.fnOf "living" "living" (defArgs s_living) (defBody s_living) (defScope s_living) .none kV_living doc_living pm_living an_living cdv_living ct_living), osl_living⟩) (c_living : PySem.W.codeIn K cdv_living "living" = true) (k_living : PySem.W.keepIn K (.ref f_living) = true)
    (a_first_of : PySem.W.nsIn K mainGlobals "first_of" = some (some (.ref f_first_of))) (l_first_of : K.lookup f_first_of = some ⟨oc_first_of, od_first_of, .func (PySem.W.fnOf "first_of" "first_of" (defArgs s_first_of) (defBody s_first_of) (defScope s_first_of) .none kV_first_of doc_first_of pm_first_of an_first_of cdv_first_of ct_first_of), osl_first_of⟩) (c_first_of : PySem.W.codeIn K cdv_first_of "first_of" = true) (k_first_of : PySem.W.keepIn K (.ref f_first_of) = true)
    (a_filled : PySem.W.nsIn K mainGlobals "filled" = some (some (.ref f_filled))) (l_filled : K.lookup f_filled = some ⟨oc_filled, od_filled, .func (PySem.W.fnOf "filled" "filled" (defArgs s_filled) (defBody s_filled) (defScope s_filled) .none kV_filled doc_filled pm_filled an_filled cdv_filled ct_filled), osl_filled⟩) (c_filled : PySem.W.codeIn K cdv_filled "filled" = true) (k_filled : PySem.W.keepIn K (.ref f_filled) = true)
    (a_first_answer : PySem.W.nsIn K mainGlobals "first_answer" = some (some (.ref f_first_answer))) (l_first_answer : K.lookup f_first_answer = some ⟨oc_first_answer, od_first_answer, .func (PySem.W.fnOf "first_answer" "first_answer" (defArgs s_first_answer) (defBody s_first_answer) (defScope s_first_answer) .none kV_first_answer doc_first_answer pm_first_answer an_first_answer cdv_first_answer ct_first_answer), osl_first_answer⟩) (c_first_answer : PySem.W.codeIn K cdv_first_answer "first_answer" = true) (k_first_answer : PySem.W.keepIn K (.ref f_first_answer) = true)
    (a_is_choice : PySem.W.nsIn K mainGlobals "is_choice" = some (some (.ref f_is_choice))) (l_is_choice : K.lookup f_is_choice = some ⟨oc_is_choice, od_is_choice, .func (PySem.W.fnOf "is_choice" "is_choice" (defArgs s_is_choice) (defBody s_is_choice) (defScope s_is_choice) .none kV_is_choice doc_is_choice pm_is_choice an_is_choice cdv_is_choice ct_is_choice), osl_is_choice⟩) (c_is_choice : PySem.W.codeIn K cdv_is_choice "is_choice" = true) (k_is_choice : PySem.W.keepIn K (.ref f_is_choice) = true)
    (a_is_pair : PySem.W.nsIn K mainGlobals "is_pair" = some (some (.ref f_is_pair))) (l_is_pair : K.lookup f_is_pair = some ⟨oc_is_pair, od_is_pair, .func (PySem.W.fnOf "is_pair" "is_pair" (defArgs s_is_pair) (defBody s_is_pair) (defScope s_is_pair) .none kV_is_pair doc_is_pair pm_is_pair an_is_pair cdv_is_pair ct_is_pair), osl_is_pair⟩) (c_is_pair : PySem.W.codeIn K cdv_is_pair "is_pair" = true) (k_is_pair : PySem.W.keepIn K (.ref f_is_pair) = true)
    (a_are_pairs : PySem.W.nsIn K mainGlobals "are_pairs" = some (some (.ref f_are_pairs))) (l_are_pairs : K.lookup f_are_pairs = some ⟨oc_are_pairs, od_are_pairs, .func (PySem.W.fnOf "are_pairs" "are_pairs" (defArgs s_are_pairs) (defBody s_are_pairs) (defScope s_are_pairs) .none kV_are_pairs doc_are_pairs pm_are_pairs an_are_pairs cdv_are_pairs ct_are_pairs), osl_are_pairs⟩) (c_are_pairs : PySem.W.codeIn K cdv_are_pairs "are_pairs" = true) (k_are_pairs : PySem.W.keepIn K (.ref f_are_pairs) = true)
    (aC_Wish : PySem.W.nsIn K mainGlobals "Wish" = some (some (.ref C_Wish)))
    (a_Wish_keep : PySem.W.findIn K (.ref C_Wish) "keep" = some (some (.ref f_Wish_keep))) (n_Wish_keep : PySem.W.isFn K (.ref f_Wish_keep) = true) (l_Wish_keep : K.lookup f_Wish_keep = some ⟨oc_Wish_keep, od_Wish_keep, .func (PySem.W.fnOf "keep" "Wish.keep" (defArgs s_Wish_keep) (defBody s_Wish_keep) (defScope s_Wish_keep) .none kV_Wish_keep doc_Wish_keep pm_Wish_keep an_Wish_keep cdv_Wish_keep ct_Wish_keep), osl_Wish_keep⟩) (c_Wish_keep : PySem.W.codeIn K cdv_Wish_keep "Wish.keep" = true) (k_Wish_keep : PySem.W.keepIn K (.ref f_Wish_keep) = true)
    (a_Wish___init__ : PySem.W.findIn K (.ref C_Wish) "__init__" = some (some (.ref f_Wish___init__))) (n_Wish___init__ : PySem.W.isFn K (.ref f_Wish___init__) = true) (l_Wish___init__ : K.lookup f_Wish___init__ = some ⟨oc_Wish___init__, od_Wish___init__, .func (PySem.W.fnOf "__init__" "Wish.__init__" (defArgs s_Wish___init__) (defBody s_Wish___init__) (defScope s_Wish___init__) .none kV_Wish___init__ doc_Wish___init__ pm_Wish___init__ an_Wish___init__ cdv_Wish___init__ ct_Wish___init__), osl_Wish___init__⟩) (c_Wish___init__ : PySem.W.codeIn K cdv_Wish___init__ "Wish.__init__" = true) (k_Wish___init__ : PySem.W.keepIn K (.ref f_Wish___init__) = true)
    (a_Wish_pairs : PySem.W.findIn K (.ref C_Wish) "pairs" = some (some (.ref f_Wish_pairs))) (n_Wish_pairs : PySem.W.isFn K (.ref f_Wish_pairs) = true) (l_Wish_pairs : K.lookup f_Wish_pairs = some ⟨oc_Wish_pairs, od_Wish_pairs, .func (PySem.W.fnOf "pairs" "Wish.pairs" (defArgs s_Wish_pairs) (defBody s_Wish_pairs) (defScope s_Wish_pairs) .none kV_Wish_pairs doc_Wish_pairs pm_Wish_pairs an_Wish_pairs cdv_Wish_pairs ct_Wish_pairs), osl_Wish_pairs⟩) (c_Wish_pairs : PySem.W.codeIn K cdv_Wish_pairs "Wish.pairs" = true) (k_Wish_pairs : PySem.W.keepIn K (.ref f_Wish_pairs) = true)
    (a__law_hand : PySem.W.nsIn K mainGlobals "_law_hand" = some (some (.ref f__law_hand))) (l__law_hand : K.lookup f__law_hand = some ⟨oc__law_hand, od__law_hand, .func (PySem.W.fnOf "_law_hand" "_law_hand" (defArgs s__law_hand) (defBody s__law_hand) (defScope s__law_hand) .none kV__law_hand doc__law_hand pm__law_hand an__law_hand cdv__law_hand ct__law_hand), osl__law_hand⟩) (c__law_hand : PySem.W.codeIn K cdv__law_hand "_law_hand" = true) (k__law_hand : PySem.W.keepIn K (.ref f__law_hand) = true)
    (a__law_draw : PySem.W.nsIn K mainGlobals "_law_draw" = some (some (.ref f__law_draw))) (l__law_draw : K.lookup f__law_draw = some ⟨oc__law_draw, od__law_draw, .func (PySem.W.fnOf "_law_draw" "_law_draw" (defArgs s__law_draw) (defBody s__law_draw) (defScope s__law_draw) .none kV__law_draw doc__law_draw pm__law_draw an__law_draw cdv__law_draw ct__law_draw), osl__law_draw⟩) (c__law_draw : PySem.W.codeIn K cdv__law_draw "_law_draw" = true) (k__law_draw : PySem.W.keepIn K (.ref f__law_draw) = true)
    (a__law_cells : PySem.W.nsIn K mainGlobals "_law_cells" = some (some (.ref f__law_cells))) (l__law_cells : K.lookup f__law_cells = some ⟨oc__law_cells, od__law_cells, .func (PySem.W.fnOf "_law_cells" "_law_cells" (defArgs s__law_cells) (defBody s__law_cells) (defScope s__law_cells) .none kV__law_cells doc__law_cells pm__law_cells an__law_cells cdv__law_cells ct__law_cells), osl__law_cells⟩) (c__law_cells : PySem.W.codeIn K cdv__law_cells "_law_cells" = true) (k__law_cells : PySem.W.keepIn K (.ref f__law_cells) = true)
    (a__law_known : PySem.W.nsIn K mainGlobals "_law_known" = some (some (.ref f__law_known))) (l__law_known : K.lookup f__law_known = some ⟨oc__law_known, od__law_known, .func (PySem.W.fnOf "_law_known" "_law_known" (defArgs s__law_known) (defBody s__law_known) (defScope s__law_known) .none kV__law_known doc__law_known pm__law_known an__law_known cdv__law_known ct__law_known), osl__law_known⟩) (c__law_known : PySem.W.codeIn K cdv__law_known "_law_known" = true) (k__law_known : PySem.W.keepIn K (.ref f__law_known) = true)
    (a__law_letters : PySem.W.nsIn K mainGlobals "_law_letters" = some (some (.ref f__law_letters))) (l__law_letters : K.lookup f__law_letters = some ⟨oc__law_letters, od__law_letters, .func (PySem.W.fnOf "_law_letters" "_law_letters" (defArgs s__law_letters) (defBody s__law_letters) (defScope s__law_letters) .none kV__law_letters doc__law_letters pm__law_letters an__law_letters cdv__law_letters ct__law_letters), osl__law_letters⟩) (c__law_letters : PySem.W.codeIn K cdv__law_letters "_law_letters" = true) (k__law_letters : PySem.W.keepIn K (.ref f__law_letters) = true)
    (a__law_fits : PySem.W.nsIn K mainGlobals "_law_fits" = some (some (.ref f__law_fits))) (l__law_fits : K.lookup f__law_fits = some ⟨oc__law_fits, od__law_fits, .func (PySem.W.fnOf "_law_fits" "_law_fits" (defArgs s__law_fits) (defBody s__law_fits) (defScope s__law_fits) .none kV__law_fits doc__law_fits pm__law_fits an__law_fits cdv__law_fits ct__law_fits), osl__law_fits⟩) (c__law_fits : PySem.W.codeIn K cdv__law_fits "_law_fits" = true) (k__law_fits : PySem.W.keepIn K (.ref f__law_fits) = true)
    (a__law_pairs : PySem.W.nsIn K mainGlobals "_law_pairs" = some (some (.ref f__law_pairs))) (l__law_pairs : K.lookup f__law_pairs = some ⟨oc__law_pairs, od__law_pairs, .func (PySem.W.fnOf "_law_pairs" "_law_pairs" (defArgs s__law_pairs) (defBody s__law_pairs) (defScope s__law_pairs) .none kV__law_pairs doc__law_pairs pm__law_pairs an__law_pairs cdv__law_pairs ct__law_pairs), osl__law_pairs⟩) (c__law_pairs : PySem.W.codeIn K cdv__law_pairs "_law_pairs" = true) (k__law_pairs : PySem.W.keepIn K (.ref f__law_pairs) = true)
    (a__law_parts : PySem.W.nsIn K mainGlobals "_law_parts" = some (some (.ref f__law_parts))) (l__law_parts : K.lookup f__law_parts = some ⟨oc__law_parts, od__law_parts, .func (PySem.W.fnOf "_law_parts" "_law_parts" (defArgs s__law_parts) (defBody s__law_parts) (defScope s__law_parts) .none kV__law_parts doc__law_parts pm__law_parts an__law_parts cdv__law_parts ct__law_parts), osl__law_parts⟩) (c__law_parts : PySem.W.codeIn K cdv__law_parts "_law_parts" = true) (k__law_parts : PySem.W.keepIn K (.ref f__law_parts) = true)
    (a__law_word : PySem.W.nsIn K mainGlobals "_law_word" = some (some (.ref f__law_word))) (l__law_word : K.lookup f__law_word = some ⟨oc__law_word, od__law_word, .func (PySem.W.fnOf "_law_word" "_law_word" (defArgs s__law_word) (defBody s__law_word) (defScope s__law_word) .none kV__law_word doc__law_word pm__law_word an__law_word cdv__law_word ct__law_word), osl__law_word⟩) (c__law_word : PySem.W.codeIn K cdv__law_word "_law_word" = true) (k__law_word : PySem.W.keepIn K (.ref f__law_word) = true)
    (a__law_rows : PySem.W.nsIn K mainGlobals "_law_rows" = some (some (.ref f__law_rows))) (l__law_rows : K.lookup f__law_rows = some ⟨oc__law_rows, od__law_rows, .func (PySem.W.fnOf "_law_rows" "_law_rows" (defArgs s__law_rows) (defBody s__law_rows) (defScope s__law_rows) .none kV__law_rows doc__law_rows pm__law_rows an__law_rows cdv__law_rows ct__law_rows), osl__law_rows⟩) (c__law_rows : PySem.W.codeIn K cdv__law_rows "_law_rows" = true) (k__law_rows : PySem.W.keepIn K (.ref f__law_rows) = true)
    (a__law_due : PySem.W.nsIn K mainGlobals "_law_due" = some (some (.ref f__law_due))) (l__law_due : K.lookup f__law_due = some ⟨oc__law_due, od__law_due, .func (PySem.W.fnOf "_law_due" "_law_due" (defArgs s__law_due) (defBody s__law_due) (defScope s__law_due) .none kV__law_due doc__law_due pm__law_due an__law_due cdv__law_due ct__law_due), osl__law_due⟩) (c__law_due : PySem.W.codeIn K cdv__law_due "_law_due" = true) (k__law_due : PySem.W.keepIn K (.ref f__law_due) = true)
    (a__law_is_refused : PySem.W.nsIn K mainGlobals "_law_is_refused" = some (some (.ref f__law_is_refused))) (l__law_is_refused : K.lookup f__law_is_refused = some ⟨oc__law_is_refused, od__law_is_refused, .func (PySem.W.fnOf "_law_is_refused" "_law_is_refused" (defArgs s__law_is_refused) (defBody s__law_is_refused) (defScope s__law_is_refused) .none kV__law_is_refused doc__law_is_refused pm__law_is_refused an__law_is_refused cdv__law_is_refused ct__law_is_refused), osl__law_is_refused⟩) (c__law_is_refused : PySem.W.codeIn K cdv__law_is_refused "_law_is_refused" = true) (k__law_is_refused : PySem.W.keepIn K (.ref f__law_is_refused) = true)
    (a_law : PySem.W.nsIn K mainGlobals "law" = some (some (.ref f_law))) (l_law : K.lookup f_law = some ⟨oc_law, od_law, .func (PySem.W.fnOf "law" "law" (defArgs s_law) (defBody s_law) (defScope s_law) .none kV_law doc_law pm_law an_law cdv_law ct_law), osl_law⟩) (c_law : PySem.W.codeIn K cdv_law "law" = true) (k_law : PySem.W.keepIn K (.ref f_law) = true) :
    ∃ (f : Addr) (fd : FuncData), mg "law" = some (.ref f) ∧ (∀ (s : Shared) (u : Value), BindsTo s fd ⟨[u], []⟩ [("_law_script", u)]) ∧
      ∀ base : Heap, K.In base → base.Ns mainGlobals mg → FnOk P w K mg base (L2.CX P w) 5 f fd ["_law_script"] (spF K mg [false] F_law) := by
  have z_isinstance := He.free_ok (x := "isinstance") X G (fh_at fi 0)
  have z_str := He.free_ok (x := "str") X G (fh_at fi 1)
  have FN_is_string_of := funAt_mk (x := "is_string_of") (st := s_is_string_of) (ps := P_is_string_of) X G a_is_string_of l_is_string_of c_is_string_of k_is_string_of (fun _ _ _ _ _ _ us hl => match us, hl with | [_, _], _ => rfl)
  have x_NoWord := excAtK_of (x := "NoWord") X G (fh_at fi 14) (fh_at fi 15)
  have Ck_Wish := clsK_of (c := "Wish") (cf := ["kept_given", "kept_said", "kept_cells", "kept_index", "kept_places", "kept_bits", "kept_known", "kept_pairs", "kept_rows", "kept_closure"]) X G (fh_at fi 16) (fh_at fi 17) (fun f hf => by
    simp only [List.mem_cons, List.not_mem_nil, or_false] at hf
    rcases hf with rfl | rfl | rfl | rfl | rfl | rfl | rfl | rfl | rfl | rfl
    · exact fh_at fi 18
    · exact fh_at fi 19
    · exact fh_at fi 20
    · exact fh_at fi 21
    · exact fh_at fi 22
    · exact fh_at fi 23
    · exact fh_at fi 24
    · exact fh_at fi 25
    · exact fh_at fi 26
    · exact fh_at fi 27)
  have FN_check_word := funAt_mk (x := "check_word") (st := s_check_word) (ps := P_check_word) X G a_check_word l_check_word c_check_word k_check_word (fun _ _ _ _ _ _ us hl => match us, hl with | [_, _], _ => rfl)
  have z_tuple := He.free_ok (x := "tuple") X G (fh_at fi 2)
  have FN_plain_rows := funAt_mk (x := "plain_rows") (st := s_plain_rows) (ps := P_plain_rows) X G a_plain_rows l_plain_rows c_plain_rows k_plain_rows (fun _ _ _ _ _ _ us hl => match us, hl with | [_], _ => rfl)
  have FN_crossed := funAt_mk (x := "crossed") (st := s_crossed) (ps := P_crossed) X G a_crossed l_crossed c_crossed k_crossed (fun _ _ _ _ _ _ us hl => match us, hl with | [_, _, _, _], _ => rfl)
  have FN_put_behind := funAt_mk (x := "put_behind") (st := s_put_behind) (ps := P_put_behind) X G a_put_behind l_put_behind c_put_behind k_put_behind (fun _ _ _ _ _ _ us hl => match us, hl with | [_, _, _], _ => rfl)
  have z_zip := He.free_ok (x := "zip") X G (fh_at fi 3)
  have FN_as_table := funAt_mk (x := "as_table") (st := s_as_table) (ps := P_as_table) X G a_as_table l_as_table c_as_table k_as_table (fun _ _ _ _ _ _ us hl => match us, hl with | [_, _], _ => rfl)
  have FN_table := funAt_mk (x := "table") (st := s_table) (ps := P_table) X G a_table l_table c_table k_table (fun _ _ _ _ _ _ us hl => match us, hl with | [_, _], _ => rfl)
  have FN_check_ring := funAt_mk (x := "check_ring") (st := s_check_ring) (ps := P_check_ring) X G a_check_ring l_check_ring c_check_ring k_check_ring (fun _ _ _ _ _ _ us hl => match us, hl with | [_, _], _ => rfl)
  have FN_living := funAt_mk (x := "living") (st := s_living) (ps := P_living) X G a_living l_living c_living k_living (fun _ _ _ _ _ _ us hl => match us, hl with | [_, _, _], _ => rfl)
  have FN_first_of := funAt_mk (x := "first_of") (st := s_first_of) (ps := P_first_of) X G a_first_of l_first_of c_first_of k_first_of (fun _ _ _ _ _ _ us hl => match us, hl with | [_, _, _], _ => rfl)
  have FN_filled := funAt_mk (x := "filled") (st := s_filled) (ps := P_filled) X G a_filled l_filled c_filled k_filled (fun _ _ _ _ _ _ us hl => match us, hl with | [_, _, _, _], _ => rfl)
  have FN_first_answer := funAt_mk (x := "first_answer") (st := s_first_answer) (ps := P_first_answer) X G a_first_answer l_first_answer c_first_answer k_first_answer (fun _ _ _ _ _ _ us hl => match us, hl with | [_, _], _ => rfl)
  have z_len := He.free_ok (x := "len") X G (fh_at fi 4)
  have z_set := He.free_ok (x := "set") X G (fh_at fi 5)
  have FN_is_choice := funAt_mk (x := "is_choice") (st := s_is_choice) (ps := P_is_choice) X G a_is_choice l_is_choice c_is_choice k_is_choice (fun _ _ _ _ _ _ us hl => match us, hl with | [_, _], _ => rfl)
  have FN_is_pair := funAt_mk (x := "is_pair") (st := s_is_pair) (ps := P_is_pair) X G a_is_pair l_is_pair c_is_pair k_is_pair (fun _ _ _ _ _ _ us hl => match us, hl with | [_, _, _], _ => rfl)
  have z_list := He.free_ok (x := "list") X G (fh_at fi 6)
  have FN_are_pairs := funAt_mk (x := "are_pairs") (st := s_are_pairs) (ps := P_are_pairs) X G a_are_pairs l_are_pairs c_are_pairs k_are_pairs (fun _ _ _ _ _ _ us hl => match us, hl with | [_, _, _], _ => rfl)
  have z_enumerate := He.free_ok (x := "enumerate") X G (fh_at fi 7)
  have z_sum := He.free_ok (x := "sum") X G (fh_at fi 8)
  have MN_Wish_keep := methAt_mk (c := "Wish") (m := "keep") (q := "Wish.keep") (st := s_Wish_keep) (ps := P_Wish_keep) X G aC_Wish a_Wish_keep n_Wish_keep l_Wish_keep c_Wish_keep k_Wish_keep (fun _ _ _ _ _ _ us hl => match us, hl with | [_, _, _, _], _ => rfl)
  have MN_Wish___init__ := methAt_mk (c := "Wish") (m := "__init__") (q := "Wish.__init__") (st := s_Wish___init__) (ps := P_Wish___init__) X G aC_Wish a_Wish___init__ n_Wish___init__ l_Wish___init__ c_Wish___init__ k_Wish___init__ (fun _ _ _ _ _ _ us hl => match us, hl with | [_, _, _, _], _ => rfl)
  have MN_Wish_pairs := methAt_mk (c := "Wish") (m := "pairs") (q := "Wish.pairs") (st := s_Wish_pairs) (ps := P_Wish_pairs) X G aC_Wish a_Wish_pairs n_Wish_pairs l_Wish_pairs c_Wish_pairs k_Wish_pairs (fun _ _ _ _ _ _ us hl => match us, hl with | [_], _ => rfl)
  have z_abs := He.free_ok (x := "abs") X G (fh_at fi 9)
  have z_int := He.free_ok (x := "int") X G (fh_at fi 10)
  have FN__law_hand := funAt_mk (x := "_law_hand") (st := s__law_hand) (ps := P__law_hand) X G a__law_hand l__law_hand c__law_hand k__law_hand (fun _ _ _ _ _ _ us hl => match us, hl with | [_], _ => rfl)
  have FN__law_draw := funAt_mk (x := "_law_draw") (st := s__law_draw) (ps := P__law_draw) X G a__law_draw l__law_draw c__law_draw k__law_draw (fun _ _ _ _ _ _ us hl => match us, hl with | [_, _], _ => rfl)
  have FN__law_cells := funAt_mk (x := "_law_cells") (st := s__law_cells) (ps := P__law_cells) X G a__law_cells l__law_cells c__law_cells k__law_cells (fun _ _ _ _ _ _ us hl => match us, hl with | [_, _], _ => rfl)
  have FN__law_known := funAt_mk (x := "_law_known") (st := s__law_known) (ps := P__law_known) X G a__law_known l__law_known c__law_known k__law_known (fun _ _ _ _ _ _ us hl => match us, hl with | [_], _ => rfl)
  have z_range := He.free_ok (x := "range") X G (fh_at fi 11)
  have FN__law_letters := funAt_mk (x := "_law_letters") (st := s__law_letters) (ps := P__law_letters) X G a__law_letters l__law_letters c__law_letters k__law_letters (fun _ _ _ _ _ _ us hl => match us, hl with | [_, _, _], _ => rfl)
  have FN__law_fits := funAt_mk (x := "_law_fits") (st := s__law_fits) (ps := P__law_fits) X G a__law_fits l__law_fits c__law_fits k__law_fits (fun _ _ _ _ _ _ us hl => match us, hl with | [_, _, _, _, _], _ => rfl)
  have FN__law_pairs := funAt_mk (x := "_law_pairs") (st := s__law_pairs) (ps := P__law_pairs) X G a__law_pairs l__law_pairs c__law_pairs k__law_pairs (fun _ _ _ _ _ _ us hl => match us, hl with | [_, _, _], _ => rfl)
  have FN__law_parts := funAt_mk (x := "_law_parts") (st := s__law_parts) (ps := P__law_parts) X G a__law_parts l__law_parts c__law_parts k__law_parts (fun _ _ _ _ _ _ us hl => match us, hl with | [_], _ => rfl)
  have FN__law_word := funAt_mk (x := "_law_word") (st := s__law_word) (ps := P__law_word) X G a__law_word l__law_word c__law_word k__law_word (fun _ _ _ _ _ _ us hl => match us, hl with | [_, _, _], _ => rfl)
  have FN__law_rows := funAt_mk (x := "_law_rows") (st := s__law_rows) (ps := P__law_rows) X G a__law_rows l__law_rows c__law_rows k__law_rows (fun _ _ _ _ _ _ us hl => match us, hl with | [_, _, _], _ => rfl)
  have z_all := He.free_ok (x := "all") X G (fh_at fi 12)
  have FN__law_due := funAt_mk (x := "_law_due") (st := s__law_due) (ps := P__law_due) X G a__law_due l__law_due c__law_due k__law_due (fun _ _ _ _ _ _ us hl => match us, hl with | [_, _, _, _], _ => rfl)
  have g_NoWord := (⟨_, He.glo_ok (x := "NoWord") X G (fh_at fi 14)⟩ : ∃ C, mg "NoWord" = some (.ref C))
  have m_NoWord := mtK_of (y := "NoWord") (tab := [("NearError", false), ("NoWord", true), ("NoWish", false)]) X G (fh_at fi 14) (fun p hp => by
    simp only [List.mem_cons, List.not_mem_nil, or_false] at hp
    rcases hp with rfl | rfl | rfl
    · exact ⟨fh_at fi 28, fh_at fi 29⟩
    · exact ⟨fh_at fi 14, fh_at fi 30⟩
    · exact ⟨fh_at fi 31, fh_at fi 32⟩)
  have i_NearError := isK_of (y := "NearError") (tab := [("NearError", true), ("NoWord", true), ("NoWish", true)]) X G (fh_at fi 28) (fun p hp => by
    simp only [List.mem_cons, List.not_mem_nil, or_false] at hp
    rcases hp with rfl | rfl | rfl
    · exact ⟨fh_at fi 28, fi_at fi 33, fi_at fi 34⟩
    · exact ⟨fh_at fi 14, fi_at fi 35, fi_at fi 36⟩
    · exact ⟨fh_at fi 31, fi_at fi 37, fi_at fi 38⟩)
  have FN__law_is_refused := funAt_mk (x := "_law_is_refused") (st := s__law_is_refused) (ps := P__law_is_refused) X G a__law_is_refused l__law_is_refused c__law_is_refused k__law_is_refused (fun _ _ _ _ _ _ us hl => match us, hl with | [_, _], _ => rfl)
  have z_sorted := He.free_ok (x := "sorted") X G (fh_at fi 13)
  have FN_law := funAt_mk (x := "law") (st := s_law) (ps := P_law) X G a_law l_law c_law k_law (fun _ _ _ _ _ _ us hl => match us, hl with | [_], _ => rfl)
  exact ⟨_, PySem.W.fnOf "law" "law" (defArgs s_law) (defBody s_law) (defScope s_law) .none kV_law doc_law pm_law an_law cdv_law ct_law, PySem.W.mg_of X G a_law, fun s u => .of_eq rfl, fun base _ _ => by
    have d_is_string_of := dF_mk FN_is_string_of (ok_is_string_of (P := P) (w := w) (base := base) z_isinstance z_str)
    have d_check_word := dF_mk FN_check_word (ok_check_word (P := P) (w := w) (base := base) Ck_Wish x_NoWord d_is_string_of)
    have d_plain_rows := dF_mk FN_plain_rows (ok_plain_rows (P := P) (w := w) (base := base) z_tuple Ck_Wish)
    have d_crossed := dF_mk FN_crossed (ok_crossed (P := P) (w := w) (base := base) z_tuple Ck_Wish)
    have d_put_behind := dF_mk FN_put_behind (ok_put_behind (P := P) (w := w) (base := base) Ck_Wish d_crossed)
    have d_as_table := dF_mk FN_as_table (ok_as_table (P := P) (w := w) (base := base) z_tuple z_zip Ck_Wish)
    have d_table := dF_mk FN_table (ok_table (P := P) (w := w) (base := base) d_as_table d_check_word d_plain_rows d_put_behind)
    have d_check_ring := dF_mk FN_check_ring (ok_check_ring (P := P) (w := w) (base := base) x_NoWord d_check_word)
    have d_living := dF_mk FN_living (ok_living (P := P) (w := w) (base := base) Ck_Wish)
    have d_first_of := dF_mk FN_first_of (ok_first_of (P := P) (w := w) (base := base) Ck_Wish)
    have d_filled := dF_mk FN_filled (ok_filled (P := P) (w := w) (base := base) z_zip Ck_Wish d_first_of d_living)
    have d_first_answer := dF_mk FN_first_answer (ok_first_answer (P := P) (w := w) (base := base) Ck_Wish d_check_ring d_filled)
    have d_is_choice := dF_mk FN_is_choice (ok_is_choice (P := P) (w := w) (base := base) z_len z_set d_is_string_of)
    have d_is_pair := dF_mk FN_is_pair (ok_is_pair (P := P) (w := w) (base := base) z_isinstance z_len z_str)
    have d_are_pairs := dF_mk FN_are_pairs (ok_are_pairs (P := P) (w := w) (base := base) z_isinstance z_list d_is_pair)
    have t_Wish_keep := tF_mk MN_Wish_keep Ck_Wish (ok_Wish_keep (P := P) (w := w) (base := base) z_enumerate z_sum Ck_Wish)
    have m_Wish : MF P w K mg base 3 "Wish" P_Wish___init__ [false, false, false] F_Wish___init__ := mF_mk MN_Wish___init__ (fun C hC => by
      have := (He.glo_ok (x := "Wish") X G (fh_at fi 16)).symm.trans hC
      cases this
      exact ⟨(He.mkr_ok (fh_at fi 39)).makes, (He.mkr_ok (fh_at fi 39)).kp⟩) (ok_Wish___init__ (P := P) (w := w) (base := base) z_len K_GREAT K_SMALL d_are_pairs d_is_choice t_Wish_keep)
    have t_Wish_pairs := tF_mk MN_Wish_pairs Ck_Wish (ok_Wish_pairs (P := P) (w := w) (base := base) z_list Ck_Wish)
    have d__law_hand := dF_mk FN__law_hand (ok__law_hand (P := P) (w := w) (base := base) z_abs z_int z_len)
    have d__law_draw := dF_mk FN__law_draw (ok__law_draw (P := P) (w := w) (base := base) z_int z_len)
    have d__law_cells := dF_mk FN__law_cells (ok__law_cells (P := P) (w := w) (base := base) )
    have d__law_known := dF_mk FN__law_known (ok__law_known (P := P) (w := w) (base := base) )
    have d__law_letters := dF_mk FN__law_letters (ok__law_letters (P := P) (w := w) (base := base) z_len z_range d__law_draw)
    have d__law_fits := dF_mk FN__law_fits (ok__law_fits (P := P) (w := w) (base := base) z_int z_len)
    have d__law_pairs := dF_mk FN__law_pairs (ok__law_pairs (P := P) (w := w) (base := base) z_int d__law_cells d__law_draw d__law_fits)
    have d__law_parts := dF_mk FN__law_parts (ok__law_parts (P := P) (w := w) (base := base) d__law_draw d__law_letters d__law_pairs)
    have d__law_word := dF_mk FN__law_word (ok__law_word (P := P) (w := w) (base := base) z_len z_range d__law_draw)
    have d__law_rows := dF_mk FN__law_rows (ok__law_rows (P := P) (w := w) (base := base) z_len z_range)
    have d__law_due := dF_mk FN__law_due (ok__law_due (P := P) (w := w) (base := base) z_all z_len z_range z_tuple d__law_rows)
    have d__law_is_refused := dF_mk FN__law_is_refused (ok__law_is_refused (P := P) (w := w) (base := base) z_isinstance g_NoWord m_NoWord i_NearError d_table)
    exact ok_law (P := P) (w := w) (base := base) z_isinstance z_len z_list z_range z_sorted z_tuple d__law_cells d__law_draw d__law_due d__law_hand d__law_is_refused d__law_known d__law_parts d__law_word d_first_answer d_table m_Wish t_Wish_pairs (fun_mk l_law c_law k_law)⟩
end LW
open PySem PySem.W PyProof.Rows FV
set_option maxRecDepth 100000 in
set_option maxHeartbeats 40000000 in
theorem PySem.Challenge.cw_nearwish_k14_whole_tables_of_words_holds : PySem.Challenge.rw_nearwish_k14_whole_tables_of_words.Holds := by
  w_on; o_law; k_head; (case hw => w_witness2)
  k_fill
  refine FV.walk_law (l := PySem.Challenge.rw_nearwish_k14_whole_tables_of_words) (n := 63) (k := 5) (x := "_law_script") (G := LW.F_law) rfl (by decide) rfl ⟨rfl, by decide, by decide⟩ (fun w h Y => PySem.W.kIn_of Y) ?F LW.law_done
  case F =>
    intro w mg h X G V
    refine' LW.all_mk X G V ?fi ?K_GREAT ?K_SMALL ?a_is_string_of ?l_is_string_of ?c_is_string_of ?k_is_string_of ?a_check_word ?l_check_word ?c_check_word ?k_check_word ?a_plain_rows ?l_plain_rows ?c_plain_rows ?k_plain_rows ?a_crossed ?l_crossed ?c_crossed ?k_crossed ?a_put_behind ?l_put_behind ?c_put_behind ?k_put_behind ?a_as_table ?l_as_table ?c_as_table ?k_as_table ?a_table ?l_table ?c_table ?k_table ?a_check_ring ?l_check_ring ?c_check_ring ?k_check_ring ?a_living ?l_living ?c_living ?k_living ?a_first_of ?l_first_of ?c_first_of ?k_first_of ?a_filled ?l_filled ?c_filled ?k_filled ?a_first_answer ?l_first_answer ?c_first_answer ?k_first_answer ?a_is_choice ?l_is_choice ?c_is_choice ?k_is_choice ?a_is_pair ?l_is_pair ?c_is_pair ?k_is_pair ?a_are_pairs ?l_are_pairs ?c_are_pairs ?k_are_pairs ?aC_Wish ?a_Wish_keep ?n_Wish_keep ?l_Wish_keep ?c_Wish_keep ?k_Wish_keep ?a_Wish___init__ ?n_Wish___init__ ?l_Wish___init__ ?c_Wish___init__ ?k_Wish___init__ ?a_Wish_pairs ?n_Wish_pairs ?l_Wish_pairs ?c_Wish_pairs ?k_Wish_pairs ?a__law_hand ?l__law_hand ?c__law_hand ?k__law_hand ?a__law_draw ?l__law_draw ?c__law_draw ?k__law_draw ?a__law_cells ?l__law_cells ?c__law_cells ?k__law_cells ?a__law_known ?l__law_known ?c__law_known ?k__law_known ?a__law_letters ?l__law_letters ?c__law_letters ?k__law_letters ?a__law_fits ?l__law_fits ?c__law_fits ?k__law_fits ?a__law_pairs ?l__law_pairs ?c__law_pairs ?k__law_pairs ?a__law_parts ?l__law_parts ?c__law_parts ?k__law_parts ?a__law_word ?l__law_word ?c__law_word ?k__law_word ?a__law_rows ?l__law_rows ?c__law_rows ?k__law_rows ?a__law_due ?l__law_due ?c__law_due ?k__law_due ?a__law_is_refused ?l__law_is_refused ?c__law_is_refused ?k__law_is_refused ?a_law ?l_law ?c_law ?k_law
    (case aC_Wish => k_is)
    (case a_Wish_keep => k_is); (case n_Wish_keep => k_is); (case l_Wish_keep => k_is); (case c_Wish_keep => k_is); (case k_Wish_keep => k_is)
    (case a_Wish___init__ => k_is); (case n_Wish___init__ => k_is); (case l_Wish___init__ => k_is); (case c_Wish___init__ => k_is); (case k_Wish___init__ => k_is)
    (case a_Wish_pairs => k_is); (case n_Wish_pairs => k_is); (case l_Wish_pairs => k_is); (case c_Wish_pairs => k_is); (case k_Wish_pairs => k_is)
    (case a_is_string_of => k_is); (case l_is_string_of => k_is); (case c_is_string_of => k_is); (case k_is_string_of => k_is)
    (case a_check_word => k_is); (case l_check_word => k_is); (case c_check_word => k_is); (case k_check_word => k_is)
    (case a_plain_rows => k_is); (case l_plain_rows => k_is); (case c_plain_rows => k_is); (case k_plain_rows => k_is)
    (case a_crossed => k_is); (case l_crossed => k_is); (case c_crossed => k_is); (case k_crossed => k_is)
    (case a_put_behind => k_is); (case l_put_behind => k_is); (case c_put_behind => k_is); (case k_put_behind => k_is)
    (case a_as_table => k_is); (case l_as_table => k_is); (case c_as_table => k_is); (case k_as_table => k_is)
    (case a_table => k_is); (case l_table => k_is); (case c_table => k_is); (case k_table => k_is)
    (case a_check_ring => k_is); (case l_check_ring => k_is); (case c_check_ring => k_is); (case k_check_ring => k_is)
    (case a_living => k_is); (case l_living => k_is); (case c_living => k_is); (case k_living => k_is)
    (case a_first_of => k_is); (case l_first_of => k_is); (case c_first_of => k_is); (case k_first_of => k_is)
    (case a_filled => k_is); (case l_filled => k_is); (case c_filled => k_is); (case k_filled => k_is)
    (case a_first_answer => k_is); (case l_first_answer => k_is); (case c_first_answer => k_is); (case k_first_answer => k_is)
    (case a_is_choice => k_is); (case l_is_choice => k_is); (case c_is_choice => k_is); (case k_is_choice => k_is)
    (case a_is_pair => k_is); (case l_is_pair => k_is); (case c_is_pair => k_is); (case k_is_pair => k_is)
    (case a_are_pairs => k_is); (case l_are_pairs => k_is); (case c_are_pairs => k_is); (case k_are_pairs => k_is)
    (case a__law_hand => k_is); (case l__law_hand => k_is); (case c__law_hand => k_is); (case k__law_hand => k_is)
    (case a__law_draw => k_is); (case l__law_draw => k_is); (case c__law_draw => k_is); (case k__law_draw => k_is)
    (case a__law_cells => k_is); (case l__law_cells => k_is); (case c__law_cells => k_is); (case k__law_cells => k_is)
    (case a__law_known => k_is); (case l__law_known => k_is); (case c__law_known => k_is); (case k__law_known => k_is)
    (case a__law_letters => k_is); (case l__law_letters => k_is); (case c__law_letters => k_is); (case k__law_letters => k_is)
    (case a__law_fits => k_is); (case l__law_fits => k_is); (case c__law_fits => k_is); (case k__law_fits => k_is)
    (case a__law_pairs => k_is); (case l__law_pairs => k_is); (case c__law_pairs => k_is); (case k__law_pairs => k_is)
    (case a__law_parts => k_is); (case l__law_parts => k_is); (case c__law_parts => k_is); (case k__law_parts => k_is)
    (case a__law_word => k_is); (case l__law_word => k_is); (case c__law_word => k_is); (case k__law_word => k_is)
    (case a__law_rows => k_is); (case l__law_rows => k_is); (case c__law_rows => k_is); (case k__law_rows => k_is)
    (case a__law_due => k_is); (case l__law_due => k_is); (case c__law_due => k_is); (case k__law_due => k_is)
    (case a__law_is_refused => k_is); (case l__law_is_refused => k_is); (case c__law_is_refused => k_is); (case k__law_is_refused => k_is)
    (case a_law => k_is); (case l_law => k_is); (case c_law => k_is); (case k_law => k_is)
    (case fi => kernel_rfl)
    (case K_GREAT => first | exact He.int_ok X G (by kernel_rfl) | exact He.str_ok X G (by kernel_rfl) | exact loose_int V (by simp [PySem.W.scalarsOf]))
    (case K_SMALL => first | exact He.int_ok X G (by kernel_rfl) | exact He.str_ok X G (by kernel_rfl) | exact loose_int V (by simp [PySem.W.scalarsOf]))
