import PyProof.Rows.All
import Wide.All
import OpenK.AllK
import Wide.FinOn
import HandS.ForMost
import HandS.Evl
import HandS.Deep
import HandS.Star
import HandS.Property
import HandS.Codes
import HandS.Style
import HandS.Defaults
import HandS.IsInst
import HandS.HeadHook1
import HandS.HeadHook2
import KE.KStateDown
import HandS.Head0
import HandS.Head1
import HandS.Head2
import PyProof.FString3
import HandS.FStr
import KE.LtData
import HandS.More
import HandS.Strs
import HandS.SetBool
import HandS.SetFor
import HandS.SetTxt0
import HandS.TupAny
import HandS.RaiseMore
import HandS.Replace
import HandS.Small
import HandS.DictComp
import KE.GoesEnum
import KE.GoesMore
import HandS.MakeKwOnly
import HandS.NoneIn
import HandS.HeadEnd
import PySem.Challenge.RW_standinparts_k38_whole_rules_judged
set_option Elab.async false
set_option linter.all false
set_option maxRecDepth 100000
set_option maxHeartbeats 4000000
/-! The pool of draws: a list [digits, at] whose second entry nobody tells. -/
namespace Dl
open PySem PySem.Spec PyProof.Rows L2
def plObj (q : Addr) (i : Int) (t : Tok) (n : Nat) : Obj := { cls := .type "list", data := .seq [Value.ref q, Value.int i t].toArray n }
/-- the pool at a, its digits the list at q -/
def PoolO (a q : Addr) : HO := .ext fun h => ∃ i t n, 0 ≤ i ∧ h.get? a = some (plObj q i t n)
theorem pool_ok {P : Program} {w : World} {H : Hp} {h : Heap} {a q : Addr} {i : Int} {t : Tok} {n : Nat} (hi : 0 ≤ i) (e : h.get? a = some (plObj q i t n)) : ObjOk P w H h a (PoolO a q) :=
  ⟨⟨i, t, n, hi, e⟩, ⟨_, e⟩, fun h1 h2 ⟨i, t, n, hi, e⟩ k => ⟨i, t, n, hi, k _ e⟩⟩
theorem upd_id {H : Hp} {a : Addr} {o : HO} (h : H a = some o) : upd H a o = H := by
  funext b
  unfold upd
  split
  · next e => rw [e, h]
  · rfl
section
variable {X : Cx} {ta : TE} {e : Expr}
def rPool : R2 := fun x y H Q => ∃ p q, x = .ref p ∧ H p = some (PoolO p q) ∧ ((y = .int 0 ∧ Q (.ref q) H) ∨ (y = .int 1 ∧ ∀ i : Int, 0 ≤ i → Q (.int i) H))
theorem ix_pool : IxR X rPool := by
  intro value slice pins s σ H x y v u Q I rx ry h hs
  obtain ⟨p, q, rfl, hp, h⟩ := h
  cases rx
  obtain ⟨⟨i, t, n, hi, e⟩, _⟩ := I.hok p _ hp
  have hl : s.heap.IsList p [Value.ref q, Value.int i t].toArray := ⟨_, e, rfl, n, rfl⟩
  rcases h with ⟨rfl, k⟩ | ⟨rfl, k⟩
  · obtain ⟨t', rfl⟩ := ry
    exact item_listR hl (by decide) (by decide) (by rfl) ⟨.ref q, H, I, rfl, k⟩ hs
  · obtain ⟨t', rfl⟩ := ry
    exact item_listR hl (by decide) (by decide) (by rfl) ⟨.int i, H, I, ⟨t, rfl⟩, k i hi⟩ hs
def rPoolSet : V → V → V → Hp → (Hp → Prop) → Prop := fun o i v H Q => ∃ p q j, o = .ref p ∧ i = .int 1 ∧ v = .int j ∧ 0 ≤ j ∧ H p = some (PoolO p q) ∧ Q H
theorem set_pool : PSet X rPoolSet := by
  intro pins s σ H o i v ov iv u Q I ro ri rv h
  obtain ⟨p, q, j, rfl, rfl, rfl, hj, hp, k⟩ := h
  cases ro
  obtain ⟨t, rfl⟩ := ri
  obtain ⟨t2, rfl⟩ := rv
  obtain ⟨⟨i, t3, n, hi, e⟩, _⟩ := I.hok p _ hp
  have e2 : (s.heap.update p (Obj.mapSeq (·.setIfInBounds 1 (Value.int j t2)))).get? p = some (plObj q j t2 n) := by
    rw [Heap.get?_update_self _ e (by rfl)]
    rfl
  refine PySem.W.ki_setAt (items := [Value.ref q, Value.int i t3].toArray) e (by decide) (by decide) (by simp) ⟨H, ?_, k⟩
  have I2 := I.write (x := p) (e := p) (t' := s.toks) (o := PoolO p q) (by rw [hp]; trivial) (.inl rfl) (fun b u hb z => (Heap.get?_update_other _ _ (Ne.symm hb)).trans z) ⟨_, e2⟩ (pool_ok hj e2)
  rw [upd_id hp] at I2
  exact I2
/-- [digits, 0], from here on a pool -/
def tPool (te : TE) : TE := fun σ H Q => te σ H fun v H1 => ∃ p q i, v = .ref p ∧ H1 p = some (.lst [.ref q, .int i]) ∧ 0 ≤ i ∧ Q v (upd H1 p (PoolO p q))
theorem pe_pool (h : PE X e ta) : PE X e (tPool ta) := by
  refine ⟨fun pins s σ H Q I k => ?_⟩
  refine wpAny_mono (h.run pins s σ H _ I k) (fun v s1 r => ?_) fun _ _ z => z
  obtain ⟨x, H1, I1, rx, p, q, i, rfl, hp, hi, k⟩ := r
  obtain ⟨its, n, r, ho, hz⟩ := I1.lst hp
  have hits : ∃ t, its = [Value.ref q, Value.int i t] := by
    cases r with
    | cons a r =>
      cases r with
      | cons b r =>
        cases r
        cases a
        obtain ⟨t, rfl⟩ := b
        exact ⟨t, rfl⟩
  obtain ⟨t, rfl⟩ := hits
  have I2 := I1.write (x := p) (e := p) (t' := s1.toks) (h' := s1.heap) (o := PoolO p q) (by rw [hp]; trivial) (.inl rfl) (fun b u hb z => z) ⟨_, ho⟩ (pool_ok hi ho)
  exact ⟨_, _, I2, rx, k⟩
end
end Dl

set_option maxHeartbeats 4000000
/-! Data in the place of addresses: a def's body read as steps from data to data. -/
namespace Dl
open PySem L2
open Evl (Ex)

/-! ### data -/
inductive Dat where
  | non | bl (b : Bool) | int (i : Int) | str (s : Str)
  | tup (xs : List Dat) | lst (xs : List Dat) | dic (kvs : List (Str × Dat)) | ins (C : Addr) (fs : List (Str × Dat))
  | pl | otp (xs : List Str)

mutual
/-- the value v stands for the datum d in the heap -/
inductive Rep (H : Hp) : V → Dat → Prop
  | non : Rep H .non .non
  | bl (b : Bool) : Rep H (.bl b) (.bl b)
  | int (i : Int) : Rep H (.int i) (.int i)
  | str (x : Str) : Rep H (.str x) (.str x)
  | tup {a : Addr} {vs : List V} {ds : List Dat} : H a = some (.tup vs) → Reps H vs ds → Rep H (.ref a) (.tup ds)
  | lst {a : Addr} {vs : List V} {ds : List Dat} : H a = some (.lst vs) → Reps H vs ds → Rep H (.ref a) (.lst ds)
  | dic {a : Addr} {kvs : List (Key × V)} {ds : List (Str × Dat)} : H a = some (.dK kvs) → RepK H kvs ds → Rep H (.ref a) (.dic ds)
  | ins {a C dx : Addr} {fs : List (Str × V)} {ds : List (Str × Dat)} : H a = some (.ins C dx fs) → RepF H fs ds → Rep H (.ref a) (.ins C ds)
  | pl {a q : Addr} {ns : List Int} : H a = some (PoolO a q) → H q = some (.lst (ns.map V.int)) → Rep H (.ref a) .pl
  | otp {a : Addr} {o : Obj} {xs : List Str} : H a = some (.frz o (.tup (xs.map V.str))) → o.dict = none → Rep H (.ref a) (.otp xs)
inductive Reps (H : Hp) : List V → List Dat → Prop
  | nil : Reps H [] []
  | cons {v : V} {vs : List V} {d : Dat} {ds : List Dat} : Rep H v d → Reps H vs ds → Reps H (v :: vs) (d :: ds)
inductive RepK (H : Hp) : List (Key × V) → List (Str × Dat) → Prop
  | nil : RepK H [] []
  | cons {k : Str} {v : V} {vs : List (Key × V)} {d : Dat} {ds : List (Str × Dat)} : Rep H v d → RepK H vs ds → RepK H ((.inr k, v) :: vs) ((k, d) :: ds)
inductive RepF (H : Hp) : List (Str × V) → List (Str × Dat) → Prop
  | nil : RepF H [] []
  | cons {k : Str} {v : V} {vs : List (Str × V)} {d : Dat} {ds : List (Str × Dat)} : Rep H v d → RepF H vs ds → RepF H ((k, v) :: vs) ((k, d) :: ds)
end

section
variable {H H' : Hp}
theorem rep_mono_all (e : Ex H H') : (∀ (d : Dat) (v : V), Rep H v d → Rep H' v d) :=
  fun d v r => Rep.rec (motive_1 := fun v d _ => Rep H' v d) (motive_2 := fun vs ds _ => Reps H' vs ds) (motive_3 := fun vs ds _ => RepK H' vs ds) (motive_4 := fun vs ds _ => RepF H' vs ds)
    .non (fun b => .bl b) (fun i => .int i) (fun x => .str x) (fun h _ ih => .tup (e _ _ h) ih) (fun h _ ih => .lst (e _ _ h) ih) (fun h _ ih => .dic (e _ _ h) ih) (fun h _ ih => .ins (e _ _ h) ih) (fun h h2 => .pl (e _ _ h) (e _ _ h2)) (fun h h2 => .otp (e _ _ h) h2)
    .nil (fun _ _ a b => .cons a b) .nil (fun _ _ a b => .cons a b) .nil (fun _ _ a b => .cons a b) r
theorem Rep.mono (e : Ex H H') {v : V} {d : Dat} (r : Rep H v d) : Rep H' v d := rep_mono_all e d v r
theorem Reps.mono (e : Ex H H') : ∀ {vs : List V} {ds : List Dat}, Reps H vs ds → Reps H' vs ds
  | _, _, .nil => .nil
  | _, _, .cons a b => .cons (a.mono e) (Reps.mono e b)
theorem RepK.mono (e : Ex H H') : ∀ {vs : List (Key × V)} {ds : List (Str × Dat)}, RepK H vs ds → RepK H' vs ds
  | _, _, .nil => .nil
  | _, _, .cons a b => .cons (a.mono e) (RepK.mono e b)
theorem RepF.mono (e : Ex H H') : ∀ {vs : List (Str × V)} {ds : List (Str × Dat)}, RepF H vs ds → RepF H' vs ds
  | _, _, .nil => .nil
  | _, _, .cons a b => .cons (a.mono e) (RepF.mono e b)
theorem Reps.length : ∀ {vs : List V} {ds : List Dat}, Reps H vs ds → vs.length = ds.length
  | _, _, .nil => rfl
  | _, _, .cons _ b => congrArg Nat.succ (Reps.length b)
theorem Reps.append : ∀ {vs ws : List V} {ds es : List Dat}, Reps H vs ds → Reps H ws es → Reps H (vs ++ ws) (ds ++ es)
  | _, _, _, _, .nil, s => s
  | _, _, _, _, .cons a b, s => .cons a (Reps.append b s)
theorem Reps.get : ∀ {vs : List V} {ds : List Dat} {i : Nat} {v : V}, Reps H vs ds → vs[i]? = some v → ∃ d, ds[i]? = some d ∧ Rep H v d
  | _, _, _, _, .nil, e => by simp at e
  | _, _, 0, _, .cons a _, e => by
    simp at e
    subst e
    exact ⟨_, rfl, a⟩
  | _, _, i + 1, v, .cons _ b, e => by
    obtain ⟨d, h1, h2⟩ := Reps.get (i := i) (v := v) b (by simpa using e)
    exact ⟨d, by simpa using h1, h2⟩
theorem Reps.at : ∀ {vs : List V} {ds : List Dat} {i : Nat} {d : Dat}, Reps H vs ds → ds[i]? = some d → ∃ v, vs[i]? = some v ∧ Rep H v d
  | _, _, _, _, .nil, e => by simp at e
  | _, _, 0, _, .cons a _, e => by
    simp at e
    subst e
    exact ⟨_, rfl, a⟩
  | _, _, i + 1, v, .cons _ b, e => by
    obtain ⟨d, h1, h2⟩ := Reps.at (i := i) (d := v) b (by simpa using e)
    exact ⟨d, by simpa using h1, h2⟩
theorem Reps.take : ∀ {vs : List V} {ds : List Dat} (n : Nat), Reps H vs ds → Reps H (vs.take n) (ds.take n)
  | _, _, 0, _ => .nil
  | _, _, _ + 1, .nil => .nil
  | _, _, n + 1, .cons a b => .cons a (Reps.take n b)
theorem Reps.drop : ∀ {vs : List V} {ds : List Dat} (n : Nat), Reps H vs ds → Reps H (vs.drop n) (ds.drop n)
  | _, _, 0, r => r
  | _, _, _ + 1, .nil => .nil
  | _, _, n + 1, .cons _ b => Reps.drop n b
theorem Reps.rev : ∀ {vs : List V} {ds : List Dat}, Reps H vs ds → Reps H vs.reverse ds.reverse
  | _, _, .nil => .nil
  | _, _, .cons a b => by
    rw [List.reverse_cons, List.reverse_cons]
    exact (Reps.rev b).append (.cons a .nil)
/-- texts, ints stand for themselves -/
theorem Reps.strs : ∀ {vs : List V} {xs : List Str}, Reps H vs (xs.map .str) → vs = xs.map V.str
  | _, [], r => by cases r; rfl
  | _, x :: xs, r => by
    cases r with
    | cons a b =>
      cases a
      rw [List.map_cons, ← Reps.strs b]
theorem Reps.ints : ∀ {vs : List V} {xs : List Int}, Reps H vs (xs.map .int) → vs = xs.map V.int
  | _, [], r => by cases r; rfl
  | _, x :: xs, r => by
    cases r with
    | cons a b =>
      cases a
      rw [List.map_cons, ← Reps.ints b]
theorem Reps.bls : ∀ {vs : List V} {xs : List Bool}, Reps H vs (xs.map .bl) → vs = xs.map V.bl
  | _, [], r => by cases r; rfl
  | _, x :: xs, r => by
    cases r with
    | cons a b =>
      cases a
      rw [List.map_cons, ← Reps.bls b]
theorem Reps.of_strs : ∀ xs : List Str, Reps H (xs.map V.str) (xs.map .str)
  | [] => .nil
  | x :: xs => .cons (.str x) (Reps.of_strs xs)
theorem Reps.of_ints : ∀ xs : List Int, Reps H (xs.map V.int) (xs.map .int)
  | [] => .nil
  | x :: xs => .cons (.int x) (Reps.of_ints xs)
theorem Reps.of_bls : ∀ xs : List Bool, Reps H (xs.map V.bl) (xs.map .bl)
  | [] => .nil
  | x :: xs => .cons (.bl x) (Reps.of_bls xs)
theorem RepK.val : ∀ {vs : List (Key × V)} {ds : List (Str × Dat)} {k : Str}, RepK H vs ds → match ds.lookup k, valV vs (.inr k) with
    | some d, some v => Rep H v d
    | none, none => True
    | _, _ => False
  | _, _, _, .nil => trivial
  | _, _, k, .cons (k := k0) (v := v) (vs := vs) (d := d) (ds := ds) a b => by
    by_cases h : k = k0
    · subst h
      have e1 : ((k, d) :: ds).lookup k = some d := by simp [List.lookup]
      have e2 : valV ((Sum.inr k, v) :: vs : List (Key × V)) (.inr k) = some v := by
        unfold valV
        rw [List.find?_cons_of_pos (by simp)]
        rfl
      rw [e1, e2]
      exact a
    · have e1 : ((k0, d) :: ds).lookup k = ds.lookup k := by
        have hb : (k == k0) = false := by simpa using h
        simp [List.lookup, hb]
      have e2 : valV ((Sum.inr k0, v) :: vs : List (Key × V)) (.inr k) = valV vs (.inr k) := by
        unfold valV
        rw [List.find?_cons_of_neg (by simpa using fun z => h z.symm)]
      rw [e1, e2]
      exact RepK.val b
theorem RepF.val : ∀ {vs : List (Str × V)} {ds : List (Str × Dat)} {k : Str} {d : Dat}, RepF H vs ds → ds.lookup k = some d → ∃ v, vs.lookup k = some v ∧ Rep H v d
  | _, _, _, _, .nil, e => by cases e
  | _, _, k, d', .cons (k := k0) (v := v) (vs := vs) (d := d) (ds := ds) a b, e => by
    cases hb : (k == k0) with
    | true =>
      have e1 : ((k0, d) :: ds).lookup k = some d := by simp [List.lookup, hb]
      rw [e1] at e
      cases e
      exact ⟨v, by simp [List.lookup, hb], a⟩
    | false =>
      have e1 : ((k0, d) :: ds).lookup k = ds.lookup k := by simp [List.lookup, hb]
      rw [e1] at e
      obtain ⟨v', h1, h2⟩ := RepF.val b e
      exact ⟨v', by simp [List.lookup, hb, h1], h2⟩
theorem RepF.non : ∀ {vs : List (Str × V)} {ds : List (Str × Dat)} {k : Str}, RepF H vs ds → ds.lookup k = none → vs.lookup k = none
  | _, _, _, .nil, _ => rfl
  | _, _, k, .cons (k := k0) (v := v) (vs := vs) (d := d) (ds := ds) a b, e => by
    cases hb : (k == k0) with
    | true =>
      have e1 : ((k0, d) :: ds).lookup k = some d := by simp [List.lookup, hb]
      rw [e1] at e
      cases e
    | false =>
      have e1 : ((k0, d) :: ds).lookup k = ds.lookup k := by simp [List.lookup, hb]
      rw [e1] at e
      simp [List.lookup, hb, RepF.non b e]
theorem RepF.length : ∀ {vs : List (Str × V)} {ds : List (Str × Dat)}, RepF H vs ds → vs.length = ds.length
  | _, _, .nil => rfl
  | _, _, .cons _ b => congrArg Nat.succ (RepF.length b)
end

/-! ### the heap's two parts: B, data that nobody changes; the rest belongs to bodies that run -/
structure Go (B H B' H' : Hp) : Prop where
  hh : Ex H H'
  bb : Ex B B'
  bh : Ex B' H'
  no : ∀ p o, H p = some o → B p = none → B' p = none
section
variable {B H B1 H1 B2 H2 : Hp}
theorem Go.refl (e : Ex B H) : Go B H B H := ⟨Evl.Ex.refl H, Evl.Ex.refl B, e, fun _ _ _ h => h⟩
theorem Go.trans (a : Go B H B1 H1) (b : Go B1 H1 B2 H2) : Go B H B2 H2 := ⟨a.hh.trans b.hh, a.bb.trans b.bb, b.bh, fun p o h n => b.no p o (a.hh p o h) (a.no p o h n)⟩
theorem free_of {p : Addr} (e : Ex B H) (h : H p = none) : B p = none := Evl.fresh_back e h
theorem ex_upd {p : Addr} {o : HO} (e : Ex B H) (h : H p = none) : Ex (upd B p o) (upd H p o) := fun a u ha => by
  by_cases hp : a = p
  · subst hp
    rw [upd_same] at ha ⊢
    exact ha
  · rw [upd_ne hp] at ha ⊢
    exact e a u ha
/-- a new object, a datum from the start -/
theorem Go.new {p : Addr} {o : HO} (e : Ex B H) (h : H p = none) : Go B H (upd B p o) (upd H p o) :=
  ⟨Evl.Ex.new h, Evl.Ex.new (free_of e h), ex_upd e h, fun q u hq n => by
    have hp : q ≠ p := ne_of_none hq h
    rw [upd_ne hp]
    exact n⟩
/-- a new object, none of the data -/
theorem Go.own {p : Addr} {o : HO} (e : Ex B H) (h : H p = none) : Go B H B (upd H p o) :=
  ⟨Evl.Ex.new h, Evl.Ex.refl B, Evl.Ex.mut e (free_of e h), fun _ _ _ n => n⟩
/-- what was made becomes a datum -/
theorem Go.keep {p : Addr} {o : HO} (g : Go B H B1 H1) (h : H p = none) (n : B1 p = none) (h1 : H1 p = some o) : Go B H (upd B1 p o) H1 :=
  ⟨g.hh, fun a u ha => by
    have q := g.bb a u ha
    rw [upd_ne (ne_of_none q n)]
    exact q, fun a u ha => by
    by_cases hp : a = p
    · subst hp
      rw [upd_same] at ha
      rw [h1]
      exact ha
    · rw [upd_ne hp] at ha
      exact g.bh a u ha, fun q u hq nq => by
    have hp : q ≠ p := ne_of_none hq h
    rw [upd_ne hp]
    exact g.no q u hq nq⟩
end

/-! ### a body's slots -/
inductive Sl where
  | x | d (d : Dat) | l (ds : List Dat) | k (kvs : List (Key × Dat)) | o (p C : Addr) (fs : List (Str × Dat))
def RepKs (B : Hp) : List (Key × V) → List (Key × Dat) → Prop
  | [], [] => True
  | (k, v) :: vs, (k', d) :: ds => k = k' ∧ Rep B v d ∧ RepKs B vs ds
  | _, _ => False
theorem RepKs.mono {B B' : Hp} (e : Ex B B') : ∀ {vs : List (Key × V)} {ds : List (Key × Dat)}, RepKs B vs ds → RepKs B' vs ds
  | [], [], _ => trivial
  | [], _ :: _, h => h.elim
  | _ :: _, [], h => h.elim
  | (_, _) :: _, (_, _) :: _, ⟨a, b, c⟩ => ⟨a, b.mono e, RepKs.mono e c⟩
def SlOk (B H : Hp) (ov : Option V) : Sl → Prop
  | .x => True
  | .d d => ∃ v, ov = some v ∧ Rep B v d
  | .l ds => ∃ p vs, ov = some (.ref p) ∧ B p = none ∧ H p = some (.lst vs) ∧ Reps B vs ds
  | .k kvs => ∃ p ks, ov = some (.ref p) ∧ B p = none ∧ H p = some (.dK ks) ∧ RepKs B ks kvs
  | .o p C fs => ∃ dx gs, ov = some (.ref p) ∧ B p = none ∧ H p = some (.ins C dx gs) ∧ RepF B gs fs
def isOwn : Sl → Bool
  | .l _ => true
  | .k _ => true
  | .o _ _ _ => true
  | _ => false
def Apart (σ : St) (ρ : List Sl) : Prop := ∀ (i j : Nat) (s t : Sl) (p : Addr), i ≠ j → ρ[i]? = some s → ρ[j]? = some t → isOwn s = true → isOwn t = true → σ[i]? = some (some (.ref p)) → σ[j]? = some (some (.ref p)) → False
structure SR (B H : Hp) (σ : St) (ρ : List Sl) : Prop where
  bh : Ex B H
  len : σ.length = ρ.length
  at_ : ∀ (i : Nat) (s : Sl), ρ[i]? = some s → ∃ ov, σ[i]? = some ov ∧ SlOk B H ov s
  ap : Apart σ ρ
section
variable {B H B' H' B0 H0 Bm : Hp} {σ : St} {ρ ρ' : List Sl}
theorem SlOk.mono {ov : Option V} {s : Sl} (g : Go B H B' H') (h : SlOk B H ov s) : SlOk B' H' ov s := by
  cases s with
  | x => trivial
  | d d =>
    obtain ⟨v, e, r⟩ := h
    exact ⟨v, e, r.mono g.bb⟩
  | l ds =>
    obtain ⟨p, vs, e, n, h, r⟩ := h
    exact ⟨p, vs, e, g.no p _ h n, g.hh p _ h, r.mono g.bb⟩
  | k kvs =>
    obtain ⟨p, vs, e, n, h, r⟩ := h
    exact ⟨p, vs, e, g.no p _ h n, g.hh p _ h, r.mono g.bb⟩
  | o p C fs =>
    obtain ⟨dx, vs, e, n, h, r⟩ := h
    exact ⟨dx, vs, e, g.no p _ h n, g.hh p _ h, r.mono g.bb⟩
theorem SR.mono (S : SR B H σ ρ) (g : Go B H B' H') : SR B' H' σ ρ := ⟨g.bh, S.len, fun i s e => by
  obtain ⟨ov, h1, h2⟩ := S.at_ i s e
  exact ⟨ov, h1, h2.mono g⟩, S.ap⟩
/-- the entry: (B0, H0); what lasts: Bm -/
structure SE (Bm B0 H0 B H : Hp) (σ : St) (ρ : List Sl) : Prop where
  r : SR B H σ ρ
  g : Go B0 H0 B H
  m : Ex Bm B
  fr : ∀ (i : Nat) (s : Sl) (p : Addr), ρ[i]? = some s → isOwn s = true → σ[i]? = some (some (.ref p)) → H0 p = none
theorem SE.mono (S : SE Bm B0 H0 B H σ ρ) (g : Go B H B' H') : SE Bm B0 H0 B' H' σ ρ := ⟨S.r.mono g, S.g.trans g, S.m.trans g.bb, S.fr⟩
theorem SE.low {Bn : Hp} (S : SE Bm B0 H0 B H σ ρ) (e : Ex Bn B) : SE Bn B0 H0 B H σ ρ := ⟨S.r, S.g, e, S.fr⟩

/-- ρ' says no more than ρ -/
inductive Wk : List Sl → List Sl → Prop
  | nil : Wk [] []
  | same {a : Sl} {as bs : List Sl} : Wk as bs → Wk (a :: as) (a :: bs)
  | fog {a : Sl} {as bs : List Sl} : Wk as bs → Wk (a :: as) (.x :: bs)
theorem Wk.refl : ∀ ρ : List Sl, Wk ρ ρ
  | [] => .nil
  | _ :: r => .same (Wk.refl r)
theorem Wk.len : ∀ {ρ ρ' : List Sl}, Wk ρ ρ' → ρ.length = ρ'.length
  | _, _, .nil => rfl
  | _, _, .same h => congrArg Nat.succ h.len
  | _, _, .fog h => congrArg Nat.succ h.len
theorem Wk.get : ∀ {ρ ρ' : List Sl} {i : Nat} {s : Sl}, Wk ρ ρ' → ρ'[i]? = some s → s = .x ∧ (∃ t, ρ[i]? = some t) ∨ ρ[i]? = some s
  | _, _, _, _, .nil, e => by simp at e
  | _, _, 0, _, .same _, e => .inr e
  | a :: _, _, 0, _, .fog _, e => by
    simp at e
    exact .inl ⟨e.symm, a, rfl⟩
  | _, _, i + 1, s, .same h, e => by
    have := h.get (i := i) (s := s) (by simpa using e)
    simpa using this
  | _, _, i + 1, s, .fog h, e => by
    have := h.get (i := i) (s := s) (by simpa using e)
    simpa using this
theorem SE.wk (S : SE Bm B0 H0 B H σ ρ) (w : Wk ρ ρ') : SE Bm B0 H0 B H σ ρ' := by
  have own : ∀ {i : Nat} {s : Sl}, ρ'[i]? = some s → isOwn s = true → ρ[i]? = some s := fun {i s} e o => by
    rcases w.get e with ⟨h, _⟩ | h
    · subst h
      cases o
    · exact h
  refine ⟨⟨S.r.bh, S.r.len.trans w.len, fun i s e => ?_, fun i j s t p hn e1 e2 o1 o2 => S.r.ap i j s t p hn (own e1 o1) (own e2 o2) o1 o2⟩, S.g, S.m, fun i s p e o => S.fr i s p (own e o) o⟩
  rcases w.get e with ⟨h, t, ht⟩ | h
  · obtain ⟨ov, h1, _⟩ := S.r.at_ i t ht
    subst h
    exact ⟨ov, h1, trivial⟩
  · exact S.r.at_ i s h
/-- a slot is stored -/
theorem SE.set {i : Nat} {v : V} {d : Dat} (S : SE Bm B0 H0 B H σ ρ) (r : Rep B v d) : SE Bm B0 H0 B H (σ.set i (some v)) (ρ.set i (.d d)) := by
  have key : ∀ {j : Nat} {s : Sl}, (ρ.set i (.d d))[j]? = some s → (j = i ∧ s = .d d ∧ i < ρ.length) ∨ (j ≠ i ∧ ρ[j]? = some s) := fun {j s} e => by
    by_cases hj : i = j
    · subst hj
      by_cases hl : i < ρ.length
      · rw [List.getElem?_set_self hl] at e
        exact .inl ⟨rfl, (Option.some.inj e).symm, hl⟩
      · rw [List.getElem?_eq_none (by rw [List.length_set]; omega)] at e
        cases e
    · rw [List.getElem?_set_ne hj] at e
      exact .inr ⟨fun z => hj z.symm, e⟩
  refine ⟨⟨S.r.bh, by rw [List.length_set, List.length_set]; exact S.r.len, fun j s e => ?_, fun a b s t p hn e1 e2 o1 o2 h1 h2 => ?_⟩, S.g, S.m, fun j s p e o h => ?_⟩
  · rcases key e with ⟨rfl, rfl, hl⟩ | ⟨hj, e⟩
    · exact ⟨some v, List.getElem?_set_self (by rw [S.r.len]; exact hl), v, rfl, r⟩
    · obtain ⟨ov, h1, h2⟩ := S.r.at_ j s e
      exact ⟨ov, by rw [List.getElem?_set_ne (fun z => hj z.symm)]; exact h1, h2⟩
  · rcases key e1 with ⟨rfl, rfl, _⟩ | ⟨ha, e1⟩
    · cases o1
    · rcases key e2 with ⟨rfl, rfl, _⟩ | ⟨hb, e2⟩
      · cases o2
      · rw [List.getElem?_set_ne (fun z => ha z.symm)] at h1
        rw [List.getElem?_set_ne (fun z => hb z.symm)] at h2
        exact S.r.ap a b s t p hn e1 e2 o1 o2 h1 h2
  · rcases key e with ⟨rfl, rfl, _⟩ | ⟨hj, e⟩
    · cases o
    · rw [List.getElem?_set_ne (fun z => hj z.symm)] at h
      exact S.fr j s p e o h
/-- a slot gets an object of the body's own -/
theorem SE.setOwn {i : Nat} {p : Addr} {s : Sl} (S : SE Bm B0 H0 B H σ ρ) (ho : SlOk B H (some (.ref p)) s) (hf : H0 p = none)
    (hn : ∀ (j : Nat) (t : Sl), j ≠ i → ρ[j]? = some t → isOwn t = true → σ[j]? ≠ some (some (.ref p))) : SE Bm B0 H0 B H (σ.set i (some (.ref p))) (ρ.set i s) := by
  have key : ∀ {j : Nat} {t : Sl}, (ρ.set i s)[j]? = some t → (j = i ∧ t = s ∧ i < ρ.length) ∨ (j ≠ i ∧ ρ[j]? = some t) := fun {j t} e => by
    by_cases hj : i = j
    · subst hj
      by_cases hl : i < ρ.length
      · rw [List.getElem?_set_self hl] at e
        exact .inl ⟨rfl, (Option.some.inj e).symm, hl⟩
      · rw [List.getElem?_eq_none (by rw [List.length_set]; omega)] at e
        cases e
    · rw [List.getElem?_set_ne hj] at e
      exact .inr ⟨fun z => hj z.symm, e⟩
  have self : i < ρ.length → (σ.set i (some (V.ref p)))[i]? = some (some (.ref p)) := fun hl => List.getElem?_set_self (by rw [S.r.len]; exact hl)
  refine ⟨⟨S.r.bh, by rw [List.length_set, List.length_set]; exact S.r.len, fun j t e => ?_, fun a b t u q hab e1 e2 o1 o2 h1 h2 => ?_⟩, S.g, S.m, fun j t q e o h => ?_⟩
  · rcases key e with ⟨rfl, rfl, hl⟩ | ⟨hj, e⟩
    · exact ⟨_, self hl, ho⟩
    · obtain ⟨ov, h1, h2⟩ := S.r.at_ j t e
      exact ⟨ov, by rw [List.getElem?_set_ne (fun z => hj z.symm)]; exact h1, h2⟩
  · rcases key e1 with ⟨rfl, rfl, hl⟩ | ⟨ha, g1⟩
    · rcases key e2 with ⟨rfl, rfl, _⟩ | ⟨hb, g2⟩
      · exact hab rfl
      · rw [self hl] at h1
        cases h1
        rw [List.getElem?_set_ne (fun z => hb z.symm)] at h2
        exact hn b u hb g2 o2 h2
    · rcases key e2 with ⟨rfl, rfl, hl⟩ | ⟨hb, g2⟩
      · rw [self hl] at h2
        cases h2
        rw [List.getElem?_set_ne (fun z => ha z.symm)] at h1
        exact hn a t ha g1 o1 h1
      · rw [List.getElem?_set_ne (fun z => ha z.symm)] at h1
        rw [List.getElem?_set_ne (fun z => hb z.symm)] at h2
        exact S.r.ap a b t u q hab g1 g2 o1 o2 h1 h2
  · rcases key e with ⟨rfl, rfl, hl⟩ | ⟨hj, e⟩
    · rw [self hl] at h
      cases h
      exact hf
    · rw [List.getElem?_set_ne (fun z => hj z.symm)] at h
      exact S.fr j t q e o h
/-- the own object of slot i is changed in place -/
theorem SE.write {i : Nat} {p : Addr} {s t : Sl} {o : HO} (S : SE Bm B0 H0 B H σ ρ) (hi : ρ[i]? = some s) (os : isOwn s = true) (hp : σ[i]? = some (some (.ref p))) (ot : isOwn t = true)
    (ho : B p = none → SlOk B (upd H p o) (some (.ref p)) t) : SE Bm B0 H0 B (upd H p o) σ (ρ.set i t) := by
  have hl : i < ρ.length := (List.getElem?_eq_some_iff.mp hi).1
  have hB : B p = none ∧ ∃ u, H p = some u := by
    obtain ⟨ov, h1, h2⟩ := S.r.at_ i s hi
    rw [hp] at h1
    cases h1
    cases s with
    | x => cases os
    | d d => cases os
    | l ds =>
      obtain ⟨q, vs, e, n, h, _⟩ := h2
      cases e
      exact ⟨n, _, h⟩
    | k ds =>
      obtain ⟨q, vs, e, n, h, _⟩ := h2
      cases e
      exact ⟨n, _, h⟩
    | o q C fs =>
      obtain ⟨dx, vs, e, n, h, _⟩ := h2
      cases e
      exact ⟨n, _, h⟩
  have hf := S.fr i s p hi os hp
  have key : ∀ {j : Nat} {u : Sl}, (ρ.set i t)[j]? = some u → (j = i ∧ u = t) ∨ (j ≠ i ∧ ρ[j]? = some u) := fun {j u} e => by
    by_cases hj : i = j
    · subst hj
      rw [List.getElem?_set_self hl] at e
      exact .inl ⟨rfl, (Option.some.inj e).symm⟩
    · rw [List.getElem?_set_ne hj] at e
      exact .inr ⟨fun z => hj z.symm, e⟩
  have ow : ∀ {j : Nat} {u : Sl}, (ρ.set i t)[j]? = some u → isOwn u = true → ∃ u', ρ[j]? = some u' ∧ isOwn u' = true := fun {j u} e q => by
    rcases key e with ⟨rfl, rfl⟩ | ⟨hj, e⟩
    · exact ⟨s, hi, os⟩
    · exact ⟨u, e, q⟩
  refine ⟨⟨Evl.Ex.mut S.r.bh hB.1, by rw [List.length_set]; exact S.r.len, fun j u e => ?_, fun a b u u' q hab e1 e2 o1 o2 => ?_⟩, ⟨fun a u ha => ?_, S.g.bb, Evl.Ex.mut S.r.bh hB.1, S.g.no⟩, S.m, fun j u q e q1 => ?_⟩
  · rcases key e with ⟨rfl, rfl⟩ | ⟨hj, e⟩
    · exact ⟨_, hp, ho hB.1⟩
    · obtain ⟨ov, h1, h2⟩ := S.r.at_ j u e
      refine ⟨ov, h1, ?_⟩
      have ne : isOwn u = true → ov ≠ some (.ref p) := fun q z => S.r.ap j i u s p hj e hi q os (by rw [h1, z]) hp
      cases u with
      | x => trivial
      | d d => exact h2
      | l ds =>
        obtain ⟨q, vs, e1, n, h, r⟩ := h2
        have hq : q ≠ p := fun z => ne rfl (by rw [e1, z])
        exact ⟨q, vs, e1, n, by rw [upd_ne hq]; exact h, r⟩
      | k ds =>
        obtain ⟨q, vs, e1, n, h, r⟩ := h2
        have hq : q ≠ p := fun z => ne rfl (by rw [e1, z])
        exact ⟨q, vs, e1, n, by rw [upd_ne hq]; exact h, r⟩
      | o q C fs =>
        obtain ⟨dx, vs, e1, n, h, r⟩ := h2
        have hq : q ≠ p := fun z => ne rfl (by rw [e1, z])
        exact ⟨dx, vs, e1, n, by rw [upd_ne hq]; exact h, r⟩
  · obtain ⟨v, g1, g2⟩ := ow e1 o1
    obtain ⟨v', g3, g4⟩ := ow e2 o2
    exact S.r.ap a b v v' q hab g1 g3 g2 g4
  · have q := S.g.hh a u ha
    have hne : a ≠ p := ne_of_none ha hf
    rw [upd_ne hne]
    exact q
  · obtain ⟨v, g1, g2⟩ := ow e q1
    exact S.fr j v q g1 g2
end
end Dl

set_option maxHeartbeats 4000000
namespace Dl
open PySem L2
open Evl (Ex)

/-! ### what an expression gives, by data -/
def EV (te : TE) (ρ : List Sl) (d : Dat) : Prop := ∀ (B H : Hp) (σ : St), SR B H σ ρ → ∀ Q : VK, (∀ v B2 H2, Go B H B2 H2 → Rep B2 v d → Q v H2) → te σ H Q
/-- a list that may be one's own -/
def EVL (te : TE) (ρ : List Sl) (ds : List Dat) : Prop := ∀ (B H : Hp) (σ : St), SR B H σ ρ → ∀ Q : VK, (∀ p vs B2 H2, Go B H B2 H2 → H2 p = some (.lst vs) → Reps B2 vs ds → Q (.ref p) H2) → te σ H Q
/-- a new list -/
def EVN (te : TE) (ρ : List Sl) (ds : List Dat) : Prop := ∀ (B H : Hp) (σ : St), SR B H σ ρ → ∀ Q : VK, (∀ p vs B2 H2, Go B H B2 H2 → H p = none → B2 p = none → H2 p = some (.lst vs) → Reps B2 vs ds → Q (.ref p) H2) → te σ H Q
def ET (tt : TT) (ρ : List Sl) (b : Bool) : Prop := ∀ (B H : Hp) (σ : St), SR B H σ ρ → ∀ Q : Bool → Hp → Prop, (∀ B2 H2, Go B H B2 H2 → Q b H2) → tt σ H Q
def EA (ta : TA) (ρ : List Sl) (ds : List Dat) : Prop := ∀ (B H : Hp) (σ : St), SR B H σ ρ → ∀ Q : List V → Hp → Prop, (∀ vs B2 H2, Go B H B2 H2 → Reps B2 vs ds → Q vs H2) → ta σ H Q
def EO (to : TO) (ρ : List Sl) (o : Option Int) : Prop := ∀ (B H : Hp) (σ : St), SR B H σ ρ → ∀ Q : Option Int → Hp → Prop, (∀ B2 H2, Go B H B2 H2 → Q o H2) → to σ H Q
section
variable {K : PySem.W.Frag} {ρ : List Sl} {ta tb tc te tl : TE} {tt tu : TT} {d e : Dat} {ds es : List Dat} {i j : Int} {s z : Str} {b c : Bool}
theorem EVN.ev (h : EVN te ρ ds) : EV te ρ (.lst ds) := fun B H σ S Q q => h B H σ S Q fun p vs B2 H2 g hp n h2 r =>
  q _ _ _ (g.keep hp n h2) (.lst upd_same (r.mono (Evl.Ex.new n)))
theorem EV.l (h : EV te ρ (.lst ds)) : EVL te ρ ds := fun B H σ S Q q => h B H σ S Q fun v B2 H2 g r => by
  cases r with
  | lst h1 h2 => exact q _ _ B2 H2 g (g.bh _ _ h1) h2
theorem EVN.l (h : EVN te ρ ds) : EVL te ρ ds := h.ev.l
theorem ev_is (h : EV te ρ d) (q : d = e) : EV te ρ e := q ▸ h
theorem et_is (h : ET tt ρ b) (q : b = c) : ET tt ρ c := q ▸ h

theorem ev_var {k : Nat} (h : ρ[k]? = some (.d d)) : EV (tVar k) ρ d := fun B H σ S Q q => by
  obtain ⟨ov, h1, v, rfl, r⟩ := S.at_ k _ h
  exact ⟨v, h1, q v B H (Go.refl S.bh) r⟩
theorem evl_var {k : Nat} (h : ρ[k]? = some (.l ds)) : EVL (tVar k) ρ ds := fun B H σ S Q q => by
  obtain ⟨ov, h1, p, vs, rfl, n, h2, r⟩ := S.at_ k _ h
  exact ⟨_, h1, q p vs B H (Go.refl S.bh) h2 r⟩
theorem ev_int : EV (tC (.int i)) ρ (.int i) := fun B H σ S Q q => q _ B H (Go.refl S.bh) (.int i)
theorem ev_str : EV (tC (.str s)) ρ (.str s) := fun B H σ S Q q => q _ B H (Go.refl S.bh) (.str s)
theorem ev_bl : EV (tC (.bl b)) ρ (.bl b) := fun B H σ S Q q => q _ B H (Go.refl S.bh) (.bl b)
theorem ev_non : EV (tC .non) ρ .non := fun B H σ S Q q => q _ B H (Go.refl S.bh) .non

/-! ### numbers -/
theorem ev_2I {k : Int → Int → Hp → VK → Prop} (ha : EV ta ρ (.int i)) (hb : EV tb ρ (.int j)) (hk : ∀ (H : Hp) (Q : VK), (∀ v, Rep H v d → Q v H) → k i j H Q) (sc : ∀ B H v, Rep H v d → Rep B v d) :
    EV (fun σ H Q => t2I ta tb (fun x y H2 => k x y H2 Q) σ H) ρ d := fun B H σ S Q q => ha B H σ S _ fun v B1 H1 g1 r1 => hb B1 H1 σ (S.mono g1) _ fun u B2 H2 g2 r2 => by
  cases r1
  cases r2
  exact ⟨i, j, rfl, rfl, hk H2 Q fun v r => q v B2 H2 (g1.trans g2) (sc _ _ _ r)⟩
theorem sc_int {n : Int} : ∀ B H v, Rep H v (.int n) → Rep B v (.int n) := fun B H v r => by
  cases r
  exact .int n
theorem sc_bl {n : Bool} : ∀ B H v, Rep H v (.bl n) → Rep B v (.bl n) := fun B H v r => by
  cases r
  exact .bl n
theorem ev_add (ha : EV ta ρ (.int i)) (hb : EV tb ρ (.int j)) : EV (tAdd ta tb) ρ (.int (i + j)) := ev_2I (k := fun x y H Q => Q (.int (x + y)) H) ha hb (fun H Q h => h _ (.int _)) sc_int
theorem ev_sub (ha : EV ta ρ (.int i)) (hb : EV tb ρ (.int j)) : EV (tSub ta tb) ρ (.int (i - j)) := ev_2I (k := fun x y H Q => Q (.int (x - y)) H) ha hb (fun H Q h => h _ (.int _)) sc_int
theorem ev_mul (ha : EV ta ρ (.int i)) (hb : EV tb ρ (.int j)) (h1 : -(2 ^ 64) < i ∧ i < 2 ^ 64) : EV (tMul ta tb) ρ (.int (i * j)) :=
  ev_2I (k := fun x y H Q => (-(2 ^ 64) < x ∧ x < 2 ^ 64) ∧ Q (.int (x * y)) H) ha hb (fun H Q h => ⟨h1, h _ (.int _)⟩) sc_int
theorem ev_cmp {p : Int → Int → Bool} (ha : EV ta ρ (.int i)) (hb : EV tb ρ (.int j)) : EV (tCmp p ta tb) ρ (.bl (p i j)) := ev_2I (k := fun x y H Q => Q (.bl (p x y)) H) ha hb (fun H Q h => h _ (.bl _)) sc_bl
theorem ev_opI {C : Int → Int → Prop} {f : Int → Int → Int} (ha : EV ta ρ (.int i)) (hb : EV tb ρ (.int j)) (hc : C i j) : EV (tOp (rI C fun x y => .int (f x y)) ta tb) ρ (.int (f i j)) := fun B H σ S Q q =>
  ha B H σ S _ fun v B1 H1 g1 r1 => hb B1 H1 σ (S.mono g1) _ fun u B2 H2 g2 r2 => by
    cases r1
    cases r2
    exact ⟨i, j, rfl, rfl, hc, q _ B2 H2 (g1.trans g2) (.int _)⟩
theorem ev_chain {r r' : R2} {f f' : Int → Int → Bool} {n : Int} (hr : r = rI0 fun x y => .bl (f x y)) (hr' : r' = rI0 fun x y => .bl (f' x y)) (ha : EV ta ρ (.int i)) (hb : EV tb ρ (.int j)) (hc : EV tc ρ (.int n)) :
    EV (tChain r r' ta tb tc) ρ (.bl (f i j && f' j n)) := fun B H σ S Q q => by
  subst hr hr'
  refine ha B H σ S _ fun v B1 H1 g1 r1 => hb B1 H1 σ (S.mono g1) _ fun u B2 H2 g2 r2 => ?_
  cases r1
  cases r2
  refine ⟨i, j, rfl, rfl, _, rfl, ?_⟩
  cases h : f i j with
  | false =>
    rw [h] at q
    refine iteF ?_
    exact q _ B2 H2 (g1.trans g2) (.bl _)
  | true =>
    rw [h] at q
    refine iteT ?_
    refine hc B2 H2 σ (S.mono (g1.trans g2)) _ fun w B3 H3 g3 r3 => ?_
    cases r3
    exact ⟨j, n, rfl, rfl, q _ B3 H3 ((g1.trans g2).trans g3) (.bl _)⟩
/-- == and != of flat data -/
theorem ev_eqI (ha : EV ta ρ (.int i)) (hb : EV tb ρ (.int j)) : EV (tOp rEq ta tb) ρ (.bl (decide (i = j))) := fun B H σ S Q q =>
  ha B H σ S _ fun v B1 H1 g1 r1 => hb B1 H1 σ (S.mono g1) _ fun u B2 H2 g2 r2 => by
    cases r1
    cases r2
    refine ⟨rfl, ?_⟩
    have e : decide (V.int i = V.int j) = decide (i = j) := by simp
    rw [e]
    exact q _ B2 H2 (g1.trans g2) (.bl _)
theorem ev_eqS (ha : EV ta ρ (.str s)) (hb : EV tb ρ (.str z)) : EV (tOp rEq ta tb) ρ (.bl (decide (s = z))) := fun B H σ S Q q =>
  ha B H σ S _ fun v B1 H1 g1 r1 => hb B1 H1 σ (S.mono g1) _ fun u B2 H2 g2 r2 => by
    cases r1
    cases r2
    refine ⟨rfl, ?_⟩
    have e : decide (V.str s = V.str z) = decide (s = z) := by simp
    rw [e]
    exact q _ B2 H2 (g1.trans g2) (.bl _)
theorem ev_neS (ha : EV ta ρ (.str s)) (hb : EV tb ρ (.str z)) : EV (tOp rNe ta tb) ρ (.bl (!decide (s = z))) := fun B H σ S Q q =>
  ha B H σ S _ fun v B1 H1 g1 r1 => hb B1 H1 σ (S.mono g1) _ fun u B2 H2 g2 r2 => by
    cases r1
    cases r2
    refine ⟨rfl, ?_⟩
    have e : decide (V.str s = V.str z) = decide (s = z) := by simp
    rw [e]
    exact q _ B2 H2 (g1.trans g2) (.bl _)
theorem ev_neB (ha : EV ta ρ (.bl b)) (hb : EV tb ρ (.bl c)) : EV (tOp rNe ta tb) ρ (.bl (!decide (b = c))) := fun B H σ S Q q =>
  ha B H σ S _ fun v B1 H1 g1 r1 => hb B1 H1 σ (S.mono g1) _ fun u B2 H2 g2 r2 => by
    cases r1
    cases r2
    refine ⟨rfl, ?_⟩
    have e : decide (V.bl b = V.bl c) = decide (b = c) := by simp
    rw [e]
    exact q _ B2 H2 (g1.trans g2) (.bl _)
/-- is None -/
def Dat.isNon : Dat → Bool
  | .non => true
  | _ => false
theorem rep_non {H : Hp} {v : V} (r : Rep H v d) : decide (v = .non) = d.isNon := by
  cases r <;> rfl
theorem ev_isN (ha : EV ta ρ d) : EV (tIsN ta) ρ (.bl d.isNon) := fun B H σ S Q q => ha B H σ S _ fun v B1 H1 g1 r1 => by
  rw [rep_non r1]
  exact q _ B1 H1 g1 (.bl _)
theorem ev_notN (ha : EV ta ρ d) : EV (tNotN ta) ρ (.bl (!d.isNon)) := fun B H σ S Q q => ha B H σ S _ fun v B1 H1 g1 r1 => by
  rw [rep_non r1]
  exact q _ B1 H1 g1 (.bl _)

/-! ### truth -/
theorem et_B (h : EV te ρ (.bl b)) : ET (tB te) ρ b := fun B H σ S Q q => h B H σ S _ fun v B1 H1 g1 r1 => by
  cases r1
  exact ⟨b, rfl, q B1 H1 g1⟩
theorem et_test (h : EV te ρ (.bl b)) : ET (tTest te) ρ b := et_B h
theorem et_and (h1 : ET tt ρ b) (h2 : b = true → ET tu ρ c) : ET (tAnd tt tu) ρ (b && c) := fun B H σ S Q q => h1 B H σ S _ fun B1 H1 g1 => by
  cases b with
  | true => exact iteT (h2 rfl B1 H1 σ (S.mono g1) Q fun B2 H2 g2 => q B2 H2 (g1.trans g2))
  | false => exact iteF (q B1 H1 g1)
theorem et_or (h1 : ET tt ρ b) (h2 : b = false → ET tu ρ c) : ET (tOr tt tu) ρ (b || c) := fun B H σ S Q q => h1 B H σ S _ fun B1 H1 g1 => by
  cases b with
  | true => exact iteT (q B1 H1 g1)
  | false => exact iteF (h2 rfl B1 H1 σ (S.mono g1) Q fun B2 H2 g2 => q B2 H2 (g1.trans g2))
theorem et_not (h : ET tt ρ b) : ET (tNot tt) ρ (!b) := fun B H σ S Q q => h B H σ S _ fun B1 H1 g1 => q B1 H1 g1
theorem ev_and (h1 : EV ta ρ (.bl b)) (h2 : b = true → EV tb ρ (.bl c)) : EV (tAndV ta tb) ρ (.bl (b && c)) := fun B H σ S Q q => h1 B H σ S _ fun v B1 H1 g1 r1 => by
  cases r1
  refine ⟨b, rfl, ?_⟩
  cases b with
  | true => exact iteT (h2 rfl B1 H1 σ (S.mono g1) Q fun v B2 H2 g2 => q v B2 H2 (g1.trans g2))
  | false => exact iteF (q _ B1 H1 g1 (.bl _))
theorem ev_or (h1 : EV ta ρ (.bl b)) (h2 : b = false → EV tb ρ (.bl c)) : EV (tOrV ta tb) ρ (.bl (b || c)) := fun B H σ S Q q => h1 B H σ S _ fun v B1 H1 g1 r1 => by
  cases r1
  refine ⟨b, rfl, ?_⟩
  cases b with
  | true => exact iteT (q _ B1 H1 g1 (.bl _))
  | false => exact iteF (h2 rfl B1 H1 σ (S.mono g1) Q fun v B2 H2 g2 => q v B2 H2 (g1.trans g2))
theorem ev_not (h1 : EV ta ρ (.bl b)) : EV (tNotV ta) ρ (.bl (!b)) := fun B H σ S Q q => h1 B H σ S _ fun v B1 H1 g1 r1 => by
  cases r1
  exact ⟨b, rfl, q _ B1 H1 g1 (.bl _)⟩
theorem ev_if (h : ET tt ρ b) (h1 : b = true → EV ta ρ d) (h2 : b = false → EV tb ρ d) : EV (tIf tt ta tb) ρ d := fun B H σ S Q q => h B H σ S _ fun B1 H1 g1 => by
  cases b with
  | true => exact iteT (h1 rfl B1 H1 σ (S.mono g1) Q fun v B2 H2 g2 => q v B2 H2 (g1.trans g2))
  | false => exact iteF (h2 rfl B1 H1 σ (S.mono g1) Q fun v B2 H2 g2 => q v B2 H2 (g1.trans g2))

/-! ### arguments, displays -/
theorem ea_nil : EA tNil ρ [] := fun B H σ S Q q => q [] B H (Go.refl S.bh) .nil
theorem ea_cons {t : TA} (h : EV te ρ d) (hr : EA t ρ ds) : EA (tCons te t) ρ (d :: ds) := fun B H σ S Q q => h B H σ S _ fun v B1 H1 g1 r1 => hr B1 H1 σ (S.mono g1) _ fun vs B2 H2 g2 r2 =>
  q _ B2 H2 (g1.trans g2) (.cons (r1.mono g2.bb) r2)
theorem ea_starL {t : TA} (h : EVL te ρ ds) (hr : EA t ρ es) : EA (StX.tStar K te t) ρ (ds ++ es) := fun B H σ S Q q => h B H σ S _ fun p vs B1 H1 g1 h1 r1 =>
  ⟨p, vs, rfl, .inr (SqL.of h1), hr B1 H1 σ (S.mono g1) _ fun ws B2 H2 g2 r2 => q _ B2 H2 (g1.trans g2) ((r1.mono g2.bb).append r2)⟩
theorem ea_starT {t : TA} (h : EV te ρ (.tup ds)) (hr : EA t ρ es) : EA (StX.tStar K te t) ρ (ds ++ es) := fun B H σ S Q q => h B H σ S _ fun v B1 H1 g1 r1 => by
  cases r1 with
  | tup h1 r1 => exact ⟨_, _, rfl, .inl (SqT.of (g1.bh _ _ h1)), hr B1 H1 σ (S.mono g1) _ fun ws B2 H2 g2 r2 => q _ B2 H2 (g1.trans g2) ((r1.mono g2.bb).append r2)⟩
theorem sl_of {n : Nat} (h : n ≤ 100000) : n ≤ sizeLine := Evl.sz_of h
theorem ev_tup {t : TA} (h : EA t ρ ds) (hl : ds.length ≤ 100000 := by first | decide | simp) : EV (tTup t) ρ (.tup ds) := fun B H σ S Q q => h B H σ S _ fun vs B1 H1 g1 r1 =>
  ⟨by rw [r1.length]; exact sl_of hl, fun p hp => q _ _ _ (g1.trans (Go.new g1.bh hp)) (.tup upd_same (r1.mono (Evl.Ex.new (free_of g1.bh hp))))⟩
theorem evn_lst {t : TA} (h : EA t ρ ds) (hl : ds.length ≤ 100000 := by first | decide | simp) : EVN (tLst t) ρ ds := fun B H σ S Q q => h B H σ S _ fun vs B1 H1 g1 r1 =>
  ⟨by rw [r1.length]; exact sl_of hl, fun p hp => q _ _ _ _ (g1.trans (Go.own g1.bh hp)) (Evl.fresh_back g1.hh hp) (free_of g1.bh hp) upd_same r1⟩

/-! ### items, lengths, parts -/
theorem atI_rep {H : Hp} {vs : List V} {n : Int} (r : Reps H vs ds) (h : atI ds n = some d) : ∃ v, atI vs n = some v ∧ Rep H v d := by
  unfold atI at h ⊢
  rw [r.length]
  cases e : ixN ds.length n with
  | none =>
    rw [e] at h
    cases h
  | some k =>
    rw [e] at h
    exact r.at (i := k) h
theorem ev_ixT (ha : EV ta ρ (.tup ds)) (hb : EV tb ρ (.int i)) (h : atI ds i = some d) : EV (tOp (rIxT K) ta tb) ρ d := fun B H σ S Q q =>
  ha B H σ S _ fun v B1 H1 g1 r1 => hb B1 H1 σ (S.mono g1) _ fun u B2 H2 g2 r2 => by
    cases r2
    cases r1 with
    | tup h1 r1 =>
      obtain ⟨w, h2, h3⟩ := atI_rep r1 h
      exact ⟨_, _, i, w, rfl, rfl, SqT.of (g2.bh _ _ (g2.bb _ _ h1)), h2, q w B2 H2 (g1.trans g2) (h3.mono g2.bb)⟩
theorem ev_ixL (ha : EVL ta ρ ds) (hb : EV tb ρ (.int i)) (h : atI ds i = some d) : EV (tOp (rIxL K) ta tb) ρ d := fun B H σ S Q q =>
  ha B H σ S _ fun p vs B1 H1 g1 h1 r1 => hb B1 H1 σ (S.mono g1) _ fun u B2 H2 g2 r2 => by
    cases r2
    obtain ⟨w, h2, h3⟩ := atI_rep r1 h
    exact ⟨_, _, i, w, rfl, rfl, SqL.of (g2.hh _ _ h1), h2, q w B2 H2 (g1.trans g2) (h3.mono g2.bb)⟩
/-- the promise of len of a list or tuple -/
abbrev rLenQ (K : PySem.W.Frag) : List V → Hp → VK → Prop := fun xs H Q => ∃ p ys, xs = [.ref p] ∧ (SqL K H p ys ∨ SqT K H p ys) ∧ Q (.int ys.length) H
theorem ev_lenL (ha : EVL ta ρ ds) : EV (tCB (rLenQ K) (tCons ta tNil)) ρ (.int ds.length) := fun B H σ S Q q => ha B H σ S _ fun p vs B1 H1 g1 h1 r1 =>
  ⟨p, vs, rfl, .inl (SqL.of h1), by rw [r1.length]; exact q _ B1 H1 g1 (.int _)⟩
theorem ev_lenT (ha : EV ta ρ (.tup ds)) : EV (tCB (rLenQ K) (tCons ta tNil)) ρ (.int ds.length) := fun B H σ S Q q => ha B H σ S _ fun v B1 H1 g1 r1 => by
  cases r1 with
  | tup h1 r1 => exact ⟨_, _, rfl, .inr (SqT.of (g1.bh _ _ h1)), by rw [r1.length]; exact q _ B1 H1 g1 (.int _)⟩
theorem eo_none : EO tNoPart ρ none := fun B H σ S Q q => q B H (Go.refl S.bh)
theorem eo_some (h : EV te ρ (.int i)) : EO (tPart te) ρ (some i) := fun B H σ S Q q => h B H σ S _ fun v B1 H1 g1 r1 => by
  cases r1
  exact ⟨i, rfl, q B1 H1 g1⟩
def cutD (ds : List Dat) (lo hi : Option Int) : List Dat := (ds.drop (HT.sIx ds.length 0 lo)).take (HT.sIx ds.length ds.length hi - HT.sIx ds.length 0 lo)
theorem Reps.cut {H : Hp} {vs : List V} (r : Reps H vs ds) (lo hi : Option Int) : Reps H (cutV vs lo hi) (cutD ds lo hi) := by
  unfold cutV cutD
  rw [r.length]
  exact (r.drop _).take _
theorem evn_slL {tlo thi : TO} {lo hi : Option Int} (h : EVL te ρ ds) (h1 : EO tlo ρ lo) (h2 : EO thi ρ hi) : EVN (tSl (rSlL K) te tlo thi) ρ (cutD ds lo hi) := fun B H σ S Q q =>
  h B H σ S _ fun p vs B1 H1 g1 a1 r1 => h1 B1 H1 σ (S.mono g1) _ fun B2 H2 g2 => h2 B2 H2 σ (S.mono (g1.trans g2)) _ fun B3 H3 g3 =>
    ⟨p, vs, rfl, SqL.of (g3.hh _ _ (g2.hh _ _ a1)), fun t ht => q _ _ _ _ (((g1.trans g2).trans g3).trans (Go.own g3.bh ht)) (Evl.fresh_back ((g1.trans g2).trans g3).hh ht) (free_of g3.bh ht) upd_same ((r1.mono (g2.trans g3).bb).cut lo hi)⟩
theorem evn_cat (ha : EVL ta ρ ds) (hb : EVL tb ρ es) (hl : ds.length + es.length ≤ 100000) : EVN (tOp rCat ta tb) ρ (ds ++ es) := fun B H σ S Q q =>
  ha B H σ S _ fun p vs B1 H1 g1 a1 r1 => hb B1 H1 σ (S.mono g1) _ fun t us B2 H2 g2 a2 r2 =>
    ⟨p, t, vs, us, rfl, rfl, g2.hh _ _ a1, a2, by rw [r1.length, r2.length]; exact sl_of hl, fun w hw => q _ _ _ _ ((g1.trans g2).trans (Go.own g2.bh hw)) (Evl.fresh_back (g1.trans g2).hh hw) (free_of g2.bh hw) upd_same ((r1.mono g2.bb).append r2)⟩
theorem evn_rev (h : EVL te ρ ds) : EVN (tRevL K te) ρ ds.reverse := fun B H σ S Q q => h B H σ S _ fun p vs B1 H1 g1 a1 r1 =>
  ⟨p, vs, rfl, SqL.of a1, fun w hw => q _ _ _ _ (g1.trans (Go.own g1.bh hw)) (Evl.fresh_back g1.hh hw) (free_of g1.bh hw) upd_same r1.rev⟩

/-! ### in: texts, ints -/
theorem inV_strs (x : Str) : ∀ xs : List Str, inV (.str x) (xs.map V.str) = decide (x ∈ xs)
  | [] => by simp [inV]
  | y :: ys => by
    have ih := inV_strs x ys
    unfold inV at ih ⊢
    rw [List.map_cons, List.any_cons, ih]
    show ((y == x) || decide (x ∈ ys)) = decide (x ∈ y :: ys)
    by_cases h : y = x
    · subst h
      simp
    · have h2 : ¬ x = y := fun z => h z.symm
      simp [h, h2]
theorem inV_ints (x : Int) : ∀ xs : List Int, inV (.int x) (xs.map V.int) = decide (x ∈ xs)
  | [] => by simp [inV]
  | y :: ys => by
    have ih := inV_ints x ys
    unfold inV at ih ⊢
    rw [List.map_cons, List.any_cons, ih]
    show ((y == x) || decide (x ∈ ys)) = decide (x ∈ y :: ys)
    by_cases h : y = x
    · subst h
      simp
    · have h2 : ¬ x = y := fun z => h z.symm
      simp [h, h2]
theorem flat_strs (xs : List Str) : (xs.map V.str).all flatV = true := by
  rw [List.all_map]
  exact List.all_eq_true.mpr fun _ _ => rfl
theorem flat_ints (xs : List Int) : (xs.map V.int).all flatV = true := by
  rw [List.all_map]
  exact List.all_eq_true.mpr fun _ _ => rfl
theorem ev_inSL {xs : List Str} (ha : EV ta ρ (.str s)) (hb : EVL tb ρ (xs.map .str)) : EV (tOp (rIn K false) ta tb) ρ (.bl (decide (s ∈ xs))) := fun B H σ S Q q =>
  ha B H σ S _ fun v B1 H1 g1 r1 => hb B1 H1 σ (S.mono g1) _ fun p vs B2 H2 g2 a2 r2 => by
    cases r1
    have e := r2.strs
    subst e
    refine ⟨p, _, rfl, .inl (SqL.of a2), rfl, flat_strs xs, ?_⟩
    show Q (.bl (inV (.str s) (xs.map V.str))) H2
    rw [inV_strs]
    exact q _ B2 H2 (g1.trans g2) (.bl _)
theorem ev_niSL {xs : List Str} (ha : EV ta ρ (.str s)) (hb : EVL tb ρ (xs.map .str)) : EV (tOp (rIn K true) ta tb) ρ (.bl (!decide (s ∈ xs))) := fun B H σ S Q q =>
  ha B H σ S _ fun v B1 H1 g1 r1 => hb B1 H1 σ (S.mono g1) _ fun p vs B2 H2 g2 a2 r2 => by
    cases r1
    have e := r2.strs
    subst e
    refine ⟨p, _, rfl, .inl (SqL.of a2), rfl, flat_strs xs, ?_⟩
    show Q (.bl (!inV (.str s) (xs.map V.str))) H2
    rw [inV_strs]
    exact q _ B2 H2 (g1.trans g2) (.bl _)
theorem ev_inST {xs : List Str} (ha : EV ta ρ (.str s)) (hb : EV tb ρ (.tup (xs.map .str))) : EV (tOp (rIn K false) ta tb) ρ (.bl (decide (s ∈ xs))) := fun B H σ S Q q =>
  ha B H σ S _ fun v B1 H1 g1 r1 => hb B1 H1 σ (S.mono g1) _ fun u B2 H2 g2 r2 => by
    cases r1
    cases r2 with
    | tup a2 r2 =>
      have e := r2.strs
      subst e
      refine ⟨_, _, rfl, .inr (SqT.of (g2.bh _ _ a2)), rfl, flat_strs xs, ?_⟩
      show Q (.bl (inV (.str s) (xs.map V.str))) H2
      rw [inV_strs]
      exact q _ B2 H2 (g1.trans g2) (.bl _)
theorem ev_niST {xs : List Str} (ha : EV ta ρ (.str s)) (hb : EV tb ρ (.tup (xs.map .str))) : EV (tOp (rIn K true) ta tb) ρ (.bl (!decide (s ∈ xs))) := fun B H σ S Q q =>
  ha B H σ S _ fun v B1 H1 g1 r1 => hb B1 H1 σ (S.mono g1) _ fun u B2 H2 g2 r2 => by
    cases r1
    cases r2 with
    | tup a2 r2 =>
      have e := r2.strs
      subst e
      refine ⟨_, _, rfl, .inr (SqT.of (g2.bh _ _ a2)), rfl, flat_strs xs, ?_⟩
      show Q (.bl (!inV (.str s) (xs.map V.str))) H2
      rw [inV_strs]
      exact q _ B2 H2 (g1.trans g2) (.bl _)
theorem ev_inIL {xs : List Int} (ha : EV ta ρ (.int i)) (hb : EVL tb ρ (xs.map .int)) : EV (tOp (rIn K false) ta tb) ρ (.bl (decide (i ∈ xs))) := fun B H σ S Q q =>
  ha B H σ S _ fun v B1 H1 g1 r1 => hb B1 H1 σ (S.mono g1) _ fun p vs B2 H2 g2 a2 r2 => by
    cases r1
    have e := r2.ints
    subst e
    refine ⟨p, _, rfl, .inl (SqL.of a2), rfl, flat_ints xs, ?_⟩
    show Q (.bl (inV (.int i) (xs.map V.int))) H2
    rw [inV_ints]
    exact q _ B2 H2 (g1.trans g2) (.bl _)

/-! ### in, == of deep data -/
mutual
def toPy : Dat → PyData
  | .non => .none
  | .bl b => .bool b
  | .int i => .int i
  | .str s => .str s
  | .tup xs => .tuple (toPys xs)
  | .lst xs => .list (toPys xs)
  | .dic _ => .none
  | .ins _ _ => .none
  | .pl => .none
  | .otp _ => .none
def toPys : List Dat → List PyData
  | [] => []
  | d :: ds => toPy d :: toPys ds
end
mutual
def plain : Dat → Bool
  | .tup xs => plains xs
  | .lst xs => plains xs
  | .dic _ => false
  | .ins _ _ => false
  | .pl => false
  | .otp _ => false
  | _ => true
def plains : List Dat → Bool
  | [] => true
  | d :: ds => plain d && plains ds
end
mutual
theorem rep_dp {H : Hp} : ∀ {d : Dat} {v : V}, plain d = true → Rep H v d → Dp K H v (toPy d)
  | .non, _, _, r => by
    cases r
    exact .non
  | .bl b, _, _, r => by
    cases r
    exact .bl b
  | .int i, _, _, r => by
    cases r
    exact .int i
  | .str i, _, _, r => by
    cases r
    exact .str i
  | .tup xs, _, h, r => by
    cases r with
    | tup h1 h2 => exact .tup (SqT.of h1) (reps_dp (ds := xs) h h2)
  | .lst xs, _, h, r => by
    cases r with
    | lst h1 h2 => exact .lst (SqL.of h1) (reps_dp (ds := xs) h h2)
  | .dic _, _, h, _ => by cases h
  | .ins _ _, _, h, _ => by cases h
  | .pl, _, h, _ => by cases h
  | .otp _, _, h, _ => by cases h
theorem reps_dp {H : Hp} : ∀ {ds : List Dat} {vs : List V}, plains ds = true → Reps H vs ds → DpAll K H vs (toPys ds)
  | [], _, _, r => by
    cases r
    exact .nil
  | d :: ds, _, h, r => by
    cases r with
    | cons a b =>
      have h2 : plain d = true ∧ plains ds = true := by
        have h3 : (plain d && plains ds) = true := h
        exact Bool.and_eq_true_iff.mp h3
      exact .cons (rep_dp h2.1 a) (reps_dp h2.2 b)
end
def eqD (a b : Dat) : Bool := PyData.eqv (toPy a) (toPy b)
def shp (d : Dat) : Bool := plain d && SeqAt.shaped (toPy d)
theorem shp_of {d : Dat} (h : shp d = true) : plain d = true ∧ SeqAt.shaped (toPy d) = true := Bool.and_eq_true_iff.mp h
theorem toPys_map (ds : List Dat) : toPys ds = ds.map toPy := by
  induction ds with
  | nil => rfl
  | cons d ds ih =>
    show toPy d :: toPys ds = _
    rw [ih]
    rfl
theorem ev_inD {neg : Bool} (ha : EV ta ρ d) (hb : EVL tb ρ ds) (h1 : shp d = true) (h2 : shp (.lst ds) = true) : EV (tOp (if neg then rNotInD K else rInD K) ta tb) ρ (.bl (if neg then !ds.any (fun z => eqD z d) else ds.any fun z => eqD z d)) := fun B H σ S Q q =>
  ha B H σ S _ fun v B1 H1 g1 r1 => hb B1 H1 σ (S.mono g1) _ fun p vs B2 H2 g2 a2 r2 => by
    obtain ⟨p1, s1⟩ := shp_of h1
    obtain ⟨p2, s2⟩ := shp_of h2
    have e : (toPys ds).any (fun z => PyData.eqv z (toPy d)) = ds.any fun z => eqD z d := by
      rw [toPys_map, List.any_map]
      rfl
    have d1 : Dp K H2 v (toPy d) := rep_dp p1 ((r1.mono g2.bb).mono g2.bh)
    have d2 : Dp K H2 (.ref p) (.list (toPys ds)) := .lst (SqL.of a2) (reps_dp (ds := ds) p2 (r2.mono g2.bh))
    cases neg with
    | true => exact ⟨_, _, d1, d2, s1, s2, by rw [e]; exact q _ B2 H2 (g1.trans g2) (.bl _)⟩
    | false => exact ⟨_, _, d1, d2, s1, s2, by rw [e]; exact q _ B2 H2 (g1.trans g2) (.bl _)⟩
theorem ev_niD (ha : EV ta ρ d) (hb : EVL tb ρ ds) (h1 : shp d = true) (h2 : shp (.lst ds) = true) : EV (tOp (rNotInD K) ta tb) ρ (.bl (!ds.any fun z => eqD z d)) := ev_inD (neg := true) ha hb h1 h2
theorem ev_isD (ha : EV ta ρ d) (hb : EVL tb ρ ds) (h1 : shp d = true) (h2 : shp (.lst ds) = true) : EV (tOp (rInD K) ta tb) ρ (.bl (ds.any fun z => eqD z d)) := ev_inD (neg := false) ha hb h1 h2
theorem ev_neD (ha : EVL ta ρ ds) (hb : EVL tb ρ es) (h1 : shp (.lst ds) = true) (h2 : shp (.lst es) = true) : EV (tOp (rNeD K) ta tb) ρ (.bl (!eqD (.lst ds) (.lst es))) := fun B H σ S Q q =>
  ha B H σ S _ fun p vs B1 H1 g1 a1 r1 => hb B1 H1 σ (S.mono g1) _ fun p' vs' B2 H2 g2 a2 r2 => by
    obtain ⟨p1, s1⟩ := shp_of h1
    obtain ⟨p2, s2⟩ := shp_of h2
    exact ⟨_, _, .lst (SqL.of (g2.hh _ _ a1)) (reps_dp (ds := ds) p1 ((r1.mono g2.bb).mono g2.bh)), .lst (SqL.of a2) (reps_dp (ds := es) p2 (r2.mono g2.bh)), s1, s2, q _ B2 H2 (g1.trans g2) (.bl _)⟩

/-! ### dicts with text keys, fields -/
theorem ev_dget {kvs : List (Str × Dat)} (ha : EV ta ρ (.dic kvs)) (hb : EV tb ρ (.str s)) (h : kvs.lookup s = some d) : EV (tDGet ta tb) ρ d := fun B H σ S Q q =>
  ha B H σ S _ fun v B1 H1 g1 r1 => hb B1 H1 σ (S.mono g1) _ fun u B2 H2 g2 r2 => by
    cases r2
    cases r1 with
    | dic h1 r1 =>
      have z := r1.val (k := s)
      rw [h] at z
      rename_i kvs'
      cases e : valV kvs' (Sum.inr s : Key) with
      | none =>
        rw [e] at z
        exact z.elim
      | some w =>
        rw [e] at z
        have z : Rep B1 w d := z
        refine ⟨_, w, rfl, ?_, q w B2 H2 (g1.trans g2) (z.mono g2.bb)⟩
        have q := DGet.k (k := (Sum.inr s : Key)) (g2.bh _ _ (g2.bb _ _ h1))
        rw [e] at q
        exact q
theorem dget_o {B H : Hp} {a : Addr} {kvs : List (Key × V)} {ks : List (Str × Dat)} (h : H a = some (.dK kvs)) (r : RepK B kvs ks) : ∃ o, DGet H a (.str s) o ∧ o.isSome = (ks.lookup s).isSome := by
  refine ⟨_, DGet.k (k := (Sum.inr s : Key)) h, ?_⟩
  have z := r.val (k := s)
  cases e : valV kvs (Sum.inr s : Key) with
  | none =>
    rw [e] at z
    cases e2 : ks.lookup s with
    | none => rfl
    | some w =>
      rw [e2] at z
      exact z.elim
  | some v =>
    rw [e] at z
    cases e2 : ks.lookup s with
    | some w => rfl
    | none =>
      rw [e2] at z
      exact z.elim
theorem ev_din {kvs : List (Str × Dat)} (ha : EV ta ρ (.str s)) (hb : EV tb ρ (.dic kvs)) : EV (tDIn ta tb) ρ (.bl (kvs.lookup s).isSome) := fun B H σ S Q q =>
  ha B H σ S _ fun v B1 H1 g1 r1 => hb B1 H1 σ (S.mono g1) _ fun u B2 H2 g2 r2 => by
    cases r1
    cases r2 with
    | dic h2 r2 =>
      obtain ⟨o, h3, h4⟩ := dget_o (s := s) (g2.bh _ _ h2) r2
      exact ⟨_, o, rfl, h3, by rw [h4]; exact q _ B2 H2 (g1.trans g2) (.bl _)⟩
theorem ev_fld {C : Addr} {fs : List (Str × Dat)} {f : Str} (ha : EV ta ρ (.ins C fs)) (c : Cls K C) (n : NoAttr K C f) (h : fs.lookup f = some d) : EV (tFld K ta f) ρ d := fun B H σ S Q q => ha B H σ S _ fun v B1 H1 g1 r1 => by
  cases r1 with
  | ins h1 r1 =>
    obtain ⟨w, h2, h3⟩ := r1.val h
    exact ⟨_, C, _, _, w, rfl, g1.bh _ _ h1, c, n, h2, q w B1 H1 g1 h3⟩

/-! ### promises by data -/
/-- from data to a datum -/
def spD (P : List Dat → Dat → Prop) : Sp := fun vs H Q _ => ∃ B ds r, Ex B H ∧ Reps B vs ds ∧ P ds r ∧ ∀ v B2 H2, Go B H B2 H2 → Rep B2 v r → Q v H2
/-- .. to a new list -/
def spN (P : List Dat → List Dat → Prop) : Sp := fun vs H Q _ => ∃ B ds r, Ex B H ∧ Reps B vs ds ∧ P ds r ∧ ∀ p vs B2 H2, Go B H B2 H2 → H p = none → B2 p = none → H2 p = some (.lst vs) → Reps B2 vs r → Q (.ref p) H2
theorem ev_call {P : List Dat → Dat → Prop} {E : XK} {t : TA} (h : EA t ρ ds) (hp : P ds d) : EV (tCall (spD P) [] E t) ρ d := fun B H σ S Q q => h B H σ S _ fun vs B1 H1 g1 r1 =>
  ⟨B1, ds, d, g1.bh, by rw [List.append_nil]; exact r1, hp, fun v B2 H2 g2 r2 => q v B2 H2 (g1.trans g2) r2⟩
theorem evn_call {P : List Dat → List Dat → Prop} {E : XK} {t : TA} (h : EA t ρ ds) (hp : P ds es) : EVN (tCall (spN P) [] E t) ρ es := fun B H σ S Q q => h B H σ S _ fun vs B1 H1 g1 r1 =>
  ⟨B1, ds, es, g1.bh, by rw [List.append_nil]; exact r1, hp, fun p vs B2 H2 g2 hp n h2 r2 => q p vs B2 H2 (g1.trans g2) (Evl.fresh_back g1.hh hp) n h2 r2⟩
theorem ev_meth {P : List Dat → Dat → Prop} {E : XK} {t : TA} {C : Addr} {m : Str} {fs : List (Str × Dat)} (ho : EV ta ρ (.ins C fs)) (hn : fs.lookup m = none) (h : EA t ρ ds) (hp : P (.ins C fs :: ds) d) : EV (tMeth C m (spD P) [] E ta t) ρ d := fun B H σ S Q q =>
  ho B H σ S _ fun v B1 H1 g1 r1 => by
    have r1' := r1
    cases r1 with
    | ins h1 r1 =>
      exact ⟨_, _, _, rfl, g1.bh _ _ h1, r1.non hn, h B1 H1 σ (S.mono g1) _ fun vs B2 H2 g2 r2 => ⟨B2, _, d, g2.bh, by rw [List.append_nil]; exact .cons (r1'.mono g2.bb) r2, hp, fun v B3 H3 g3 r3 => q v B3 H3 ((g1.trans g2).trans g3) r3⟩⟩
theorem evn_meth {P : List Dat → List Dat → Prop} {E : XK} {t : TA} {C : Addr} {m : Str} {fs : List (Str × Dat)} (ho : EV ta ρ (.ins C fs)) (hn : fs.lookup m = none) (h : EA t ρ ds) (hp : P (.ins C fs :: ds) es) : EVN (tMeth C m (spN P) [] E ta t) ρ es := fun B H σ S Q q =>
  ho B H σ S _ fun v B1 H1 g1 r1 => by
    have r1' := r1
    cases r1 with
    | ins h1 r1 =>
      exact ⟨_, _, _, rfl, g1.bh _ _ h1, r1.non hn, h B1 H1 σ (S.mono g1) _ fun vs B2 H2 g2 r2 => ⟨B2, _, es, g2.bh, by rw [List.append_nil]; exact .cons (r1'.mono g2.bb) r2, hp, fun p vs B3 H3 g3 hp n h3 r3 =>
        q p vs B3 H3 ((g1.trans g2).trans g3) (Evl.fresh_back (g1.trans g2).hh hp) n h3 r3⟩⟩
/-- o(e, ..), o an instance -/
theorem ev_callO {X : Cx} {P : List Dat → Dat → Prop} {E : XK} {t : TA} {C : Addr} {fs : List (Str × Dat)} (ho : EV ta ρ (.ins C fs)) (h : EA t ρ ds) (hp : P (.ins C fs :: ds) d) : EV (StX.tCallO X C (spD P) E ta t) ρ d := fun B H σ S Q q =>
  ho B H σ S _ fun v B1 H1 g1 r1 => by
    have r1' := r1
    cases r1 with
    | ins h1 r1 =>
      exact ⟨_, rfl, h B1 H1 σ (S.mono g1) _ fun vs B2 H2 g2 r2 => ⟨.inr ⟨_, _, g2.hh _ _ (g1.bh _ _ h1)⟩, B2, _, d, g2.bh, .cons (r1'.mono g2.bb) r2, hp, fun v B3 H3 g3 r3 => q v B3 H3 ((g1.trans g2).trans g3) r3⟩⟩
/-- o.f, a property whose getter reads a field -/
theorem ev_prop {E : XK} {C : Addr} {f f' : Str} {fs : List (Str × Dat)} (ho : EV ta ρ (.ins C fs)) (h : fs.lookup f' = some d) : EV (tProp C (getSp C f') [] E ta) ρ d := fun B H σ S Q q => ho B H σ S _ fun v B1 H1 g1 r1 => by
  cases r1 with
  | ins h1 r1 =>
    obtain ⟨w, h2, h3⟩ := r1.val h
    exact ⟨_, _, _, rfl, g1.bh _ _ h1, _, _, _, w, rfl, g1.bh _ _ h1, h2, q w B1 H1 g1 h3⟩
end
end Dl

set_option maxHeartbeats 4000000
namespace Dl
open PySem L2
open Evl (Ex)

/-! ### statements, by data -/
inductive Out where
  | nx (ρ : List Sl) | rt (d : Dat) | rl (ds : List Dat)
def Post (D : Ends) (Bm B0 H0 : Hp) : Out → Prop
  | .nx ρ => ∀ B H σ, SE Bm B0 H0 B H σ ρ → D.nx σ H
  | .rt d => ∀ v B H, Go B0 H0 B H → Ex Bm B → Rep B v d → D.rt v H
  | .rl ds => ∀ p vs B H, Go B0 H0 B H → Ex Bm B → H0 p = none → B p = none → H p = some (.lst vs) → Reps B vs ds → D.rt (.ref p) H
def ST (t : TS) (ρ : List Sl) (out : Out) : Prop := ∀ (Bm B0 H0 B H : Hp) (σ : St) (D : Ends), SE Bm B0 H0 B H σ ρ → Post D Bm B0 H0 out → t D σ H
section
variable {K : PySem.W.Frag} {ρ ρ1 ρ2 : List Sl} {out : Out} {ta tb te tl ty tv : TE} {tt : TT} {t u v : TS} {d e : Dat} {ds es : List Dat} {i j n : Int} {s : Str} {b c : Bool} {k m : Nat}

theorem start_se {N : List Str} {vs : List V} {B H : Hp} (r : Reps B vs ds) (e : Ex B H) (hl : vs.length ≤ N.length) : SE B B H B H (L2.start N vs) (ds.map .d ++ List.replicate (N.length - ds.length) .x) := by
  refine ⟨⟨e, ?_, fun a s ha => ?_, fun a c s z p hn h1 h2 o1 o2 => ?_⟩, Go.refl e, Evl.Ex.refl B, fun a s p h1 o1 => ?_⟩
  · unfold L2.start
    simp [r.length]
  · unfold L2.start
    by_cases hlt : a < ds.length
    · rw [List.getElem?_append_left (by simpa using hlt), List.getElem?_map] at ha
      obtain ⟨d', hd⟩ : ∃ d', ds[a]? = some d' := ⟨_, List.getElem?_eq_getElem hlt⟩
      rw [hd] at ha
      cases ha
      obtain ⟨w, h1, h2⟩ := r.at hd
      refine ⟨some w, ?_, w, rfl, h2⟩
      have hlt2 : a < (vs.map some).length := by
        rw [List.length_map, r.length]
        exact hlt
      rw [List.getElem?_append_left hlt2, List.getElem?_map, h1]
      rfl
    · have hs : s = .x := by
        rw [List.getElem?_append_right (by simp; omega)] at ha
        have := List.getElem?_eq_some_iff.mp ha
        obtain ⟨_, h2⟩ := this
        simpa using h2.symm
      have hal : a < (vs.map some ++ List.replicate (N.length - vs.length) (none : Option V)).length := by
        have := (List.getElem?_eq_some_iff.mp ha).1
        simp [r.length] at this ⊢
        omega
      subst hs
      exact ⟨_, List.getElem?_eq_getElem hal, trivial⟩
  all_goals
    exfalso
    have : ∀ (x : Nat) (y : Sl), (ds.map Sl.d ++ List.replicate (N.length - ds.length) Sl.x)[x]? = some y → isOwn y = true → False := fun x y hx ho => by
      have hm := List.mem_of_getElem? hx
      rcases List.mem_append.mp hm with z | z
      · obtain ⟨w, _, rfl⟩ := List.mem_map.mp z
        cases ho
      · rw [List.eq_of_mem_replicate z] at ho
        cases ho
    exact this _ _ h1 o1

/-- the end of a body -/
theorem of_ST {N : List Str} {vs : List V} {B H : Hp} {Q : VK} (r : Reps B vs ds) (e : Ex B H) (hl : vs.length ≤ N.length) (h : ST t (ds.map .d ++ List.replicate (N.length - ds.length) .x) (.rt d)) (q : ∀ v B2 H2, Go B H B2 H2 → Rep B2 v d → Q v H2) :
    t { nx := fun _ H' => Q .non H', rt := Q } (L2.start N vs) H := h B B H B H (L2.start N vs) _ (start_se r e hl) fun v B2 H2 g _ r2 => q v B2 H2 g r2
/-- the entry of an __init__: self is new -/
theorem start_seI {N : List Str} {vs : List V} {B H0 : Hp} {x dx C : Addr} (r : Reps B vs ds) (e : Ex B H0) (hl : vs.length + 1 ≤ N.length) (hx : H0 x = none) (hd : H0 dx = none) (hne : dx ≠ x) :
    SE B B H0 B (upd (upd H0 dx (.own x)) x (.ins C dx [])) (L2.start N (.ref x :: vs)) (.o x C [] :: (ds.map .d ++ List.replicate (N.length - 1 - ds.length) .x)) := by
  obtain ⟨n, N', rfl⟩ : ∃ n N', N = n :: N' := by
    cases N with
    | nil => simp at hl
    | cons n N' => exact ⟨n, N', rfl⟩
  have hx2 : (upd H0 dx (.own x)) x = none := by
    rw [upd_ne (Ne.symm hne)]
    exact hx
  have g : Go B H0 B (upd (upd H0 dx (.own x)) x (.ins C dx [])) := (Go.own e hd).trans (Go.own (Go.own (o := HO.own x) e hd).bh hx2)
  have S := start_se (N := N') r g.bh (by simpa using hl)
  have e1 : L2.start (n :: N') (.ref x :: vs) = some (.ref x) :: L2.start N' vs := by
    unfold L2.start
    simp
  have e2 : (n :: N').length - 1 - ds.length = N'.length - ds.length := by simp
  rw [e1, e2]
  have no : ∀ (i : Nat) (s : Sl), (ds.map Sl.d ++ List.replicate (N'.length - ds.length) .x)[i]? = some s → isOwn s = true → False := fun i s hi ho => by
    rcases List.mem_append.mp (List.mem_of_getElem? hi) with z | z
    · obtain ⟨w, _, rfl⟩ := List.mem_map.mp z
      cases ho
    · rw [List.eq_of_mem_replicate z] at ho
      cases ho
  refine ⟨⟨g.bh, by simp only [List.length_cons]; rw [S.r.len], fun i s h => ?_, fun i j s t p hn h1 h2 o1 o2 => ?_⟩, g, Evl.Ex.refl B, fun i s p h1 o1 h2 => ?_⟩
  · cases i with
    | zero =>
      have h : Sl.o x C [] = s := Option.some.inj h
      subst h
      exact ⟨_, rfl, dx, [], rfl, free_of e hx, upd_same, .nil⟩
    | succ i => exact S.r.at_ i s h
  · cases i with
    | succ i => exact (no i s h1 o1).elim
    | zero =>
      cases j with
      | zero => exact absurd rfl hn
      | succ j => exact (no j t h2 o2).elim
  · cases i with
    | succ i => exact (no i s h1 o1).elim
    | zero =>
      have h2 : some (V.ref x) = some (.ref p) := Option.some.inj h2
      cases h2
      exact hx
theorem repf_put {B : Hp} {f : Str} {v : V} {d : Dat} (rv : Rep B v d) : ∀ {gs : List (Str × V)} {fs : List (Str × Dat)}, RepF B gs fs → fs.lookup f = none → RepF B (putF f v gs) (fs ++ [(f, d)])
  | _, _, .nil, _ => .cons rv .nil
  | _, _, .cons (k := k) a r, h => by
    rw [List.lookup_cons] at h
    cases hb : (f == k) with
    | true => rw [hb] at h; cases h
    | false =>
      rw [hb] at h
      unfold putF
      rw [if_neg (fun z => by rw [z, beq_self_eq_true] at hb; cases hb)]
      exact .cons a (repf_put rv r h)
/-- self.f = e, f new -/
theorem st_fld {K : PySem.W.Frag} {x C : Addr} {fs : List (Str × Dat)} {f : Str} (hk : ρ[k]? = some (.o x C fs)) (h : EV tv ρ d) (c : Cls K C) (n : NoAttr K C f) (hf : fs.lookup f = none) (hl : fs.length < 1000) : ST (sFld K (tVar k) tv f) ρ (.nx (ρ.set k (.o x C (fs ++ [(f, d)])))) := fun Bm B0 H0 B H σ D S P => by
  obtain ⟨ov, h1, dx, gs, rfl, n1, h2, r⟩ := S.r.at_ k _ hk
  refine h B H σ S.r _ fun v B1 H1 g1 r1 => ⟨_, h1, x, C, dx, gs, rfl, g1.hh _ _ h2, c, n, by rw [r.length]; exact hl, ?_⟩
  exact P B1 _ _ ((S.mono g1).write hk rfl h1 rfl fun n2 => ⟨dx, _, rfl, n2, upd_same, repf_put r1 (r.mono g1.bb) hf⟩)
theorem st_wk (h : ST t ρ (.nx ρ1)) (w : Wk ρ1 ρ2) : ST t ρ (.nx ρ2) := fun Bm B0 H0 B H σ D S P => h Bm B0 H0 B H σ D S fun B' H' σ' S' => P B' H' σ' (S'.wk w)
theorem st_pre (w : Wk ρ ρ1) (h : ST t ρ1 out) : ST t ρ out := fun Bm B0 H0 B H σ D S P => h Bm B0 H0 B H σ D (S.wk w) P
theorem st_out {o2 : Out} (h : ST t ρ out) (e : out = o2) : ST t ρ o2 := e ▸ h
theorem st_seq (h : ST t ρ (.nx ρ1)) (h2 : ST u ρ1 out) : ST (tSeq t u) ρ out := fun Bm B0 H0 B H σ D S P => h Bm B0 H0 B H σ { D with nx := u D } S fun B' H' σ' S' => h2 Bm B0 H0 B' H' σ' D S' P
theorem st_seqRt (h : ST t ρ (.rt d)) : ST (tSeq t u) ρ (.rt d) := fun Bm B0 H0 B H σ D S P => h Bm B0 H0 B H σ { D with nx := u D } S P
theorem st_seqIf (h : ET tt ρ b) (h1 : b = true → ST (tSeq t v) ρ out) (h2 : b = false → ST (tSeq u v) ρ out) : ST (tSeq (tIfS tt t u) v) ρ out := fun Bm B0 H0 B H σ D S P => h B H σ S.r _ fun B1 H1 g1 => by
  cases b with
  | true => exact iteT (h1 rfl Bm B0 H0 B1 H1 σ D (S.mono g1) P)
  | false => exact iteF (h2 rfl Bm B0 H0 B1 H1 σ D (S.mono g1) P)
theorem st_if (h : ET tt ρ b) (h1 : b = true → ST t ρ out) (h2 : b = false → ST u ρ out) : ST (tIfS tt t u) ρ out := fun Bm B0 H0 B H σ D S P => h B H σ S.r _ fun B1 H1 g1 => by
  cases b with
  | true => exact iteT (h1 rfl Bm B0 H0 B1 H1 σ D (S.mono g1) P)
  | false => exact iteF (h2 rfl Bm B0 H0 B1 H1 σ D (S.mono g1) P)
theorem st_next : ST tNext ρ (.nx ρ) := fun Bm B0 H0 B H σ D S P => P B H σ S
theorem st_seqNext (h : ST u ρ out) : ST (tSeq tNext u) ρ out := st_seq st_next h
theorem st_ret (h : EV te ρ d) : ST (tRet te) ρ (.rt d) := fun Bm B0 H0 B H σ D S P => h B H σ S.r _ fun v B1 H1 g1 r1 => P v B1 H1 (S.g.trans g1) (S.m.trans g1.bb) r1
/-- a new list is handed on -/
theorem st_retN (h : EVN te ρ ds) : ST (tRet te) ρ (.rl ds) := fun Bm B0 H0 B H σ D S P => h B H σ S.r _ fun p vs B1 H1 g1 hp n h1 r1 => P p vs B1 H1 (S.g.trans g1) (S.m.trans g1.bb) (Evl.fresh_back S.g.hh hp) n h1 r1
/-- a list of one's own is handed back -/
theorem st_retL (h : ρ[k]? = some (.l ds)) : ST (tRet (tVar k)) ρ (.rt (.lst ds)) := fun Bm B0 H0 B H σ D S P => by
  obtain ⟨ov, h1, p, vs, rfl, n, h2, r⟩ := S.r.at_ k _ h
  exact ⟨_, h1, P _ _ _ (S.g.keep (S.fr k _ p h rfl h1) n h2) (S.m.trans (Evl.Ex.new n)) (.lst upd_same (r.mono (Evl.Ex.new n)))⟩
theorem st_drop (h : EV te ρ d) : ST (tDrop te) ρ (.nx ρ) := fun Bm B0 H0 B H σ D S P => h B H σ S.r _ fun v B1 H1 g1 r1 => P B1 H1 σ (S.mono g1)
theorem st_asg (h : EV te ρ d) : ST (tAsg te (gName k)) ρ (.nx (ρ.set k (.d d))) := fun Bm B0 H0 B H σ D S P => h B H σ S.r _ fun v B1 H1 g1 r1 => P B1 H1 _ ((S.mono g1).set r1)
theorem own_new {Bm B0 H0 B H : Hp} {σ : St} {p : Addr} {s : Sl} {B1 H1 : Hp} (S : SE Bm B0 H0 B H σ ρ) (g : Go B H B1 H1) (hp : H p = none) (ho : SlOk B1 H1 (some (.ref p)) s) : SE Bm B0 H0 B1 H1 (σ.set k (some (.ref p))) (ρ.set k s) :=
  (S.mono g).setOwn ho (Evl.fresh_back S.g.hh hp) fun j t _ e o z => by
    obtain ⟨ov, h1, h2⟩ := S.r.at_ j t e
    rw [z] at h1
    cases h1
    cases t with
    | x => cases o
    | d d => cases o
    | l ds =>
      obtain ⟨q, vs, e1, _, h, _⟩ := h2
      cases e1
      rw [hp] at h
      cases h
    | k ds =>
      obtain ⟨q, vs, e1, _, h, _⟩ := h2
      cases e1
      rw [hp] at h
      cases h
    | o q C fs =>
      obtain ⟨dx, vs, e1, _, h, _⟩ := h2
      cases e1
      rw [hp] at h
      cases h
theorem st_asgN (h : EVN te ρ ds) : ST (tAsg te (gName k)) ρ (.nx (ρ.set k (.l ds))) := fun Bm B0 H0 B H σ D S P => h B H σ S.r _ fun p vs B1 H1 g1 hp n h1 r1 => P B1 H1 _ (own_new S g1 hp ⟨p, vs, rfl, n, h1, r1⟩)
/-- xs.append(e) -/
theorem st_app (hk : ρ[k]? = some (.l ds)) (h : EV te ρ d) (hz : ds.length ≤ 90000) : ST (tDrop (tBM K "list" rAppend (tVar k) (tCons te tNil))) ρ (.nx (ρ.set k (.l (ds ++ [d])))) := fun Bm B0 H0 B H σ D S P => by
  obtain ⟨ov, h1, p, vs, rfl, n, h2, r⟩ := S.r.at_ k _ hk
  refine ⟨_, h1, Or.inl ⟨rfl, vs, SqL.of h2⟩, h B H σ S.r _ fun v B1 H1 g1 r1 => ?_⟩
  refine ⟨p, vs, v, rfl, rfl, g1.hh _ _ h2, Evl.sz_lt (by rw [r.length]; omega), P B1 _ _ ((S.mono g1).write hk rfl h1 rfl fun n1 => ⟨p, vs ++ [v], rfl, n1, upd_same, (r.mono g1.bb).append (.cons r1 .nil)⟩)⟩
/-- xs.extend(ys), ys new -/
theorem st_ext (hk : ρ[k]? = some (.l ds)) (h : EVL te ρ es) (hz : ds.length + es.length ≤ 90000) : ST (tDrop (tBM K "list" rExtend (tVar k) (tCons te tNil))) ρ (.nx (ρ.set k (.l (ds ++ es)))) := fun Bm B0 H0 B H σ D S P => by
  obtain ⟨ov, h1, p, vs, rfl, n, h2, r⟩ := S.r.at_ k _ hk
  refine ⟨_, h1, Or.inl ⟨rfl, vs, SqL.of h2⟩, h B H σ S.r _ fun q ws B1 H1 g1 a1 r1 => ?_⟩
  refine ⟨p, q, vs, ws, rfl, rfl, g1.hh _ _ h2, a1, Evl.sz_of (by rw [r.length, r1.length]; omega), P B1 _ _ ((S.mono g1).write hk rfl h1 rfl fun n1 => ⟨p, vs ++ ws, rfl, n1, upd_same, (r.mono g1.bb).append r1⟩)⟩
theorem st_aug {f : Int → Int → Int} (hk : ρ[k]? = some (.d (.int i))) (h : EV te ρ (.int j)) : ST (tAug k te (ipI f)) ρ (.nx (ρ.set k (.d (.int (f i j))))) := fun Bm B0 H0 B H σ D S P => by
  obtain ⟨ov, h1, v, rfl, r⟩ := S.r.at_ k _ hk
  cases r
  refine ⟨_, h1, h B H σ S.r _ fun w B1 H1 g1 r1 => ?_⟩
  cases r1
  exact ⟨i, j, rfl, rfl, P B1 H1 _ ((S.mono g1).set (.int _))⟩
/-- a, b = x, y -/
theorem st_par {t : TA} (h : EA t ρ [d, e]) : ST (tPar k m t) ρ (.nx ((ρ.set k (.d d)).set m (.d e))) := fun Bm B0 H0 B H σ D S P => h B H σ S.r _ fun vs B1 H1 g1 r1 => by
  cases r1 with
  | cons a r1 =>
    cases r1 with
    | cons b r1 =>
      cases r1
      exact ⟨_, _, rfl, P B1 H1 _ (((S.mono g1).set a).set b)⟩
theorem st_par3 {t : TA} {l : Nat} {d3 : Dat} (h : EA t ρ [d, e, d3]) : ST (tPar3 k m l t) ρ (.nx (((ρ.set k (.d d)).set m (.d e)).set l (.d d3))) := fun Bm B0 H0 B H σ D S P => h B H σ S.r _ fun vs B1 H1 g1 r1 => by
  cases r1 with
  | cons a r1 =>
    cases r1 with
    | cons b r1 =>
      cases r1 with
      | cons c r1 =>
        cases r1
        exact ⟨_, _, _, rfl, P B1 H1 _ ((((S.mono g1).set a).set b).set c)⟩
/-- the first one a new list of one's own -/
theorem st_parN (h1 : EVN ta ρ ds) (h2 : EV tb ρ e) (hkm : k ≠ m) : ST (tPar k m (tCons ta (tCons tb tNil))) ρ (.nx ((ρ.set k (.l ds)).set m (.d e))) := fun Bm B0 H0 B H σ D S P =>
  h1 B H σ S.r _ fun p vs B1 H1 g1 hp n a1 r1 => h2 B1 H1 σ (S.r.mono g1) _ fun v B2 H2 g2 r2 =>
    ⟨_, _, rfl, P B2 H2 _ ((own_new (k := k) (s := Sl.l ds) S (g1.trans g2) hp (show SlOk B2 H2 (some (.ref p)) (.l ds) from ⟨p, vs, rfl, g2.no _ _ a1 n, g2.hh _ _ a1, r1.mono g2.bb⟩)).set (i := m) r2)⟩
/-- the second one -/
theorem st_parO (h1 : EV ta ρ d) (h2 : EVN tb ρ ds) : ST (tPar k m (tCons ta (tCons tb tNil))) ρ (.nx ((ρ.set k (.d d)).set m (.l ds))) := fun Bm B0 H0 B H σ D S P =>
  h1 B H σ S.r _ fun v B1 H1 g1 r1 => h2 B1 H1 σ (S.r.mono g1) _ fun p vs B2 H2 g2 hp n a2 r2 =>
    ⟨_, _, rfl, P B2 H2 _ (own_new (k := m) (s := Sl.l ds) ((S.mono g1).set (i := k) r1) g2 hp (show SlOk B2 H2 (some (.ref p)) (.l ds) from ⟨p, vs, rfl, n, a2, r2⟩))⟩

/-! ### targets -/
def sets (ρ : List Sl) (us : List (Nat × V × Dat)) : List Sl := us.foldl (fun r u => r.set u.1 (.d u.2.2)) ρ
def setv (σ : St) (us : List (Nat × V × Dat)) : St := us.foldl (fun r u => r.set u.1 (some u.2.1)) σ
/-- the target takes the datum: what stands in the slots behind -/
def GT (g : TG) (ρ : List Sl) (d : Dat) (ρ' : List Sl) (ix : List Nat) : Prop := ∀ (B H : Hp) (σ : St) (v : V), Ex B H → Rep B v d → ∃ us : List (Nat × V × Dat), ρ' = sets ρ us ∧ (∀ u ∈ us, Rep B u.2.1 u.2.2 ∧ u.1 ∈ ix) ∧ ∀ Q : St → Hp → Prop, Q (setv σ us) H → g v σ H Q
theorem gt_name : GT (gName k) ρ d (ρ.set k (.d d)) [k] := fun B H σ v _ r => ⟨[(k, v, d)], rfl, fun u hu => by
  rw [List.mem_singleton.mp hu]
  exact ⟨r, List.mem_singleton.mpr rfl⟩, fun Q q => q⟩
def gNm : List Nat → TGs
  | [] => gNil
  | i :: r => gCons (gName i) (gNm r)
def setz (ρ : List Sl) : List Nat → List Dat → List Sl
  | i :: is, d :: ds => setz (ρ.set i (.d d)) is ds
  | _, _ => ρ
theorem gnm_run : ∀ (is : List Nat) (vs : List V) (ds : List Dat) (B H : Hp) (σ : St) (ρ : List Sl), Reps B vs ds → is.length = ds.length →
    ∃ us : List (Nat × V × Dat), setz ρ is ds = sets ρ us ∧ (∀ u ∈ us, Rep B u.2.1 u.2.2 ∧ u.1 ∈ is) ∧ ∀ Q : St → Hp → Prop, Q (setv σ us) H → gNm is vs σ H Q
  | [], _, [], B, H, σ, ρ, .nil, _ => ⟨[], rfl, (fun u hu => by cases hu), fun Q q => ⟨rfl, q⟩⟩
  | i :: is, v :: vs, d :: ds, B, H, σ, ρ, .cons a r, hl => by
    obtain ⟨us, h1, h2, h3⟩ := gnm_run is vs ds B H (σ.set i (some v)) (ρ.set i (.d d)) r (by simpa using hl)
    refine ⟨(i, v, d) :: us, h1, fun u hu => ?_, fun Q q => ⟨v, vs, rfl, h3 Q q⟩⟩
    rcases List.mem_cons.mp hu with e | e
    · rw [e]
      exact ⟨a, List.mem_cons_self⟩
    · exact ⟨(h2 u e).1, List.mem_cons_of_mem _ (h2 u e).2⟩
  | _ :: _, _, [], _, _, _, _, _, hl => by cases hl
  | [], _, _ :: _, _, _, _, _, _, hl => by cases hl
theorem gt_tup {is : List Nat} {g : TGs} {l : Nat} (hg : g = gNm is) (hl : is.length = ds.length) (hn : ds.length = l) : GT (gTup K l g) ρ (.tup ds) (setz ρ is ds) is := fun B H σ v e r => by
  subst hg hn
  cases r with
  | tup h1 r1 =>
    obtain ⟨us, h2, h3, h4⟩ := gnm_run is _ ds B H σ ρ r1 hl
    exact ⟨us, h2, h3, fun Q q => ⟨_, _, rfl, SqT.of (e _ _ h1), r1.length, h4 Q q⟩⟩
theorem SE.sets {Bm B0 H0 B H : Hp} : ∀ {us : List (Nat × V × Dat)} {σ : St} {ρ : List Sl}, SE Bm B0 H0 B H σ ρ → (∀ u ∈ us, Rep B u.2.1 u.2.2) → SE Bm B0 H0 B H (setv σ us) (sets ρ us)
  | [], _, _, S, _ => S
  | u :: us, σ, ρ, S, h => SE.sets (us := us) (S.set (h u (List.mem_cons_self))) fun w hw => h w (List.mem_cons_of_mem _ hw)
theorem st_asgG {g : TG} {ix : List Nat} (h : EV te ρ d) (hg : GT g ρ d ρ1 ix) : ST (tAsg te g) ρ (.nx ρ1) := fun Bm B0 H0 B H σ D S P => h B H σ S.r _ fun v B1 H1 g1 r1 => by
  obtain ⟨us, h1, h2, h3⟩ := hg B1 H1 σ v g1.bh r1
  subst h1
  exact h3 _ (P B1 H1 _ ((S.mono g1).sets fun u hu => (h2 u hu).1))

/-! ### what is walked -/
/-- it gives these data, whatever a body does that leaves data as they are -/
structure Wp (J : It) (B1 : Hp) (items : List Dat) : Prop where
  stop : ∀ B H, Ex B1 B → Ex B H → J.stop items.length H
  go : ∀ i B H, i < items.length → Ex B1 B → Ex B H → J.go i H
  yld : ∀ i B H x H', i < items.length → Ex B1 B → Ex B H → J.yld i H x H' → ∃ d B', items[i]? = some d ∧ Go B H B' H' ∧ Rep B' x d
/-- .. as long as nothing is changed -/
structure Wl (J : It) (B1 H1 : Hp) (items : List Dat) : Prop where
  stop : ∀ B H, Go B1 H1 B H → J.stop items.length H
  go : ∀ i B H, i < items.length → Go B1 H1 B H → J.go i H
  yld : ∀ i B H x H', i < items.length → Go B1 H1 B H → J.yld i H x H' → ∃ d B', items[i]? = some d ∧ Go B H B' H' ∧ Rep B' x d
theorem Wp.l {J : It} {B1 H1 : Hp} {items : List Dat} (w : Wp J B1 items) : Wl J B1 H1 items := ⟨fun B H g => w.stop B H g.bb g.bh, fun i B H h g => w.go i B H h g.bb g.bh, fun i B H x H' h g => w.yld i B H x H' h g.bb g.bh⟩
def ITp (wi : TI) (ρ : List Sl) (items : List Dat) : Prop := ∀ (B H : Hp) (σ : St), SR B H σ ρ → ∀ R : It → Hp → Prop, (∀ J B1 H1, Go B H B1 H1 → Wp J B1 items → R J H1) → wi σ H R
def ITo (wi : TI) (ρ : List Sl) (items : List Dat) : Prop := ∀ (B H : Hp) (σ : St), SR B H σ ρ → ∀ R : It → Hp → Prop, (∀ J B1 H1, Go B H B1 H1 → Wl J B1 H1 items → R J H1) → wi σ H R
theorem ITp.o {wi : TI} {items : List Dat} (h : ITp wi ρ items) : ITo wi ρ items := fun B H σ S R q => h B H σ S R fun J B1 H1 g w => q J B1 H1 g w.l
theorem wl_list {p : Addr} {vs : List V} {B1 H1 : Hp} (h : H1 p = some (.lst vs)) (r : Reps B1 vs ds) : Wl (Itl K p) B1 H1 ds :=
  ⟨fun B H g => ⟨vs, SqL.of (g.hh _ _ h), by rw [r.length]; exact Nat.le_refl _⟩, fun i B H hi g => ⟨vs, vs[i]'(by rw [r.length]; exact hi), SqL.of (g.hh _ _ h), by simp [r.length, hi]⟩,
    fun i B H x H' hi g y => by
      obtain ⟨e, y⟩ := y
      subst e
      obtain ⟨d, h1, h2⟩ := r.get (y vs (SqL.of (g.hh _ _ h)))
      exact ⟨d, B, h1, Go.refl g.bh, h2.mono g.bb⟩⟩
theorem it_listO (h : EVL tl ρ ds) : ITo (iList K tl) ρ ds := fun B H σ S R q => h B H σ S _ fun p vs B1 H1 g1 h1 r1 => ⟨p, rfl, ⟨vs, SqL.of h1⟩, q _ B1 H1 g1 (wl_list h1 r1)⟩
theorem it_list (h : EV tl ρ (.lst ds)) : ITp (iList K tl) ρ ds := fun B H σ S R q => h B H σ S _ fun v B1 H1 g1 r1 => by
  cases r1 with
  | lst h1 r =>
    rename_i p vs
    refine ⟨p, rfl, ⟨vs, SqL.of (g1.bh _ _ h1)⟩, q _ B1 H1 g1 ⟨fun B H e1 e2 => ⟨vs, SqL.of (e2 _ _ (e1 _ _ h1)), by rw [r.length]; exact Nat.le_refl _⟩,
      fun i B H hi e1 e2 => ⟨vs, vs[i]'(by rw [r.length]; exact hi), SqL.of (e2 _ _ (e1 _ _ h1)), by simp [r.length, hi]⟩, fun i B H x H' hi e1 e2 y => ?_⟩⟩
    obtain ⟨e, y⟩ := y
    subst e
    obtain ⟨d, h1, h2⟩ := r.get (y vs (SqL.of (e2 _ _ (e1 _ _ h1))))
    exact ⟨d, B, h1, Go.refl e2, h2.mono e1⟩
theorem it_tup (h : EV tl ρ (.tup ds)) : ITp (iTup K tl) ρ ds := fun B H σ S R q => h B H σ S _ fun v B1 H1 g1 r1 => by
  cases r1 with
  | tup h1 r =>
    rename_i p vs
    refine ⟨p, rfl, ⟨vs, SqT.of (g1.bh _ _ h1)⟩, q _ B1 H1 g1 ⟨fun B H e1 e2 => ⟨vs, SqT.of (e2 _ _ (e1 _ _ h1)), by rw [r.length]; exact Nat.le_refl _⟩,
      fun i B H hi e1 e2 => ⟨vs, vs[i]'(by rw [r.length]; exact hi), SqT.of (e2 _ _ (e1 _ _ h1)), by simp [r.length, hi]⟩, fun i B H x H' hi e1 e2 y => ?_⟩⟩
    obtain ⟨e, y⟩ := y
    subst e
    obtain ⟨d, h1, h2⟩ := r.get (y vs (SqT.of (e2 _ _ (e1 _ _ h1))))
    exact ⟨d, B, h1, Go.refl e2, h2.mono e1⟩
/-- 0, 1, .. below n -/
def rngD (n : Nat) : List Dat := (List.range n).map fun i => .int (i : Nat)
theorem it_rng {t : TA} (h : EA t ρ [.int n]) (h0 : 0 ≤ n ∧ n ≤ 1000000) : ITp (iRng1 t) ρ (rngD n.toNat) := fun B H σ S R q => h B H σ S _ fun vs B1 H1 g1 r1 => by
  cases r1 with
  | cons a r1 =>
    cases r1
    cases a
    refine ⟨n, rfl, by omega, by omega, q _ B1 H1 g1 ⟨fun B H _ _ => ?_, fun i B H hi _ _ => ?_, fun i B H x H' hi _ e2 y => ?_⟩⟩
    · show n.toNat ≤ (rngD n.toNat).length
      simp [rngD]
    · show i < n.toNat
      simpa [rngD] using hi
    · obtain ⟨e, y⟩ := y
      subst e y
      refine ⟨.int (i : Nat), B, ?_, Go.refl e2, ?_⟩
      · have : i < n.toNat := by simpa [rngD] using hi
        simp [rngD, this]
      · rw [Int.zero_add]
        exact .int _
def signD (s : Str) : List Dat := s.cps.toList.map fun c => .str ⟨#[c]⟩
theorem it_str (h : EV te ρ (.str s)) : ITp (iStr te) ρ (signD s) := fun B H σ S R q => h B H σ S _ fun v B1 H1 g1 r1 => by
  cases r1
  refine ⟨s, rfl, q _ B1 H1 g1 ⟨fun B H _ _ => ?_, fun i B H hi _ _ => ?_, fun i B H x H' hi _ e2 y => ?_⟩⟩
  · show s.cps.size ≤ (signD s).length
    simp [signD]
  · show i < s.cps.size
    simpa [signD] using hi
  · obtain ⟨e, c, hc, y⟩ := y
    subst e y
    refine ⟨.str ⟨#[c]⟩, B, ?_, Go.refl e2, .str _⟩
    simp [signD, hc]
/-- (0, a), (1, b), .. -/
def enumD (ds : List Dat) : List Dat := ds.zipIdx.map fun p => .tup [.int (p.2 : Nat), p.1]
theorem enumD_get {i : Nat} (h : ds[i]? = some d) : (enumD ds)[i]? = some (.tup [.int (i : Nat), d]) := by
  simp [enumD, h]
theorem it_enum {t : TA} (h : EA t ρ [.lst ds]) : ITp (iEnum K t) ρ (enumD ds) := fun B H σ S R q => h B H σ S _ fun ws B1 H1 g1 r1 => by
  cases r1 with
  | cons a r1 =>
    cases r1
    cases a with
    | lst h1 r =>
      rename_i p vs
      have hl : (enumD ds).length = vs.length := by simp [enumD, r.length]
      refine ⟨p, vs, rfl, SqL.of (g1.bh _ _ h1), q _ B1 H1 g1 ⟨fun B H e1 e2 => ⟨vs, SqL.of (e2 _ _ (e1 _ _ h1)), by rw [hl]; exact Nat.le_refl _⟩, fun i B H hi e1 e2 => ⟨vs, vs[i]'(by rw [← hl]; exact hi), SqL.of (e2 _ _ (e1 _ _ h1)), by
        have : i < vs.length := by rw [← hl]; exact hi
        simp [this]⟩, fun i B H x H' hi e1 e2 y => ?_⟩⟩
      obtain ⟨T, z, rfl, hT, e, hz⟩ := y
      subst e
      obtain ⟨d, h3, h4⟩ := r.get (hz vs (SqL.of (e2 _ _ (e1 _ _ h1))))
      have hn := Evl.Ex.new (o := HO.tup [V.int (i : Nat), z]) (free_of e2 hT)
      exact ⟨_, _, enumD_get h3, Go.new e2 hT, .tup upd_same (.cons (.int _) (.cons ((h4.mono e1).mono hn) .nil))⟩

/-! ### for -/
def foldX {α S : Type} (f : S → α → S ⊕ Dat) : List α → S → S ⊕ Dat
  | [], s => .inl s
  | a :: as, s => match f s a with
    | .inl s' => foldX f as s'
    | .inr r => .inr r
def outX {S : Type} (emb : S → List Sl) : S ⊕ Dat → Out
  | .inl s => .nx (emb s)
  | .inr r => .rt r
theorem st_for {α S : Type} {wi : TI} {g : TG} (xs : List α) (f : α → Dat) (emb : S → List Sl) (step : S → α → S ⊕ Dat) (s0 : S) (h : ITp wi ρ (xs.map f)) (h0 : Wk ρ (emb s0))
    (hb : ∀ s x, x ∈ xs → ∃ ρ' ix, GT g (emb s) (f x) ρ' ix ∧ ST t ρ' (outX emb (step s x))) : ST (tFor wi g t) ρ (outX emb (foldX step xs s0)) := fun Bm B0 H0 B H σ D S P => h B H σ S.r _ fun J B1 H1 g1 w => by
  have S1 : SE B1 B0 H0 B1 H1 σ (emb s0) := ((S.mono g1).wk h0).low (Evl.Ex.refl B1)
  have hm : Ex Bm B1 := S.m.trans g1.bb
  have hlen : (xs.map f).length = xs.length := List.length_map ..
  refine ⟨fun i m σ' H' => m = xs.length - i ∧ i ≤ xs.length ∧ ∃ s B', foldX step (xs.drop i) s = foldX step xs s0 ∧ SE B1 B0 H0 B' H' σ' (emb s), ⟨xs.length, by simp, Nat.zero_le _, s0, B1, rfl, S1⟩, ?_⟩
  rintro i m σ' H' ⟨rfl, hi, s, B', hf, S'⟩
  by_cases hlt : i < xs.length
  · refine .inr ⟨w.go i B' H' (by rw [hlen]; exact hlt) S'.m S'.r.bh, fun σ2 H2 => i + 1 ≤ xs.length ∧ ∃ s B', foldX step (xs.drop (i + 1)) s = foldX step xs s0 ∧ SE B1 B0 H0 B' H2 σ2 (emb s), fun σ2 H2 q => ⟨xs.length - (i + 1), by omega, rfl, q⟩, fun x H2 y => ?_⟩
    obtain ⟨d', B2, h1, g2, r2⟩ := w.yld i B' H' x H2 (by rw [hlen]; exact hlt) S'.m S'.r.bh y
    have hx : xs[i]? = some xs[i] := List.getElem?_eq_getElem hlt
    rw [List.getElem?_map, hx] at h1
    have hd : f xs[i] = d' := Option.some.inj h1
    subst hd
    obtain ⟨ρ', ix, hg, hs⟩ := hb s xs[i] (List.getElem_mem hlt)
    obtain ⟨us, e1, e2, e3⟩ := hg B2 H2 σ' x g2.bh r2
    subst e1
    refine e3 _ ?_
    have S2 : SE B1 B0 H0 B2 H2 (setv σ' us) (sets (emb s) us) := (S'.mono g2).sets fun u hu => (e2 u hu).1
    have hdrop : xs.drop i = xs[i] :: xs.drop (i + 1) := List.drop_eq_getElem_cons hlt
    refine hs B1 B0 H0 B2 H2 _ _ S2 ?_
    have hf : (match step s xs[i] with
      | .inl s' => foldX step (xs.drop (i + 1)) s'
      | .inr r => .inr r) = foldX step xs s0 := by
      rw [← hf, hdrop]
      rfl
    cases e : step s xs[i] with
    | inl s' =>
      rw [e] at hf
      exact fun B3 H3 σ3 S3 => ⟨hlt, s', B3, hf, S3⟩
    | inr r =>
      rw [e] at hf
      rw [← hf] at P
      exact fun v B3 H3 g3 m3 r3 => P v B3 H3 g3 (hm.trans m3) r3
  · have e : i = xs.length := by omega
    subst e
    have e2 := w.stop B' H' S'.m S'.r.bh
    rw [hlen] at e2
    refine .inl ⟨e2, ?_⟩
    rw [List.drop_length] at hf
    have hf2 : foldX step xs s0 = .inl s := hf.symm
    rw [hf2] at P
    exact P B' H' σ' (S'.low (hm.trans S'.m))
/-- the target a name -/
theorem st_forN {α S : Type} {wi : TI} (xs : List α) (f : α → Dat) (emb : S → List Sl) (step : S → α → S ⊕ Dat) (s0 : S) (h : ITp wi ρ (xs.map f)) (h0 : Wk ρ (emb s0))
    (hb : ∀ s x, x ∈ xs → ST t ((emb s).set k (.d (f x))) (outX emb (step s x))) : ST (tFor wi (gName k) t) ρ (outX emb (foldX step xs s0)) :=
  st_for xs f emb step s0 h h0 fun s x hx => ⟨_, _, gt_name, hb s x hx⟩
theorem st_while {tc : TT} (R : Nat → List Sl) (n : Nat) (h0 : Wk ρ (R 0)) (hs : ∀ i, i < n → ET tc (R i) true ∧ ST t (R i) (.nx (R (i + 1)))) (hd : ET tc (R n) false) : ST (tWhile tc t) ρ (.nx (R n)) := fun Bm B0 H0 B H σ D S P => by
  refine ⟨fun m σ' H' => m ≤ n ∧ ∃ B', SE Bm B0 H0 B' H' σ' (R (n - m)), ⟨n, Nat.le_refl _, B, by rw [Nat.sub_self]; exact S.wk h0⟩, ?_⟩
  rintro m σ' H' ⟨hm, B', S'⟩
  by_cases h : m = 0
  · subst h
    exact hd B' H' σ' S'.r _ fun B2 H2 g2 => iteF (P B2 H2 σ' (S'.mono g2))
  · obtain ⟨h1, h2⟩ := hs (n - m) (by omega)
    refine h1 B' H' σ' S'.r _ fun B2 H2 g2 => iteT ⟨fun σ2 H2 => ∃ B', SE Bm B0 H0 B' H2 σ2 (R (n - (m - 1))), fun σ3 H3 ⟨B3, S3⟩ => ⟨m - 1, by omega, by omega, B3, S3⟩, ?_⟩
    refine h2 Bm B0 H0 B2 H2 σ' _ (S'.mono g2) fun B3 H3 σ3 S3 => ⟨B3, ?_⟩
    have e : n - (m - 1) = n - m + 1 := by omega
    rw [e]
    exact S3

/-! ### comprehensions -/
def wipeS (ρ : List Sl) : List Nat → List Sl
  | [] => ρ
  | v :: vs => (wipeS ρ vs).set v .x
theorem wipe_get (σ : St) (vs : List Nat) (j : Nat) : (wipe σ vs)[j]? = if j ∈ vs then (σ[j]?).map (fun _ => none) else σ[j]? := by
  induction vs with
  | nil => simp [wipe]
  | cons v vs ih =>
    unfold wipe
    by_cases h : v = j
    · subst h
      rw [if_pos (List.mem_cons_self)]
      by_cases hl : v < σ.length
      · rw [List.getElem?_set_self (by rw [wipe_length]; exact hl)]
        simp [hl]
      · rw [List.getElem?_eq_none (by rw [List.length_set, wipe_length]; omega), List.getElem?_eq_none (by omega)]
        rfl
    · rw [List.getElem?_set_ne h, ih]
      have : (j ∈ v :: vs) ↔ j ∈ vs := by
        simp only [List.mem_cons]
        exact ⟨fun z => z.resolve_left fun y => h y.symm, .inr⟩
      simp only [this]
theorem wipe_set {σ : St} {vs : List Nat} {i : Nat} {x : Option V} (h : i ∈ vs) : wipe (σ.set i x) vs = wipe σ vs := by
  apply List.ext_getElem?
  intro j
  rw [wipe_get, wipe_get]
  by_cases hj : j ∈ vs
  · rw [if_pos hj, if_pos hj]
    by_cases e : i = j
    · subst e
      by_cases hl : i < σ.length
      · simp [hl]
      · rw [List.getElem?_eq_none (by rw [List.length_set]; omega), List.getElem?_eq_none (by omega)]
    · rw [List.getElem?_set_ne e]
  · rw [if_neg hj, if_neg hj]
    have e : i ≠ j := fun z => hj (z ▸ h)
    rw [List.getElem?_set_ne e]
theorem wipe_wipe (σ : St) (vs : List Nat) : wipe (wipe σ vs) vs = wipe σ vs := by
  apply List.ext_getElem?
  intro j
  rw [wipe_get, wipe_get]
  by_cases hj : j ∈ vs
  · rw [if_pos hj, if_pos hj]
    cases σ[j]? <;> rfl
  · rw [if_neg hj]
theorem wipe_sets {vs : List Nat} : ∀ {us : List (Nat × V × Dat)} {σ : St}, (∀ u ∈ us, u.1 ∈ vs) → wipe (setv σ us) vs = wipe σ vs
  | [], _, _ => rfl
  | u :: us, σ, h => (wipe_sets (us := us) (σ := σ.set u.1 (some u.2.1)) fun w hw => h w (List.mem_cons_of_mem _ hw)).trans (wipe_set (h u (List.mem_cons_self)))
theorem SR.se {B H : Hp} {σ : St} (S : SR B H σ ρ) : SE B B (fun _ => none) B H σ ρ := ⟨S, ⟨fun _ _ h => (nomatch h), Evl.Ex.refl B, S.bh, fun _ _ h => (nomatch h)⟩, Evl.Ex.refl B, fun _ _ _ _ _ _ => rfl⟩
theorem SR.sets {B H : Hp} {us : List (Nat × V × Dat)} {σ : St} (S : SR B H σ ρ) (h : ∀ u ∈ us, Rep B u.2.1 u.2.2) : SR B H (setv σ us) (sets ρ us) := (S.se.sets h).r
theorem SR.unset {B H : Hp} {σ : St} (S : SR B H σ ρ) (i : Nat) (o : Option V) : SR B H (σ.set i o) (ρ.set i .x) := by
  have key : ∀ {j : Nat} {s : Sl}, (ρ.set i .x)[j]? = some s → (j = i ∧ s = .x ∧ i < ρ.length) ∨ (j ≠ i ∧ ρ[j]? = some s) := fun {j s} e => by
    by_cases hj : i = j
    · subst hj
      by_cases hl : i < ρ.length
      · rw [List.getElem?_set_self hl] at e
        exact .inl ⟨rfl, (Option.some.inj e).symm, hl⟩
      · rw [List.getElem?_eq_none (by rw [List.length_set]; omega)] at e
        cases e
    · rw [List.getElem?_set_ne hj] at e
      exact .inr ⟨fun z => hj z.symm, e⟩
  refine ⟨S.bh, by rw [List.length_set, List.length_set]; exact S.len, fun j s e => ?_, fun a b s t p hn e1 e2 o1 o2 h1 h2 => ?_⟩
  · rcases key e with ⟨rfl, rfl, hl⟩ | ⟨hj, e⟩
    · exact ⟨o, List.getElem?_set_self (by rw [S.len]; exact hl), trivial⟩
    · obtain ⟨ov, h1, h2⟩ := S.at_ j s e
      exact ⟨ov, by rw [List.getElem?_set_ne (fun z => hj z.symm)]; exact h1, h2⟩
  · rcases key e1 with ⟨rfl, rfl, _⟩ | ⟨ha, g1⟩
    · cases o1
    · rcases key e2 with ⟨rfl, rfl, _⟩ | ⟨hb, g2⟩
      · cases o2
      · rw [List.getElem?_set_ne (fun z => ha z.symm)] at h1
        rw [List.getElem?_set_ne (fun z => hb z.symm)] at h2
        exact S.ap a b s t p hn g1 g2 o1 o2 h1 h2
theorem SR.wipe {B H : Hp} {σ : St} (S : SR B H σ ρ) : ∀ vs : List Nat, SR B H (L2.wipe σ vs) (wipeS ρ vs)
  | [] => S
  | v :: vs => (S.wipe vs).unset v none
/-- [e for x in .. if ..], at a heap -/
theorem lc_at {α : Type} {wi : TI} {g : TG} {vs : List Nat} {B H : Hp} {σ : St} (S : SR B H σ ρ) (xs : List α) (f : α → Dat) (p : α → Bool) (val : α → Dat) (h : ∀ R : It → Hp → Prop, (∀ J B1 H1, Go B H B1 H1 → Wl J B1 H1 (xs.map f) → R J H1) → wi σ H R) (hz : xs.length ≤ 90000)
    (hb : ∀ x, x ∈ xs → ∃ ρ' ix, GT g (wipeS ρ vs) (f x) ρ' ix ∧ (∀ i ∈ ix, i ∈ vs) ∧ ET tt ρ' (p x) ∧ (p x = true → EV te ρ' (val x)))
    (Q : VK) (q : ∀ r ws B2 H2, Go B H B2 H2 → H r = none → B2 r = none → H2 r = some (.lst ws) → Reps B2 ws ((xs.filter p).map val) → Q (.ref r) H2) : tLc wi g tt te vs σ H Q := h _ fun J B1 H1 g1 w => fun Dl hD => by
  have hlen : (xs.map f).length = xs.length := List.length_map ..
  have g0 : Go B1 H1 B1 (upd H1 Dl (.lst [])) := Go.own g1.bh hD
  refine ⟨fun i m H' => m = xs.length - i ∧ i ≤ xs.length ∧ ∃ B' ws, Go B1 H1 B' H' ∧ B' Dl = none ∧ H' Dl = some (.lst ws) ∧ Reps B' ws (((xs.take i).filter p).map val),
    ⟨xs.length, by simp, Nat.zero_le _, B1, [], g0, free_of g1.bh hD, upd_same, .nil⟩, ?_⟩
  rintro i m H' ⟨rfl, hi, B', ws, g', n', h', r'⟩
  have wlen : ws.length ≤ xs.length := by
    rw [r'.length, List.length_map]
    exact Nat.le_trans (List.length_filter_le ..) (by simp; omega)
  by_cases hlt : i < xs.length
  · refine .inr ⟨w.go i B' H' (by rw [hlen]; exact hlt) g', fun H2 => i + 1 ≤ xs.length ∧ ∃ B' ws, Go B1 H1 B' H2 ∧ B' Dl = none ∧ H2 Dl = some (.lst ws) ∧ Reps B' ws (((xs.take (i + 1)).filter p).map val), fun H2 z => ⟨_, by omega, rfl, z⟩, fun x H2 y => ?_⟩
    obtain ⟨d', B2, h1, g2, r2⟩ := w.yld i B' H' x H2 (by rw [hlen]; exact hlt) g' y
    have hx : xs[i]? = some xs[i] := List.getElem?_eq_getElem hlt
    rw [List.getElem?_map, hx] at h1
    have hd : f xs[i] = d' := Option.some.inj h1
    subst hd
    obtain ⟨ρ', ix, hg, hv, ht, he⟩ := hb xs[i] (List.getElem_mem hlt)
    obtain ⟨us, e1, e2, e3⟩ := hg B2 H2 (L2.wipe σ vs) x g2.bh r2
    subst e1
    have htake : xs.take (i + 1) = xs.take i ++ [xs[i]] := List.take_succ_eq_append_getElem hlt
    refine e3 _ ⟨(wipe_sets fun u hu => hv _ (e2 u hu).2).trans (wipe_wipe σ vs), ?_⟩
    have gg : Go B H B2 H2 := g1.trans (g'.trans g2)
    have S2 : SR B2 H2 (setv (L2.wipe σ vs) us) (sets (wipeS ρ vs) us) := ((S.mono gg).wipe vs).sets fun u hu => (e2 u hu).1
    refine ht B2 H2 _ S2 _ fun B3 H3 g3 => ?_
    cases hp : p xs[i] with
    | true =>
      refine iteT ?_
      refine he hp B3 H3 _ (S2.mono g3) _ fun y B4 H4 g4 r4 => ?_
      have a4 := g4.hh _ _ (g3.hh _ _ (g2.hh _ _ h'))
      have n4 : B4 Dl = none := g4.no _ _ (g3.hh _ _ (g2.hh _ _ h')) (g3.no _ _ (g2.hh _ _ h') (g2.no _ _ h' n'))
      refine ⟨ws, a4, Evl.sz_lt (by omega), hlt, B4, ws ++ [y], ?_, n4, upd_same, ?_⟩
      · have gt := ((g'.trans g2).trans g3).trans g4
        exact ⟨Evl.Ex.mut gt.hh hD, gt.bb, Evl.Ex.mut gt.bh n4, gt.no⟩
      · rw [htake, List.filter_append, List.map_append]
        have e : ([xs[i]].filter p).map val = [val xs[i]] := by simp [hp]
        rw [e]
        exact (((r'.mono g2.bb).mono g3.bb).mono g4.bb).append (.cons r4 .nil)
    | false =>
      refine iteF ⟨hlt, B3, ws, (g'.trans g2).trans g3, g3.no _ _ (g2.hh _ _ h') (g2.no _ _ h' n'), g3.hh _ _ (g2.hh _ _ h'), ?_⟩
      rw [htake, List.filter_append, List.map_append]
      have e : ([xs[i]].filter p).map val = [] := by simp [hp]
      rw [e, List.append_nil]
      exact (r'.mono g2.bb).mono g3.bb
  · have e : i = xs.length := by omega
    subst e
    have e2 := w.stop B' H' g'
    rw [hlen] at e2
    rw [List.take_length] at r'
    exact .inl ⟨e2, q Dl ws B' H' (g1.trans g') (Evl.fresh_back g1.hh hD) n' h' r'⟩
/-- [e for x in .. if ..] -/
theorem evn_lc {α : Type} {wi : TI} {g : TG} {vs : List Nat} (xs : List α) (f : α → Dat) (p : α → Bool) (val : α → Dat) (h : ITo wi ρ (xs.map f)) (hz : xs.length ≤ 90000)
    (hb : ∀ x, x ∈ xs → ∃ ρ' ix, GT g (wipeS ρ vs) (f x) ρ' ix ∧ (∀ i ∈ ix, i ∈ vs) ∧ ET tt ρ' (p x) ∧ (p x = true → EV te ρ' (val x))) : EVN (tLc wi g tt te vs) ρ ((xs.filter p).map val) := fun B H σ S Q q => lc_at S xs f p val (h B H σ S) hz hb Q q
theorem et_yes : ET tYes ρ true := fun B H σ S Q q => q B H (Go.refl S.bh)
end
end Dl

set_option maxHeartbeats 4000000
namespace Gk
open PySem PySem.Spec PyProof.Rows L2 Dl
/-! ### the text by places -/
def top (i : Nat) : Stmt := PySem.Challenge.pw_standinparts_k38_whole_rules_judged.main.body.getD i (.Pass ⟨0, 0, 0, 0⟩)
abbrev s_is_word : Stmt := top 16
def d_is_word : He.DefD := ⟨("is_word", none), "is_word", "is_word", defArgs s_is_word, defBody s_is_word, defScope s_is_word, [], []⟩
abbrev s_is_integer : Stmt := top 17
def d_is_integer : He.DefD := ⟨("is_integer", none), "is_integer", "is_integer", defArgs s_is_integer, defBody s_is_integer, defScope s_is_integer, [], []⟩
abbrev s_is_date : Stmt := top 18
def d_is_date : He.DefD := ⟨("is_date", none), "is_date", "is_date", defArgs s_is_date, defBody s_is_date, defScope s_is_date, [], []⟩
abbrev s_check_date : Stmt := top 19
def d_check_date : He.DefD := ⟨("check_date", none), "check_date", "check_date", defArgs s_check_date, defBody s_check_date, defScope s_check_date, [], []⟩
abbrev s_ascending : Stmt := top 20
def d_ascending : He.DefD := ⟨("ascending", none), "ascending", "ascending", defArgs s_ascending, defBody s_ascending, defScope s_ascending, [], []⟩
abbrev s_is_order : Stmt := top 23
def d_is_order : He.DefD := ⟨("is_order", none), "is_order", "is_order", defArgs s_is_order, defBody s_is_order, defScope s_is_order, [], []⟩
abbrev s_checked_orders : Stmt := top 24
def d_checked_orders : He.DefD := ⟨("checked_orders", none), "checked_orders", "checked_orders", defArgs s_checked_orders, defBody s_checked_orders, defScope s_checked_orders, [], []⟩
abbrev s_Rule_init : Stmt := inClass (top 25) 0
def d_Rule_init : He.DefD := ⟨("Rule", some "__init__"), "__init__", "Rule.__init__", defArgs s_Rule_init, defBody s_Rule_init, defScope s_Rule_init, [.non], []⟩
abbrev s_Rule_order : Stmt := inClass (top 25) 3
def d_Rule_order : He.DefD := ⟨("Rule", some "order"), "order", "Rule.order", defArgs s_Rule_order, defBody s_Rule_order, defScope s_Rule_order, [], []⟩
abbrev s_Rule_rank : Stmt := inClass (top 25) 6
def d_Rule_rank : He.DefD := ⟨("Rule", some "rank"), "rank", "Rule.rank", defArgs s_Rule_rank, defBody s_Rule_rank, defScope s_Rule_rank, [], []⟩
abbrev s_Rule_measure : Stmt := inClass (top 25) 7
def d_Rule_measure : He.DefD := ⟨("Rule", some "measure"), "measure", "Rule.measure", defArgs s_Rule_measure, defBody s_Rule_measure, defScope s_Rule_measure, [], []⟩
abbrev s_Rule_call : Stmt := inClass (top 25) 8
def d_Rule_call : He.DefD := ⟨("Rule", some "__call__"), "__call__", "Rule.__call__", defArgs s_Rule_call, defBody s_Rule_call, defScope s_Rule_call, [], []⟩
abbrev s_check_shares : Stmt := top 27
def d_check_shares : He.DefD := ⟨("check_shares", none), "check_shares", "check_shares", defArgs s_check_shares, defBody s_check_shares, defScope s_check_shares, [], []⟩
abbrev s_dates_from : Stmt := top 29
def d_dates_from : He.DefD := ⟨("dates_from", none), "dates_from", "dates_from", defArgs s_dates_from, defBody s_dates_from, defScope s_dates_from, [], []⟩
abbrev s_uses_from : Stmt := top 30
def d_uses_from : He.DefD := ⟨("uses_from", none), "uses_from", "uses_from", defArgs s_uses_from, defBody s_uses_from, defScope s_uses_from, [], []⟩
abbrev s_new_use : Stmt := top 31
def d_new_use : He.DefD := ⟨("new_use", none), "new_use", "new_use", defArgs s_new_use, defBody s_new_use, defScope s_new_use, [], []⟩
abbrev s_later_day : Stmt := top 32
def d_later_day : He.DefD := ⟨("later_day", none), "later_day", "later_day", defArgs s_later_day, defBody s_later_day, defScope s_later_day, [], []⟩
abbrev s_date_of_preferring : Stmt := top 33
def d_date_of_preferring : He.DefD := ⟨("date_of_preferring", none), "date_of_preferring", "date_of_preferring", defArgs s_date_of_preferring, defBody s_date_of_preferring, defScope s_date_of_preferring, [], []⟩
abbrev s_pairs_of : Stmt := top 34
def d_pairs_of : He.DefD := ⟨("pairs_of", none), "pairs_of", "pairs_of", defArgs s_pairs_of, defBody s_pairs_of, defScope s_pairs_of, [], []⟩
abbrev s_fault : Stmt := top 35
def d_fault : He.DefD := ⟨("fault", none), "fault", "fault", defArgs s_fault, defBody s_fault, defScope s_fault, [], []⟩
abbrev s_faulty_events : Stmt := top 36
def d_faulty_events : He.DefD := ⟨("faulty_events", none), "faulty_events", "faulty_events", defArgs s_faulty_events, defBody s_faulty_events, defScope s_faulty_events, [], []⟩
abbrev s_is_right : Stmt := top 37
def d_is_right : He.DefD := ⟨("is_right", none), "is_right", "is_right", defArgs s_is_right, defBody s_is_right, defScope s_is_right, [], []⟩
abbrev s_is_allowance : Stmt := top 40
def d_is_allowance : He.DefD := ⟨("is_allowance", none), "is_allowance", "is_allowance", defArgs s_is_allowance, defBody s_is_allowance, defScope s_is_allowance, [], []⟩
abbrev s_is_open : Stmt := top 41
def d_is_open : He.DefD := ⟨("is_open", none), "is_open", "is_open", defArgs s_is_open, defBody s_is_open, defScope s_is_open, [], []⟩
abbrev s_text_of : Stmt := top 42
def d_text_of : He.DefD := ⟨("text_of", none), "text_of", "text_of", defArgs s_text_of, defBody s_text_of, defScope s_text_of, [], []⟩
abbrev s_Allowances_init : Stmt := inClass (top 44) 0
def d_Allowances_init : He.DefD := ⟨("Allowances", some "__init__"), "__init__", "Allowances.__init__", defArgs s_Allowances_init, defBody s_Allowances_init, defScope s_Allowances_init, [.adr (He.dflAt ("Allowances", some "__init__") 0)], [("through", .bl false)]⟩
abbrev s_Allowances_steps : Stmt := inClass (top 44) 3
def d_Allowances_steps : He.DefD := ⟨("Allowances", some "steps"), "steps", "Allowances.steps", defArgs s_Allowances_steps, defBody s_Allowances_steps, defScope s_Allowances_steps, [], []⟩
abbrev s_Allowances_call : Stmt := inClass (top 44) 4
def d_Allowances_call : He.DefD := ⟨("Allowances", some "__call__"), "__call__", "Allowances.__call__", defArgs s_Allowances_call, defBody s_Allowances_call, defScope s_Allowances_call, [], []⟩
abbrev s_Allowances_dates : Stmt := inClass (top 44) 5
def d_Allowances_dates : He.DefD := ⟨("Allowances", some "dates"), "dates", "Allowances.dates", defArgs s_Allowances_dates, defBody s_Allowances_dates, defScope s_Allowances_dates, [], []⟩
abbrev s_is_place : Stmt := top 48
def d_is_place : He.DefD := ⟨("is_place", none), "is_place", "is_place", defArgs s_is_place, defBody s_is_place, defScope s_is_place, [], []⟩
abbrev s_PartsList_init : Stmt := inClass (top 50) 0
def d_PartsList_init : He.DefD := ⟨("PartsList", some "__init__"), "__init__", "PartsList.__init__", defArgs s_PartsList_init, defBody s_PartsList_init, defScope s_PartsList_init, [], []⟩
abbrev s_PartsList_places : Stmt := inClass (top 50) 1
def d_PartsList_places : He.DefD := ⟨("PartsList", some "places"), "places", "PartsList.places", defArgs s_PartsList_places, defBody s_PartsList_places, defScope s_PartsList_places, [], []⟩
abbrev s_PartsList_getitem : Stmt := inClass (top 50) 7
def d_PartsList_getitem : He.DefD := ⟨("PartsList", some "__getitem__"), "__getitem__", "PartsList.__getitem__", defArgs s_PartsList_getitem, defBody s_PartsList_getitem, defScope s_PartsList_getitem, [], []⟩
abbrev s_law_pool : Stmt := top 53
def d_law_pool : He.DefD := ⟨("_law_pool", none), "_law_pool", "_law_pool", defArgs s_law_pool, defBody s_law_pool, defScope s_law_pool, [], []⟩
abbrev s_law_draw : Stmt := top 54
def d_law_draw : He.DefD := ⟨("_law_draw", none), "_law_draw", "_law_draw", defArgs s_law_draw, defBody s_law_draw, defScope s_law_draw, [], []⟩
abbrev s_law_pick : Stmt := top 55
def d_law_pick : He.DefD := ⟨("_law_pick", none), "_law_pick", "_law_pick", defArgs s_law_pick, defBody s_law_pick, defScope s_law_pick, [], []⟩
abbrev s_law_rows_drawn : Stmt := top 56
def d_law_rows_drawn : He.DefD := ⟨("_law_rows_drawn", none), "_law_rows_drawn", "_law_rows_drawn", defArgs s_law_rows_drawn, defBody s_law_rows_drawn, defScope s_law_rows_drawn, [], []⟩
abbrev s_law_plan : Stmt := top 57
def d_law_plan : He.DefD := ⟨("_law_plan", none), "_law_plan", "_law_plan", defArgs s_law_plan, defBody s_law_plan, defScope s_law_plan, [], []⟩
abbrev s_law_list : Stmt := top 58
def d_law_list : He.DefD := ⟨("_law_list", none), "_law_list", "_law_list", defArgs s_law_list, defBody s_law_list, defScope s_law_list, [], []⟩
abbrev s_law_book : Stmt := top 59
def d_law_book : He.DefD := ⟨("_law_book", none), "_law_book", "_law_book", defArgs s_law_book, defBody s_law_book, defScope s_law_book, [], []⟩
abbrev s_law_open : Stmt := top 60
def d_law_open : He.DefD := ⟨("_law_open", none), "_law_open", "_law_open", defArgs s_law_open, defBody s_law_open, defScope s_law_open, [], []⟩
abbrev s_law_fits : Stmt := top 61
def d_law_fits : He.DefD := ⟨("_law_fits", none), "_law_fits", "_law_fits", defArgs s_law_fits, defBody s_law_fits, defScope s_law_fits, [], []⟩
abbrev s_law_place : Stmt := top 62
def d_law_place : He.DefD := ⟨("_law_place", none), "_law_place", "_law_place", defArgs s_law_place, defBody s_law_place, defScope s_law_place, [], []⟩
abbrev s_law_orders : Stmt := top 63
def d_law_orders : He.DefD := ⟨("_law_orders", none), "_law_orders", "_law_orders", defArgs s_law_orders, defBody s_law_orders, defScope s_law_orders, [], []⟩
abbrev s_law_rule : Stmt := top 64
def d_law_rule : He.DefD := ⟨("_law_rule", none), "_law_rule", "_law_rule", defArgs s_law_rule, defBody s_law_rule, defScope s_law_rule, [], []⟩
abbrev s_law_made_rule : Stmt := top 65
def d_law_made_rule : He.DefD := ⟨("_law_made_rule", none), "_law_made_rule", "_law_made_rule", defArgs s_law_made_rule, defBody s_law_made_rule, defScope s_law_made_rule, [], []⟩
abbrev s_law_rank : Stmt := top 66
def d_law_rank : He.DefD := ⟨("_law_rank", none), "_law_rank", "_law_rank", defArgs s_law_rank, defBody s_law_rank, defScope s_law_rank, [], []⟩
abbrev s_law_weight : Stmt := top 67
def d_law_weight : He.DefD := ⟨("_law_weight", none), "_law_weight", "_law_weight", defArgs s_law_weight, defBody s_law_weight, defScope s_law_weight, [], []⟩
abbrev s_law_choice : Stmt := top 68
def d_law_choice : He.DefD := ⟨("_law_choice", none), "_law_choice", "_law_choice", defArgs s_law_choice, defBody s_law_choice, defScope s_law_choice, [], []⟩
abbrev s_law_less : Stmt := top 69
def d_law_less : He.DefD := ⟨("_law_less", none), "_law_less", "_law_less", defArgs s_law_less, defBody s_law_less, defScope s_law_less, [], []⟩
abbrev s_law_done : Stmt := top 71
def d_law_done : He.DefD := ⟨("_law_done", none), "_law_done", "_law_done", defArgs s_law_done, defBody s_law_done, defScope s_law_done, [], []⟩
abbrev s_law_played : Stmt := top 72
def d_law_played : He.DefD := ⟨("_law_played", none), "_law_played", "_law_played", defArgs s_law_played, defBody s_law_played, defScope s_law_played, [], []⟩
abbrev s_law_needs_of : Stmt := top 73
def d_law_needs_of : He.DefD := ⟨("_law_needs_of", none), "_law_needs_of", "_law_needs_of", defArgs s_law_needs_of, defBody s_law_needs_of, defScope s_law_needs_of, [], []⟩
abbrev s_law_units_for : Stmt := top 74
def d_law_units_for : He.DefD := ⟨("_law_units_for", none), "_law_units_for", "_law_units_for", defArgs s_law_units_for, defBody s_law_units_for, defScope s_law_units_for, [], []⟩
abbrev s_law_way_on : Stmt := top 75
def d_law_way_on : He.DefD := ⟨("_law_way_on", none), "_law_way_on", "_law_way_on", defArgs s_law_way_on, defBody s_law_way_on, defScope s_law_way_on, [], []⟩
abbrev s_law_all_served : Stmt := top 76
def d_law_all_served : He.DefD := ⟨("_law_all_served", none), "_law_all_served", "_law_all_served", defArgs s_law_all_served, defBody s_law_all_served, defScope s_law_all_served, [], []⟩
abbrev s_law_first_wrong : Stmt := top 77
def d_law_first_wrong : He.DefD := ⟨("_law_first_wrong", none), "_law_first_wrong", "_law_first_wrong", defArgs s_law_first_wrong, defBody s_law_first_wrong, defScope s_law_first_wrong, [], []⟩
abbrev s_law_turns : Stmt := top 78
def d_law_turns : He.DefD := ⟨("_law_turns", none), "_law_turns", "_law_turns", defArgs s_law_turns, defBody s_law_turns, defScope s_law_turns, [], []⟩
abbrev s_law_uses : Stmt := top 79
def d_law_uses : He.DefD := ⟨("_law_uses", none), "_law_uses", "_law_uses", defArgs s_law_uses, defBody s_law_uses, defScope s_law_uses, [], []⟩
abbrev s_law_spare : Stmt := top 80
def d_law_spare : He.DefD := ⟨("_law_spare", none), "_law_spare", "_law_spare", defArgs s_law_spare, defBody s_law_spare, defScope s_law_spare, [], []⟩
abbrev s_law_may_prefer : Stmt := top 81
def d_law_may_prefer : He.DefD := ⟨("_law_may_prefer", none), "_law_may_prefer", "_law_may_prefer", defArgs s_law_may_prefer, defBody s_law_may_prefer, defScope s_law_may_prefer, [], []⟩
abbrev s_law_days : Stmt := top 82
def d_law_days : He.DefD := ⟨("_law_days", none), "_law_days", "_law_days", defArgs s_law_days, defBody s_law_days, defScope s_law_days, [], []⟩
abbrev s_law_wrong_at : Stmt := top 83
def d_law_wrong_at : He.DefD := ⟨("_law_wrong_at", none), "_law_wrong_at", "_law_wrong_at", defArgs s_law_wrong_at, defBody s_law_wrong_at, defScope s_law_wrong_at, [], []⟩
abbrev s_law_fault_right : Stmt := top 84
def d_law_fault_right : He.DefD := ⟨("_law_fault_right", none), "_law_fault_right", "_law_fault_right", defArgs s_law_fault_right, defBody s_law_fault_right, defScope s_law_fault_right, [], []⟩
abbrev s_law_events_right : Stmt := top 85
def d_law_events_right : He.DefD := ⟨("_law_events_right", none), "_law_events_right", "_law_events_right", defArgs s_law_events_right, defBody s_law_events_right, defScope s_law_events_right, [], []⟩
abbrev s_law : Stmt := top 86
def d_law : He.DefD := ⟨("law", none), "law", "law", defArgs s_law, defBody s_law, defScope s_law, [], []⟩

def fa0 : List He.Fa := [.glo "PartsError", .glo "BadAllowance", .glo "BadPlace", .glo "BadDate", .glo "BadList", .glo "BadAllowances", .glo "BadRule", .glo "BadShare", .glo "UnknownPlace", .glo "TooMany", .glo "is_word", .glo "is_integer", .glo "is_date", .glo "check_date", .glo "ascending", .glo "is_order", .glo "checked_orders", .glo "Rule", .glo "check_shares", .glo "dates_from"]
def fa1 : List He.Fa := [.glo "uses_from", .glo "new_use", .glo "later_day", .glo "date_of_preferring", .glo "pairs_of", .glo "fault", .glo "faulty_events", .glo "is_right", .glo "is_allowance", .glo "is_open", .glo "text_of", .glo "Allowances", .glo "is_place", .glo "PartsList", .glo "_law_pool", .glo "_law_draw", .glo "_law_pick", .glo "_law_rows_drawn", .glo "_law_plan", .glo "_law_list"]
def fa2 : List He.Fa := [.glo "_law_book", .glo "_law_open", .glo "_law_fits", .glo "_law_place", .glo "_law_orders", .glo "_law_rule", .glo "_law_made_rule", .glo "_law_rank", .glo "_law_weight", .glo "_law_choice", .glo "_law_less", .glo "_law_done", .glo "_law_played", .glo "_law_needs_of", .glo "_law_units_for", .glo "_law_way_on", .glo "_law_all_served", .glo "_law_first_wrong", .glo "_law_turns", .glo "_law_uses"]
def fa3 : List He.Fa := [.glo "_law_spare", .glo "_law_may_prefer", .glo "_law_days", .glo "_law_wrong_at", .glo "_law_fault_right", .glo "_law_events_right", .glo "law", .glo "KINDS", .free "isinstance", .free "len", .free "all", .free "sorted", .free "str", .free "int", .free "max", .free "range", .free "enumerate", .free "list", .free "dict", .free "set"]
def fa4 : List He.Fa := [.free "tuple", .free "bool", .int "MOST_LETTERS" 8, .int "LAST_DATE" 9999, .int "MOST_ALLOWANCES" 12, .int "MOST_PLACES" 12, .int "MOST_NUMBER" 999, .str "LETTERS" "abcdefghijklmnopqrstuvwxyz", .cls "Rule", .mkr "Rule", .noat "Rule" "own_kind", .noat "Rule" "own_orders", .meth "Rule" "order", .meth "Rule" "rank", .meth "Rule" "measure", .cls "Allowances", .mkr "Allowances", .noat "Allowances" "own_rows", .noat "Allowances" "own_through", .meth "Allowances" "steps"]
def fa5 : List He.Fa := [.meth "Allowances" "dates", .cls "PartsList", .mkr "PartsList", .noat "PartsList" "own_places", .meth "PartsList" "places"]
def fa : List He.Fa := fa0 ++ fa1 ++ fa2 ++ fa3 ++ fa4 ++ fa5
def fn0 : List He.DefD := [d_is_word, d_is_integer, d_is_date, d_check_date, d_ascending, d_is_order, d_checked_orders, d_Rule_init, d_Rule_order, d_Rule_rank, d_Rule_measure, d_Rule_call, d_check_shares, d_dates_from, d_uses_from, d_new_use, d_later_day, d_date_of_preferring, d_pairs_of, d_fault]
def fn1 : List He.DefD := [d_faulty_events, d_is_right, d_is_allowance, d_is_open, d_text_of, d_Allowances_init, d_Allowances_steps, d_Allowances_call, d_Allowances_dates, d_is_place, d_PartsList_init, d_PartsList_places, d_PartsList_getitem, d_law_pool, d_law_draw, d_law_pick, d_law_rows_drawn, d_law_plan, d_law_list, d_law_book]
def fn2 : List He.DefD := [d_law_open, d_law_fits, d_law_place, d_law_orders, d_law_rule, d_law_made_rule, d_law_rank, d_law_weight, d_law_choice, d_law_less, d_law_done, d_law_played, d_law_needs_of, d_law_units_for, d_law_way_on, d_law_all_served, d_law_first_wrong, d_law_turns, d_law_uses, d_law_spare]
def fn3 : List He.DefD := [d_law_may_prefer, d_law_days, d_law_wrong_at, d_law_fault_right, d_law_events_right, d_law]
def fn : List He.DefD := fn0 ++ fn1 ++ fn2 ++ fn3
def names0 : List PySem.Str := ["_wall", "PartsError", "BadAllowance", "BadPlace", "BadDate", "BadList", "BadAllowances", "BadRule", "BadShare", "UnknownPlace", "TooMany", "LETTERS", "MOST_LETTERS", "LAST_DATE", "is_word", "is_integer", "is_date", "check_date", "ascending", "KINDS"]
def names1 : List PySem.Str := ["is_order", "checked_orders", "Rule", "check_shares", "dates_from", "uses_from", "new_use", "later_day", "date_of_preferring", "pairs_of", "fault", "faulty_events", "is_right", "MOST_ALLOWANCES", "is_allowance", "is_open", "text_of", "check_allowances", "Allowances", "MOST_PLACES"]
def names2 : List PySem.Str := ["MOST_NUMBER", "is_place", "check_list", "PartsList", "times", "_law_pool", "_law_draw", "_law_pick", "_law_rows_drawn", "_law_plan", "_law_list", "_law_book", "_law_open", "_law_fits", "_law_place", "_law_orders", "_law_rule", "_law_made_rule", "_law_rank", "_law_weight"]
def names3 : List PySem.Str := ["_law_choice", "_law_less", "_law_order_done", "_law_done", "_law_played", "_law_needs_of", "_law_units_for", "_law_way_on", "_law_all_served", "_law_first_wrong", "_law_turns", "_law_uses", "_law_spare", "_law_may_prefer", "_law_days", "_law_wrong_at", "_law_fault_right", "_law_events_right"]
def names : List PySem.Str := names0 ++ names1 ++ names2 ++ names3
abbrev s_Rule_kind : Stmt := inClass (top 25) 2
def d_Rule_kind : He.DefD := ⟨("Rule", some "kind"), "kind", "Rule.kind", defArgs s_Rule_kind, defBody s_Rule_kind, defScope s_Rule_kind, [], []⟩
/-! ### what else the head tells: the instances that may be called, an own subscript, a property, the tuple of the kinds -/
/-- the getter of the property -/
def getA (K : PySem.W.Frag) : Addr := match PySem.W.recIn K (He.ma K (He.ga K "Rule") "kind") "property" with
  | some (.ref g :: _) => g
  | _ => 0
def fnWA (K : PySem.W.Frag) (a : Addr) : He.FnW := match K.lookup a with
  | some ⟨_, _, .func fd, _⟩ => some (fd.name, fd.qualname, fd.params, fd.body, fd.scope, fd.globals, fd.closure, fd.builtins)
  | _ => none
def okA (K : PySem.W.Frag) (a : Addr) (q : Str) : Bool := PySem.W.keepIn K (.ref a) && (match K.lookup a with
  | some ⟨_, _, .func fd, _⟩ => PySem.W.codeIn K fd.code q && (He.dflB K fd.defaults [] && He.kwdB K fd.kwdefaults [])
  | _ => false)
def calB (K : PySem.W.Frag) (C m : Str) : Bool := He.eqO (PySem.W.findIn K (.ref (He.ga K C)) m) (some (some (.ref (He.ma K (He.ga K C) m)))) && (PySem.W.isFn K (.ref (He.ma K (He.ga K C) m)) && PySem.W.fnIn K (He.ma K (He.ga K C) m))
def propB (K : PySem.W.Frag) : Bool := He.eqO (PySem.W.findIn K (.ref (He.ga K "Rule")) "kind") (some (some (.ref (He.ma K (He.ga K "Rule") "kind")))) &&
  (He.eqO (PySem.W.specialIn K (.ref (He.ma K (He.ga K "Rule") "kind")) "__get__") (some (some (.builtin "property.__get__"))) && (decide (PySem.W.takesIn K (.ref (He.ma K (He.ga K "Rule") "kind")) = some true) &&
    (match PySem.W.recIn K (He.ma K (He.ga K "Rule") "kind") "property" with
      | some (.ref _ :: _) => true
      | _ => false)))
def exB (K : PySem.W.Frag) : Bool := calB K "Rule" "__call__" && (calB K "Allowances" "__call__" && (calB K "PartsList" "__getitem__" && (propB K && (okA K (getA K) "Rule.kind" && He.tupB K "KINDS" [.str "row", .str "plain", .str "eldest"]))))
theorem funD_at {K : PySem.W.Frag} {a : Addr} {d : He.DefD} (e : fnWA K a = d.val) (c : okA K a d.qual = true) : ∃ fd, FunD K d.name d.qual d.params d.body d.scope [] [] a fd := by
  obtain ⟨kp, c2⟩ := Bool.and_eq_true_iff.mp c
  unfold fnWA at e
  cases q : K.lookup a with
  | none => rw [q] at c2; cases c2
  | some o =>
    obtain ⟨oc, od, dt, osl⟩ := o
    rw [q] at c2 e
    cases dt with
    | func fd =>
      obtain ⟨n1, n2, n3, n4, n5, n6, n7, n8, n9, n10, n11, n12, n13, n14, n15⟩ := fd
      have e2 : (some (n1, n2, n3, n4, n5, n6, n7, n15) : He.FnW) = some (d.name, d.qual, d.params, .stmts d.body, d.scope, mainGlobals, [], builtinsNs) := e
      simp only [Option.some.injEq, Prod.mk.injEq] at e2
      obtain ⟨a1, a2, a3, a4, a5, a6, a7, a8⟩ := e2
      subst a1 a2 a3 a4 a5 a6 a7 a8
      obtain ⟨k1, k2⟩ := Bool.and_eq_true_iff.mp (show (PySem.W.codeIn K n13 d.qual && (He.dflB K n8 [] && He.kwdB K n9 [])) = true from c2)
      obtain ⟨k3, k4⟩ := Bool.and_eq_true_iff.mp k2
      exact ⟨_, ⟨oc, od, n8, n9, n10, n11, n12, n13, n14, osl, rfl, q, k1, He.dflB_ok k3, He.kwdB_ok k4⟩, kp⟩
    | _ => cases c2
/-- the head's facts, of the written part K and the module's names -/
structure Tx (K : PySem.W.Frag) (mg : Str → Option Value) : Prop where
  s : He.SaysD fa fn K
  ex : exB K = true
  kd : fnWA K (getA K) = d_Rule_kind.val
  glo : ∀ {x : Str} (i : Nat), fa[i]? = some (.glo x) → mg x = some (.ref (He.ga K x))
  fre : ∀ {x : Str} (i : Nat), fa[i]? = some (.free x) → mg x = none
  int : ∀ {x : Str} {i : Int} (k : Nat), fa[k]? = some (.int x i) → ∃ u, mg x = some u ∧ RelV (.int i) u
  str : ∀ {x z : Str} (k : Nat), fa[k]? = some (.str x z) → ∃ u, mg x = some u ∧ RelV (.str z) u
section
variable {P : Program} {w : World} {K : PySem.W.Frag} {mg : Str → Option Value} {base : Heap}
theorem Tx.of {h : Heap} (X : K.In h) (G : h.Ns mainGlobals mg) (c : He.SaysD fa fn K) (e : exB K = true) (k : fnWA K (getA K) = d_Rule_kind.val) : Tx K mg :=
  ⟨c, e, k, fun {x} i h => He.glo_ok X G (c.fact i h), fun {x} i h => He.free_ok X G (c.fact i h), fun {x i} k h => by
    obtain ⟨t, e⟩ := He.int_ok X G (c.fact k h)
    exact ⟨_, e, t, rfl⟩, fun {x z} k h => by
    obtain ⟨t, e⟩ := He.str_ok X G (c.fact k h)
    exact ⟨_, e, t, rfl⟩⟩
theorem Tx.xs (T : Tx K mg) : calB K "Rule" "__call__" = true ∧ calB K "Allowances" "__call__" = true ∧ calB K "PartsList" "__getitem__" = true ∧ propB K = true ∧ okA K (getA K) "Rule.kind" = true ∧ He.tupB K "KINDS" [.str "row", .str "plain", .str "eldest"] = true := by
  have e := T.ex
  unfold exB at e
  obtain ⟨e1, e⟩ := Bool.and_eq_true_iff.mp e
  obtain ⟨e2, e⟩ := Bool.and_eq_true_iff.mp e
  obtain ⟨e3, e⟩ := Bool.and_eq_true_iff.mp e
  obtain ⟨e4, e⟩ := Bool.and_eq_true_iff.mp e
  obtain ⟨e5, e6⟩ := Bool.and_eq_true_iff.mp e
  exact ⟨e1, e2, e3, e4, e5, e6⟩
theorem cal_of {C m : Str} (h : calB K C m = true) : PySem.W.findIn K (.ref (He.ga K C)) m = some (some (.ref (He.ma K (He.ga K C) m))) ∧ PySem.W.isFn K (.ref (He.ma K (He.ga K C) m)) = true ∧ PySem.W.fnIn K (He.ma K (He.ga K C) m) = true := by
  unfold calB at h
  obtain ⟨e1, e⟩ := Bool.and_eq_true_iff.mp h
  obtain ⟨e2, e3⟩ := Bool.and_eq_true_iff.mp e
  exact ⟨He.eqO_ok e1, e2, e3⟩
theorem Tx.co_Rule (T : Tx K mg) : StX.CallO K (He.ga K "Rule") (He.ma K (He.ga K "Rule") "__call__") := let ⟨a, b, c⟩ := cal_of T.xs.1; ⟨a, b, c⟩
theorem Tx.co_Book (T : Tx K mg) : StX.CallO K (He.ga K "Allowances") (He.ma K (He.ga K "Allowances") "__call__") := let ⟨a, b, c⟩ := cal_of T.xs.2.1; ⟨a, b, c⟩
theorem Tx.prop (T : Tx K mg) : PropOf K (He.ga K "Rule") "kind" (He.ma K (He.ga K "Rule") "kind") (getA K) := by
  have h := T.xs.2.2.2.1
  unfold propB at h
  obtain ⟨e1, e⟩ := Bool.and_eq_true_iff.mp h
  obtain ⟨e2, e⟩ := Bool.and_eq_true_iff.mp e
  obtain ⟨e3, e4⟩ := Bool.and_eq_true_iff.mp e
  refine ⟨He.eqO_ok e1, He.eqO_ok e2, of_decide_eq_true e3, ?_⟩
  unfold getA
  cases q : PySem.W.recIn K (He.ma K (He.ga K "Rule") "kind") "property" with
  | none => rw [q] at e4; cases e4
  | some l =>
    rw [q] at e4
    cases l with
    | nil => cases e4
    | cons v r =>
      cases v with
      | ref g => exact ⟨r, rfl⟩
      | _ => cases e4
theorem Tx.g_PartsError (T : Tx K mg) : mg "PartsError" = some (.ref (He.ga K "PartsError")) := T.glo (x := "PartsError") 0 rfl
theorem Tx.g_BadAllowance (T : Tx K mg) : mg "BadAllowance" = some (.ref (He.ga K "BadAllowance")) := T.glo (x := "BadAllowance") 1 rfl
theorem Tx.g_BadPlace (T : Tx K mg) : mg "BadPlace" = some (.ref (He.ga K "BadPlace")) := T.glo (x := "BadPlace") 2 rfl
theorem Tx.g_BadDate (T : Tx K mg) : mg "BadDate" = some (.ref (He.ga K "BadDate")) := T.glo (x := "BadDate") 3 rfl
theorem Tx.g_BadList (T : Tx K mg) : mg "BadList" = some (.ref (He.ga K "BadList")) := T.glo (x := "BadList") 4 rfl
theorem Tx.g_BadAllowances (T : Tx K mg) : mg "BadAllowances" = some (.ref (He.ga K "BadAllowances")) := T.glo (x := "BadAllowances") 5 rfl
theorem Tx.g_BadRule (T : Tx K mg) : mg "BadRule" = some (.ref (He.ga K "BadRule")) := T.glo (x := "BadRule") 6 rfl
theorem Tx.g_BadShare (T : Tx K mg) : mg "BadShare" = some (.ref (He.ga K "BadShare")) := T.glo (x := "BadShare") 7 rfl
theorem Tx.g_UnknownPlace (T : Tx K mg) : mg "UnknownPlace" = some (.ref (He.ga K "UnknownPlace")) := T.glo (x := "UnknownPlace") 8 rfl
theorem Tx.g_TooMany (T : Tx K mg) : mg "TooMany" = some (.ref (He.ga K "TooMany")) := T.glo (x := "TooMany") 9 rfl
theorem Tx.g_is_word (T : Tx K mg) : mg "is_word" = some (.ref (He.ga K "is_word")) := T.glo (x := "is_word") 10 rfl
theorem Tx.g_is_integer (T : Tx K mg) : mg "is_integer" = some (.ref (He.ga K "is_integer")) := T.glo (x := "is_integer") 11 rfl
theorem Tx.g_is_date (T : Tx K mg) : mg "is_date" = some (.ref (He.ga K "is_date")) := T.glo (x := "is_date") 12 rfl
theorem Tx.g_check_date (T : Tx K mg) : mg "check_date" = some (.ref (He.ga K "check_date")) := T.glo (x := "check_date") 13 rfl
theorem Tx.g_ascending (T : Tx K mg) : mg "ascending" = some (.ref (He.ga K "ascending")) := T.glo (x := "ascending") 14 rfl
theorem Tx.g_is_order (T : Tx K mg) : mg "is_order" = some (.ref (He.ga K "is_order")) := T.glo (x := "is_order") 15 rfl
theorem Tx.g_checked_orders (T : Tx K mg) : mg "checked_orders" = some (.ref (He.ga K "checked_orders")) := T.glo (x := "checked_orders") 16 rfl
theorem Tx.g_Rule (T : Tx K mg) : mg "Rule" = some (.ref (He.ga K "Rule")) := T.glo (x := "Rule") 17 rfl
theorem Tx.g_check_shares (T : Tx K mg) : mg "check_shares" = some (.ref (He.ga K "check_shares")) := T.glo (x := "check_shares") 18 rfl
theorem Tx.g_dates_from (T : Tx K mg) : mg "dates_from" = some (.ref (He.ga K "dates_from")) := T.glo (x := "dates_from") 19 rfl
theorem Tx.g_uses_from (T : Tx K mg) : mg "uses_from" = some (.ref (He.ga K "uses_from")) := T.glo (x := "uses_from") 20 rfl
theorem Tx.g_new_use (T : Tx K mg) : mg "new_use" = some (.ref (He.ga K "new_use")) := T.glo (x := "new_use") 21 rfl
theorem Tx.g_later_day (T : Tx K mg) : mg "later_day" = some (.ref (He.ga K "later_day")) := T.glo (x := "later_day") 22 rfl
theorem Tx.g_date_of_preferring (T : Tx K mg) : mg "date_of_preferring" = some (.ref (He.ga K "date_of_preferring")) := T.glo (x := "date_of_preferring") 23 rfl
theorem Tx.g_pairs_of (T : Tx K mg) : mg "pairs_of" = some (.ref (He.ga K "pairs_of")) := T.glo (x := "pairs_of") 24 rfl
theorem Tx.g_fault (T : Tx K mg) : mg "fault" = some (.ref (He.ga K "fault")) := T.glo (x := "fault") 25 rfl
theorem Tx.g_faulty_events (T : Tx K mg) : mg "faulty_events" = some (.ref (He.ga K "faulty_events")) := T.glo (x := "faulty_events") 26 rfl
theorem Tx.g_is_right (T : Tx K mg) : mg "is_right" = some (.ref (He.ga K "is_right")) := T.glo (x := "is_right") 27 rfl
theorem Tx.g_is_allowance (T : Tx K mg) : mg "is_allowance" = some (.ref (He.ga K "is_allowance")) := T.glo (x := "is_allowance") 28 rfl
theorem Tx.g_is_open (T : Tx K mg) : mg "is_open" = some (.ref (He.ga K "is_open")) := T.glo (x := "is_open") 29 rfl
theorem Tx.g_text_of (T : Tx K mg) : mg "text_of" = some (.ref (He.ga K "text_of")) := T.glo (x := "text_of") 30 rfl
theorem Tx.g_Allowances (T : Tx K mg) : mg "Allowances" = some (.ref (He.ga K "Allowances")) := T.glo (x := "Allowances") 31 rfl
theorem Tx.g_is_place (T : Tx K mg) : mg "is_place" = some (.ref (He.ga K "is_place")) := T.glo (x := "is_place") 32 rfl
theorem Tx.g_PartsList (T : Tx K mg) : mg "PartsList" = some (.ref (He.ga K "PartsList")) := T.glo (x := "PartsList") 33 rfl
theorem Tx.g__law_pool (T : Tx K mg) : mg "_law_pool" = some (.ref (He.ga K "_law_pool")) := T.glo (x := "_law_pool") 34 rfl
theorem Tx.g__law_draw (T : Tx K mg) : mg "_law_draw" = some (.ref (He.ga K "_law_draw")) := T.glo (x := "_law_draw") 35 rfl
theorem Tx.g__law_pick (T : Tx K mg) : mg "_law_pick" = some (.ref (He.ga K "_law_pick")) := T.glo (x := "_law_pick") 36 rfl
theorem Tx.g__law_rows_drawn (T : Tx K mg) : mg "_law_rows_drawn" = some (.ref (He.ga K "_law_rows_drawn")) := T.glo (x := "_law_rows_drawn") 37 rfl
theorem Tx.g__law_plan (T : Tx K mg) : mg "_law_plan" = some (.ref (He.ga K "_law_plan")) := T.glo (x := "_law_plan") 38 rfl
theorem Tx.g__law_list (T : Tx K mg) : mg "_law_list" = some (.ref (He.ga K "_law_list")) := T.glo (x := "_law_list") 39 rfl
theorem Tx.g__law_book (T : Tx K mg) : mg "_law_book" = some (.ref (He.ga K "_law_book")) := T.glo (x := "_law_book") 40 rfl
theorem Tx.g__law_open (T : Tx K mg) : mg "_law_open" = some (.ref (He.ga K "_law_open")) := T.glo (x := "_law_open") 41 rfl
theorem Tx.g__law_fits (T : Tx K mg) : mg "_law_fits" = some (.ref (He.ga K "_law_fits")) := T.glo (x := "_law_fits") 42 rfl
theorem Tx.g__law_place (T : Tx K mg) : mg "_law_place" = some (.ref (He.ga K "_law_place")) := T.glo (x := "_law_place") 43 rfl
theorem Tx.g__law_orders (T : Tx K mg) : mg "_law_orders" = some (.ref (He.ga K "_law_orders")) := T.glo (x := "_law_orders") 44 rfl
theorem Tx.g__law_rule (T : Tx K mg) : mg "_law_rule" = some (.ref (He.ga K "_law_rule")) := T.glo (x := "_law_rule") 45 rfl
theorem Tx.g__law_made_rule (T : Tx K mg) : mg "_law_made_rule" = some (.ref (He.ga K "_law_made_rule")) := T.glo (x := "_law_made_rule") 46 rfl
theorem Tx.g__law_rank (T : Tx K mg) : mg "_law_rank" = some (.ref (He.ga K "_law_rank")) := T.glo (x := "_law_rank") 47 rfl
theorem Tx.g__law_weight (T : Tx K mg) : mg "_law_weight" = some (.ref (He.ga K "_law_weight")) := T.glo (x := "_law_weight") 48 rfl
theorem Tx.g__law_choice (T : Tx K mg) : mg "_law_choice" = some (.ref (He.ga K "_law_choice")) := T.glo (x := "_law_choice") 49 rfl
theorem Tx.g__law_less (T : Tx K mg) : mg "_law_less" = some (.ref (He.ga K "_law_less")) := T.glo (x := "_law_less") 50 rfl
theorem Tx.g__law_done (T : Tx K mg) : mg "_law_done" = some (.ref (He.ga K "_law_done")) := T.glo (x := "_law_done") 51 rfl
theorem Tx.g__law_played (T : Tx K mg) : mg "_law_played" = some (.ref (He.ga K "_law_played")) := T.glo (x := "_law_played") 52 rfl
theorem Tx.g__law_needs_of (T : Tx K mg) : mg "_law_needs_of" = some (.ref (He.ga K "_law_needs_of")) := T.glo (x := "_law_needs_of") 53 rfl
theorem Tx.g__law_units_for (T : Tx K mg) : mg "_law_units_for" = some (.ref (He.ga K "_law_units_for")) := T.glo (x := "_law_units_for") 54 rfl
theorem Tx.g__law_way_on (T : Tx K mg) : mg "_law_way_on" = some (.ref (He.ga K "_law_way_on")) := T.glo (x := "_law_way_on") 55 rfl
theorem Tx.g__law_all_served (T : Tx K mg) : mg "_law_all_served" = some (.ref (He.ga K "_law_all_served")) := T.glo (x := "_law_all_served") 56 rfl
theorem Tx.g__law_first_wrong (T : Tx K mg) : mg "_law_first_wrong" = some (.ref (He.ga K "_law_first_wrong")) := T.glo (x := "_law_first_wrong") 57 rfl
theorem Tx.g__law_turns (T : Tx K mg) : mg "_law_turns" = some (.ref (He.ga K "_law_turns")) := T.glo (x := "_law_turns") 58 rfl
theorem Tx.g__law_uses (T : Tx K mg) : mg "_law_uses" = some (.ref (He.ga K "_law_uses")) := T.glo (x := "_law_uses") 59 rfl
theorem Tx.g__law_spare (T : Tx K mg) : mg "_law_spare" = some (.ref (He.ga K "_law_spare")) := T.glo (x := "_law_spare") 60 rfl
theorem Tx.g__law_may_prefer (T : Tx K mg) : mg "_law_may_prefer" = some (.ref (He.ga K "_law_may_prefer")) := T.glo (x := "_law_may_prefer") 61 rfl
theorem Tx.g__law_days (T : Tx K mg) : mg "_law_days" = some (.ref (He.ga K "_law_days")) := T.glo (x := "_law_days") 62 rfl
theorem Tx.g__law_wrong_at (T : Tx K mg) : mg "_law_wrong_at" = some (.ref (He.ga K "_law_wrong_at")) := T.glo (x := "_law_wrong_at") 63 rfl
theorem Tx.g__law_fault_right (T : Tx K mg) : mg "_law_fault_right" = some (.ref (He.ga K "_law_fault_right")) := T.glo (x := "_law_fault_right") 64 rfl
theorem Tx.g__law_events_right (T : Tx K mg) : mg "_law_events_right" = some (.ref (He.ga K "_law_events_right")) := T.glo (x := "_law_events_right") 65 rfl
theorem Tx.g_law (T : Tx K mg) : mg "law" = some (.ref (He.ga K "law")) := T.glo (x := "law") 66 rfl
theorem Tx.f_isinstance (T : Tx K mg) : mg "isinstance" = none := T.fre (x := "isinstance") 68 rfl
theorem Tx.f_len (T : Tx K mg) : mg "len" = none := T.fre (x := "len") 69 rfl
theorem Tx.f_all (T : Tx K mg) : mg "all" = none := T.fre (x := "all") 70 rfl
theorem Tx.f_sorted (T : Tx K mg) : mg "sorted" = none := T.fre (x := "sorted") 71 rfl
theorem Tx.f_str (T : Tx K mg) : mg "str" = none := T.fre (x := "str") 72 rfl
theorem Tx.f_int (T : Tx K mg) : mg "int" = none := T.fre (x := "int") 73 rfl
theorem Tx.f_max (T : Tx K mg) : mg "max" = none := T.fre (x := "max") 74 rfl
theorem Tx.f_range (T : Tx K mg) : mg "range" = none := T.fre (x := "range") 75 rfl
theorem Tx.f_enumerate (T : Tx K mg) : mg "enumerate" = none := T.fre (x := "enumerate") 76 rfl
theorem Tx.f_list (T : Tx K mg) : mg "list" = none := T.fre (x := "list") 77 rfl
theorem Tx.f_dict (T : Tx K mg) : mg "dict" = none := T.fre (x := "dict") 78 rfl
theorem Tx.f_set (T : Tx K mg) : mg "set" = none := T.fre (x := "set") 79 rfl
theorem Tx.f_tuple (T : Tx K mg) : mg "tuple" = none := T.fre (x := "tuple") 80 rfl
theorem Tx.f_bool (T : Tx K mg) : mg "bool" = none := T.fre (x := "bool") 81 rfl
theorem Tx.g_MOST_LETTERS (T : Tx K mg) : ∃ u, mg "MOST_LETTERS" = some u ∧ RelV (.int 8) u := T.int (x := "MOST_LETTERS") (i := 8) 82 rfl
theorem Tx.g_LAST_DATE (T : Tx K mg) : ∃ u, mg "LAST_DATE" = some u ∧ RelV (.int 9999) u := T.int (x := "LAST_DATE") (i := 9999) 83 rfl
theorem Tx.g_MOST_ALLOWANCES (T : Tx K mg) : ∃ u, mg "MOST_ALLOWANCES" = some u ∧ RelV (.int 12) u := T.int (x := "MOST_ALLOWANCES") (i := 12) 84 rfl
theorem Tx.g_MOST_PLACES (T : Tx K mg) : ∃ u, mg "MOST_PLACES" = some u ∧ RelV (.int 12) u := T.int (x := "MOST_PLACES") (i := 12) 85 rfl
theorem Tx.g_MOST_NUMBER (T : Tx K mg) : ∃ u, mg "MOST_NUMBER" = some u ∧ RelV (.int 999) u := T.int (x := "MOST_NUMBER") (i := 999) 86 rfl
theorem Tx.g_LETTERS (T : Tx K mg) : ∃ u, mg "LETTERS" = some u ∧ RelV (.str "abcdefghijklmnopqrstuvwxyz") u := T.str (x := "LETTERS") (z := "abcdefghijklmnopqrstuvwxyz") 87 rfl
theorem Tx.cls_Rule (T : Tx K mg) : Cls K (He.ga K "Rule") := He.cls_ok (T.s.fact 88 (f := .cls "Rule") rfl)
theorem Tx.mk_Rule (T : Tx K mg) : Mk K (He.ga K "Rule") (He.ma K (He.ga K "Rule") "__init__") := He.mkr_ok (T.s.fact 89 (f := .mkr "Rule") rfl)
theorem Tx.no_own_kind (T : Tx K mg) : NoAttr K (He.ga K "Rule") "own_kind" := He.noat_ok (T.s.fact 90 (f := .noat "Rule" "own_kind") rfl)
theorem Tx.no_own_orders (T : Tx K mg) : NoAttr K (He.ga K "Rule") "own_orders" := He.noat_ok (T.s.fact 91 (f := .noat "Rule" "own_orders") rfl)
theorem Tx.me_order (T : Tx K mg) : Meth K (He.ga K "Rule") "order" (He.ma K (He.ga K "Rule") "order") := He.meth_ok (T.s.fact 92 (f := .meth "Rule" "order") rfl)
theorem Tx.me_rank (T : Tx K mg) : Meth K (He.ga K "Rule") "rank" (He.ma K (He.ga K "Rule") "rank") := He.meth_ok (T.s.fact 93 (f := .meth "Rule" "rank") rfl)
theorem Tx.me_measure (T : Tx K mg) : Meth K (He.ga K "Rule") "measure" (He.ma K (He.ga K "Rule") "measure") := He.meth_ok (T.s.fact 94 (f := .meth "Rule" "measure") rfl)
theorem Tx.cls_Allowances (T : Tx K mg) : Cls K (He.ga K "Allowances") := He.cls_ok (T.s.fact 95 (f := .cls "Allowances") rfl)
theorem Tx.mk_Allowances (T : Tx K mg) : Mk K (He.ga K "Allowances") (He.ma K (He.ga K "Allowances") "__init__") := He.mkr_ok (T.s.fact 96 (f := .mkr "Allowances") rfl)
theorem Tx.no_own_rows (T : Tx K mg) : NoAttr K (He.ga K "Allowances") "own_rows" := He.noat_ok (T.s.fact 97 (f := .noat "Allowances" "own_rows") rfl)
theorem Tx.no_own_through (T : Tx K mg) : NoAttr K (He.ga K "Allowances") "own_through" := He.noat_ok (T.s.fact 98 (f := .noat "Allowances" "own_through") rfl)
theorem Tx.me_steps (T : Tx K mg) : Meth K (He.ga K "Allowances") "steps" (He.ma K (He.ga K "Allowances") "steps") := He.meth_ok (T.s.fact 99 (f := .meth "Allowances" "steps") rfl)
theorem Tx.me_dates (T : Tx K mg) : Meth K (He.ga K "Allowances") "dates" (He.ma K (He.ga K "Allowances") "dates") := He.meth_ok (T.s.fact 100 (f := .meth "Allowances" "dates") rfl)
theorem Tx.cls_PartsList (T : Tx K mg) : Cls K (He.ga K "PartsList") := He.cls_ok (T.s.fact 101 (f := .cls "PartsList") rfl)
theorem Tx.mk_PartsList (T : Tx K mg) : Mk K (He.ga K "PartsList") (He.ma K (He.ga K "PartsList") "__init__") := He.mkr_ok (T.s.fact 102 (f := .mkr "PartsList") rfl)
theorem Tx.no_own_places (T : Tx K mg) : NoAttr K (He.ga K "PartsList") "own_places" := He.noat_ok (T.s.fact 103 (f := .noat "PartsList" "own_places") rfl)
theorem Tx.me_places (T : Tx K mg) : Meth K (He.ga K "PartsList") "places" (He.ma K (He.ga K "PartsList") "places") := He.meth_ok (T.s.fact 104 (f := .meth "PartsList" "places") rfl)
theorem Tx.d_is_word (T : Tx K mg) : ∃ fd, FunD K d_is_word.name d_is_word.qual d_is_word.params d_is_word.body d_is_word.scope (d_is_word.dvs K) (d_is_word.kws K) (He.fAd K d_is_word.at_) fd := T.s.def_ 0 rfl
theorem Tx.d_is_integer (T : Tx K mg) : ∃ fd, FunD K d_is_integer.name d_is_integer.qual d_is_integer.params d_is_integer.body d_is_integer.scope (d_is_integer.dvs K) (d_is_integer.kws K) (He.fAd K d_is_integer.at_) fd := T.s.def_ 1 rfl
theorem Tx.d_is_date (T : Tx K mg) : ∃ fd, FunD K d_is_date.name d_is_date.qual d_is_date.params d_is_date.body d_is_date.scope (d_is_date.dvs K) (d_is_date.kws K) (He.fAd K d_is_date.at_) fd := T.s.def_ 2 rfl
theorem Tx.d_check_date (T : Tx K mg) : ∃ fd, FunD K d_check_date.name d_check_date.qual d_check_date.params d_check_date.body d_check_date.scope (d_check_date.dvs K) (d_check_date.kws K) (He.fAd K d_check_date.at_) fd := T.s.def_ 3 rfl
theorem Tx.d_ascending (T : Tx K mg) : ∃ fd, FunD K d_ascending.name d_ascending.qual d_ascending.params d_ascending.body d_ascending.scope (d_ascending.dvs K) (d_ascending.kws K) (He.fAd K d_ascending.at_) fd := T.s.def_ 4 rfl
theorem Tx.d_is_order (T : Tx K mg) : ∃ fd, FunD K d_is_order.name d_is_order.qual d_is_order.params d_is_order.body d_is_order.scope (d_is_order.dvs K) (d_is_order.kws K) (He.fAd K d_is_order.at_) fd := T.s.def_ 5 rfl
theorem Tx.d_checked_orders (T : Tx K mg) : ∃ fd, FunD K d_checked_orders.name d_checked_orders.qual d_checked_orders.params d_checked_orders.body d_checked_orders.scope (d_checked_orders.dvs K) (d_checked_orders.kws K) (He.fAd K d_checked_orders.at_) fd := T.s.def_ 6 rfl
theorem Tx.d_Rule_init (T : Tx K mg) : ∃ fd, FunD K d_Rule_init.name d_Rule_init.qual d_Rule_init.params d_Rule_init.body d_Rule_init.scope (d_Rule_init.dvs K) (d_Rule_init.kws K) (He.fAd K d_Rule_init.at_) fd := T.s.def_ 7 rfl
theorem Tx.d_Rule_order (T : Tx K mg) : ∃ fd, FunD K d_Rule_order.name d_Rule_order.qual d_Rule_order.params d_Rule_order.body d_Rule_order.scope (d_Rule_order.dvs K) (d_Rule_order.kws K) (He.fAd K d_Rule_order.at_) fd := T.s.def_ 8 rfl
theorem Tx.d_Rule_rank (T : Tx K mg) : ∃ fd, FunD K d_Rule_rank.name d_Rule_rank.qual d_Rule_rank.params d_Rule_rank.body d_Rule_rank.scope (d_Rule_rank.dvs K) (d_Rule_rank.kws K) (He.fAd K d_Rule_rank.at_) fd := T.s.def_ 9 rfl
theorem Tx.d_Rule_measure (T : Tx K mg) : ∃ fd, FunD K d_Rule_measure.name d_Rule_measure.qual d_Rule_measure.params d_Rule_measure.body d_Rule_measure.scope (d_Rule_measure.dvs K) (d_Rule_measure.kws K) (He.fAd K d_Rule_measure.at_) fd := T.s.def_ 10 rfl
theorem Tx.d_Rule_call (T : Tx K mg) : ∃ fd, FunD K d_Rule_call.name d_Rule_call.qual d_Rule_call.params d_Rule_call.body d_Rule_call.scope (d_Rule_call.dvs K) (d_Rule_call.kws K) (He.fAd K d_Rule_call.at_) fd := T.s.def_ 11 rfl
theorem Tx.d_check_shares (T : Tx K mg) : ∃ fd, FunD K d_check_shares.name d_check_shares.qual d_check_shares.params d_check_shares.body d_check_shares.scope (d_check_shares.dvs K) (d_check_shares.kws K) (He.fAd K d_check_shares.at_) fd := T.s.def_ 12 rfl
theorem Tx.d_dates_from (T : Tx K mg) : ∃ fd, FunD K d_dates_from.name d_dates_from.qual d_dates_from.params d_dates_from.body d_dates_from.scope (d_dates_from.dvs K) (d_dates_from.kws K) (He.fAd K d_dates_from.at_) fd := T.s.def_ 13 rfl
theorem Tx.d_uses_from (T : Tx K mg) : ∃ fd, FunD K d_uses_from.name d_uses_from.qual d_uses_from.params d_uses_from.body d_uses_from.scope (d_uses_from.dvs K) (d_uses_from.kws K) (He.fAd K d_uses_from.at_) fd := T.s.def_ 14 rfl
theorem Tx.d_new_use (T : Tx K mg) : ∃ fd, FunD K d_new_use.name d_new_use.qual d_new_use.params d_new_use.body d_new_use.scope (d_new_use.dvs K) (d_new_use.kws K) (He.fAd K d_new_use.at_) fd := T.s.def_ 15 rfl
theorem Tx.d_later_day (T : Tx K mg) : ∃ fd, FunD K d_later_day.name d_later_day.qual d_later_day.params d_later_day.body d_later_day.scope (d_later_day.dvs K) (d_later_day.kws K) (He.fAd K d_later_day.at_) fd := T.s.def_ 16 rfl
theorem Tx.d_date_of_preferring (T : Tx K mg) : ∃ fd, FunD K d_date_of_preferring.name d_date_of_preferring.qual d_date_of_preferring.params d_date_of_preferring.body d_date_of_preferring.scope (d_date_of_preferring.dvs K) (d_date_of_preferring.kws K) (He.fAd K d_date_of_preferring.at_) fd := T.s.def_ 17 rfl
theorem Tx.d_pairs_of (T : Tx K mg) : ∃ fd, FunD K d_pairs_of.name d_pairs_of.qual d_pairs_of.params d_pairs_of.body d_pairs_of.scope (d_pairs_of.dvs K) (d_pairs_of.kws K) (He.fAd K d_pairs_of.at_) fd := T.s.def_ 18 rfl
theorem Tx.d_fault (T : Tx K mg) : ∃ fd, FunD K d_fault.name d_fault.qual d_fault.params d_fault.body d_fault.scope (d_fault.dvs K) (d_fault.kws K) (He.fAd K d_fault.at_) fd := T.s.def_ 19 rfl
theorem Tx.d_faulty_events (T : Tx K mg) : ∃ fd, FunD K d_faulty_events.name d_faulty_events.qual d_faulty_events.params d_faulty_events.body d_faulty_events.scope (d_faulty_events.dvs K) (d_faulty_events.kws K) (He.fAd K d_faulty_events.at_) fd := T.s.def_ 20 rfl
theorem Tx.d_is_right (T : Tx K mg) : ∃ fd, FunD K d_is_right.name d_is_right.qual d_is_right.params d_is_right.body d_is_right.scope (d_is_right.dvs K) (d_is_right.kws K) (He.fAd K d_is_right.at_) fd := T.s.def_ 21 rfl
theorem Tx.d_is_allowance (T : Tx K mg) : ∃ fd, FunD K d_is_allowance.name d_is_allowance.qual d_is_allowance.params d_is_allowance.body d_is_allowance.scope (d_is_allowance.dvs K) (d_is_allowance.kws K) (He.fAd K d_is_allowance.at_) fd := T.s.def_ 22 rfl
theorem Tx.d_is_open (T : Tx K mg) : ∃ fd, FunD K d_is_open.name d_is_open.qual d_is_open.params d_is_open.body d_is_open.scope (d_is_open.dvs K) (d_is_open.kws K) (He.fAd K d_is_open.at_) fd := T.s.def_ 23 rfl
theorem Tx.d_text_of (T : Tx K mg) : ∃ fd, FunD K d_text_of.name d_text_of.qual d_text_of.params d_text_of.body d_text_of.scope (d_text_of.dvs K) (d_text_of.kws K) (He.fAd K d_text_of.at_) fd := T.s.def_ 24 rfl
theorem Tx.d_Allowances_init (T : Tx K mg) : ∃ fd, FunD K d_Allowances_init.name d_Allowances_init.qual d_Allowances_init.params d_Allowances_init.body d_Allowances_init.scope (d_Allowances_init.dvs K) (d_Allowances_init.kws K) (He.fAd K d_Allowances_init.at_) fd := T.s.def_ 25 rfl
theorem Tx.d_Allowances_steps (T : Tx K mg) : ∃ fd, FunD K d_Allowances_steps.name d_Allowances_steps.qual d_Allowances_steps.params d_Allowances_steps.body d_Allowances_steps.scope (d_Allowances_steps.dvs K) (d_Allowances_steps.kws K) (He.fAd K d_Allowances_steps.at_) fd := T.s.def_ 26 rfl
theorem Tx.d_Allowances_call (T : Tx K mg) : ∃ fd, FunD K d_Allowances_call.name d_Allowances_call.qual d_Allowances_call.params d_Allowances_call.body d_Allowances_call.scope (d_Allowances_call.dvs K) (d_Allowances_call.kws K) (He.fAd K d_Allowances_call.at_) fd := T.s.def_ 27 rfl
theorem Tx.d_Allowances_dates (T : Tx K mg) : ∃ fd, FunD K d_Allowances_dates.name d_Allowances_dates.qual d_Allowances_dates.params d_Allowances_dates.body d_Allowances_dates.scope (d_Allowances_dates.dvs K) (d_Allowances_dates.kws K) (He.fAd K d_Allowances_dates.at_) fd := T.s.def_ 28 rfl
theorem Tx.d_is_place (T : Tx K mg) : ∃ fd, FunD K d_is_place.name d_is_place.qual d_is_place.params d_is_place.body d_is_place.scope (d_is_place.dvs K) (d_is_place.kws K) (He.fAd K d_is_place.at_) fd := T.s.def_ 29 rfl
theorem Tx.d_PartsList_init (T : Tx K mg) : ∃ fd, FunD K d_PartsList_init.name d_PartsList_init.qual d_PartsList_init.params d_PartsList_init.body d_PartsList_init.scope (d_PartsList_init.dvs K) (d_PartsList_init.kws K) (He.fAd K d_PartsList_init.at_) fd := T.s.def_ 30 rfl
theorem Tx.d_PartsList_places (T : Tx K mg) : ∃ fd, FunD K d_PartsList_places.name d_PartsList_places.qual d_PartsList_places.params d_PartsList_places.body d_PartsList_places.scope (d_PartsList_places.dvs K) (d_PartsList_places.kws K) (He.fAd K d_PartsList_places.at_) fd := T.s.def_ 31 rfl
theorem Tx.d_PartsList_getitem (T : Tx K mg) : ∃ fd, FunD K d_PartsList_getitem.name d_PartsList_getitem.qual d_PartsList_getitem.params d_PartsList_getitem.body d_PartsList_getitem.scope (d_PartsList_getitem.dvs K) (d_PartsList_getitem.kws K) (He.fAd K d_PartsList_getitem.at_) fd := T.s.def_ 32 rfl
theorem Tx.d_law_pool (T : Tx K mg) : ∃ fd, FunD K d_law_pool.name d_law_pool.qual d_law_pool.params d_law_pool.body d_law_pool.scope (d_law_pool.dvs K) (d_law_pool.kws K) (He.fAd K d_law_pool.at_) fd := T.s.def_ 33 rfl
theorem Tx.d_law_draw (T : Tx K mg) : ∃ fd, FunD K d_law_draw.name d_law_draw.qual d_law_draw.params d_law_draw.body d_law_draw.scope (d_law_draw.dvs K) (d_law_draw.kws K) (He.fAd K d_law_draw.at_) fd := T.s.def_ 34 rfl
theorem Tx.d_law_pick (T : Tx K mg) : ∃ fd, FunD K d_law_pick.name d_law_pick.qual d_law_pick.params d_law_pick.body d_law_pick.scope (d_law_pick.dvs K) (d_law_pick.kws K) (He.fAd K d_law_pick.at_) fd := T.s.def_ 35 rfl
theorem Tx.d_law_rows_drawn (T : Tx K mg) : ∃ fd, FunD K d_law_rows_drawn.name d_law_rows_drawn.qual d_law_rows_drawn.params d_law_rows_drawn.body d_law_rows_drawn.scope (d_law_rows_drawn.dvs K) (d_law_rows_drawn.kws K) (He.fAd K d_law_rows_drawn.at_) fd := T.s.def_ 36 rfl
theorem Tx.d_law_plan (T : Tx K mg) : ∃ fd, FunD K d_law_plan.name d_law_plan.qual d_law_plan.params d_law_plan.body d_law_plan.scope (d_law_plan.dvs K) (d_law_plan.kws K) (He.fAd K d_law_plan.at_) fd := T.s.def_ 37 rfl
theorem Tx.d_law_list (T : Tx K mg) : ∃ fd, FunD K d_law_list.name d_law_list.qual d_law_list.params d_law_list.body d_law_list.scope (d_law_list.dvs K) (d_law_list.kws K) (He.fAd K d_law_list.at_) fd := T.s.def_ 38 rfl
theorem Tx.d_law_book (T : Tx K mg) : ∃ fd, FunD K d_law_book.name d_law_book.qual d_law_book.params d_law_book.body d_law_book.scope (d_law_book.dvs K) (d_law_book.kws K) (He.fAd K d_law_book.at_) fd := T.s.def_ 39 rfl
theorem Tx.d_law_open (T : Tx K mg) : ∃ fd, FunD K d_law_open.name d_law_open.qual d_law_open.params d_law_open.body d_law_open.scope (d_law_open.dvs K) (d_law_open.kws K) (He.fAd K d_law_open.at_) fd := T.s.def_ 40 rfl
theorem Tx.d_law_fits (T : Tx K mg) : ∃ fd, FunD K d_law_fits.name d_law_fits.qual d_law_fits.params d_law_fits.body d_law_fits.scope (d_law_fits.dvs K) (d_law_fits.kws K) (He.fAd K d_law_fits.at_) fd := T.s.def_ 41 rfl
theorem Tx.d_law_place (T : Tx K mg) : ∃ fd, FunD K d_law_place.name d_law_place.qual d_law_place.params d_law_place.body d_law_place.scope (d_law_place.dvs K) (d_law_place.kws K) (He.fAd K d_law_place.at_) fd := T.s.def_ 42 rfl
theorem Tx.d_law_orders (T : Tx K mg) : ∃ fd, FunD K d_law_orders.name d_law_orders.qual d_law_orders.params d_law_orders.body d_law_orders.scope (d_law_orders.dvs K) (d_law_orders.kws K) (He.fAd K d_law_orders.at_) fd := T.s.def_ 43 rfl
theorem Tx.d_law_rule (T : Tx K mg) : ∃ fd, FunD K d_law_rule.name d_law_rule.qual d_law_rule.params d_law_rule.body d_law_rule.scope (d_law_rule.dvs K) (d_law_rule.kws K) (He.fAd K d_law_rule.at_) fd := T.s.def_ 44 rfl
theorem Tx.d_law_made_rule (T : Tx K mg) : ∃ fd, FunD K d_law_made_rule.name d_law_made_rule.qual d_law_made_rule.params d_law_made_rule.body d_law_made_rule.scope (d_law_made_rule.dvs K) (d_law_made_rule.kws K) (He.fAd K d_law_made_rule.at_) fd := T.s.def_ 45 rfl
theorem Tx.d_law_rank (T : Tx K mg) : ∃ fd, FunD K d_law_rank.name d_law_rank.qual d_law_rank.params d_law_rank.body d_law_rank.scope (d_law_rank.dvs K) (d_law_rank.kws K) (He.fAd K d_law_rank.at_) fd := T.s.def_ 46 rfl
theorem Tx.d_law_weight (T : Tx K mg) : ∃ fd, FunD K d_law_weight.name d_law_weight.qual d_law_weight.params d_law_weight.body d_law_weight.scope (d_law_weight.dvs K) (d_law_weight.kws K) (He.fAd K d_law_weight.at_) fd := T.s.def_ 47 rfl
theorem Tx.d_law_choice (T : Tx K mg) : ∃ fd, FunD K d_law_choice.name d_law_choice.qual d_law_choice.params d_law_choice.body d_law_choice.scope (d_law_choice.dvs K) (d_law_choice.kws K) (He.fAd K d_law_choice.at_) fd := T.s.def_ 48 rfl
theorem Tx.d_law_less (T : Tx K mg) : ∃ fd, FunD K d_law_less.name d_law_less.qual d_law_less.params d_law_less.body d_law_less.scope (d_law_less.dvs K) (d_law_less.kws K) (He.fAd K d_law_less.at_) fd := T.s.def_ 49 rfl
theorem Tx.d_law_done (T : Tx K mg) : ∃ fd, FunD K d_law_done.name d_law_done.qual d_law_done.params d_law_done.body d_law_done.scope (d_law_done.dvs K) (d_law_done.kws K) (He.fAd K d_law_done.at_) fd := T.s.def_ 50 rfl
theorem Tx.d_law_played (T : Tx K mg) : ∃ fd, FunD K d_law_played.name d_law_played.qual d_law_played.params d_law_played.body d_law_played.scope (d_law_played.dvs K) (d_law_played.kws K) (He.fAd K d_law_played.at_) fd := T.s.def_ 51 rfl
theorem Tx.d_law_needs_of (T : Tx K mg) : ∃ fd, FunD K d_law_needs_of.name d_law_needs_of.qual d_law_needs_of.params d_law_needs_of.body d_law_needs_of.scope (d_law_needs_of.dvs K) (d_law_needs_of.kws K) (He.fAd K d_law_needs_of.at_) fd := T.s.def_ 52 rfl
theorem Tx.d_law_units_for (T : Tx K mg) : ∃ fd, FunD K d_law_units_for.name d_law_units_for.qual d_law_units_for.params d_law_units_for.body d_law_units_for.scope (d_law_units_for.dvs K) (d_law_units_for.kws K) (He.fAd K d_law_units_for.at_) fd := T.s.def_ 53 rfl
theorem Tx.d_law_way_on (T : Tx K mg) : ∃ fd, FunD K d_law_way_on.name d_law_way_on.qual d_law_way_on.params d_law_way_on.body d_law_way_on.scope (d_law_way_on.dvs K) (d_law_way_on.kws K) (He.fAd K d_law_way_on.at_) fd := T.s.def_ 54 rfl
theorem Tx.d_law_all_served (T : Tx K mg) : ∃ fd, FunD K d_law_all_served.name d_law_all_served.qual d_law_all_served.params d_law_all_served.body d_law_all_served.scope (d_law_all_served.dvs K) (d_law_all_served.kws K) (He.fAd K d_law_all_served.at_) fd := T.s.def_ 55 rfl
theorem Tx.d_law_first_wrong (T : Tx K mg) : ∃ fd, FunD K d_law_first_wrong.name d_law_first_wrong.qual d_law_first_wrong.params d_law_first_wrong.body d_law_first_wrong.scope (d_law_first_wrong.dvs K) (d_law_first_wrong.kws K) (He.fAd K d_law_first_wrong.at_) fd := T.s.def_ 56 rfl
theorem Tx.d_law_turns (T : Tx K mg) : ∃ fd, FunD K d_law_turns.name d_law_turns.qual d_law_turns.params d_law_turns.body d_law_turns.scope (d_law_turns.dvs K) (d_law_turns.kws K) (He.fAd K d_law_turns.at_) fd := T.s.def_ 57 rfl
theorem Tx.d_law_uses (T : Tx K mg) : ∃ fd, FunD K d_law_uses.name d_law_uses.qual d_law_uses.params d_law_uses.body d_law_uses.scope (d_law_uses.dvs K) (d_law_uses.kws K) (He.fAd K d_law_uses.at_) fd := T.s.def_ 58 rfl
theorem Tx.d_law_spare (T : Tx K mg) : ∃ fd, FunD K d_law_spare.name d_law_spare.qual d_law_spare.params d_law_spare.body d_law_spare.scope (d_law_spare.dvs K) (d_law_spare.kws K) (He.fAd K d_law_spare.at_) fd := T.s.def_ 59 rfl
theorem Tx.d_law_may_prefer (T : Tx K mg) : ∃ fd, FunD K d_law_may_prefer.name d_law_may_prefer.qual d_law_may_prefer.params d_law_may_prefer.body d_law_may_prefer.scope (d_law_may_prefer.dvs K) (d_law_may_prefer.kws K) (He.fAd K d_law_may_prefer.at_) fd := T.s.def_ 60 rfl
theorem Tx.d_law_days (T : Tx K mg) : ∃ fd, FunD K d_law_days.name d_law_days.qual d_law_days.params d_law_days.body d_law_days.scope (d_law_days.dvs K) (d_law_days.kws K) (He.fAd K d_law_days.at_) fd := T.s.def_ 61 rfl
theorem Tx.d_law_wrong_at (T : Tx K mg) : ∃ fd, FunD K d_law_wrong_at.name d_law_wrong_at.qual d_law_wrong_at.params d_law_wrong_at.body d_law_wrong_at.scope (d_law_wrong_at.dvs K) (d_law_wrong_at.kws K) (He.fAd K d_law_wrong_at.at_) fd := T.s.def_ 62 rfl
theorem Tx.d_law_fault_right (T : Tx K mg) : ∃ fd, FunD K d_law_fault_right.name d_law_fault_right.qual d_law_fault_right.params d_law_fault_right.body d_law_fault_right.scope (d_law_fault_right.dvs K) (d_law_fault_right.kws K) (He.fAd K d_law_fault_right.at_) fd := T.s.def_ 63 rfl
theorem Tx.d_law_events_right (T : Tx K mg) : ∃ fd, FunD K d_law_events_right.name d_law_events_right.qual d_law_events_right.params d_law_events_right.body d_law_events_right.scope (d_law_events_right.dvs K) (d_law_events_right.kws K) (He.fAd K d_law_events_right.at_) fd := T.s.def_ 64 rfl
theorem Tx.d_law (T : Tx K mg) : ∃ fd, FunD K d_law.name d_law.qual d_law.params d_law.body d_law.scope (d_law.dvs K) (d_law.kws K) (He.fAd K d_law.at_) fd := T.s.def_ 65 rfl
/-! ### a def by its data -/
abbrev Ca (P : Program) (w : World) (K : PySem.W.Frag) (mg : Str → Option Value) (base : Heap) (k : Nat) (x : Str) (R : List Dat → Dat → Prop) : Prop := C8.Cal P w K mg base k x (spD R) []
theorem spD_len {R : List Dat → Dat → Prop} {n : Nat} (h : ∀ ds r, R ds r → ds.length = n) (vs : List V) (H : Hp) (Q : VK) (E : XK) (s : spD R vs H Q E) : vs.length = n := by
  obtain ⟨B, ds, r, _, rs, hp, _⟩ := s
  rw [rs.length]
  exact h ds r hp
/-- a def of the module -/
theorem mkD {d : He.DefD} {x : Str} {N ps : List Str} {k : Nat} {R : List Dat → Dat → Prop} {fd : FuncData} (F : FunD K d.name x d.params d.body d.scope [] [] (He.ga K x) fd) (hm : mg x = some (.ref (He.ga K x))) (b : Binds K fd ps []) (S : FnScope N ps d.scope)
    (hl : ∀ ds r, R ds r → ds.length = ps.length)
    (body : ∀ (cdv : Value) (A : Around) (outer : List Env) (s : Shared) (H : Hp) (E : XK), Room k (A.deeper (envOfC x d.scope s.heap.objs.size (He.ga K x) cdv)) → ∀ ds r, R ds r →
      ∃ t, PSs (cxOf C8.CX0 P w K mg base N x d.scope (He.ga K x) cdv A outer s H E) d.body t ∧ ST t (ds.map Sl.d ++ List.replicate (N.length - ds.length) .x) (.rt r)) : Ca P w K mg base (k + 1) x R := by
  refine ⟨_, fd, ps, [], F.ok S (spD_len hl) fun cdv A outer s H vs Q E hr hs => ?_, hm, F.kp, b, .nil⟩
  obtain ⟨B, ds, r, e, rs, hp, q⟩ := hs
  obtain ⟨t, h1, h2⟩ := body cdv A outer s H E hr ds r hp
  refine ⟨t, h1, of_ST rs e ?_ h2 q⟩
  rw [rs.length, hl ds r hp]
  have z := congrArg List.length S.pre
  rw [List.length_take] at z
  omega
end
end Gk

set_option maxHeartbeats 0
/-! the head: the top is run, what it leaves is told (one run of the kernel for each look: less memory) -/
namespace Gk
open PySem PySem.Spec PyProof.Rows L2
abbrev R : PySem.W.OpenRow := PySem.W.OpenLaw.row PySem.Challenge.rw_standinparts_k38_whole_rules_judged
/-- the objects that the head looks at: no others of the top are needed -/
def isFCS (o : Obj) : Bool := match o.data with
  | .func _ => true
  | .cls _ => true
  | .seq _ _ => true
  | _ => false
def isDic (o : Obj) : Bool := match o.data with
  | .dict _ _ => true
  | _ => false
def isFP (o : Obj) : Bool := match o.data with
  | .func _ => true
  | .fields _ => true
  | _ => false
def nxt (g : Addr → Option Obj) (p : Obj → Bool) (as : List Addr) : List Addr := as.flatMap fun a => match g a with
  | some o => (match p o with
    | true => He.refsD o
    | false => [])
  | none => []
def onl (g : Addr → Option Obj) (p : Obj → Bool) (as : List Addr) : List Addr := as.filter fun a => match g a with
  | some o => p o
  | none => false
def as1 (g : Addr → Option Obj) : List Addr := onl g isFCS (nxt g isDic [mainGlobals])
def as2 (g : Addr → Option Obj) : List Addr := nxt g isFCS (as1 g)
def as3 (g : Addr → Option Obj) : List Addr := nxt g isDic (as2 g)
def as4 (g : Addr → Option Obj) : List Addr := nxt g isFP (as3 g)
def as5 (g : Addr → Option Obj) : List Addr := nxt g isFP (as4 g)
def asP (g : Addr → Option Obj) : List Addr := mainGlobals :: (as1 g ++ (as2 g ++ (as3 g ++ (as4 g ++ as5 g))))
abbrev Al : Type := He.AlD × (Bool × He.FnW)
def seeK (K : PySem.W.Frag) : Al := (He.obsD fa fn K, (exB K, fnWA K (getA K)))
def hk : PySem.W.Hook where
  α := Al
  obs := fun s => seeK (He.frG s.heap.get? (asP s.heap.get?))
  val := fun _ => (He.valD fn, (true, d_Rule_kind.val))
  says := fun _ h => ∃ K : PySem.W.Frag, K.In h ∧ He.SaysD fa fn K ∧ exB K = true ∧ fnWA K (getA K) = d_Rule_kind.val
  of := fun _ _ e => ⟨_, He.frG_in, congrArg (fun z : Al => z.1) e, congrArg (fun z : Al => z.2.1) e, congrArg (fun z : Al => z.2.2) e⟩
  keeps := fun _ _ _ ⟨K, hK, c⟩ k => ⟨K, PySem.W.Frag.In.keeps hK k, c⟩
def ob (s : PySem.W.SharedT) : hk.α := seeK (He.frG (HandSHeadRun.getT s) (asP (HandSHeadRun.getT s)))
theorem ob_eq (s : PySem.W.SharedT) : ob s = hk.obs s.abs := by
  have e : HandSHeadRun.getT s = s.abs.heap.get? := funext (HandSHeadRun.getT_eq s)
  unfold ob
  rw [e]
  rfl
open HandSHeadRun PySem.W PySem.Calls in
theorem run1 (w : World) (os : OsState) : (endF (stepQ (denQ tabQ) R.prog w) 8000 R.prog w os).map (fun s => looksF R.prog (boot_heap w.params) s.abs) = some true := by kernel_rfl
open HandSHeadRun PySem.W PySem.Calls in
theorem run2 (w : World) (os : OsState) : (endF (stepQ (denQ tabQ) R.prog w) 8000 R.prog w os).map (fun s => seenQ (PySem.W.view R.prog [86]) names (importedModules R.prog.main.body) (fun s => xlAt (PySem.W.view R.prog [86]) [] s && recOk R.toRowW.records s) s.abs) = some (openGood (PySem.W.view R.prog [86]) names) := by kernel_rfl
open HandSHeadRun PySem.W PySem.Calls in
theorem run3 (w : World) (os : OsState) : (endF (stepQ (denQ tabQ) R.prog w) 8000 R.prog w os).map (fun s => ob s) = some (hk.val w) := by kernel_rfl
theorem join3 {α β γ δ : Type} {x : Option α} {f : α → β} {g : α → γ} {h : α → δ} {b : β} {c : γ} {d : δ} (e1 : x.map (fun s => f s) = some b) (e2 : x.map (fun s => g s) = some c) (e3 : x.map (fun s => h s) = some d) : x.map (fun s => (f s, g s, h s)) = some (b, c, d) := by
  cases x with
  | none => cases e1
  | some s =>
    have z1 : f s = b := Option.some.inj e1
    have z2 : g s = c := Option.some.inj e2
    have z3 : h s = d := Option.some.inj e3
    subst z1 z2 z3
    rfl
theorem run (w : World) : HandSHeadRun.RunEq R (PySem.W.view R.prog [86]) hk ob 8000 names w := fun os => join3 (run1 w os) (run2 w os) (run3 w os)
end Gk

set_option maxHeartbeats 4000000
namespace Gk
open PySem PySem.Spec PyProof.Rows L2
/-! ### {n:05} of a small number -/
def pad5 (n : Int) : Str := ⟨#[48, 48, 48, 48, (48 + n).toNat]⟩
theorem after_cut {v : Value} {T : String} {k : String → Sem PySem.Fin} {m : Made} (hT : ∀ s : Shared, s.TypeIs v T) (hn : (Value.type T == Value.type "builtin_function_or_method") = false) (g : ∀ n, Gives (k n) m) :
    Gives (do let n ← typeNameOfCut 200 v; k n) m := by
  intro prog w A R s hq
  refine wpAny_bind ?_
  unfold typeNameOfCut shownTypeOf
  refine wpAny_bind (wpAny_bind (wpAny_typeOf (hT s) ?_))
  simp only [hn, Bool.false_eq_true, if_false]
  exact wpAny_pure (wpAny_pure (g _ prog w A R s hq))
theorem gives_pad0 (t u : Tok) : Gives (Builtin.«int.__format__» ⟨[.int 0 t, .str "05" u], []⟩) (.str (pad5 0)) := by
  show Gives (do let kind ← typeNameOf (.str "05" u); _) _
  refine gives_after_typeNameOf (v := .str "05" u) (T := "str") (fun s => typeIs_str s _ _) (by decide) fun _ => ?_
  show Gives (do let name ← typeNameOfCut 200 (.int 0 t); _) _
  refine after_cut (v := .int 0 t) (T := "int") (fun s => typeIs_int s _ _) (by decide) fun name => ?_
  exact .of_eq (by kernel_rfl)
theorem gives_pad1 (t u : Tok) : Gives (Builtin.«int.__format__» ⟨[.int 1 t, .str "05" u], []⟩) (.str (pad5 1)) := by
  show Gives (do let kind ← typeNameOf (.str "05" u); _) _
  refine gives_after_typeNameOf (v := .str "05" u) (T := "str") (fun s => typeIs_str s _ _) (by decide) fun _ => ?_
  show Gives (do let name ← typeNameOfCut 200 (.int 1 t); _) _
  refine after_cut (v := .int 1 t) (T := "int") (fun s => typeIs_int s _ _) (by decide) fun name => ?_
  exact .of_eq (by kernel_rfl)
theorem gives_pad2 (t u : Tok) : Gives (Builtin.«int.__format__» ⟨[.int 2 t, .str "05" u], []⟩) (.str (pad5 2)) := by
  show Gives (do let kind ← typeNameOf (.str "05" u); _) _
  refine gives_after_typeNameOf (v := .str "05" u) (T := "str") (fun s => typeIs_str s _ _) (by decide) fun _ => ?_
  show Gives (do let name ← typeNameOfCut 200 (.int 2 t); _) _
  refine after_cut (v := .int 2 t) (T := "int") (fun s => typeIs_int s _ _) (by decide) fun name => ?_
  exact .of_eq (by kernel_rfl)
theorem gives_pad3 (t u : Tok) : Gives (Builtin.«int.__format__» ⟨[.int 3 t, .str "05" u], []⟩) (.str (pad5 3)) := by
  show Gives (do let kind ← typeNameOf (.str "05" u); _) _
  refine gives_after_typeNameOf (v := .str "05" u) (T := "str") (fun s => typeIs_str s _ _) (by decide) fun _ => ?_
  show Gives (do let name ← typeNameOfCut 200 (.int 3 t); _) _
  refine after_cut (v := .int 3 t) (T := "int") (fun s => typeIs_int s _ _) (by decide) fun name => ?_
  exact .of_eq (by kernel_rfl)
theorem gives_pad4 (t u : Tok) : Gives (Builtin.«int.__format__» ⟨[.int 4 t, .str "05" u], []⟩) (.str (pad5 4)) := by
  show Gives (do let kind ← typeNameOf (.str "05" u); _) _
  refine gives_after_typeNameOf (v := .str "05" u) (T := "str") (fun s => typeIs_str s _ _) (by decide) fun _ => ?_
  show Gives (do let name ← typeNameOfCut 200 (.int 4 t); _) _
  refine after_cut (v := .int 4 t) (T := "int") (fun s => typeIs_int s _ _) (by decide) fun name => ?_
  exact .of_eq (by kernel_rfl)
theorem gives_pad5 (t u : Tok) : Gives (Builtin.«int.__format__» ⟨[.int 5 t, .str "05" u], []⟩) (.str (pad5 5)) := by
  show Gives (do let kind ← typeNameOf (.str "05" u); _) _
  refine gives_after_typeNameOf (v := .str "05" u) (T := "str") (fun s => typeIs_str s _ _) (by decide) fun _ => ?_
  show Gives (do let name ← typeNameOfCut 200 (.int 5 t); _) _
  refine after_cut (v := .int 5 t) (T := "int") (fun s => typeIs_int s _ _) (by decide) fun name => ?_
  exact .of_eq (by kernel_rfl)
theorem gives_pad6 (t u : Tok) : Gives (Builtin.«int.__format__» ⟨[.int 6 t, .str "05" u], []⟩) (.str (pad5 6)) := by
  show Gives (do let kind ← typeNameOf (.str "05" u); _) _
  refine gives_after_typeNameOf (v := .str "05" u) (T := "str") (fun s => typeIs_str s _ _) (by decide) fun _ => ?_
  show Gives (do let name ← typeNameOfCut 200 (.int 6 t); _) _
  refine after_cut (v := .int 6 t) (T := "int") (fun s => typeIs_int s _ _) (by decide) fun name => ?_
  exact .of_eq (by kernel_rfl)
theorem gives_pad (n : Nat) (h : n ≤ 6) (t u : Tok) : Gives (Builtin.«int.__format__» ⟨[.int (n : Nat) t, .str "05" u], []⟩) (.str (pad5 (n : Nat))) := by
  match n, h with
  | 0, _ => exact gives_pad0 t u
  | 1, _ => exact gives_pad1 t u
  | 2, _ => exact gives_pad2 t u
  | 3, _ => exact gives_pad3 t u
  | 4, _ => exact gives_pad4 t u
  | 5, _ => exact gives_pad5 t u
  | 6, _ => exact gives_pad6 t u
/-- {e:05} -/
def tFmt5 (te : TE) : TE := fun σ H Q => te σ H fun x H1 => ∃ n : Nat, x = .int (n : Nat) ∧ n ≤ 6 ∧ Q (.str (pad5 (n : Nat))) H1
theorem pe_fmt5 {X : Cx} {e : Expr} {te : TE} {k : Nat} {p1 p2 pos : Pos} (he : PE X e te) : PE X (.FormattedValue e (-1) (some (.JoinedStr [.Constant (.str "05") k p1] p2)) pos) (tFmt5 te) := by
  refine ⟨fun pins s σ H Q I h => ?_⟩
  refine wpAny_FormattedValue_spec (thn (he.run pins s σ H _ I h) fun v s1 ⟨x, H1, I1, r1, n, ex, hn, q⟩ => ?_)
  subst ex
  obtain ⟨t, rfl⟩ := r1
  refine wpAny_JoinedStr_one (Calls.Constant_str ⟨"05", _, rfl, ?_⟩)
  have hz : (pad5 (n : Nat)).length ≤ sizeLine := by
    show 5 ≤ sizeLine
    decide
  refine wpAny_formatField_spec (T := "int") (by decide) (fun s' => typeIs_int s' _ _) F.slot_int_format F.entry_int_format F.args_int_format_2 (fun u => gives_pad n hn t u) ⟨.str (pad5 (n : Nat)), H1, (I1.tok (s1.toks + 1)).tok _, ⟨_, rfl⟩, q⟩ (by decide) hz
end Gk

set_option maxHeartbeats 4000000
namespace Gk
open PySem PySem.Spec PyProof.Rows L2 Dl
/-! ### o[i] of an instance whose class has __getitem__ -/
def tGet (C : Addr) (sp : Sp) (E : XK) (to ti : TE) : TE := fun σ H Q => to σ H fun x H1 => ti σ H1 fun y H2 => ∃ a dx fs, x = .ref a ∧ H2 a = some (.ins C dx fs) ∧ sp [x, y] H2 Q E
theorem pe_getitem {X : Cx} {CX : CXT} {k : Nat} {C f : Addr} {fd : FuncData} {ps : List Str} {sp : Sp} {E : XK} {o i : Expr} {to ti : TE} {pos : Pos} (ho : PE X o to) (hi : PE X i ti) (hs : PySem.W.findIn X.K (.ref C) "__getitem__" = some (some (.ref f)))
    (hfn : PySem.W.isFn X.K (.ref f) = true) (hf : PySem.W.fnIn X.K f = true) (F : FnOk X.prog X.w X.K X.mg X.base CX k f fd ps sp) (hr : Room (k + 1) X.A) (hb : Binds X.K fd ps []) (hx : Passes CX X E)
    (hsl : ∀ ov iv, subscripted i true ov iv = runValue (.builtin "lifetime.subscript" ⟨[ov, iv], []⟩) := by intro _ _; with_unfolding_all rfl) : PE X (.Subscript o i pos) (tGet C sp E to ti) := by
  refine ⟨fun pins s σ H Q I h => ?_⟩
  refine Subscript_ (thn (ho.run pins s σ H _ I h) fun v s1 ⟨x, H1, I1, rx, q1⟩ => thn (hi.run pins s1 σ H1 _ I1 q1) fun u s2 ⟨y, H2, I2, ry, a, dx, fs, ex, ea, q⟩ => ?_)
  subst ex
  obtain rfl : v = Value.ref a := rx
  obtain ⟨mA, O, _⟩ := ins_get I2.hok ea
  obtain ⟨od, J, _⟩ := O.look
  obtain ⟨m, hF⟩ := I2.fr
  refine PySem.W.sub_K hF I2.ok.mod.kin J hs hf hfn ?_ (hsl _ _)
  have r2 : Vals [V.ref a, y] [Value.ref a, u] := .cons rfl (.cons ry .nil)
  have hl : ([Value.ref a, u] ++ []).length = ps.length := (F.len _ _ _ _ q)
  have hbb := hb s2 [Value.ref a, u] I2.kIn hl
  rw [List.append_nil] at hbb
  refine wpAny_call (codeAny_mono (F.run X.A.in1 X.stack s2 H2 ⟨[.ref a, u], []⟩ [.ref a, u] [.ref a, y] Q E hr.in1 I2.env0.in1 hbb r2 q) fun r s' hq => ?_)
  cases r with
  | error e => exact hx pins σ H2 s2 e s' I2 hq
  | ok fl =>
    cases fl with
    | ret w => exact I2.after hq
    | next => exact False.elim hq
    | brk => exact False.elim hq
    | cont => exact False.elim hq
theorem ev_get {ρ : List Sl} {to ti : TE} {P : List Dat → Dat → Prop} {E : XK} {C : Addr} {fs : List (Str × Dat)} {d e : Dat} (ho : EV to ρ (.ins C fs)) (hi : EV ti ρ e) (hp : P [.ins C fs, e] d) : EV (tGet C (spD P) E to ti) ρ d := fun B H σ S Q q =>
  ho B H σ S _ fun v B1 H1 g1 r1 => hi B1 H1 σ (S.mono g1) _ fun u B2 H2 g2 r2 => by
    have r1' := r1
    cases r1 with
    | ins h1 r1 => exact ⟨_, _, _, rfl, g2.hh _ _ (g1.bh _ _ h1), B2, _, d, g2.bh, .cons (r1'.mono g2.bb) (.cons r2 .nil), hp, fun v B3 H3 g3 r3 => q v B3 H3 ((g1.trans g2).trans g3) r3⟩
end Gk

set_option maxHeartbeats 4000000
namespace Gk
open PySem PySem.Spec PyProof.Rows L2 Dl
/-! ### a < b of tuples that are alike -/
def rLtD (K : PySem.W.Frag) : R2 := fun x y H Q => ∃ d e, Dp K H x d ∧ Dp K H y e ∧ PySem.W.alike d e = true ∧ d ≠ .none ∧ d.depth ≤ 60 ∧ Q (.bl (PySem.W.dataLt d e)) H
theorem op_ltD {X : Cx} (hu : X.A.units + 64 < cLine) : OpR X (compareOp .Lt) (rLtD X.K) := by
  intro pins s σ H x y v u Q I rx ry h
  obtain ⟨d, e, hd, he, ha, hn, hz, q⟩ := h
  obtain ⟨as, r1⟩ := Dp.reads I d x v hd rx
  obtain ⟨bs, r2⟩ := Dp.reads I e y u he ry
  show wpAny (model X.prog X.w) X.A (richCompare .Lt v u) (EP X pins σ Q) X.xe s
  exact PySem.W.rcLt_alike d e X.A s v u as bs r1 r2 ha hn (by omega) _ _ _ _ ⟨.bl _, H, I, rfl, q⟩
theorem ev_ltD {K : PySem.W.Frag} {ρ : List Sl} {ta tb : TE} {d e : Dat} (ha : EV ta ρ d) (hb : EV tb ρ e) (h1 : shp d = true) (h2 : shp e = true) (hal : PySem.W.alike (toPy d) (toPy e) = true) (hn : toPy d ≠ .none) (hz : (toPy d).depth ≤ 60) :
    EV (tOp (rLtD K) ta tb) ρ (.bl (PySem.W.dataLt (toPy d) (toPy e))) := fun B H σ S Q q =>
  ha B H σ S _ fun v B1 H1 g1 r1 => hb B1 H1 σ (S.mono g1) _ fun u B2 H2 g2 r2 =>
    ⟨_, _, rep_dp (shp_of h1).1 ((r1.mono g2.bb).mono g2.bh), rep_dp (shp_of h2).1 (r2.mono g2.bh), hal, hn, hz, q _ B2 H2 (g1.trans g2) (.bl _)⟩
end Gk

set_option maxHeartbeats 4000000
/-! a set of texts, its members told as a list -/
namespace Ts
open PySem PySem.Spec PyProof.Rows L2 PySem.Froz
abbrev tK (P : Program) (w : World) := PySem.strKind P w
def mt (e : Int × Value) : Str := match e.2 with
  | .str k _ => k
  | _ => ⟨#[]⟩
/-- the payload holds the texts l, each once, and can be walked -/
structure TIn (P : Program) (w : World) (D : SD) (l : List Str) : Prop where
  ok : TxOk P w D l
  all : ∀ e ∈ D.1.toList, ∃ k t, e.2 = Value.str k t
  pm : (D.1.toList.map mt).Perm l
  nd : l.Nodup
  rs : Ris D.2.2.place.toList
  ld : w.params.followText "set-order" = true ∨ D.2.2.led = true
def SetT (P : Program) (w : World) (h : Heap) (a : Addr) (l : List Str) : Prop := ∃ D, h.get? a = some (sObj "set" D) ∧ TIn P w D l
section
variable {P : Program} {w : World} {A : Around} {E : Value → Shared → Prop} {s : Shared} {D : SD} {l : List Str} {k : Str} {u : Tok} {a : Addr}
theorem addTx_more (F : TIn P w D l) (hk : k ∉ l) : TIn P w (addTx (hashStr w k) (.str k u) D) (k :: l) := by
  obtain ⟨es, ep, t⟩ := D
  obtain ⟨ok, all, pm, nd, rs, ld⟩ := F
  have p1 := layNew_perm t es (hashStr w k) (.str k u)
  have r1 := layNew_ris t es (hashStr w k) (.str k u) rs
  have l1 := layNew_led t es (hashStr w k) (.str k u)
  have ok2 := add_ok (k := k) u ok
  have key : ∃ es' ep' t', addTx (hashStr w k) (.str k u) (es, ep, t) = (es', ep', t') ∧ es'.toList.Perm (es.push (hashStr w k, .str k u)).toList ∧ Ris t'.place.toList ∧ t'.led = t.led := by
    unfold addTx tailTx
    dsimp only
    generalize layNew t es (hashStr w k) (.str k u) = L at p1 r1 l1 ⊢
    obtain ⟨es1, t1, wd, gv⟩ := L
    dsimp only at p1 r1 l1 ⊢
    have hq : ∃ t2, (if t1.plain = true then { t1 with plain := false } else t1) = t2 ∧ Ris t2.place.toList ∧ t2.led = t.led := by
      refine ⟨_, rfl, ?_, ?_⟩
      · split <;> exact r1
      · split <;> exact l1
    obtain ⟨t2, e2, r2, l2⟩ := hq
    rw [e2]
    by_cases c : (!wd && t2.tooFull) = true
    · rw [if_pos c]
      exact ⟨_, _, _, rfl, (relayAll_perm t2 es1 _).trans p1, relayAll_ris t2 es1 _, (relayAll_led t2 es1 _).trans l2⟩
    · rw [if_neg c]
      exact ⟨_, _, _, rfl, p1, r2, l2⟩
  obtain ⟨es', ep', t', e, p2, r2, l2⟩ := key
  rw [e] at ok2 ⊢
  rw [Array.toList_push] at p2
  have hkm : mt (hashStr w k, Value.str k u) = k := rfl
  refine ⟨ok2, fun x hx => ?_, ?_, List.nodup_cons.mpr ⟨hk, nd⟩, r2, ld.imp id fun z => l2.trans z⟩
  · rcases List.mem_append.mp (p2.mem_iff.mp hx) with z | z
    · exact all x z
    · rw [List.mem_singleton.mp z]
      exact ⟨k, u, rfl⟩
  · have q := p2.map mt
    rw [List.map_append, List.map_cons, List.map_nil, hkm] at q
    exact q.trans ((List.perm_append_singleton _ _).trans (List.Perm.cons _ pm))
theorem has_again {Q : Bool → Shared → Prop} (ho : s.heap.get? a = some (sObj "set" D)) (F : TxOk P w D l) (hk : k ∈ l) (hb : l.length < scanBound) (h : Q false s) : wpAny (model P w) A (setAddHashed a (.str k u) (hashStr w k)) Q E s := by
  obtain ⟨es, ep, t⟩ := D
  have hsz : es.size = l.length := F.sz
  have hel : ElemsOf (tK P w) es.toList := F.el
  have hf : t.fits es.size = true := F.fit
  have hkey : (tK P w).is k (.str k u) = true := is_str k u
  obtain ⟨e0, m0, q0⟩ := (F.mem k).mp hk
  have hd : (sObj "set" ((es, ep, t) : SD)).data = .set es ep t := rfl
  unfold setAddHashed setAddHashedIn
  refine wpAny_holding (wpAny_bind (wpAny_setState_of ho hd hf ?_))
  dsimp only
  rw [byScan_of (x := Value.str k u) rfl (by omega) hel]
  simp only [↓reduceIte]
  unfold setAddByScan
  refine wpAny_bind (wpAny_bind (wpAny_rule (wpAny_bind (wpAny_setScan_of (knd := tK P w) (k := k) hkey ho hd hf hel ?_))))
  cases hr : List.findIdx? (fun e => (tK P w).is k e.2) es.toList with
  | none => exact absurd q0 (by rw [List.findIdx?_eq_none_iff.mp hr e0 m0]; exact Bool.false_ne_true)
  | some j => exact wpAny_pure (wpAny_pure h)
def addL (l : List Str) (k : Str) : List Str := if k ∈ l then l else k :: l
theorem addL_len (l : List Str) (k : Str) : (addL l k).length ≤ l.length + 1 := by
  unfold addL
  split
  · omega
  · exact Nat.le_refl _
theorem setAdd_x {Q : Value → Shared → Prop} (R : SetT P w s.heap a l) (room : l.length + 1 < scanBound)
    (h : ∀ h', (∀ b o, b ≠ a → s.heap.get? b = some o → h'.get? b = some o) → SetT P w h' a (addL l k) → Q .none { s with heap := h', toks := s.toks + 1 }) :
    wpAny (model P w) A (call (.builtin "set.add") [.ref a, .str k u]) Q E s := by
  obtain ⟨D, ho, G⟩ := R
  refine wpAny_call_entry PySem.F.slot_set_add ⟨_, ho, rfl⟩ PySem.F.entry_set_add ?_ (PySem.F.args_set_add_2 _ _)
  unfold Builtin.«set.add» Builtin.Frozenset.oneOther Builtin.Frozenset.addrOf setAdd
  simp only [List.isEmpty_nil, bind_assoc]
  refine wpAny_bind (wpAny_pure ?_)
  try dsimp only
  refine wpAny_bind (wpAny_pure ?_)
  try dsimp only
  refine wpAny_bind (wpAny_holding (wpAny_bind ((tK P w).pyHash (k := k) (is_str k u) ?_)))
  by_cases hk : k ∈ l
  · refine has_again (s := { s with toks := s.toks + 1 }) ho G.ok hk (by omega) ?_
    refine wpAny_pure ⟨_, rfl, h s.heap (fun b o _ e => e) ⟨D, ho, ?_⟩⟩
    unfold addL
    rw [if_pos hk]
    exact G
  · refine add_x (s := { s with toks := s.toks + 1 }) ho G.ok hk room ?_
    refine wpAny_pure ⟨_, rfl, h _ (fun b o hb e => (Heap.get?_update_other _ _ (Ne.symm hb)).trans e) ⟨_, get_upd _ ho rfl, ?_⟩⟩
    unfold addL
    rw [if_neg hk]
    exact addTx_more G hk
end
section
variable {X : Cx}
/-- as a tracked thing -/
def TsO (P : Program) (w : World) (a : Addr) (l : List Str) : HO := .ext fun h => SetT P w h a l
theorem tso_ok {P : Program} {w : World} {H : Hp} {h : Heap} {a : Addr} {l : List Str} (R : SetT P w h a l) : ObjOk P w H h a (TsO P w a l) :=
  ⟨R, ⟨_, R.choose_spec.1⟩, fun h1 h2 p k => ⟨_, k _ p.choose_spec.1, p.choose_spec.2⟩⟩
/-- sorted(set) -/
def rSortT (P : Program) (w : World) : List V → Hp → VK → Prop := fun vs H Q => ∃ a l, vs = [V.ref a] ∧ H a = some (TsO P w a l) ∧ l.length < 64 ∧
  ∀ ys p, ys.Perm l → sortedS ys = true → H p = none → Q (.ref p) (upd H p (.lst (ys.map V.str)))
theorem strs_map : ∀ {l : List Value}, (∀ v ∈ l, ∃ k t, v = Value.str k t) → StrsAre l (l.map fun v => mt (0, v))
  | [], _ => .nil
  | v :: l, h => by
    obtain ⟨k, t, e⟩ := h v List.mem_cons_self
    subst e
    exact .cons k t (strs_map fun x hx => h x (List.mem_cons_of_mem _ hx))
theorem cr_sortT (hc : X.calm = true) : CallR X (.builtin "sorted") (rSortT X.prog X.w) := by
  intro pins s σ H vs us Q I r h
  obtain ⟨a, l, rfl, ha, h64, q⟩ := h
  rw [Vals.ref1 r]
  obtain ⟨⟨es, ep, t⟩, ho, F⟩ : SetT X.prog X.w s.heap a l := (I.hok a _ ha).1
  have hsz : es.size = l.length := F.ok.sz
  refine Calls.call_function_entry PyProof.Rows.kind_sorted PyProof.Rows.plain_sorted PyProof.Rows.entry_sorted (PyProof.Rows.args_sorted1 _) ?_
  unfold Builtin.«sorted»
  refine wpAny_bind (m := checkCount "sorted" 1 1 _) (wpAny_pure (wpAny_bind ?_))
  refine collect_set (A := X.A.in1) (I.ok.hd hc) ⟨_, ho, rfl, rfl⟩ F.ok.fit (by rw [hsz]; exact Nat.lt_trans h64 (by decide)) F.rs F.ld fun s1 out k1 z1 g1 o1 pm => ?_
  have hol : out.length = l.length := by rw [pm.length_eq, List.length_map, Array.length_toList, hsz]
  have hS : StrsAre out (out.map fun v => mt (0, v)) := strs_map fun v hv => by
    obtain ⟨e, he, z⟩ := List.mem_map.mp (pm.mem_iff.mp hv)
    rw [← z]
    exact F.all e he
  have pl : (out.map fun v => mt (0, v)).Perm l := by
    have q := pm.map fun v => mt (0, v)
    rw [List.map_map] at q
    exact q.trans F.pm
  refine wpAny_bind (wpAny_newList ?_ (by rw [hol, sizeLine_eq]; omega))
  have hoL : (s1.heap.push (seqObj "list" out.toArray 0)).get? s1.heap.objs.size = some (seqObj "list" out.toArray 0) := Heap.get?_push_size _ rfl
  refine wpAny_bind (wpAny_holding (wpAny_call_entry PyProof.Rows.slot_list_sort ⟨_, hoL, rfl⟩ PyProof.Rows.entry_list_sort
    (list_sort_treeK strKind_oneLt (s := { s1 with heap := s1.heap.push (seqObj "list" out.toArray 0) }) hoL hS.keysOf (fun v₁ v₂ rest e => keyKind_strs (by rw [← e]; exact hS)) (by rw [hol]; exact h64) fun st' hp hs => ⟨_, rfl, ?_⟩) (PyProof.Rows.args_list_sort _)))
  obtain ⟨ys, y1, y2, y3⟩ := sorted_out_str hS hp hs
  obtain ⟨c, hc2⟩ := PyProof.Rows.sortedHeap_at (vs := out) (out := (arrOf st').map (·.2)) hoL
  have hylen : (ys.map V.str).length ≤ sizeLine := by rw [List.length_map, (y2.trans pl).length_eq, sizeLine_eq]; omega
  have keep : ∀ b o, s.heap.get? b = some o → (sortedHeap (s1.heap.push (seqObj "list" out.toArray 0)) s1.heap.objs.size out ((arrOf st').map (·.2))).get? b = some o := fun b o e => by
    have q := k1 b o e
    have hlt := Heap.lt_size q
    rw [PyProof.Rows.sortedHeap_old (Nat.ne_of_lt hlt) (by rw [size_push']; exact Nat.lt_succ_of_lt hlt)]
    exact Heap.get?_push_of_some _ q
  have hn : H s1.heap.objs.size = none := I.hok.fresh z1
  have J : Inv X pins σ (upd H s1.heap.objs.size (.lst (ys.map V.str))) { s with heap := sortedHeap (s1.heap.push (seqObj "list" out.toArray 0)) s1.heap.objs.size out ((arrOf st').map (·.2)), gens := s1.gens, drawn := s1.drawn, toks := s1.toks } :=
    I.call (ch := []) (Un.laid keep z1 hn) (I.hok.laid keep z1 ⟨hylen, ((arrOf st').map (·.2)).toList, c, vals_of_strs y1, by rw [Array.toArray_toList]; exact hc2⟩) (by rw [g1]; exact I.bare) (fun _ z => nomatch z)
  refine wpAny_pure ⟨_, rfl, .ref s1.heap.objs.size, _, ?_, rfl, q ys _ (y2.trans pl) y3 hn⟩
  have e : ({ s1 with heap := sortedHeap (s1.heap.push (seqObj "list" out.toArray 0)) s1.heap.objs.size out ((arrOf st').map (·.2)) } : Shared) = { s with heap := sortedHeap (s1.heap.push (seqObj "list" out.toArray 0)) s1.heap.objs.size out ((arrOf st').map (·.2)), gens := s1.gens, drawn := s1.drawn, toks := s1.toks } := by
    cases s1
    cases s
    cases o1
    rfl
  rw [e]
  exact J
end
end Ts

set_option maxHeartbeats 4000000
/-! {e for x in ..}, e a text -/
namespace Ts
open PySem PySem.Spec PyProof.Rows L2 PySem.Froz PpSet
section
variable {X : Cx}
theorem tso_fresh {P : Program} {h : Heap} (w : World) : SetT P w (h.push { cls := .type "set", dict := none, data := .set #[] 0 (.fresh 0 0 (!w.params.followText "set-order")) }) h.objs.size [] := by
  refine ⟨(#[], 0, _), Heap.get?_push_size _ rfl, TxOk.nil (by rfl), fun e he => by simp at he, .nil, .nil, .nil, ?_⟩
  show _ ∨ (!w.params.followText "set-order") = true
  cases w.params.followText "set-order" <;> simp
theorem addT_run {pins : List (Addr × Obj)} {σ : L2.St} {H : Hp} {s : Shared} {E : Value → Shared → Prop} {D : Addr} {l : List Str} {y : Str} {u : Tok} {Q : Value → Shared → Prop} (I : Inv X pins σ H s) (hD : H D = some (TsO X.prog X.w D l)) (room : l.length + 1 < scanBound)
    (h : ∀ s', Inv X pins σ (upd H D (TsO X.prog X.w D (addL l y))) s' → Q .none s') : wpAny (model X.prog X.w) X.A (call (.builtin "set.add") [.ref D, .str y u]) Q E s :=
  setAdd_x (I.hok D _ hD).1 room fun h' keep new => h _ (I.write (e := D) (t' := s.toks + 1) (by rw [hD]; trivial) (.inl rfl) (fun b u hb hu => keep b u hb hu) ⟨_, new.choose_spec.1⟩ (tso_ok new))
abbrev tTs (P : Program) (w : World) (wi : TI) (g : TG) (tt : TT) (te : TE) (vs : List Nat) : TE := fun σ H Q => wi σ H fun J H1 => ∀ D, H1 D = none →
  ∃ W : Nat → Nat → Hp → Prop, (∃ m, W 0 m (upd H1 D (TsO P w D []))) ∧ ∀ i m H, W i m H → (J.stop i H ∧ Q (.ref D) H) ∨ (J.go i H ∧ ∃ Nx : Hp → Prop, (∀ H', Nx H' → ∃ m', m' < m ∧ W (i + 1) m' H') ∧
    ∀ x H', J.yld i H x H' → g x (wipe σ vs) H' fun σ2 H2 => wipe σ2 vs = wipe σ vs ∧ tt σ2 H2 fun b H3 => if b = true then te σ2 H3 fun y H4 => ∃ (k : Str) (l : List Str), y = .str k ∧ H4 D = some (TsO P w D l) ∧ l.length + 1 < scanBound ∧ Nx (upd H4 D (TsO P w D (addL l k))) else Nx H3)
theorem pe_ts {elt tg iter : Expr} {ifs : List Expr} {scope : Scope} {own : List (PySem.Str × Nat)} {pos : Pos} {wi : TI} {g : TG} {tt : TT} {te : TE}
    (hc : X.calm = true) (hN : X.N.Nodup) (hi : PI X tg iter wi) (ok : BlkOk X.N X.env.scope scope own)
    (hg : ∀ (s : Shared) (H : Hp) (C : Addr) (cl : List (PySem.Str × Addr)) (fp : List Addr), PG (X.blk s H scope (compEnvC scope cl C X.env) fp) tg g)
    (ht : ∀ (s : Shared) (H : Hp) (C : Addr) (cl : List (PySem.Str × Addr)) (fp : List Addr), PTs (X.blk s H scope (compEnvC scope cl C X.env) fp) ifs tt)
    (he : ∀ (s : Shared) (H : Hp) (C : Addr) (cl : List (PySem.Str × Addr)) (fp : List Addr), PE (X.blk s H scope (compEnvC scope cl C X.env) fp) elt te)
    (hs : ∀ x, foldedSetIterable iter X.env x = pure x) : PE X (.SetComp elt [⟨tg, iter, ifs, 0⟩] scope pos) (tTs X.prog X.w wi g tt te (own.map (·.2))) := by
  refine ⟨fun pins s σ H Q I h => ?_⟩
  rw [eval_SetComp]
  have free : ∀ y ∈ scope.names, y.2 = .free → ∃ c, X.env.cells.lookup y.1 = some c := fun y hy e =>
    (ok.free y hy e).elim (fun k => I.ok.has _ (.inl k)) fun k => I.ok.has _ (.inr k)
  refine wpAny_comprehension_free rfl hs (closure_ok free) ok.kind (fun y hy e => by rw [ok.uniq y hy, e]) (thn (hi.run pins s σ H _ I h) fun xv s1 hx => thn hx fun itv s2 h2 => ?_)
  obtain ⟨it, fp, tn, J, H2, e, I2, T, st2, f2, q⟩ := h2
  subst e
  refine newSet_ok (newEnv_comp ?_)
  have hDn : H2 s2.heap.objs.size = none := I2.hok.fresh (Nat.le_refl _)
  have hlow : ∀ b ∈ fp, b < s2.heap.objs.size := fun b hb => by
    obtain ⟨o, e, _⟩ := T.obj _ _ st2 b hb
    exact Heap.lt_size e
  obtain ⟨D, hD⟩ : ∃ D, s2.heap.objs.size = D := ⟨_, rfl⟩
  have fr := tso_fresh (P := X.prog) (h := s2.heap) X.w
  rw [hD] at hDn hlow fr ⊢
  obtain ⟨W, ⟨m0, w0⟩, turn⟩ := q D hDn
  obtain ⟨s3, hs3⟩ : ∃ s3 : Shared, { s2 with heap := s2.heap.push { cls := .type "set", dict := none, data := .set #[] 0 (.fresh 0 0 (!X.w.params.followText "set-order")) } } = s3 := ⟨_, rfl⟩
  have h3 : s3.heap = s2.heap.push { cls := .type "set", dict := none, data := .set #[] 0 (.fresh 0 0 (!X.w.params.followText "set-order")) } := by rw [← hs3]
  have up : ∀ b o, s2.heap.get? b = some o → s3.heap.get? b = some o := fun b o e => by
    rw [h3]
    exact Heap.get?_push_of_some _ e
  have I3 : Inv X pins σ (upd H2 D (TsO X.prog X.w D [])) s3 := by
    rw [← hs3]
    exact I2.laid (t' := s2.toks) (fun b o e => Heap.get?_push_of_some _ e) (Nat.le_of_eq hD) (tso_ok fr)
  have st3 : tn 0 s3.heap := T.keep _ _ _ st2 fun b _ o e => up b o e
  have f3 : ∀ b ∈ fp, FpOk X pins (upd H2 D (TsO X.prog X.w D [])) b ∧ b < s3.heap.objs.size := fun b hb => by
    refine ⟨⟨?_, (f2 b hb).2⟩, ?_⟩
    · rw [upd_ne (Nat.ne_of_lt (hlow b hb))]
      exact (f2 b hb).1
    · rw [h3, Heap.size_push, hD]
      exact Nat.lt_succ_of_lt (hlow b hb)
  rw [hs3]
  have I4 := block_start I3 ok hN f3
  obtain ⟨cs, hcs⟩ : ∃ cs, cellsFrom (s3.heap.objs.size + 1) scope.names (cloFrom X.env.cells scope.names []) = cs := ⟨_, rfl⟩
  have pg := hg s3 (upd H2 D (TsO X.prog X.w D [])) s3.heap.objs.size cs fp
  have pt := ht s3 (upd H2 D (TsO X.prog X.w D [])) s3.heap.objs.size cs fp
  have pe := he s3 (upd H2 D (TsO X.prog X.w D [])) s3.heap.objs.size cs fp
  show codeAny _ _ (.compStart (.SetComp elt [⟨tg, iter, ifs, 0⟩] scope pos) 0 (.ref it) (.ref D) (compEnvC scope (cellsFrom (s3.heap.objs.size + 1) scope.names (cloFrom X.env.cells scope.names [])) s3.heap.objs.size X.env))
    (compPost (model X.prog X.w) X.A X.xe _ _ (.ref D) s3.heap.objs.size) { s3 with heap := pushCells (s3.heap.push { cls := .type "dict", data := .dict #[] }) scope.names }
  have nfp : ∀ b ∈ fp, upd H2 D (TsO X.prog X.w D []) b = none := fun b hb => (f3 b hb).1.1
  rw [hcs] at I4 ⊢
  obtain ⟨ce, hce⟩ : ∃ ce, compEnvC scope cs s3.heap.objs.size X.env = ce := ⟨_, rfl⟩
  have cL : ce.locals = s3.heap.objs.size := by rw [← hce]; rfl
  rw [hce] at I4 pg pt pe ⊢
  obtain ⟨H3, hH3⟩ : ∃ H3, upd H2 D (TsO X.prog X.w D []) = H3 := ⟨_, rfl⟩
  rw [hH3] at I3 I4 pg pt pe w0 nfp f3
  obtain ⟨s4, hs4⟩ : ∃ s4 : Shared, { s3 with heap := pushCells (s3.heap.push { cls := .type "dict", data := .dict #[] }) scope.names } = s4 := ⟨_, rfl⟩
  have st4 : tn 0 s4.heap := T.keep _ _ _ st3 fun b _ o e => by
    rw [← hs4]
    exact pushCells_keeps _ _ _ _ (Heap.get?_push_of_some _ e)
  rw [hs4] at I4 ⊢
  have stat : ∀ {σ' : L2.St} {H' : Hp} {s' : Shared}, Inv (X.blk s3 H3 scope ce fp) [] σ' H' s' → (∀ b ∈ fp, H' b = none) → ∀ b ∈ fp, FpOk (X.blk s3 H3 scope ce fp) [] H' b :=
    fun {σ' H' s'} I' hn b hb => ⟨hn b hb, (I'.ok.exf b hb).1, I'.ok.exfs b hb, .inl hb, fun x c e => (I'.ok.exf b hb).2 x c e, fun p hp => by cases hp⟩
  refine (fun loop => codeAny_compStart_set loop (T.self X.A 0 _ _ _ st4 loop)) ?_
  refine compLoopS_any (fun n s' => ∃ i H', Inv (X.blk s3 H3 scope ce fp) [] (wipe σ (own.map (·.2))) H' s' ∧ tn i s'.heap ∧ (∀ b ∈ fp, H' b = none) ∧ W i n H') (fun n s5 ⟨i, H5, I5, st5, n5, w5⟩ => ?_) m0 ⟨0, H3, I4, st4, nfp, w0⟩
  rcases turn i n H5 w5 with ⟨stop, qq⟩ | ⟨go, Nx, hNx, step⟩
  · refine thnF (T.done (X.blk s3 H3 scope ce fp) rfl rfl rfl hc i [] s5 _ H5 (fun _ _ => False) I5 (stat I5 n5) st5 stop) fun r s6 ⟨hr, I6⟩ => ?_
    subst hr
    have I7 : Inv X pins σ H5 s6 := I3.call' (ch := fp) I6.os I6.base I6.hok I6.bare fun b hb =>
      let z := (f3 b hb).1
      ⟨z.2.2.2.1, z.2.1, z.2.2.2.2.1, z.2.2.2.2.2⟩
    have nC : H5 s3.heap.objs.size = none := cL ▸ (show H5 ce.locals = none from I6.free)
    obtain ⟨m, hn, _⟩ := I6.loc
    obtain ⟨f0, f1, _, f3', f4, f5⟩ := I3.fpOk (Nat.le_refl _) nC
    exact ⟨m, cL ▸ (show s6.heap.Ns ce.locals m from hn), fun h'' sb => ⟨.ref D, H5, I7.turned (t' := s6.toks) (fun b o hb e => (sb.2 b hb).trans e) f0 f1 f3' f4 f5, rfl, qq⟩⟩
  · refine thnF (T.item (X.blk s3 H3 scope ce fp) rfl rfl rfl hc i [] s5 _ H5 (fun _ _ => False) I5 (stat I5 n5) st5 go) fun r s6 ⟨u, hr, h6⟩ => ?_
    subst hr
    refine thnF h6 fun _ s7 ⟨x, H7, I7, r7, y7, st7, n7⟩ => ?_
    refine thnF (pg.run _ s7 _ H7 x u _ (I7.pinned (stat I7 n7) (T.obj _ _ st7)) r7 (step x H7 y7)) fun _ s8 ⟨σ8, H8, I8, hw8, q8⟩ => ?_
    refine thnF (pt.run _ s8 σ8 H8 _ I8 q8) fun b s9 ⟨H9, I9, q9⟩ => ?_
    have last : ∀ {s' : Shared} {H' : Hp}, Inv (X.blk s3 H3 scope ce fp) ([] ++ pinsAt fp s7.heap) σ8 H' s' → Nx H' →
        ∃ m, m < n ∧ ∃ i H', Inv (X.blk s3 H3 scope ce fp) [] (wipe σ (own.map (·.2))) H' s' ∧ tn i s'.heap ∧ (∀ b ∈ fp, H' b = none) ∧ W i m H' := fun {s' H'} I' nx => by
      obtain ⟨m', hm, w'⟩ := hNx H' nx
      have pin' : ∀ b ∈ fp, ∀ o, s7.heap.get? b = some o → s'.heap.get? b = some o ∧ H' b = none := fun b hb o e =>
        let z := I'.pin (b, o) (List.mem_append_right _ (List.mem_append_right _ (mem_pinsAt hb e)))
        ⟨z.1, z.2.1⟩
      refine ⟨m', hm, i + 1, H', (I'.unpinned (pins := [])).weak (by rw [← hw8, wipe_length]) (fun j v e => ?_), T.keep _ _ _ st7 fun b hb o e => (pin' b hb o e).1, fun b hb => ?_, w'⟩
      · exact (wipe_some (hw8 ▸ e)).1
      · obtain ⟨o, e, _⟩ := T.obj _ _ st7 b hb
        exact (pin' b hb o e).2
    cases b with
    | false => exact last I9 (by simpa using q9)
    | true =>
      simp only [if_true] at q9 ⊢
      refine thnF (pe.run _ s9 σ8 H9 _ I9 q9) fun z s10 ⟨yv, H10, I10, r10, kb, l0, ey, hD10, hz10, nx⟩ => ?_
      subst ey
      obtain ⟨tk, rfl⟩ := (show ∃ tk, z = Value.str kb tk from r10)
      exact addT_run (X := X.blk s3 H3 scope ce fp) I10 hD10 hz10 fun s11 I11 => last I11 nx
end
end Ts

set_option maxHeartbeats 4000000
/-! set(xs) of a list of ints, to be sorted -/
namespace Ts
open PySem PySem.Spec PyProof.Rows L2
def eSet (w : World) : Obj := { cls := .type "set", dict := none, data := .set #[] 0 (.fresh 0 0 (!w.params.followText "set-order")) }
section
variable {P : Program} {w : World} {A : Around} {E : Value → Shared → Prop} {s : Shared}
theorem set_of_list {l : Addr} {items : Array Value} (ns : List Int) {Q : Value → Shared → Prop} (hh : A.handled = none) (hl : s.heap.IsList l items) (hit : IntsAre items.toList ns) (hb : ns.length + 1 < scanBound)
    (h : ∀ (h' : Heap) (tk c : Nat), SetR w h' s.heap.objs.size (fun j => decide (j ∈ ns)) c → c ≤ ns.length → (∀ b o, s.heap.get? b = some o → h'.get? b = some o) → Q (.ref s.heap.objs.size) { s with heap := h', toks := tk }) :
    wpAny (model P w) A (call (.type "set") [.ref l]) Q E s := by
  have hisz : items.size = ns.length := by rw [← Array.length_toList]; exact IntsAre.length hit
  have ⟨_, _, hmro⟩ := F.called_set.mro
  have hmade := F.called_set.made
  have hsub := F.called_set.sub
  refine wpAny_call (codeAny_of_tree ?_)
  show wpAny _ _ (callAny (.type "set") _) _ _ _
  refine wpAny_pure ⟨Code.quiet_builtin _ (by decide +kernel), codeAny_builtin F.entry_type_call ?_⟩
  rw [Around.under_plain (weight_type_call_type "set" [.ref l] []) rfl]
  have h1 := F.called_set.notType
  have h2 := F.called_set.canCreate
  have hct := F.typeCall_set_1 (.ref l)
  repeat (any_goals (first | assumption | wp_step))
  refine codeAny_mono (code_set_led1 (.ref l) (E := E) (Q₁ := fun obj s₁ => obj = .ref s.heap.objs.size ∧ s₁ = { s with heap := s.heap.push (eSet w) }) ⟨rfl, rfl⟩) fun r s₁ hr => ?_
  cases r with
  | error e => exact hr
  | ok fl =>
    cases fl with
    | ret obj =>
      obtain ⟨rfl, rfl⟩ := hr
      have hS : (s.heap.push (eSet w)).get? s.heap.objs.size = some (eSet w) := Heap.get?_push_size _ rfl
      have hT : Shared.TypeIs { s with heap := s.heap.push (eSet w) } (.ref s.heap.objs.size) "set" := ⟨_, hS, rfl⟩
      have hli := F.called_set.init.lookup
      have hbi := F.called_set.init.bind (.ref s.heap.objs.size)
      repeat (any_goals (first | assumption | wp_step))
      refine codeAny_mono (codeAny_call_builtin (R := wants (fun r s₂ => r = .none ∧ ∃ h' tk c, s₂ = { s with heap := h', toks := tk } ∧ SetR w h' s.heap.objs.size (fun j => decide (j ∈ ns)) c ∧ c ≤ ns.length ∧
          ∀ b o, s.heap.get? b = some o → h'.get? b = some o) E) F.called_set.init.plain F.entry_set_init (check_set_init_1 hT ?_)) fun r₂ s₂ hr₂ => ?_
      · obtain ⟨⟨oc, od, odt, osl⟩, hol, hcl, nl, hdl⟩ := hl
        simp only at hcl hdl
        subst hcl hdl
        have hsls := F.sub_list_set
        have hslf := F.sub_list_frozenset
        have hne : (Value.type "list" == Value.type "dict") = false := by decide
        have hol' : (s.heap.push (eSet w)).get? l = some { cls := .type "list", dict := od, data := .seq items nl, slots := osl } := Heap.get?_push_of_some _ hol
        have hl1 : (s.heap.push (eSet w)).IsList l items := ⟨_, hol', rfl, nl, rfl⟩
        unfold Builtin.«set.__init__» noKeywords Builtin.Frozenset.updateFrom
        generalize hPI : pyIter = PI
        wp_walk
        subst hPI
        refine wpAny_pyIter_list hl1 (wpAny_bind (wpAny_runValue ?_))
        have hlS : l < s.heap.objs.size := Heap.lt_size hol
        have hz1 : (s.heap.push (eSet w)).objs.size = s.heap.objs.size + 1 := Heap.size_push ..
        have hSf : s.heap.objs.size ∉ [(s.heap.push (eSet w)).objs.size, l] := by
          rw [hz1]
          simp only [List.mem_cons, List.not_mem_nil, or_false, not_or]
          exact ⟨Nat.ne_of_lt (Nat.lt_succ_self _), Nat.ne_of_gt hlS⟩
        have hval : ∀ (i : Nat) (v : Value), items[i]? = some v → ∃ k t, ns[i]? = some k ∧ v = .int k t := fun i v hv => by
          have hi : i < ns.length := hisz ▸ (Array.getElem?_eq_some_iff.mp hv).1
          obtain ⟨t, e⟩ := PyProof.Rows.IntsAre.int_at hit i v (by rw [Array.getElem?_toList]; exact hv)
          refine ⟨ns[i], t, List.getElem?_eq_getElem hi, ?_⟩
          rw [e, List.getD_eq_getElem?_getD, List.getElem?_eq_getElem hi] <;> rfl
        refine set_update_ints ((Walks.list (A := A.in1.in1.in1) (by simp [hh]) _ l (by rw [hz1]; exact Nat.ne_of_lt (Nat.lt_succ_of_lt hlS)) items).toS) s.heap.objs.size hSf ns hisz hb hval (items.size - 0) 0 _ (by omega) (Nat.zero_le _)
          ⟨⟨_, Heap.get?_push_size _ rfl, rfl, rfl⟩, (hl1.push _)⟩ ⟨0, Nat.le_refl 0, setR_new_at (Heap.get?_push_of_some _ hS)⟩ ?_
        rintro ⟨h', g2, d', tk', os'⟩ c' hm hc' hS'
        cases (show g2 = s.gens from hm.gens)
        cases (show d' = s.drawn from hm.drawn)
        cases (show os' = s.os from hm.os)
        refine wpAny_pure ?_
        show wpAny _ _ (ret Value.none) _ _ _
        refine wpAny_pure ⟨rfl, h', tk', c', rfl, hS', by rw [← hisz]; exact hc', fun b o e => ?_⟩
        have hb0 : b < s.heap.objs.size := Heap.lt_size e
        refine hm.heap b o ?_ (Heap.get?_push_of_some _ (Heap.get?_push_of_some _ e))
        rw [hz1]
        simp only [List.mem_cons, List.not_mem_nil, or_false, not_or]
        exact ⟨Nat.ne_of_lt hb0, Nat.ne_of_lt (Nat.lt_succ_of_lt hb0)⟩
      · cases r₂ with
        | error e => exact hr₂
        | ok fl₂ =>
          cases fl₂ with
          | ret r =>
            obtain ⟨rfl, h', tk, c', rfl, hS', hc', hk'⟩ := hr₂
            repeat (any_goals (first | assumption | wp_step))
            exact h _ _ _ hS' hc' hk'
          | _ => exact hr₂.elim
    | _ => exact hr.elim
end
section
variable {X : Cx}
def rSetL (K : PySem.W.Frag) (w : World) : List V → Hp → VK → Prop := fun vs H Q => ∃ (a : Addr) (ns : List Int), vs = [V.ref a] ∧ SqL K H a (ns.map V.int) ∧ ns.length + 1 < scanBound ∧
  ∀ p c, c ≤ ns.length → H p = none → Q (.ref p) (upd H p (SetO w p (fun j => decide (j ∈ ns)) c))
theorem cr_setL (hc : X.calm = true) : CallR X (.type "set") (rSetL X.K X.w) := by
  intro pins s σ H vs us Q I r h
  obtain ⟨a, ns, rfl, hs, hb, q⟩ := h
  obtain ⟨its, rv, hl, _⟩ := I.list hs
  rw [Vals.ref1 r]
  refine set_of_list ns (I.ok.hd hc) hl.isList (by simpa using rv.ints) hb fun h' tk c R hc' keep => ?_
  exact ⟨.ref _, upd H s.heap.objs.size (SetO X.w s.heap.objs.size (fun j => decide (j ∈ ns)) c), I.laid (t' := tk) keep (Nat.le_refl _) (setO_new R), rfl, q _ c hc' (I.hok.fresh (Nat.le_refl _))⟩
end
end Ts

set_option maxHeartbeats 4000000
/-! one-letter texts by number; what ascends and has the same members is the same -/
namespace Ga
open PySem PySem.Spec PyProof.Rows
theorem incr_ext {α : Type} (lt : α → α → Prop) (irr : ∀ a, ¬ lt a a) (tr : ∀ a b c, lt a b → lt b c → lt a c) : ∀ {l m : List α}, l.Pairwise lt → m.Pairwise lt → (∀ x, x ∈ l ↔ x ∈ m) → l = m
  | [], [], _, _, _ => rfl
  | [], b :: m, _, _, h => absurd ((h b).mpr List.mem_cons_self) (by simp)
  | a :: l, [], _, _, h => absurd ((h a).mp List.mem_cons_self) (by simp)
  | a :: l, b :: m, h1, h2, h => by
    obtain ⟨p1, q1⟩ := List.pairwise_cons.mp h1
    obtain ⟨p2, q2⟩ := List.pairwise_cons.mp h2
    have e : a = b := by
      rcases List.mem_cons.mp ((h a).mp List.mem_cons_self) with z | z
      · exact z
      · rcases List.mem_cons.mp ((h b).mpr List.mem_cons_self) with y | y
        · exact y.symm
        · exact absurd (tr _ _ _ (p1 b y) (p2 a z)) (irr a)
    subst e
    congr 1
    refine incr_ext lt irr tr q1 q2 fun x => ⟨fun hx => ?_, fun hx => ?_⟩
    · rcases List.mem_cons.mp ((h x).mp (List.mem_cons_of_mem _ hx)) with z | z
      · subst z
        exact absurd (p1 x hx) (irr x)
      · exact z
    · rcases List.mem_cons.mp ((h x).mpr (List.mem_cons_of_mem _ hx)) with z | z
      · subst z
        exact absurd (p2 x hx) (irr x)
      · exact z
theorem incr_nat {l m : List Nat} (h1 : l.Pairwise (· < ·)) (h2 : m.Pairwise (· < ·)) (h : ∀ x, x ∈ l ↔ x ∈ m) : l = m := incr_ext (· < ·) (fun a => Nat.lt_irrefl a) (fun a b c => Nat.lt_trans) h1 h2 h
theorem incr_int {l m : List Int} (h1 : l.Pairwise (· < ·)) (h2 : m.Pairwise (· < ·)) (h : ∀ x, x ∈ l ↔ x ∈ m) : l = m := incr_ext (· < ·) (fun a => Int.lt_irrefl a) (fun a b c => Int.lt_trans) h1 h2 h
/-- the letter number n -/
def P (n : Nat) : Str := ⟨#[97 + n]⟩
theorem P_inj {m n : Nat} (h : P m = P n) : m = n := by
  have e := congrArg (fun s : Str => s.cps.toList) h
  simp [P] at e
  exact e
theorem P_eq {m n : Nat} : (P m = P n) = (m = n) := propext ⟨P_inj, fun h => h ▸ rfl⟩
theorem P_mem {n : Nat} {l : List Nat} : P n ∈ l.map P ↔ n ∈ l := by
  rw [List.mem_map]
  exact ⟨fun ⟨m, h, e⟩ => P_inj e ▸ h, fun h => ⟨n, h, rfl⟩⟩
/-- the texts, each once, ascending -/
def asc (ns : List Nat) : List Nat := (List.range 26).filter fun n => decide (n ∈ ns)
theorem mem_asc {n : Nat} {ns : List Nat} : n ∈ asc ns ↔ n < 26 ∧ n ∈ ns := by simp [asc]
theorem asc_lt (ns : List Nat) : (asc ns).Pairwise (· < ·) := List.Pairwise.filter _ List.pairwise_lt_range
theorem asc_nd (ns : List Nat) : (asc ns).Nodup := (asc_lt ns).imp fun h => Nat.ne_of_lt h
theorem asc_len (ns : List Nat) : (asc ns).length ≤ 26 := Nat.le_trans (List.length_filter_le ..) (by simp)
theorem asc_congr {l m : List Nat} (h : ∀ n, n < 26 → (n ∈ l ↔ n ∈ m)) : asc l = asc m := incr_nat (asc_lt l) (asc_lt m) fun n => by
  rw [mem_asc, mem_asc]
  exact ⟨fun ⟨a, b⟩ => ⟨a, (h n a).mp b⟩, fun ⟨a, b⟩ => ⟨a, (h n a).mpr b⟩⟩
theorem rise_P : ∀ (ms : List Nat) (n : Nat), risingS (P n) (ms.map P) = true → (n :: ms).Pairwise (· ≤ ·)
  | [], n, _ => by simp
  | m :: ms, n, h => by
    have h2 : (!ltCps (P m).cps.toList (P n).cps.toList && risingS (P m) (ms.map P)) = true := h
    obtain ⟨a, b⟩ := Bool.and_eq_true_iff.mp h2
    have ih := rise_P ms m b
    have hmn : n ≤ m := by
      simp [P, ltCps] at a
      omega
    refine List.pairwise_cons.mpr ⟨fun x hx => ?_, ih⟩
    rcases List.mem_cons.mp hx with z | z
    · subst z
      exact hmn
    · exact Nat.le_trans hmn ((List.pairwise_cons.mp ih).1 x z)
theorem sorted_P {ms : List Nat} (h : sortedS (ms.map P) = true) : ms.Pairwise (· ≤ ·) := by
  cases ms with
  | nil => exact .nil
  | cons m ms => exact rise_P ms m h
theorem of_Ps : ∀ {ys : List Str}, (∀ y ∈ ys, ∃ n, y = P n) → ∃ ms : List Nat, ys = ms.map P
  | [], _ => ⟨[], rfl⟩
  | y :: ys, h => by
    obtain ⟨n, e⟩ := h y List.mem_cons_self
    obtain ⟨ms, e2⟩ := of_Ps fun z hz => h z (List.mem_cons_of_mem _ hz)
    exact ⟨n :: ms, by rw [e, e2]; rfl⟩
theorem nodup_of_map {ms : List Nat} (h : (ms.map P).Nodup) : ms.Nodup := by
  induction ms with
  | nil => exact .nil
  | cons m ms ih =>
    obtain ⟨a, b⟩ := List.nodup_cons.mp h
    exact List.nodup_cons.mpr ⟨fun z => a (List.mem_map_of_mem z), ih b⟩
/-- sorted, each once, the letters ns -/
theorem asc_of {ys : List Str} {ns : List Nat} (hd : ys.Nodup) (hs : sortedS ys = true) (hm : ∀ y, y ∈ ys ↔ y ∈ ns.map P) (hn : ∀ n ∈ ns, n < 26) : ys = (asc ns).map P := by
  obtain ⟨ms, e⟩ := of_Ps (ys := ys) fun y hy => by
    obtain ⟨n, _, e⟩ := List.mem_map.mp ((hm y).mp hy)
    exact ⟨n, e.symm⟩
  subst e
  have nd := nodup_of_map hd
  have le := sorted_P hs
  congr 1
  refine incr_nat ?_ (asc_lt ns) fun n => ?_
  · exact (le.and nd).imp fun ⟨a, b⟩ => Nat.lt_of_le_of_ne a b
  · rw [mem_asc, ← P_mem, hm, P_mem]
    exact ⟨fun z => ⟨hn n z, z⟩, fun z => z.2⟩
/-- the numbers below 64, each once, ascending -/
def ascI (ns : List Int) : List Int := ((List.range 64).map fun n : Nat => (n : Int)).filter fun n => decide (n ∈ ns)
theorem mem_ascI {n : Int} {ns : List Int} : n ∈ ascI ns ↔ (0 ≤ n ∧ n < 64) ∧ n ∈ ns := by
  simp only [ascI, List.mem_filter, List.mem_map, List.mem_range, decide_eq_true_eq]
  constructor
  · rintro ⟨⟨m, h, e⟩, z⟩
    exact ⟨by omega, z⟩
  · rintro ⟨h, z⟩
    exact ⟨⟨n.toNat, by omega, by omega⟩, z⟩
theorem ascI_lt (ns : List Int) : (ascI ns).Pairwise (· < ·) := by
  refine List.Pairwise.filter _ ?_
  rw [List.pairwise_map]
  exact List.pairwise_lt_range.imp fun h => by omega
theorem ascI_len (ns : List Int) : (ascI ns).length ≤ 64 := Nat.le_trans (List.length_filter_le ..) (by simp)
theorem ascI_of {ys ns : List Int} (hs : ys.Pairwise (· < ·)) (hm : ∀ y, y ∈ ys ↔ y ∈ ns) (hn : ∀ n ∈ ns, 0 ≤ n ∧ n < 64) : ys = ascI ns := incr_int hs (ascI_lt ns) fun n => by
  rw [mem_ascI, hm]
  exact ⟨fun z => ⟨hn n z, z⟩, fun z => z.2⟩
end Ga

set_option maxHeartbeats 4000000
/-! more calls of builtins by data -/
namespace Dl
open PySem L2
open Evl (Ex)
def tyD : Dat → String
  | .non => "NoneType"
  | .bl _ => "bool"
  | .int _ => "int"
  | .str _ => "str"
  | .tup _ => "tuple"
  | .otp _ => "tuple"
  | .lst _ => "list"
  | .dic _ => "dict"
  | .ins _ _ => ""
  | .pl => ""
section
variable {K : PySem.W.Frag} {ρ : List Sl} {ta tb tc te tl : TE} {tt tu : TT} {t : TA} {d e : Dat} {ds es : List Dat} {i j : Int} {s z : Str} {b c : Bool} {n m : String}
theorem ty_rep {H : Hp} {v : V} (r : Rep H v d) (h : tyD d ≠ "") : TyX K H v (.type (tyD d)) := by
  cases r with
  | non => exact .base .non
  | bl b => exact .base (.bl b)
  | int b => exact .base (.int b)
  | str b => exact .base (.str b)
  | tup h1 _ => exact .base (.tup h1)
  | lst h1 _ => exact .base (.lst h1)
  | dic h1 _ => exact .base (.dK h1)
  | otp h1 _ => exact .fTuple h1
  | ins => exact absurd rfl h
  | pl => exact absurd rfl h
theorem ev_isi (h : EV ta ρ d) (hd : tyD d ≠ "") (hk : kitB (tyD d) n = some b) : EV (tCB (rIsi K) (tCons ta (tCons (tC (.ty n)) tNil))) ρ (.bl b) := fun B H σ S Q q => h B H σ S _ fun v B1 H1 g1 r1 =>
  ⟨v, .ty n, _, _, b, rfl, .ty n, ty_rep (r1.mono g1.bh) hd, kit_ty hk, q _ B1 H1 g1 (.bl b)⟩
theorem ev_isi2 (h : EV ta ρ d) (hd : tyD d ≠ "") (hk : kitB (tyD d) n = some b) (hk2 : b = false → kitB (tyD d) m = some c) : EV (tCB (rIsiT K) (tCons ta (tCons (tTup (tCons (tC (.ty n)) (tCons (tC (.ty m)) tNil))) tNil))) ρ (.bl (b || c)) := fun B H σ S Q q => h B H σ S _ fun v B1 H1 g1 r1 =>
  ⟨by show 2 ≤ sizeLine; decide, fun p hp => ⟨v, p, [.ty n, .ty m], _, [.type n, .type m], b || c, rfl, upd_same, .cons (.ty n) (.cons (.ty m) .nil), ty_rep ((r1.mono g1.bh).mono (Evl.Ex.new hp)) hd,
    kitAny_cons (kit_ty hk) (fun e => by
      subst e
      exact kitAny_cons (kit_ty (hk2 rfl)) (fun e => by subst e; rfl) (fun e => by subst e; rfl)) (fun e => by subst e; rfl), q _ B1 _ (g1.trans (Go.own g1.bh hp)) (.bl _)⟩⟩
theorem ev_cb {r : List V → Hp → VK → Prop} (h : EA t ρ ds) (hr : ∀ B H vs Q, Ex B H → Reps B vs ds → (∀ v B2 H2, Go B H B2 H2 → Rep B2 v d → Q v H2) → r vs H Q) : EV (tCB r t) ρ d := fun B H σ S Q q => h B H σ S _ fun vs B1 H1 g1 r1 =>
  hr B1 H1 vs Q g1.bh r1 fun v B2 H2 g2 r2 => q v B2 H2 (g1.trans g2) r2
theorem evn_cb {r : List V → Hp → VK → Prop} (h : EA t ρ ds) (hr : ∀ B H vs Q, Ex B H → Reps B vs ds → (∀ p vs B2 H2, Go B H B2 H2 → H p = none → B2 p = none → H2 p = some (.lst vs) → Reps B2 vs es → Q (.ref p) H2) → r vs H Q) : EVN (tCB r t) ρ es := fun B H σ S Q q => h B H σ S _ fun vs B1 H1 g1 r1 =>
  hr B1 H1 vs Q g1.bh r1 fun p ws B2 H2 g2 hp n h2 r2 => q p ws B2 H2 (g1.trans g2) (Evl.fresh_back g1.hh hp) n h2 r2
theorem one_rep {H : Hp} {vs : List V} (r : Reps H vs [d]) : ∃ v, vs = [v] ∧ Rep H v d := by
  cases r with
  | cons a r =>
    cases r
    exact ⟨_, rfl, a⟩
abbrev rInt1 : List V → Hp → VK → Prop := fun xs H Q => (∃ i, xs = [.int i] ∧ Q (.int i) H) ∨ ∃ k, xs = [.bl k] ∧ Q (.int (if k then 1 else 0)) H
theorem ev_int1 (h : EA t ρ [.int i]) : EV (tCB rInt1 t) ρ (.int i) := ev_cb h fun B H vs Q e r q => by
  obtain ⟨v, rfl, r1⟩ := one_rep r
  cases r1
  exact .inl ⟨i, rfl, q _ B H (Go.refl e) (.int i)⟩
theorem ev_intB (h : EA t ρ [.bl b]) : EV (tCB rInt1 t) ρ (.int (if b then 1 else 0)) := ev_cb h fun B H vs Q e r q => by
  obtain ⟨v, rfl, r1⟩ := one_rep r
  cases r1
  exact .inr ⟨b, rfl, q _ B H (Go.refl e) (.int _)⟩
abbrev rBool1 : List V → Hp → VK → Prop := fun xs H Q => (∃ i, xs = [.int i] ∧ Q (.bl (i != 0)) H) ∨ ∃ k, xs = [.bl k] ∧ Q (.bl k) H
theorem ev_bool1 (h : EA t ρ [.bl b]) : EV (tCB rBool1 t) ρ (.bl b) := ev_cb h fun B H vs Q e r q => by
  obtain ⟨v, rfl, r1⟩ := one_rep r
  cases r1
  exact .inr ⟨b, rfl, q _ B H (Go.refl e) (.bl b)⟩
abbrev rMax2 : List V → Hp → VK → Prop := fun xs H Q => ∃ i j, xs = [.int i, .int j] ∧ Q (.int (if j > i then j else i)) H
theorem ev_max2 (h : EA t ρ [.int i, .int j]) : EV (tCB rMax2 t) ρ (.int (if j > i then j else i)) := ev_cb h fun B H vs Q e r q => by
  cases r with
  | cons a r =>
    obtain ⟨v, rfl, b⟩ := one_rep r
    cases a
    cases b
    exact ⟨i, j, rfl, q _ B H (Go.refl e) (.int _)⟩
abbrev rStr1 : List V → Hp → VK → Prop := fun xs H Q => ∃ a, xs = [.str a] ∧ Q (.str a) H
theorem ev_str1 (h : EA t ρ [.str s]) : EV (tCB rStr1 t) ρ (.str s) := ev_cb h fun B H vs Q e r q => by
  obtain ⟨v, rfl, r1⟩ := one_rep r
  cases r1
  exact ⟨s, rfl, q _ B H (Go.refl e) (.str s)⟩
theorem ev_all {bs : List Bool} (h : EA t ρ [.lst (bs.map .bl)]) : EV (tCB (rAll K) t) ρ (.bl (bs.all id)) := ev_cb h fun B H vs Q e r q => by
  obtain ⟨v, rfl, r1⟩ := one_rep r
  cases r1 with
  | lst h1 r =>
    have z := r.bls
    subst z
    exact ⟨_, bs, rfl, SqL.of (e _ _ h1), q _ B H (Go.refl e) (.bl _)⟩
theorem evn_sortS {xs ys : List Str} (h : EA t ρ [.lst (xs.map .str)]) (h64 : xs.length < 64) (hy : ∀ zs : List Str, zs.Perm xs → PyProof.Rows.sortedS zs = true → zs = ys) : EVN (tCB (rSortedS K) t) ρ (ys.map .str) := evn_cb h fun B H vs Q e r q => by
  obtain ⟨v, rfl, r1⟩ := one_rep r
  cases r1 with
  | lst h1 r =>
    have z := r.strs
    subst z
    refine ⟨_, xs, rfl, SqL.of (e _ _ h1), h64, fun zs p hp hs hn => ?_⟩
    rw [hy zs hp hs]
    exact q p _ B _ (Go.own e hn) hn (free_of e hn) upd_same (Reps.of_strs ys)
theorem evn_sortI {xs ys : List Int} (h : EA t ρ [.lst (xs.map .int)]) (h64 : xs.length < 64) (hy : ∀ zs : List Int, zs.Perm xs → zs.Pairwise (· ≤ ·) → zs = ys) : EVN (tCB (rSorted K) t) ρ (ys.map .int) := evn_cb h fun B H vs Q e r q => by
  obtain ⟨v, rfl, r1⟩ := one_rep r
  cases r1 with
  | lst h1 r =>
    have z := r.ints
    subst z
    refine ⟨_, xs, rfl, SqL.of (e _ _ h1), h64, fun zs p hp hs hn => ?_⟩
    rw [hy zs hp hs]
    exact q p _ B _ (Go.own e hn) hn (free_of e hn) upd_same (Reps.of_ints ys)
abbrev rListOf (K : PySem.W.Frag) : List V → Hp → VK → Prop := fun xs H Q => ∃ p ys, xs = [.ref p] ∧ (SqL K H p ys ∨ SqT K H p ys) ∧ ∀ l, H l = none → Q (.ref l) (upd H l (.lst ys))
theorem evn_listT (h : EA t ρ [.tup ds]) : EVN (tCB (rListOf K) t) ρ ds := evn_cb h fun B H vs Q e r q => by
  obtain ⟨v, rfl, r1⟩ := one_rep r
  cases r1 with
  | tup h1 r => exact ⟨_, _, rfl, .inr (SqT.of (e _ _ h1)), fun l hn => q l _ B _ (Go.own e hn) hn (free_of e hn) upd_same r⟩
abbrev rTupOf (K : PySem.W.Frag) : List V → Hp → VK → Prop := fun xs H Q => ∃ p ys, xs = [.ref p] ∧ ((SqL K H p ys ∧ ∀ l, H l = none → Q (.ref l) (upd H l (.tup ys))) ∨ (SqT K H p ys ∧ Q (.ref p) H))
theorem ev_tupL (h : EA t ρ [.lst ds]) : EV (tCB (rTupOf K) t) ρ (.tup ds) := ev_cb h fun B H vs Q e r q => by
  obtain ⟨v, rfl, r1⟩ := one_rep r
  cases r1 with
  | lst h1 r => exact ⟨_, _, rfl, .inl ⟨SqL.of (e _ _ h1), fun l hn => q _ _ _ (Go.new e hn) (.tup upd_same (r.mono (Evl.Ex.new (free_of e hn))))⟩⟩
abbrev rDictOf : List V → Hp → VK → Prop := fun xs H Q => ∃ (a : Addr) (kvs : List (Key × V)), xs = [.ref a] ∧ Rd H a (.dK kvs) ∧ ∀ p, H p = none → Q (.ref p) (upd H p (.dK kvs))
theorem ev_dictD {kvs : List (Str × Dat)} (h : EA t ρ [.dic kvs]) : EV (tCB rDictOf t) ρ (.dic kvs) := ev_cb h fun B H vs Q e r q => by
  obtain ⟨v, rfl, r1⟩ := one_rep r
  cases r1 with
  | dic h1 r => exact ⟨_, _, rfl, .inl (e _ _ h1), fun l hn => q _ _ _ (Go.new e hn) (.dic upd_same (r.mono (Evl.Ex.new (free_of e hn))))⟩

/-! ### the tuples of an order -/
theorem ev_lenO {xs : List Str} (ha : EV ta ρ (.otp xs)) : EV (tCB (rLenQ K) (tCons ta tNil)) ρ (.int xs.length) := fun B H σ S Q q => ha B H σ S _ fun v B1 H1 g1 r1 => by
  cases r1 with
  | otp h1 _ => exact ⟨_, _, rfl, .inr (.inl (.inr ⟨_, g1.bh _ _ h1⟩)), by rw [List.length_map]; exact q _ B1 H1 g1 (.int _)⟩
theorem ev_inSO {xs : List Str} (ha : EV ta ρ (.str s)) (hb : EV tb ρ (.otp xs)) : EV (tOp (rIn K false) ta tb) ρ (.bl (decide (s ∈ xs))) := fun B H σ S Q q =>
  ha B H σ S _ fun v B1 H1 g1 r1 => hb B1 H1 σ (S.mono g1) _ fun u B2 H2 g2 r2 => by
    cases r1
    cases r2 with
    | otp a2 _ =>
      refine ⟨_, _, rfl, .inr (.inl (.inr ⟨_, g2.bh _ _ a2⟩)), rfl, flat_strs xs, ?_⟩
      show Q (.bl (inV (.str s) (xs.map V.str))) H2
      rw [inV_strs]
      exact q _ B2 H2 (g1.trans g2) (.bl _)
theorem it_otp {xs : List Str} (h : EV tl ρ (.otp xs)) : ITp (iTup K tl) ρ (xs.map .str) := fun B H σ S R q => h B H σ S _ fun v B1 H1 g1 r1 => by
  cases r1 with
  | otp h1 _ =>
    rename_i p o z
    have sq : ∀ {B H}, Ex B1 B → Ex B H → SqT K H p (xs.map V.str) := fun e1 e2 => .inl (.inr ⟨_, e2 _ _ (e1 _ _ h1)⟩)
    refine ⟨p, rfl, ⟨_, sq (Evl.Ex.refl _) g1.bh⟩, q _ B1 H1 g1 ⟨fun B H e1 e2 => ⟨_, sq e1 e2, by simp⟩, fun i B H hi e1 e2 => ⟨xs.map V.str, (xs.map V.str)[i]'(by simpa using hi), sq e1 e2, by
      have : i < xs.length := by simpa using hi
      simp [this]⟩, fun i B H x H' hi e1 e2 y => ?_⟩⟩
    obtain ⟨e, y⟩ := y
    subst e
    obtain ⟨d, h3, h4⟩ := (Reps.of_strs (H := B) xs).get (y _ (sq e1 e2))
    exact ⟨d, B, h3, Go.refl e2, h4⟩
theorem ev_niSlO {xs : List Str} {hi : Option Int} {thi : TO} (ha : EV ta ρ (.str s)) (h : EV te ρ (.otp xs)) (h2 : EO thi ρ hi) :
    EV (tOp (rIn K true) ta (tSl (rSlA K) te tNoPart thi)) ρ (.bl (!decide (s ∈ xs.take (HT.sIx xs.length xs.length hi)))) := fun B H σ S Q q =>
  ha B H σ S _ fun v B1 H1 g1 r1 => h B1 H1 σ (S.mono g1) _ fun u B2 H2 g2 r2 => h2 B2 H2 σ (S.mono (g1.trans g2)) _ fun B3 H3 g3 => by
    cases r1
    cases r2 with
    | otp a2 _ =>
      have sq : SqT K H3 _ (xs.map V.str) := .inl (.inr ⟨_, g3.hh _ _ (g2.bh _ _ a2)⟩)
      have h0 : HT.sIx (xs.map V.str).length 0 none = 0 := rfl
      have cut : cutV (xs.map V.str) none hi = (xs.take (HT.sIx xs.length xs.length hi)).map V.str := by
        unfold cutV
        rw [h0, List.drop_zero, Nat.sub_zero, List.length_map, List.map_take]
      have fin : ∀ (p : Addr) (B4 H4 : Hp) (ys : List Str), Go B3 H3 B4 H4 → SqT K H4 p (ys.map V.str) → ys = xs.take (HT.sIx xs.length xs.length hi) → rIn K true (.str s) (.ref p) H4 Q := fun p B4 H4 ys g4 sq e => by
        subst e
        refine ⟨_, _, rfl, .inr sq, rfl, flat_strs _, ?_⟩
        show Q (.bl (!inV (.str s) _)) H4
        rw [inV_strs]
        exact q _ B4 H4 (((g1.trans g2).trans g3).trans g4) (.bl _)
      refine ⟨_, _, rfl, sq, fun hh => fin _ B3 H3 xs (Go.refl g3.bh) sq ?_, fun _ p hp => fin p B3 _ _ (Go.own g3.bh hp) (SqT.of ?_) rfl⟩
      · have e := hh.2
        rw [List.length_map] at e
        rw [e, List.take_length]
      · rw [← cut]
        exact upd_same
end
end Dl

set_option maxHeartbeats 4000000
/-! dicts of one's own, by data -/
namespace Dl
open PySem L2
open Evl (Ex)
def keyD : Key → Dat
  | .inl i => .int i
  | .inr s => .str s
theorem rep_key {H : Hp} : ∀ k : Key, Rep H (kV k) (keyD k)
  | .inl i => .int i
  | .inr s => .str s
theorem key_of {H : Hp} {k : Key} {v : V} (r : Rep H v (keyD k)) : v = kV k := by
  cases k <;> cases r <;> rfl
def putD (kds : List (Key × Dat)) (k : Key) (d : Dat) : List (Key × Dat) :=
  if (kds.any fun x => decide (x.1 = k)) = true then kds.map (fun x => if x.1 = k then (x.1, d) else x) else kds ++ [(k, d)]
section
variable {K : PySem.W.Frag} {ρ : List Sl} {ta tb te tk tv ty : TE} {tt : TT} {d e : Dat} {ds es : List Dat} {s : Str} {b : Bool} {k : Nat} {B H : Hp}
theorem repks_any : ∀ {ks : List (Key × V)} {kds : List (Key × Dat)} (x : Key), RepKs B ks kds → (ks.any fun z => decide (z.1 = x)) = (kds.any fun z => decide (z.1 = x))
  | [], [], _, _ => rfl
  | [], _ :: _, _, h => h.elim
  | _ :: _, [], _, h => h.elim
  | (_, _) :: ks, (_, _) :: kds, x, ⟨rfl, _, r⟩ => by
    rw [List.any_cons, List.any_cons, repks_any x r]
theorem repks_len : ∀ {ks : List (Key × V)} {kds : List (Key × Dat)}, RepKs B ks kds → ks.length = kds.length
  | [], [], _ => rfl
  | [], _ :: _, h => h.elim
  | _ :: _, [], h => h.elim
  | (_, _) :: ks, (_, _) :: kds, ⟨_, _, r⟩ => by rw [List.length_cons, List.length_cons, repks_len r]
theorem repks_map {v : V} (x : Key) (rv : Rep B v d) : ∀ {ks : List (Key × V)} {kds : List (Key × Dat)}, RepKs B ks kds → RepKs B (ks.map fun z => if z.1 = x then (z.1, v) else z) (kds.map fun z => if z.1 = x then (z.1, d) else z)
  | [], [], _ => trivial
  | [], _ :: _, h => h.elim
  | _ :: _, [], h => h.elim
  | (y, w) :: ks, (_, e) :: kds, ⟨rfl, r1, r⟩ => by
    rw [List.map_cons, List.map_cons]
    by_cases h : y = x
    · rw [if_pos (show (y, w).1 = x from h), if_pos (show (y, e).1 = x from h)]
      exact ⟨rfl, rv, repks_map x rv r⟩
    · rw [if_neg (show ¬ (y, w).1 = x from h), if_neg (show ¬ (y, e).1 = x from h)]
      exact ⟨rfl, r1, repks_map x rv r⟩
theorem repks_app {v : V} {x : Key} (rv : Rep B v d) : ∀ {ks : List (Key × V)} {kds : List (Key × Dat)}, RepKs B ks kds → RepKs B (ks ++ [(x, v)]) (kds ++ [(x, d)])
  | [], [], _ => ⟨rfl, rv, trivial⟩
  | [], _ :: _, h => h.elim
  | _ :: _, [], h => h.elim
  | (_, _) :: ks, (_, _) :: kds, ⟨e, r1, r⟩ => ⟨e, r1, repks_app rv r⟩
theorem repks_put {v : V} {ks : List (Key × V)} {kds : List (Key × Dat)} (x : Key) (rv : Rep B v d) (r : RepKs B ks kds) : RepKs B (putK ks x v) (putD kds x d) := by
  unfold putK putD
  rw [repks_any x r]
  split
  · exact repks_map x rv r
  · exact repks_app rv r
theorem putD_len (kds : List (Key × Dat)) (x : Key) (d : Dat) : (putD kds x d).length ≤ kds.length + 1 := by
  unfold putD
  split
  · simp
  · simp
theorem repks_at : ∀ {ks : List (Key × V)} {kds : List (Key × Dat)} {i : Nat}, RepKs B ks kds → (ks[i]?).map (·.1) = (kds[i]?).map (·.1)
  | [], [], _, _ => rfl
  | [], _ :: _, _, h => h.elim
  | _ :: _, [], _, h => h.elim
  | (_, _) :: ks, (_, _) :: kds, 0, ⟨rfl, _, _⟩ => rfl
  | (_, _) :: ks, (_, _) :: kds, i + 1, ⟨_, _, r⟩ => by simpa using repks_at (i := i) r
def valD (kds : List (Key × Dat)) (x : Key) : Option Dat := (kds.find? fun z => decide (z.1 = x)).map (·.2)
theorem repks_val {x : Key} : ∀ {ks : List (Key × V)} {kds : List (Key × Dat)}, RepKs B ks kds → valD kds x = some d → ∃ v, valV ks x = some v ∧ Rep B v d
  | [], [], _, e => by cases e
  | [], _ :: _, h, _ => h.elim
  | _ :: _, [], h, _ => h.elim
  | (y, w) :: ks, (_, e) :: kds, ⟨rfl, r1, r⟩, q => by
    unfold valD at q
    by_cases h : y = x
    · rw [List.find?_cons_of_pos (by simpa using h)] at q
      cases q
      exact ⟨w, valV_pos h, r1⟩
    · rw [List.find?_cons_of_neg (by simpa using h)] at q
      obtain ⟨v, h1, h2⟩ := repks_val r q
      exact ⟨v, by rw [valV_neg h]; exact h1, h2⟩
theorem repks_str : ∀ {ks : List (Key × V)} {kvs : List (Str × Dat)}, RepKs B ks (kvs.map fun p => (.inr p.1, p.2)) → RepK B ks kvs
  | [], [], _ => .nil
  | [], _ :: _, h => h.elim
  | _ :: _, [], h => h.elim
  | (_, _) :: ks, (_, _) :: kvs, ⟨rfl, r1, r⟩ => .cons r1 (repks_str r)

/-- a new dict -/
def EVK (te : TE) (ρ : List Sl) (kds : List (Key × Dat)) : Prop := ∀ (B H : Hp) (σ : St), SR B H σ ρ → ∀ Q : VK, (∀ p ks B2 H2, Go B H B2 H2 → H p = none → B2 p = none → H2 p = some (.dK ks) → RepKs B2 ks kds → Q (.ref p) H2) → te σ H Q
theorem EVK.ev {kvs : List (Str × Dat)} (h : EVK te ρ (kvs.map fun p => (.inr p.1, p.2))) : EV te ρ (.dic kvs) := fun B H σ S Q q => h B H σ S Q fun p ks B2 H2 g hp n h2 r =>
  q _ _ _ (g.keep hp n h2) (.dic upd_same ((repks_str r).mono (Evl.Ex.new n)))
theorem evk_new : EVK tDNewK ρ [] := fun B H σ S Q q => fun p hp => q p [] B _ (Go.own S.bh hp) hp (free_of S.bh hp) upd_same trivial
theorem st_asgK {kds : List (Key × Dat)} (h : EVK te ρ kds) : ST (tAsg te (gName k)) ρ (.nx (ρ.set k (.k kds))) := fun Bm B0 H0 B H σ D S P => h B H σ S.r _ fun p vs B1 H1 g1 hp n h1 r1 => P B1 H1 _ (own_new S g1 hp ⟨p, vs, rfl, n, h1, r1⟩)
theorem st_retK {kvs : List (Str × Dat)} (h : ρ[k]? = some (.k (kvs.map fun p => (.inr p.1, p.2)))) : ST (tRet (tVar k)) ρ (.rt (.dic kvs)) := fun Bm B0 H0 B H σ D S P => by
  obtain ⟨ov, h1, p, vs, rfl, n, h2, r⟩ := S.r.at_ k _ h
  exact ⟨_, h1, P _ _ _ (S.g.keep (S.fr k _ p h rfl h1) n h2) (S.m.trans (Evl.Ex.new n)) (.dic upd_same ((repks_str r).mono (Evl.Ex.new n)))⟩
theorem st_dput {kds : List (Key × Dat)} {x : Key} (hk : ρ[k]? = some (.k kds)) (hv : EV tv ρ d) (hy : EV ty ρ (keyD x)) (hz : kds.length ≤ 90000) : ST (sDPut (tVar k) ty tv) ρ (.nx (ρ.set k (.k (putD kds x d)))) := fun Bm B0 H0 B H σ D S P => by
  obtain ⟨ov, h1, p, ks, rfl, n, h2, r⟩ := S.r.at_ k _ hk
  refine hv B H σ S.r _ fun v B1 H1 g1 r1 => ⟨_, h1, hy B1 H1 σ (S.r.mono g1) _ fun y B2 H2 g2 r2 => ?_⟩
  have e := key_of r2
  subst e
  have h3 := g2.hh _ _ (g1.hh _ _ h2)
  refine ⟨p, _, rfl, DPut.k h3 (Evl.sz_lt (by rw [repks_len r]; omega)), P B2 _ _ ((S.mono (g1.trans g2)).write hk rfl h1 rfl fun n1 => ⟨p, _, rfl, n1, upd_same, repks_put x (r1.mono g2.bb) (r.mono (g1.trans g2).bb)⟩)⟩
theorem ev_kget {kds : List (Key × Dat)} {x : Key} (hk : ρ[k]? = some (.k kds)) (hy : EV ty ρ (keyD x)) (h : valD kds x = some d) : EV (tDGet (tVar k) ty) ρ d := fun B H σ S Q q => by
  obtain ⟨ov, h1, p, ks, rfl, n, h2, r⟩ := S.at_ k _ hk
  refine ⟨_, h1, hy B H σ S _ fun y B2 H2 g2 r2 => ?_⟩
  have e := key_of r2
  subst e
  obtain ⟨v, h3, h4⟩ := repks_val r h
  refine ⟨p, v, rfl, ?_, q v B2 H2 g2 (h4.mono g2.bb)⟩
  rw [← h3]
  exact DGet.k (g2.hh _ _ h2)

/-! ### displays -/
def EPs (trs : List (TE × TE)) (ρ : List Sl) (kds : List (Key × Dat)) : Prop := ∀ (B H : Hp) (σ : St), SR B H σ ρ → ∀ Q : List (V × V) → Hp → Prop, (∀ kvs B2 H2, Go B H B2 H2 → RepKs B2 kvs kds → Q (kvs.map fun z => (kV z.1, z.2)) H2) → tPairs trs σ H Q
theorem eps_nil : EPs [] ρ [] := fun B H σ S Q q => q [] B H (Go.refl S.bh) trivial
theorem eps_cons {trs : List (TE × TE)} {x : Key} {kds : List (Key × Dat)} (hk : EV tk ρ (keyD x)) (hv : EV tv ρ d) (hr : EPs trs ρ kds) : EPs ((tk, tv) :: trs) ρ ((x, d) :: kds) := fun B H σ S Q q =>
  hk B H σ S _ fun y B1 H1 g1 r1 => hv B1 H1 σ (S.mono g1) _ fun v B2 H2 g2 r2 => hr B2 H2 σ (S.mono (g1.trans g2)) _ fun kvs B3 H3 g3 r3 => by
    have e := key_of r1
    subst e
    exact q ((x, v) :: kvs) B3 H3 ((g1.trans g2).trans g3) ⟨rfl, r2.mono g3.bb, r3⟩
theorem merge_app : ∀ {more acc : List (Key × V)}, (more.map (·.1)).Nodup → (∀ x ∈ more, ∀ y ∈ acc, x.1 ≠ y.1) → mergeK acc more = acc ++ more
  | [], acc, _, _ => by simp [mergeK]
  | x :: more, acc, hn, hd => by
    obtain ⟨n1, n2⟩ := List.nodup_cons.mp hn
    have e : putK acc x.1 x.2 = acc ++ [x] := by
      unfold putK
      rw [if_neg]
      intro z
      obtain ⟨y, hy, q⟩ := List.any_eq_true.mp z
      exact hd x List.mem_cons_self y hy (of_decide_eq_true q).symm
    show mergeK (putK acc x.1 x.2) more = _
    rw [e, merge_app n2 fun z hz y hy => ?_]
    · simp
    · rcases List.mem_append.mp hy with h | h
      · exact hd z (List.mem_cons_of_mem _ hz) y h
      · rw [List.mem_singleton.mp h]
        exact fun q => n1 (List.mem_map.mpr ⟨z, hz, q⟩)
theorem repks_keys : ∀ {ks : List (Key × V)} {kds : List (Key × Dat)}, RepKs B ks kds → ks.map (·.1) = kds.map (·.1)
  | [], [], _ => rfl
  | [], _ :: _, h => h.elim
  | _ :: _, [], h => h.elim
  | (_, _) :: ks, (_, _) :: kds, ⟨rfl, _, r⟩ => by rw [List.map_cons, List.map_cons, repks_keys r]
theorem evk_disp {trs : List (TE × TE)} {kds : List (Key × Dat)} (h : EPs trs ρ kds) (hn : (kds.map (·.1)).Nodup) (hl : kds.length ≤ 15) : EVK (tDisp trs) ρ kds := fun B H σ S Q q => fun p hp => by
  have g0 : Go B H B (upd H p (.dK [])) := Go.own S.bh hp
  refine h B _ σ (S.mono g0) _ fun kvs B2 H2 g2 r2 => ?_
  have hp2 : H2 p = some (.dK []) := g2.hh _ _ upd_same
  have n2 : B2 p = none := g2.no _ _ upd_same (free_of S.bh hp)
  have nd : (kvs.map (·.1)).Nodup := by
    rw [repks_keys r2]
    exact hn
  have em : mergeK [] kvs = kvs := (merge_app nd (by simp)).trans rfl
  have g3 : Go B H B2 (upd H2 p (.dK kvs)) := ⟨Evl.Ex.mut (g0.trans g2).hh hp, (g0.trans g2).bb, Evl.Ex.mut g2.bh n2, (g0.trans g2).no⟩
  refine ⟨hp2, kvs, rfl, by rw [repks_len r2]; exact hl, ?_⟩
  rw [em]
  exact q p kvs B2 _ g3 hp n2 upd_same r2

/-! ### comprehensions over a dict's keys, to a dict -/
theorem SR.fogW {σ : St} {p : Addr} {o : HO} {ks : Sl} (S : SR B H σ ρ) (hk : ρ[k]? = some ks) (ho : isOwn ks = true) (hp : σ[k]? = some (some (.ref p))) (n : B p = none) (hu : ∃ u, H p = some u) : SR B (upd H p o) σ (ρ.set k .x) := by
  have bh : Ex B (upd H p o) := Evl.Ex.mut S.bh n
  have key : ∀ {j : Nat} {s : Sl}, (ρ.set k .x)[j]? = some s → (j = k ∧ s = .x) ∨ (j ≠ k ∧ ρ[j]? = some s) := fun {j s} e => by
    by_cases hj : k = j
    · subst hj
      have hl : k < ρ.length := (List.getElem?_eq_some_iff.mp hk).1
      rw [List.getElem?_set_self hl] at e
      exact .inl ⟨rfl, (Option.some.inj e).symm⟩
    · rw [List.getElem?_set_ne hj] at e
      exact .inr ⟨fun z => hj z.symm, e⟩
  refine ⟨bh, by rw [List.length_set]; exact S.len, fun j s e => ?_, fun a b s t p hn e1 e2 o1 o2 h1 h2 => ?_⟩
  · rcases key e with ⟨rfl, rfl⟩ | ⟨hj, e⟩
    · exact ⟨_, hp, trivial⟩
    · obtain ⟨ov, h1, h2⟩ := S.at_ j s e
      refine ⟨ov, h1, ?_⟩
      have apart : ∀ q : Addr, ov = some (.ref q) → isOwn s = true → q ≠ p := fun q e3 os e4 => by
        subst e3 e4
        exact S.ap j k s ks q hj e hk os ho h1 hp
      cases s with
      | x => trivial
      | d d => exact h2
      | l ds =>
        obtain ⟨q, vs, e3, n1, h3, r⟩ := h2
        exact ⟨q, vs, e3, n1, by rw [upd_ne (apart q e3 rfl)]; exact h3, r⟩
      | k ds =>
        obtain ⟨q, vs, e3, n1, h3, r⟩ := h2
        exact ⟨q, vs, e3, n1, by rw [upd_ne (apart q e3 rfl)]; exact h3, r⟩
      | o q C ds =>
        obtain ⟨dx, vs, e3, n1, h3, r⟩ := h2
        exact ⟨dx, vs, e3, n1, by rw [upd_ne (apart q e3 rfl)]; exact h3, r⟩
  · rcases key e1 with ⟨rfl, rfl⟩ | ⟨ha, g1⟩
    · cases o1
    · rcases key e2 with ⟨rfl, rfl⟩ | ⟨hb, g2⟩
      · cases o2
      · exact S.ap a b s t p hn g1 g2 o1 o2 h1 h2
theorem evn_lcK {g : TG} {vs : List Nat} {kds : List (Key × Dat)} (p : Key × Dat → Bool) (val : Key × Dat → Dat) (hk : ρ[k]? = some (.k kds)) (hz : kds.length ≤ 90000)
    (hb : ∀ x, x ∈ kds → ∃ ρ' ix, GT g (wipeS (ρ.set k .x) vs) (keyD x.1) ρ' ix ∧ (∀ i ∈ ix, i ∈ vs) ∧ ET tt ρ' (p x) ∧ (p x = true → EV te ρ' (val x))) : EVN (tLockE (tLc (iKeys (tVar k)) g tt te vs)) ρ ((kds.filter p).map val) := fun B H σ S Q q => by
  obtain ⟨ov, h1, a, ks, rfl, n, h2, r⟩ := S.at_ k _ hk
  refine ⟨a, _, h2, trivial, fun od => ?_⟩
  have S2 := S.fogW (o := .frz od (.dK ks)) hk rfl h1 n ⟨_, h2⟩
  have W : Wl (Itk a od ks) B (upd H a (.frz od (.dK ks))) (kds.map fun x => keyD x.1) := ⟨fun B' H' g' => ⟨g'.hh _ _ upd_same, by rw [List.length_map, repks_len r]; exact Nat.le_refl _⟩,
    fun i B' H' hi g' => ⟨g'.hh _ _ upd_same, by rw [repks_len r]; rw [List.length_map] at hi; exact hi⟩, fun i B' H' x H'' hi g' y => by
      obtain ⟨rfl, kk, v, e, rfl⟩ := y
      have z := repks_at (i := i) r
      rw [e] at z
      refine ⟨keyD kk, B', ?_, Go.refl g'.bh, rep_key kk⟩
      rw [List.getElem?_map]
      cases q : kds[i]? with
      | none => rw [q] at z; cases z
      | some w =>
        rw [q] at z
        have z2 : kk = w.1 := Option.some.inj z
        rw [z2]
        rfl⟩
  refine lc_at S2 kds (fun x => keyD x.1) p val (fun R hR => ⟨_, h1, a, od, rfl, .inl ⟨ks, upd_same, hR _ B _ (Go.refl S2.bh) W⟩⟩) hz hb _ fun p' ws B2 H2 g2 hp' n2 h3 r3 => ?_
  · have hda := g2.hh _ _ (show upd H a (.frz od (.dK ks)) a = some (.frz od (.dK ks)) from upd_same)
    have na : B2 a = none := g2.no a _ (show upd H a (.frz od (.dK ks)) a = some (.frz od (.dK ks)) from upd_same) n
    have hpa : p' ≠ a := fun z => by
      subst z
      rw [upd_same] at hp'
      cases hp'
    have hp2 : H p' = none := by
      rw [upd_ne hpa] at hp'
      exact hp'
    refine ⟨hda, q p' ws B2 _ ⟨fun b o hb => ?_, g2.bb, Evl.Ex.mut g2.bh na, fun b o hb nb => ?_⟩ hp2 n2 (by rw [upd_ne hpa]; exact h3) r3⟩
    · by_cases e : b = a
      · subst e
        rw [h2] at hb
        rw [upd_same]
        exact hb
      · rw [upd_ne e]
        exact g2.hh b o (by rw [upd_ne e]; exact hb)
    · by_cases e : b = a
      · subst e
        exact na
      · exact g2.no b o (by rw [upd_ne e]; exact hb) nb
/-- {key: val for x in ..} -/
theorem evk_dc {α : Type} {wi : TI} {g : TG} {vs : List Nat} (xs : List α) (f : α → Dat) (key : α → Key) (val : α → Dat) (h : ITo wi ρ (xs.map f)) (hz : xs.length ≤ 90000)
    (hb : ∀ x, x ∈ xs → ∃ ρ' ix, GT g (wipeS ρ vs) (f x) ρ' ix ∧ (∀ i ∈ ix, i ∈ vs) ∧ ET tt ρ' true ∧ EV tk ρ' (keyD (key x)) ∧ EV tv ρ' (val x)) : EVK (tDc wi g tt tk tv vs) ρ (xs.foldl (fun acc x => putD acc (key x) (val x)) []) := fun B H σ S Q q => h B H σ S _ fun J B1 H1 g1 w => fun Dl hD => by
  have hlen : (xs.map f).length = xs.length := List.length_map ..
  have g0 : Go B1 H1 B1 (upd H1 Dl (.dK [])) := Go.own g1.bh hD
  refine ⟨fun i m H' => m = xs.length - i ∧ i ≤ xs.length ∧ ∃ B' ws acc, Go B1 H1 B' H' ∧ B' Dl = none ∧ H' Dl = some (.dK ws) ∧ RepKs B' ws acc ∧ acc.length ≤ i ∧ (xs.drop i).foldl (fun acc x => putD acc (key x) (val x)) acc = xs.foldl (fun acc x => putD acc (key x) (val x)) [],
    ⟨xs.length, by simp, Nat.zero_le _, B1, [], [], g0, free_of g1.bh hD, upd_same, trivial, Nat.le_refl _, rfl⟩, ?_⟩
  rintro i m H' ⟨rfl, hi, B', ws, acc, g', n', h', r', la, hf⟩
  by_cases hlt : i < xs.length
  · refine .inr ⟨w.go i B' H' (by rw [hlen]; exact hlt) g', fun H2 => i + 1 ≤ xs.length ∧ ∃ B' ws acc, Go B1 H1 B' H2 ∧ B' Dl = none ∧ H2 Dl = some (.dK ws) ∧ RepKs B' ws acc ∧ acc.length ≤ i + 1 ∧ (xs.drop (i + 1)).foldl (fun acc x => putD acc (key x) (val x)) acc = xs.foldl (fun acc x => putD acc (key x) (val x)) [], fun H2 z => ⟨_, by omega, rfl, z⟩, fun x H2 y => ?_⟩
    obtain ⟨d', B2, h1, g2, r2⟩ := w.yld i B' H' x H2 (by rw [hlen]; exact hlt) g' y
    have hx : xs[i]? = some xs[i] := List.getElem?_eq_getElem hlt
    rw [List.getElem?_map, hx] at h1
    have hd : f xs[i] = d' := Option.some.inj h1
    subst hd
    obtain ⟨ρ', ix, hg, hv, ht, he1, he2⟩ := hb xs[i] (List.getElem_mem hlt)
    obtain ⟨us, e1, e2, e3⟩ := hg B2 H2 (L2.wipe σ vs) x g2.bh r2
    subst e1
    have hdrop : xs.drop i = xs[i] :: xs.drop (i + 1) := List.drop_eq_getElem_cons hlt
    refine e3 _ ⟨(wipe_sets fun u hu => hv _ (e2 u hu).2).trans (wipe_wipe σ vs), ?_⟩
    have gg : Go B H B2 H2 := g1.trans (g'.trans g2)
    have S2 : SR B2 H2 (setv (L2.wipe σ vs) us) (sets (wipeS ρ vs) us) := ((S.mono gg).wipe vs).sets fun u hu => (e2 u hu).1
    refine ht B2 H2 _ S2 _ fun B3 H3 g3 => iteT ?_
    refine he1 B3 H3 _ (S2.mono g3) _ fun y B4 H4 g4 r4 => he2 B4 H4 _ (S2.mono (g3.trans g4)) _ fun z B5 H5 g5 r5 => ?_
    have ek := key_of r4
    subst ek
    have gt := (((g'.trans g2).trans g3).trans g4).trans g5
    have a5 := g5.hh _ _ (g4.hh _ _ (g3.hh _ _ (g2.hh _ _ h')))
    have n5 : B5 Dl = none := ((g2.trans g3).trans (g4.trans g5)).no _ _ h' n'
    refine ⟨ws, key xs[i], rfl, a5, Evl.sz_lt (by rw [repks_len r']; omega), hlt, B5, _, putD acc (key xs[i]) (val xs[i]), ⟨Evl.Ex.mut gt.hh hD, gt.bb, Evl.Ex.mut gt.bh n5, gt.no⟩, n5, upd_same, repks_put _ r5 (r'.mono ((g2.trans g3).trans (g4.trans g5)).bb), Nat.le_trans (putD_len ..) (by omega), ?_⟩
    rw [← hf, hdrop]
    rfl
  · have e : i = xs.length := by omega
    subst e
    have e2 := w.stop B' H' g'
    rw [hlen] at e2
    rw [List.drop_length] at hf
    have hf2 : acc = xs.foldl (fun acc x => putD acc (key x) (val x)) [] := hf
    subst hf2
    exact .inl ⟨e2, q Dl ws B' H' (g1.trans g') (Evl.fresh_back g1.hh hD) n' h' r'⟩
end
end Dl

set_option maxHeartbeats 4000000
/-! results that are not told before: any datum of a kind -/
namespace Dl
open PySem L2
open Evl (Ex)
def EVr (te : TE) (ρ : List Sl) (S : Dat → Prop) : Prop := ∀ (B H : Hp) (σ : St), SR B H σ ρ → ∀ Q : VK, (∀ d, S d → ∀ v B2 H2, Go B H B2 H2 → Rep B2 v d → Q v H2) → te σ H Q
def EAr (ta : TA) (ρ : List Sl) (S : List Dat → Prop) : Prop := ∀ (B H : Hp) (σ : St), SR B H σ ρ → ∀ Q : List V → Hp → Prop, (∀ ds, S ds → ∀ vs B2 H2, Go B H B2 H2 → Reps B2 vs ds → Q vs H2) → ta σ H Q
def EVNr (te : TE) (ρ : List Sl) (S : List Dat → Prop) : Prop := ∀ (B H : Hp) (σ : St), SR B H σ ρ → ∀ Q : VK, (∀ ds, S ds → ∀ p vs B2 H2, Go B H B2 H2 → H p = none → B2 p = none → H2 p = some (.lst vs) → Reps B2 vs ds → Q (.ref p) H2) → te σ H Q
def EVKr (te : TE) (ρ : List Sl) (S : List (Key × Dat) → Prop) : Prop := ∀ (B H : Hp) (σ : St), SR B H σ ρ → ∀ Q : VK, (∀ kds, S kds → ∀ p ks B2 H2, Go B H B2 H2 → H p = none → B2 p = none → H2 p = some (.dK ks) → RepKs B2 ks kds → Q (.ref p) H2) → te σ H Q
def ETr (tt : TT) (ρ : List Sl) (S : Bool → Prop) : Prop := ∀ (B H : Hp) (σ : St), SR B H σ ρ → ∀ Q : Bool → Hp → Prop, (∀ b, S b → ∀ B2 H2, Go B H B2 H2 → Q b H2) → tt σ H Q
def EOr (to : TO) (ρ : List Sl) (S : Int → Prop) : Prop := ∀ (B H : Hp) (σ : St), SR B H σ ρ → ∀ Q : Option Int → Hp → Prop, (∀ i, S i → ∀ B2 H2, Go B H B2 H2 → Q (some i) H2) → to σ H Q
section
variable {K : PySem.W.Frag} {ρ ρ1 ρ2 : List Sl} {ta tb te tv ty : TE} {tt : TT} {t u : TS} {tl : TA} {d e : Dat} {ds es : List Dat} {S S1 S2 : Dat → Prop} {k m : Nat} {O O1 : Out → Prop} {out : Out}
theorem EV.r (h : EV te ρ d) (hs : S d) : EVr te ρ S := fun B H σ R Q q => h B H σ R Q fun v B2 H2 g r => q d hs v B2 H2 g r
theorem EVr.mono (h : EVr te ρ S) (hs : ∀ d, S d → S1 d) : EVr te ρ S1 := fun B H σ R Q q => h B H σ R Q fun d hd => q d (hs d hd)
/-- what a term of one datum gives, for a datum of a kind in a name -/
theorem evr_bind {f : TE → TE} (h : EVr te ρ S) : EVr te ρ S := h
theorem ear_nil : EAr tNil ρ (· = []) := fun B H σ R Q q => ea_nil B H σ R Q fun vs B2 H2 g r => q [] rfl vs B2 H2 g r
theorem ear_cons {T : List Dat → Prop} (h : EVr te ρ S) (hr : EAr tl ρ T) : EAr (tCons te tl) ρ (fun ds => ∃ d r, ds = d :: r ∧ S d ∧ T r) := fun B H σ R Q q => h B H σ R _ fun d hd v B1 H1 g1 r1 => hr B1 H1 σ (R.mono g1) _ fun ds hds vs B2 H2 g2 r2 =>
  q _ ⟨d, ds, rfl, hd, hds⟩ _ B2 H2 (g1.trans g2) (.cons (r1.mono g2.bb) r2)
theorem EAr.mono {T T1 : List Dat → Prop} (h : EAr tl ρ T) (hs : ∀ d, T d → T1 d) : EAr tl ρ T1 := fun B H σ R Q q => h B H σ R Q fun d hd => q d (hs d hd)
theorem evr_tup {T : List Dat → Prop} (h : EAr tl ρ T) (hl : ∀ ds, T ds → ds.length ≤ 100000) : EVr (tTup tl) ρ (fun d => ∃ ds, d = .tup ds ∧ T ds) := fun B H σ R Q q => h B H σ R _ fun ds hds vs B1 H1 g1 r1 =>
  ⟨by rw [r1.length]; exact sl_of (hl ds hds), fun p hp => q _ ⟨ds, rfl, hds⟩ _ _ _ (g1.trans (Go.new g1.bh hp)) (.tup upd_same (r1.mono (Evl.Ex.new (free_of g1.bh hp))))⟩
theorem evnr_lst {T : List Dat → Prop} (h : EAr tl ρ T) (hl : ∀ ds, T ds → ds.length ≤ 100000) : EVNr (tLst tl) ρ T := fun B H σ R Q q => h B H σ R _ fun ds hds vs B1 H1 g1 r1 =>
  ⟨by rw [r1.length]; exact sl_of (hl ds hds), fun p hp => q ds hds _ _ _ _ (g1.trans (Go.own g1.bh hp)) (Evl.fresh_back g1.hh hp) (free_of g1.bh hp) upd_same r1⟩
/-- any promise that takes a datum and gives one -/
def spR (P : List Dat → Dat → Prop) : Sp := fun vs H Q _ => ∃ B ds, Ex B H ∧ Reps B vs ds ∧ (∃ r, P ds r) ∧ ∀ r, P ds r → ∀ v B2 H2, Go B H B2 H2 → Rep B2 v r → Q v H2
theorem evr_call {P : List Dat → Dat → Prop} {E : XK} {T : List Dat → Prop} (h : EAr tl ρ T) (hp : ∀ ds, T ds → ∃ r, P ds r) : EVr (tCall (spR P) [] E tl) ρ (fun r => ∃ ds, T ds ∧ P ds r) := fun B H σ R Q q => h B H σ R _ fun ds hds vs B1 H1 g1 r1 =>
  ⟨B1, ds, g1.bh, by rw [List.append_nil]; exact r1, hp ds hds, fun r hr v B2 H2 g2 r2 => q r ⟨ds, hds, hr⟩ v B2 H2 (g1.trans g2) r2⟩
theorem evr_cb {r : List V → Hp → VK → Prop} {T : List Dat → Prop} (h : EAr tl ρ T) (hr : ∀ ds, T ds → ∃ d, S d ∧ ∀ B H vs Q, Ex B H → Reps B vs ds → (∀ v B2 H2, Go B H B2 H2 → Rep B2 v d → Q v H2) → r vs H Q) : EVr (tCB r tl) ρ S := fun B H σ R Q q => h B H σ R _ fun ds hds vs B1 H1 g1 r1 => by
  obtain ⟨d, hd, hh⟩ := hr ds hds
  exact hh B1 H1 vs Q g1.bh r1 fun v B2 H2 g2 r2 => q d hd v B2 H2 (g1.trans g2) r2
theorem etr_B {T : Bool → Prop} (h : EVr te ρ (fun d => ∃ b, d = .bl b ∧ T b)) : ETr (tB te) ρ T := fun B H σ R Q q => h B H σ R _ fun d hd v B1 H1 g1 r1 => by
  obtain ⟨b, rfl, hb⟩ := hd
  cases r1
  exact ⟨b, rfl, q b hb B1 H1 g1⟩
theorem evr_if {T : Bool → Prop} (h : ETr tt ρ T) (h1 : T true → EVr ta ρ S) (h2 : T false → EVr tb ρ S) : EVr (tIf tt ta tb) ρ S := fun B H σ R Q q => h B H σ R _ fun b hb B1 H1 g1 => by
  cases b with
  | true => exact iteT (h1 hb B1 H1 σ (R.mono g1) Q fun d hd v B2 H2 g2 => q d hd v B2 H2 (g1.trans g2))
  | false => exact iteF (h2 hb B1 H1 σ (R.mono g1) Q fun d hd v B2 H2 g2 => q d hd v B2 H2 (g1.trans g2))
theorem eor_some {T : Int → Prop} (h : EVr te ρ (fun d => ∃ i, d = .int i ∧ T i)) : EOr (tPart te) ρ T := fun B H σ R Q q => h B H σ R _ fun d hd v B1 H1 g1 r1 => by
  obtain ⟨i, rfl, hi⟩ := hd
  cases r1
  exact ⟨i, rfl, q i hi B1 H1 g1⟩
theorem evr_2 {f : R2} {T1 T2 : Dat → Prop} (ha : EVr ta ρ T1) (hb : EVr tb ρ T2) (hf : ∀ d e, T1 d → T2 e → ∃ r, S r ∧ ∀ B H v u Q, Ex B H → Rep B v d → Rep B u e → (∀ w B2 H2, Go B H B2 H2 → Rep B2 w r → Q w H2) → f v u H Q) : EVr (tOp f ta tb) ρ S := fun B H σ R Q q =>
  ha B H σ R _ fun d hd v B1 H1 g1 r1 => hb B1 H1 σ (R.mono g1) _ fun e he u B2 H2 g2 r2 => by
    obtain ⟨r, hr, hh⟩ := hf d e hd he
    exact hh B2 H2 v u Q g2.bh (r1.mono g2.bb) r2 fun w B3 H3 g3 r3 => q r hr w B3 H3 ((g1.trans g2).trans g3) r3
theorem evr_add {T1 T2 : Int → Prop} (ha : EVr ta ρ (fun d => ∃ i, d = .int i ∧ T1 i)) (hb : EVr tb ρ (fun d => ∃ i, d = .int i ∧ T2 i)) : EVr (tAdd ta tb) ρ (fun d => ∃ i j, d = .int (i + j) ∧ T1 i ∧ T2 j) := fun B H σ R Q q =>
  ha B H σ R _ fun d hd v B1 H1 g1 r1 => hb B1 H1 σ (R.mono g1) _ fun e he u B2 H2 g2 r2 => by
    obtain ⟨i, rfl, hi⟩ := hd
    obtain ⟨j, rfl, hj⟩ := he
    cases r1
    cases r2
    exact ⟨i, j, rfl, rfl, q _ ⟨i, j, rfl, hi, hj⟩ _ B2 H2 (g1.trans g2) (.int _)⟩
theorem EVNr.ev {T : List Dat → Prop} (h : EVNr te ρ T) : EVr te ρ (fun d => ∃ ds, d = .lst ds ∧ T ds) := fun B H σ R Q q => h B H σ R Q fun ds hds p vs B2 H2 g hp n h2 r =>
  q _ ⟨ds, rfl, hds⟩ _ _ _ (g.keep hp n h2) (.lst upd_same (r.mono (Evl.Ex.new n)))

/-! ### statements -/
def STs (t : TS) (ρ : List Sl) (O : Out → Prop) : Prop := ∀ (Bm B0 H0 B H : Hp) (σ : St) (D : Ends), SE Bm B0 H0 B H σ ρ → (∀ o, O o → Post D Bm B0 H0 o) → t D σ H
theorem ST.s (h : ST t ρ out) (ho : O out) : STs t ρ O := fun Bm B0 H0 B H σ D R P => h Bm B0 H0 B H σ D R (P _ ho)
theorem STs.mono (h : STs t ρ O1) (ho : ∀ o, O1 o → O o) : STs t ρ O := fun Bm B0 H0 B H σ D R P => h Bm B0 H0 B H σ D R fun o z => P o (ho o z)
theorem STs.one (h : STs t ρ (· = out)) : ST t ρ out := fun Bm B0 H0 B H σ D R P => h Bm B0 H0 B H σ D R fun o z => z ▸ P
theorem sts_seq (h : ST t ρ (.nx ρ1)) (h2 : STs u ρ1 O) : STs (tSeq t u) ρ O := fun Bm B0 H0 B H σ D R P => h Bm B0 H0 B H σ { D with nx := u D } R fun B' H' σ' S' => h2 Bm B0 H0 B' H' σ' D S' P
theorem sts_asg (h : EVr te ρ S) (h2 : ∀ d, S d → STs u (ρ.set k (.d d)) O) : STs (tSeq (tAsg te (gName k)) u) ρ O := fun Bm B0 H0 B H σ D R P => h B H σ R.r _ fun d hd v B1 H1 g1 r1 => h2 d hd Bm B0 H0 B1 H1 _ D ((R.mono g1).set r1) P
theorem sts_ret (h : EVr te ρ S) : STs (tRet te) ρ (fun o => ∃ d, S d ∧ o = .rt d) := fun Bm B0 H0 B H σ D R P => h B H σ R.r _ fun d hd v B1 H1 g1 r1 => P _ ⟨d, hd, rfl⟩ v B1 H1 (R.g.trans g1) (R.m.trans g1.bb) r1
theorem sts_seqIf {T : Bool → Prop} {v : TS} (h : ETr tt ρ T) (h1 : T true → STs (tSeq t v) ρ O) (h2 : T false → STs (tSeq u v) ρ O) : STs (tSeq (tIfS tt t u) v) ρ O := fun Bm B0 H0 B H σ D R P => h B H σ R.r _ fun b hb B1 H1 g1 => by
  cases b with
  | true => exact iteT (h1 hb Bm B0 H0 B1 H1 σ D (R.mono g1) P)
  | false => exact iteF (h2 hb Bm B0 H0 B1 H1 σ D (R.mono g1) P)
theorem sts_if {T : Bool → Prop} (h : ETr tt ρ T) (h1 : T true → STs t ρ O) (h2 : T false → STs u ρ O) : STs (tIfS tt t u) ρ O := fun Bm B0 H0 B H σ D R P => h B H σ R.r _ fun b hb B1 H1 g1 => by
  cases b with
  | true => exact iteT (h1 hb Bm B0 H0 B1 H1 σ D (R.mono g1) P)
  | false => exact iteF (h2 hb Bm B0 H0 B1 H1 σ D (R.mono g1) P)
theorem sts_next (h : O (.nx ρ)) : STs tNext ρ O := st_next.s h
theorem sts_pre (w : Wk ρ ρ1) (h : STs t ρ1 O) : STs t ρ O := fun Bm B0 H0 B H σ D R P => h Bm B0 H0 B H σ D (R.wk w) P
theorem sts_par {T : List Dat → Prop} (h : EAr tl ρ T) (h2 : ∀ ds, T ds → ∃ d e, ds = [d, e] ∧ STs u ((ρ.set k (.d d)).set m (.d e)) O) : STs (tSeq (tPar k m tl) u) ρ O := fun Bm B0 H0 B H σ D R P => h B H σ R.r _ fun ds hds vs B1 H1 g1 r1 => by
  obtain ⟨d, e, rfl, h3⟩ := h2 ds hds
  cases r1 with
  | cons a r1 =>
    cases r1 with
    | cons b r1 =>
      cases r1
      exact ⟨_, _, rfl, h3 Bm B0 H0 B1 H1 _ D (((R.mono g1).set a).set b) P⟩
theorem sts_par3 {T : List Dat → Prop} {l : Nat} (h : EAr tl ρ T) (h2 : ∀ ds, T ds → ∃ d e f, ds = [d, e, f] ∧ STs u (((ρ.set k (.d d)).set m (.d e)).set l (.d f)) O) : STs (tSeq (tPar3 k m l tl) u) ρ O := fun Bm B0 H0 B H σ D R P => h B H σ R.r _ fun ds hds vs B1 H1 g1 r1 => by
  obtain ⟨d, e, f, rfl, h3⟩ := h2 ds hds
  cases r1 with
  | cons a r1 =>
    cases r1 with
    | cons b r1 =>
      cases r1 with
      | cons c r1 =>
        cases r1
        exact ⟨_, _, _, rfl, h3 Bm B0 H0 B1 H1 _ D ((((R.mono g1).set a).set b).set c) P⟩
/-- for, with what holds at each turn; a body may end it -/
theorem sts_for {α : Type} {wi : TI} {g : TG} (xs : List α) (f : α → Dat) (Iv : Nat → List Sl → Prop) (O : Out → Prop) (h : ITp wi ρ (xs.map f)) (h0 : ∃ ρ0, Iv 0 ρ0 ∧ Wk ρ ρ0)
    (hb : ∀ i ρ x, xs[i]? = some x → Iv i ρ → ∃ ρ' ix, GT g ρ (f x) ρ' ix ∧ STs t ρ' (fun o => (∃ ρ2 ρ3, o = .nx ρ2 ∧ Wk ρ2 ρ3 ∧ Iv (i + 1) ρ3) ∨ ∃ d, o = .rt d ∧ O (.rt d))) (hd : ∀ ρ, Iv xs.length ρ → O (.nx ρ)) : STs (tFor wi g t) ρ O := fun Bm B0 H0 B H σ D R P => h B H σ R.r _ fun J B1 H1 g1 w => by
  obtain ⟨ρ0, i0, w0⟩ := h0
  have S1 : SE B1 B0 H0 B1 H1 σ ρ0 := ((R.mono g1).wk w0).low (Evl.Ex.refl B1)
  have hm : Ex Bm B1 := R.m.trans g1.bb
  have hlen : (xs.map f).length = xs.length := List.length_map ..
  refine ⟨fun i m σ' H' => m = xs.length - i ∧ i ≤ xs.length ∧ ∃ r B', Iv i r ∧ SE B1 B0 H0 B' H' σ' r, ⟨xs.length, by simp, Nat.zero_le _, ρ0, B1, i0, S1⟩, ?_⟩
  rintro i m σ' H' ⟨rfl, hi, r, B', hv, S'⟩
  by_cases hlt : i < xs.length
  · refine .inr ⟨w.go i B' H' (by rw [hlen]; exact hlt) S'.m S'.r.bh, fun σ2 H2 => i + 1 ≤ xs.length ∧ ∃ r B', Iv (i + 1) r ∧ SE B1 B0 H0 B' H2 σ2 r, fun σ2 H2 q => ⟨xs.length - (i + 1), by omega, rfl, q⟩, fun x H2 y => ?_⟩
    obtain ⟨d', B2, h1, g2, r2⟩ := w.yld i B' H' x H2 (by rw [hlen]; exact hlt) S'.m S'.r.bh y
    have hx : xs[i]? = some xs[i] := List.getElem?_eq_getElem hlt
    rw [List.getElem?_map, hx] at h1
    have hd' : f xs[i] = d' := Option.some.inj h1
    subst hd'
    obtain ⟨ρ', ix, hg, hs⟩ := hb i r xs[i] hx hv
    obtain ⟨us, e1, e2, e3⟩ := hg B2 H2 σ' x g2.bh r2
    subst e1
    refine e3 _ ?_
    have S2 : SE B1 B0 H0 B2 H2 (setv σ' us) (sets r us) := (S'.mono g2).sets fun u hu => (e2 u hu).1
    refine hs B1 B0 H0 B2 H2 _ _ S2 fun o ho => ?_
    rcases ho with ⟨ρ2, ρ3, rfl, hw, i3⟩ | ⟨d, rfl, hd'⟩
    · exact fun B3 H3 σ3 S3 => ⟨hlt, ρ3, B3, i3, S3.wk hw⟩
    · exact fun v B3 H3 g3 m3 r3 => P _ hd' v B3 H3 g3 (hm.trans m3) r3
  · have e : i = xs.length := by omega
    subst e
    have e2 := w.stop B' H' S'.m S'.r.bh
    rw [hlen] at e2
    exact .inl ⟨e2, P _ (hd r hv) B' H' σ' (S'.low (hm.trans S'.m))⟩
/-- [e for x in ..], each any datum of its kind -/
theorem evnr_lc {α : Type} {wi : TI} {g : TG} {vs : List Nat} (xs : List α) (f : α → Dat) (T : α → Dat → Prop) (h : ITo wi ρ (xs.map f)) (hz : xs.length ≤ 90000)
    (hb : ∀ x, x ∈ xs → ∃ ρ' ix, GT g (wipeS ρ vs) (f x) ρ' ix ∧ (∀ i ∈ ix, i ∈ vs) ∧ ET tt ρ' true ∧ EVr te ρ' (T x)) : EVNr (tLc wi g tt te vs) ρ (fun ds => ds.length = xs.length ∧ ∀ (i : Nat) x, xs[i]? = some x → ∃ d, ds[i]? = some d ∧ T x d) := fun B H σ S Q q => h B H σ S _ fun J B1 H1 g1 w => fun Dl hD => by
  have hlen : (xs.map f).length = xs.length := List.length_map ..
  have g0 : Go B1 H1 B1 (upd H1 Dl (.lst [])) := Go.own g1.bh hD
  refine ⟨fun i m H' => m = xs.length - i ∧ i ≤ xs.length ∧ ∃ B' ws ds, Go B1 H1 B' H' ∧ B' Dl = none ∧ H' Dl = some (.lst ws) ∧ Reps B' ws ds ∧ ds.length = i ∧ ∀ (j : Nat) x, j < i → xs[j]? = some x → ∃ d, ds[j]? = some d ∧ T x d,
    ⟨xs.length, by simp, Nat.zero_le _, B1, [], [], g0, free_of g1.bh hD, upd_same, .nil, rfl, fun j x hj => by omega⟩, ?_⟩
  rintro i m H' ⟨rfl, hi, B', ws, ds, g', n', h', r', dl, dt⟩
  by_cases hlt : i < xs.length
  · refine .inr ⟨w.go i B' H' (by rw [hlen]; exact hlt) g', fun H2 => i + 1 ≤ xs.length ∧ ∃ B' ws ds, Go B1 H1 B' H2 ∧ B' Dl = none ∧ H2 Dl = some (.lst ws) ∧ Reps B' ws ds ∧ ds.length = i + 1 ∧ ∀ (j : Nat) x, j < i + 1 → xs[j]? = some x → ∃ d, ds[j]? = some d ∧ T x d, fun H2 z => ⟨_, by omega, rfl, z⟩, fun x H2 y => ?_⟩
    obtain ⟨d', B2, h1, g2, r2⟩ := w.yld i B' H' x H2 (by rw [hlen]; exact hlt) g' y
    have hx : xs[i]? = some xs[i] := List.getElem?_eq_getElem hlt
    rw [List.getElem?_map, hx] at h1
    have hd : f xs[i] = d' := Option.some.inj h1
    subst hd
    obtain ⟨ρ', ix, hg, hv, ht, he⟩ := hb xs[i] (List.getElem_mem hlt)
    obtain ⟨us, e1, e2, e3⟩ := hg B2 H2 (L2.wipe σ vs) x g2.bh r2
    subst e1
    refine e3 _ ⟨(wipe_sets fun u hu => hv _ (e2 u hu).2).trans (wipe_wipe σ vs), ?_⟩
    have gg : Go B H B2 H2 := g1.trans (g'.trans g2)
    have S2 : SR B2 H2 (setv (L2.wipe σ vs) us) (sets (wipeS ρ vs) us) := ((S.mono gg).wipe vs).sets fun u hu => (e2 u hu).1
    refine ht B2 H2 _ S2 _ fun B3 H3 g3 => iteT ?_
    refine he B3 H3 _ (S2.mono g3) _ fun d hd y B4 H4 g4 r4 => ?_
    have a4 := g4.hh _ _ (g3.hh _ _ (g2.hh _ _ h'))
    have n4 : B4 Dl = none := ((g2.trans g3).trans g4).no _ _ h' n'
    have gt := ((g'.trans g2).trans g3).trans g4
    refine ⟨ws, a4, Evl.sz_lt (by rw [r'.length]; omega), hlt, B4, ws ++ [y], ds ++ [d], ⟨Evl.Ex.mut gt.hh hD, gt.bb, Evl.Ex.mut gt.bh n4, gt.no⟩, n4, upd_same, (((r'.mono g2.bb).mono g3.bb).mono g4.bb).append (.cons r4 .nil), by rw [List.length_append, dl]; rfl, fun j x hj hx2 => ?_⟩
    by_cases e : j < i
    · obtain ⟨d2, h5, h6⟩ := dt j x e hx2
      exact ⟨d2, by rw [List.getElem?_append_left (by omega)]; exact h5, h6⟩
    · have e : j = i := by omega
      subst e
      rw [hx] at hx2
      cases hx2
      exact ⟨d, by rw [List.getElem?_append_right (by omega), dl, Nat.sub_self]; rfl, hd⟩
  · have e : i = xs.length := by omega
    subst e
    have e2 := w.stop B' H' g'
    rw [hlen] at e2
    exact .inl ⟨e2, q ds ⟨dl, fun j x hx => dt j x (by
      have := (List.getElem?_eq_some_iff.mp hx).1
      exact this) hx⟩ Dl ws B' H' (g1.trans g') (Evl.fresh_back g1.hh hD) n' h' r'⟩

/-! ### sorted({e for x in ..}), texts -/
theorem evn_sortSet {P : Program} {w : World} {α : Type} {wi : TI} {g : TG} {vs : List Nat} {ys : List Str} (xs : List α) (f : α → Dat) (val : α → Str) (h : ITo wi ρ (xs.map f)) (hz : xs.length < 64)
    (hb : ∀ x, x ∈ xs → ∃ ρ' ix, GT g (wipeS ρ vs) (f x) ρ' ix ∧ (∀ i ∈ ix, i ∈ vs) ∧ ET tt ρ' true ∧ EV te ρ' (.str (val x)))
    (hy : ∀ l zs : List Str, l.Nodup → (∀ s, s ∈ l ↔ s ∈ xs.map val) → zs.Perm l → PyProof.Rows.sortedS zs = true → zs = ys) : EVN (tCB (Ts.rSortT P w) (tCons (Ts.tTs P w wi g tt te vs) tNil)) ρ (ys.map .str) := fun B H σ S Q q => h B H σ S _ fun J B1 H1 g1 wl => fun Dl hD => by
  have hlen : (xs.map f).length = xs.length := List.length_map ..
  have g0 : Go B1 H1 B1 (upd H1 Dl (Ts.TsO P w Dl [])) := Go.own g1.bh hD
  refine ⟨fun i m H' => m = xs.length - i ∧ i ≤ xs.length ∧ ∃ B' l, Go B1 H1 B' H' ∧ B' Dl = none ∧ H' Dl = some (Ts.TsO P w Dl l) ∧ l.length ≤ i ∧ l.Nodup ∧ ∀ s, s ∈ l ↔ s ∈ (xs.take i).map val,
    ⟨xs.length, by simp, Nat.zero_le _, B1, [], g0, free_of g1.bh hD, upd_same, Nat.le_refl _, .nil, by simp⟩, ?_⟩
  rintro i m H' ⟨rfl, hi, B', l, g', n', h', ll, nd, hm⟩
  by_cases hlt : i < xs.length
  · refine .inr ⟨wl.go i B' H' (by rw [hlen]; exact hlt) g', fun H2 => i + 1 ≤ xs.length ∧ ∃ B' l, Go B1 H1 B' H2 ∧ B' Dl = none ∧ H2 Dl = some (Ts.TsO P w Dl l) ∧ l.length ≤ i + 1 ∧ l.Nodup ∧ ∀ s, s ∈ l ↔ s ∈ (xs.take (i + 1)).map val, fun H2 z => ⟨_, by omega, rfl, z⟩, fun x H2 y => ?_⟩
    obtain ⟨d', B2, h1, g2, r2⟩ := wl.yld i B' H' x H2 (by rw [hlen]; exact hlt) g' y
    have hx : xs[i]? = some xs[i] := List.getElem?_eq_getElem hlt
    rw [List.getElem?_map, hx] at h1
    have hd : f xs[i] = d' := Option.some.inj h1
    subst hd
    obtain ⟨ρ', ix, hg, hv, ht, he⟩ := hb xs[i] (List.getElem_mem hlt)
    obtain ⟨us, e1, e2, e3⟩ := hg B2 H2 (L2.wipe σ vs) x g2.bh r2
    subst e1
    refine e3 _ ⟨(wipe_sets fun u hu => hv _ (e2 u hu).2).trans (wipe_wipe σ vs), ?_⟩
    have gg : Go B H B2 H2 := g1.trans (g'.trans g2)
    have S2 : SR B2 H2 (setv (L2.wipe σ vs) us) (sets (wipeS ρ vs) us) := ((S.mono gg).wipe vs).sets fun u hu => (e2 u hu).1
    refine ht B2 H2 _ S2 _ fun B3 H3 g3 => iteT ?_
    refine he B3 H3 _ (S2.mono g3) _ fun y B4 H4 g4 r4 => ?_
    cases r4
    have a4 := g4.hh _ _ (g3.hh _ _ (g2.hh _ _ h'))
    have n4 : B4 Dl = none := ((g2.trans g3).trans g4).no _ _ h' n'
    have gt := ((g'.trans g2).trans g3).trans g4
    have sb : (64 : Nat) < scanBound := by decide
    refine ⟨_, l, rfl, a4, by omega, hlt, B4, Ts.addL l (val xs[i]), ⟨Evl.Ex.mut gt.hh hD, gt.bb, Evl.Ex.mut gt.bh n4, gt.no⟩, n4, upd_same, Nat.le_trans (Ts.addL_len ..) (by omega), ?_, fun s => ?_⟩
    · unfold Ts.addL
      split
      · exact nd
      · next hn => exact List.nodup_cons.mpr ⟨hn, nd⟩
    · rw [List.take_succ_eq_append_getElem hlt, List.map_append, List.mem_append, ← hm s]
      unfold Ts.addL
      split
      · next hin => exact ⟨.inl, fun z => z.elim id fun z => by rw [List.map_singleton, List.mem_singleton] at z; rw [z]; exact hin⟩
      · rw [List.mem_cons, List.map_singleton, List.mem_singleton]
        exact Or.comm
  · have e : i = xs.length := by omega
    subst e
    have e2 := wl.stop B' H' g'
    rw [hlen] at e2
    rw [List.take_length] at hm
    refine .inl ⟨e2, Dl, l, rfl, h', by omega, fun zs p hp hs hn => ?_⟩
    rw [hy l zs nd hm hp hs]
    have gg := g1.trans g'
    exact q p _ B' _ (gg.trans (Go.own gg.bh hn)) (Evl.fresh_back gg.hh hn) (free_of gg.bh hn) upd_same (Reps.of_strs ys)
end
end Dl

set_option maxHeartbeats 4000000
namespace Dl
open PySem L2
open Evl (Ex)
/-- sorted(set(xs)), ints -/
theorem evn_sortSetI {K : PySem.W.Frag} {w : World} {ρ : List Sl} {tl : TE} {ys ns : List Int} (h : EVL tl ρ (ns.map .int)) (h64 : ns.length < 60) (hy : ∀ zs : List Int, zs.Pairwise (· < ·) → (∀ k, k ∈ zs ↔ k ∈ ns) → zs = ys) :
    EVN (tCB (rSortedSet w) (tCons (tCB (Ts.rSetL K w) (tCons tl tNil)) tNil)) ρ (ys.map .int) := fun B H σ S Q q => h B H σ S _ fun p vs B1 H1 g1 h1 r1 => by
  have e := r1.ints
  subst e
  have sb : (61 : Nat) < scanBound := by decide
  refine ⟨p, ns, rfl, SqL.of h1, by omega, fun a c hc ha => ⟨a, _, c, rfl, upd_same, by omega, fun zs x hs hm hl hx => ?_⟩⟩
  rw [hy zs hs fun k => by rw [hm k, decide_eq_true_eq]]
  have g2 : Go B1 H1 B1 (upd H1 a (SetO w a (fun j => decide (j ∈ ns)) c)) := Go.own g1.bh ha
  have gg := (g1.trans g2).trans (Go.own (o := HO.lst (ys.map V.int)) g2.bh hx)
  exact q x _ B1 _ gg (Evl.fresh_back (g1.trans g2).hh hx) (free_of g2.bh hx) upd_same (Reps.of_ints ys)
end Dl

set_option maxHeartbeats 4000000
namespace Dl
open PySem L2
open Evl (Ex)
section
variable {ρ : List Sl} {te : TE} {tt tt1 : TT}
/-- [e for x in .. for y in .. if ..] -/
theorem evn_lc2 {α β : Type} {wi wi1 : TI} {g g1 : TG} {vs vs1 : List Nat} (xs : List α) (f : α → Dat) (ys : α → List β) (f2 : β → Dat) (p : α → β → Bool) (val : α → β → Dat) (h : ITp wi ρ (xs.map f)) (hz : ∀ i, i ≤ xs.length → ((xs.take i).flatMap ys).length ≤ 80000) (hy : ∀ x ∈ xs, (ys x).length ≤ 10000)
    (hb : ∀ x, x ∈ xs → ∃ ρ' ix, GT g (wipeS ρ vs) (f x) ρ' ix ∧ (∀ i ∈ ix, i ∈ vs) ∧ ET tt ρ' true ∧ ITp wi1 ρ' ((ys x).map f2) ∧
      ∀ y, y ∈ ys x → ∃ ρ2 ix2, GT g1 (wipeS ρ' vs1) (f2 y) ρ2 ix2 ∧ (∀ i ∈ ix2, i ∈ vs1) ∧ ET tt1 ρ2 (p x y) ∧ (p x y = true → EV te ρ2 (val x y))) :
    EVN (tLc2 wi g tt wi1 g1 tt1 te vs vs1) ρ (xs.flatMap fun x => ((ys x).filter (p x)).map (val x)) := fun B H σ S Q q => h B H σ S _ fun J B1 H1 g0 w => fun Dl hD => by
  have hlen : (xs.map f).length = xs.length := List.length_map ..
  have gz : Go B1 H1 B1 (upd H1 Dl (.lst [])) := Go.own g0.bh hD
  have small : ∀ l : List α, (l.flatMap fun x => ((ys x).filter (p x)).map (val x)).length ≤ (l.flatMap ys).length := fun l => by
    induction l with
    | nil => exact Nat.le_refl _
    | cons a l ih =>
      rw [List.flatMap_cons, List.flatMap_cons, List.length_append, List.length_append, List.length_map]
      have := List.length_filter_le (p a) (ys a)
      omega
  refine ⟨fun i m H' => m = xs.length - i ∧ i ≤ xs.length ∧ ∃ B' ws, Go B1 H1 B' H' ∧ B' Dl = none ∧ H' Dl = some (.lst ws) ∧ Reps B' ws ((xs.take i).flatMap fun x => ((ys x).filter (p x)).map (val x)),
    ⟨xs.length, by simp, Nat.zero_le _, B1, [], gz, free_of g0.bh hD, upd_same, .nil⟩, ?_⟩
  rintro i m H' ⟨rfl, hi, B', ws, g', n', h', r'⟩
  by_cases hlt : i < xs.length
  · refine .inr ⟨w.go i B' H' (by rw [hlen]; exact hlt) g'.bb g'.bh, fun H2 => i + 1 ≤ xs.length ∧ ∃ B' ws, Go B1 H1 B' H2 ∧ B' Dl = none ∧ H2 Dl = some (.lst ws) ∧ Reps B' ws ((xs.take (i + 1)).flatMap fun x => ((ys x).filter (p x)).map (val x)), fun H2 z => ⟨_, by omega, rfl, z⟩, fun x H2 y => ?_⟩
    obtain ⟨d', B2, h1, g2, r2⟩ := w.yld i B' H' x H2 (by rw [hlen]; exact hlt) g'.bb g'.bh y
    have hx : xs[i]? = some xs[i] := List.getElem?_eq_getElem hlt
    rw [List.getElem?_map, hx] at h1
    have hd : f xs[i] = d' := Option.some.inj h1
    subst hd
    have hxm : xs[i] ∈ xs := List.getElem_mem hlt
    obtain ⟨ρ', ix, hg, hv, ht, hi2, hin⟩ := hb xs[i] hxm
    obtain ⟨us, e1, e2, e3⟩ := hg B2 H2 (L2.wipe σ vs) x g2.bh r2
    subst e1
    have htake : xs.take (i + 1) = xs.take i ++ [xs[i]] := List.take_succ_eq_append_getElem hlt
    have hzi := hz i (by omega)
    have hyi := hy xs[i] hxm
    have sm := small (xs.take i)
    refine e3 _ ⟨(wipe_sets fun u hu => hv _ (e2 u hu).2).trans (wipe_wipe σ vs), ?_⟩
    have gg : Go B H B2 H2 := g0.trans (g'.trans g2)
    have S2 : SR B2 H2 (setv (L2.wipe σ vs) us) (sets (wipeS ρ vs) us) := ((S.mono gg).wipe vs).sets fun u hu => (e2 u hu).1
    refine ht B2 H2 _ S2 _ fun B3 H3 g3 => iteT ?_
    refine hi2 B3 H3 _ (S2.mono g3) _ fun J1 B4 H4 g4 w1 => ?_
    have hlen1 : ((ys xs[i]).map f2).length = (ys xs[i]).length := List.length_map ..
    have a4 := g4.hh _ _ (g3.hh _ _ (g2.hh _ _ h'))
    have n4 : B4 Dl = none := ((g2.trans g3).trans g4).no _ _ h' n'
    refine ⟨fun j k H' => k = (ys xs[i]).length - j ∧ j ≤ (ys xs[i]).length ∧ ∃ B' ws, Go B1 H1 B' H' ∧ Ex B4 B' ∧ B' Dl = none ∧ H' Dl = some (.lst ws) ∧ Reps B' ws (((xs.take i).flatMap fun x => ((ys x).filter (p x)).map (val x)) ++ (((ys xs[i]).take j).filter (p xs[i])).map (val xs[i])),
      ⟨(ys xs[i]).length, by simp, Nat.zero_le _, B4, ws, ((g'.trans g2).trans g3).trans g4, Evl.Ex.refl _, n4, a4, by simpa using ((r'.mono g2.bb).mono g3.bb).mono g4.bb⟩, ?_⟩
    rintro j k H5 ⟨rfl, hj, B5, ws5, g5, x5, n5, h5, r5⟩
    by_cases hjl : j < (ys xs[i]).length
    · refine .inr ⟨w1.go j B5 H5 (by rw [hlen1]; exact hjl) x5 g5.bh, fun H2 => j + 1 ≤ (ys xs[i]).length ∧ ∃ B' ws, Go B1 H1 B' H2 ∧ Ex B4 B' ∧ B' Dl = none ∧ H2 Dl = some (.lst ws) ∧ Reps B' ws (((xs.take i).flatMap fun x => ((ys x).filter (p x)).map (val x)) ++ (((ys xs[i]).take (j + 1)).filter (p xs[i])).map (val xs[i])), fun H2 z => ⟨_, by omega, rfl, z⟩, fun z H6 yz => ?_⟩
      obtain ⟨d6, B6, k1, g6, r6⟩ := w1.yld j B5 H5 z H6 (by rw [hlen1]; exact hjl) x5 g5.bh yz
      have hyj : (ys xs[i])[j]? = some (ys xs[i])[j] := List.getElem?_eq_getElem hjl
      rw [List.getElem?_map, hyj] at k1
      have hd6 : f2 (ys xs[i])[j] = d6 := Option.some.inj k1
      subst hd6
      obtain ⟨ρ2, ix2, hg2, hv2, ht2, he2⟩ := hin (ys xs[i])[j] (List.getElem_mem hjl)
      obtain ⟨us2, m1, m2, m3⟩ := hg2 B6 H6 (L2.wipe (setv (L2.wipe σ vs) us) vs1) z g6.bh r6
      subst m1
      refine m3 _ ⟨(wipe_sets fun u hu => hv2 _ (m2 u hu).2).trans (wipe_wipe _ vs1), ?_⟩
      have bh4 : Ex B2 B6 := (g3.trans g4).bb.trans (x5.trans g6.bb)
      -- the outer names hold on
      have S6 : SR B6 H6 (setv (L2.wipe σ vs) us) (sets (wipeS ρ vs) us) := by
        have gA : Go B1 H1 B6 H6 := g5.trans g6
        have gB : Go B H B6 H6 := g0.trans gA
        exact ((S.mono gB).wipe vs).sets fun u hu => ((e2 u hu).1).mono bh4
      have S7 : SR B6 H6 (setv (L2.wipe (setv (L2.wipe σ vs) us) vs1) us2) (sets (wipeS (sets (wipeS ρ vs) us) vs1) us2) := (S6.wipe vs1).sets fun u hu => (m2 u hu).1
      have hstep : (ys xs[i]).take (j + 1) = (ys xs[i]).take j ++ [(ys xs[i])[j]] := List.take_succ_eq_append_getElem hjl
      have l5 : ws5.length ≤ 90000 := by
        rw [r5.length, List.length_append, List.length_map]
        have := List.length_filter_le (p xs[i]) ((ys xs[i]).take j)
        rw [List.length_take] at this
        omega
      refine ht2 B6 H6 _ S7 _ fun B7 H7 g7 => ?_
      cases hp : p xs[i] (ys xs[i])[j] with
      | true =>
        refine iteT ?_
        refine he2 hp B7 H7 _ (S7.mono g7) _ fun v B8 H8 g8 r8 => ?_
        have a8 := g8.hh _ _ (g7.hh _ _ (g6.hh _ _ h5))
        have n8 : B8 Dl = none := ((g6.trans g7).trans g8).no _ _ h5 n5
        have gt := ((g5.trans g6).trans g7).trans g8
        refine ⟨ws5, a8, Evl.sz_lt (by omega), hjl, B8, ws5 ++ [v], ⟨Evl.Ex.mut gt.hh hD, gt.bb, Evl.Ex.mut gt.bh n8, gt.no⟩, x5.trans ((g6.trans g7).trans g8).bb, n8, upd_same, ?_⟩
        rw [hstep, List.filter_append, List.map_append, ← List.append_assoc]
        have e : ([(ys xs[i])[j]].filter (p xs[i])).map (val xs[i]) = [val xs[i] (ys xs[i])[j]] := by simp [hp]
        rw [e]
        exact (r5.mono ((g6.trans g7).trans g8).bb).append (.cons r8 .nil)
      | false =>
        refine iteF ⟨hjl, B7, ws5, (g5.trans g6).trans g7, x5.trans (g6.trans g7).bb, (g6.trans g7).no _ _ h5 n5, (g6.trans g7).hh _ _ h5, ?_⟩
        rw [hstep, List.filter_append, List.map_append]
        have e : ([(ys xs[i])[j]].filter (p xs[i])).map (val xs[i]) = [] := by simp [hp]
        rw [e, List.append_nil]
        exact r5.mono (g6.trans g7).bb
    · have e : j = (ys xs[i]).length := by omega
      subst e
      have e2' := w1.stop B5 H5 x5 g5.bh
      rw [hlen1] at e2'
      rw [List.take_length] at r5
      refine .inl ⟨e2', hlt, B5, ws5, g5, n5, h5, ?_⟩
      rw [htake, List.flatMap_append]
      simpa using r5
  · have e : i = xs.length := by omega
    subst e
    have e2 := w.stop B' H' g'.bb g'.bh
    rw [hlen] at e2
    rw [List.take_length] at r'
    exact .inl ⟨e2, q Dl ws B' H' (g0.trans g') (Evl.fresh_back g0.hh hD) n' h' r'⟩
end
end Dl

set_option maxHeartbeats 4000000
/-! an own list becomes a datum; calls that change what they are handed -/
namespace Dl
open PySem L2
open Evl (Ex)
section
variable {K : PySem.W.Frag} {Bm B0 H0 B H : Hp} {σ : St} {ρ ρ1 ρ2 : List Sl} {ds es : List Dat} {k m : Nat} {t u : TS} {te : TE} {tt tu : TT} {d : Dat} {b : Bool} {out : Out}
theorem SE.frz (S : SE Bm B0 H0 B H σ ρ) (hk : ρ[k]? = some (.l ds)) : ∃ B', SE Bm B0 H0 B' H σ (ρ.set k (.d (.lst ds))) := by
  obtain ⟨ov, h1, p, vs, rfl, n, h2, r⟩ := S.r.at_ k _ hk
  have hl : k < ρ.length := (List.getElem?_eq_some_iff.mp hk).1
  have hf := S.fr k _ p hk rfl h1
  have e : Ex B (upd B p (.lst vs)) := Evl.Ex.new n
  have key : ∀ {j : Nat} {u : Sl}, (ρ.set k (.d (.lst ds)))[j]? = some u → (j = k ∧ u = .d (.lst ds)) ∨ (j ≠ k ∧ ρ[j]? = some u) := fun {j u} e => by
    by_cases hj : k = j
    · subst hj
      rw [List.getElem?_set_self hl] at e
      exact .inl ⟨rfl, (Option.some.inj e).symm⟩
    · rw [List.getElem?_set_ne hj] at e
      exact .inr ⟨fun z => hj z.symm, e⟩
  have ow : ∀ {j : Nat} {u : Sl}, (ρ.set k (.d (.lst ds)))[j]? = some u → isOwn u = true → j ≠ k ∧ ρ[j]? = some u := fun {j u} e q => by
    rcases key e with ⟨rfl, rfl⟩ | h
    · cases q
    · exact h
  refine ⟨upd B p (.lst vs), ⟨⟨fun a o ha => ?_, by rw [List.length_set]; exact S.r.len, fun j s hj => ?_, fun i j s s' q hij e1 e2 o1 o2 => S.r.ap i j s s' q hij (ow e1 o1).2 (ow e2 o2).2 o1 o2⟩, S.g.keep hf n h2, S.m.trans e, fun j s q hj o => S.fr j s q (ow hj o).2 o⟩⟩
  · by_cases h : a = p
    · subst h
      rw [upd_same] at ha
      rw [h2]
      exact ha
    · rw [upd_ne h] at ha
      exact S.r.bh a o ha
  · rcases key hj with ⟨rfl, rfl⟩ | ⟨hne, hj⟩
    · exact ⟨_, h1, _, rfl, .lst upd_same (r.mono e)⟩
    · obtain ⟨ov, q1, q2⟩ := S.r.at_ j s hj
      refine ⟨ov, q1, ?_⟩
      have ne : isOwn s = true → ov ≠ some (.ref p) := fun q z => S.r.ap j k s _ p hne hj hk q rfl (by rw [q1, z]) h1
      cases s with
      | x => trivial
      | d d =>
        obtain ⟨v, e1, r1⟩ := q2
        exact ⟨v, e1, r1.mono e⟩
      | l ds =>
        obtain ⟨q, vs, e1, n1, h3, r1⟩ := q2
        have hq : q ≠ p := fun z => ne rfl (by rw [e1, z])
        exact ⟨q, vs, e1, by rw [upd_ne hq]; exact n1, h3, r1.mono e⟩
      | k ds =>
        obtain ⟨q, vs, e1, n1, h3, r1⟩ := q2
        have hq : q ≠ p := fun z => ne rfl (by rw [e1, z])
        exact ⟨q, vs, e1, by rw [upd_ne hq]; exact n1, h3, RepKs.mono e r1⟩
      | o q C fs =>
        obtain ⟨dx, vs, e1, n1, h3, r1⟩ := q2
        have hq : q ≠ p := fun z => ne rfl (by rw [e1, z])
        exact ⟨dx, vs, e1, by rw [upd_ne hq]; exact n1, h3, r1.mono e⟩
theorem st_frz (hk : ρ[k]? = some (.l ds)) (h : ST t (ρ.set k (.d (.lst ds))) out) : ST t ρ out := fun Bm B0 H0 B H σ D S P => by
  obtain ⟨B', S'⟩ := S.frz hk
  exact h Bm B0 H0 B' H σ D S' P
theorem sts_frz {O : Out → Prop} (hk : ρ[k]? = some (.l ds)) (h : STs t (ρ.set k (.d (.lst ds))) O) : STs t ρ O := fun Bm B0 H0 B H σ D S P => by
  obtain ⟨B', S'⟩ := S.frz hk
  exact h Bm B0 H0 B' H σ D S' P

/-! ### a body that changes what it is handed: its first four slots stay where they are -/
def Same4 (σ σ' : St) : Prop := ∀ i, i < 4 → σ'[i]? = σ[i]?
def SK (t : TS) (ρ ρ' : List Sl) : Prop := ∀ (Bm B0 H0 B H : Hp) (σ : St) (D : Ends), SE Bm B0 H0 B H σ ρ → (∀ B2 H2 σ2, Same4 σ σ2 → SE Bm B0 H0 B2 H2 σ2 ρ' → D.nx σ2 H2) → t D σ H
def SX (t : TS) (ρ ρ' : List Sl) : Prop := ∀ (Bm B0 H0 B H : Hp) (σ : St) (D : Ends), SE Bm B0 H0 B H σ ρ → (∀ B2 H2 σ2, Same4 σ σ2 → SE Bm B0 H0 B2 H2 σ2 ρ' → D.rt (.bl true) H2) → t D σ H
def ETx (tt : TT) (ρ : List Sl) (b : Bool) (ρ' : List Sl) : Prop := ∀ (Bm B0 H0 B H : Hp) (σ : St), SE Bm B0 H0 B H σ ρ → ∀ Q : Bool → Hp → Prop, (∀ B2 H2, SE Bm B0 H0 B2 H2 σ ρ' → Q b H2) → tt σ H Q
theorem sk_next : SK tNext ρ ρ := fun Bm B0 H0 B H σ D S P => P B H σ (fun _ _ => rfl) S
theorem sx_ret : SX (tRet (tC (.bl true))) ρ ρ := fun Bm B0 H0 B H σ D S P => P B H σ (fun _ _ => rfl) S
theorem sx_seq (h1 : SK t ρ ρ1) (h2 : SX u ρ1 ρ2) : SX (tSeq t u) ρ ρ2 := fun Bm B0 H0 B H σ D S P => h1 Bm B0 H0 B H σ { D with nx := u D } S fun B2 H2 σ2 e S2 => h2 Bm B0 H0 B2 H2 σ2 D S2 fun B3 H3 σ3 e3 S3 => P B3 H3 σ3 (fun i hi => (e3 i hi).trans (e i hi)) S3
theorem sx_if (h : ET tt ρ true) (h1 : SX t ρ ρ2) : SX (tIfS tt t u) ρ ρ2 := fun Bm B0 H0 B H σ D S P => h B H σ S.r _ fun B1 H1 g1 => h1 Bm B0 H0 B1 H1 σ D (S.mono g1) P
theorem sk_if (h : ET tt ρ false) (h1 : SK u ρ ρ2) : SK (tIfS tt t u) ρ ρ2 := fun Bm B0 H0 B H σ D S P => h B H σ S.r _ fun B1 H1 g1 => h1 Bm B0 H0 B1 H1 σ D (S.mono g1) P
theorem sx_ifx (h : ETx tt ρ true ρ1) (h1 : SX t ρ1 ρ2) : SX (tIfS tt t u) ρ ρ2 := fun Bm B0 H0 B H σ D S P => h Bm B0 H0 B H σ S _ fun B1 H1 S1 => h1 Bm B0 H0 B1 H1 σ D S1 P
theorem st_ifx (h : ETx tt ρ b ρ1) (h1 : b = true → ST t ρ1 out) (h2 : b = false → ST u ρ1 out) : ST (tIfS tt t u) ρ out := fun Bm B0 H0 B H σ D S P => h Bm B0 H0 B H σ S _ fun B1 H1 S1 => by
  cases b with
  | true => exact h1 rfl Bm B0 H0 B1 H1 σ D S1 P
  | false => exact h2 rfl Bm B0 H0 B1 H1 σ D S1 P
theorem etx_or (h1 : ET tt ρ false) (h2 : ETx tu ρ true ρ1) : ETx (tOr tt tu) ρ true ρ1 := fun Bm B0 H0 B H σ S Q q => h1 B H σ S.r _ fun B1 H1 g1 => h2 Bm B0 H0 B1 H1 σ (S.mono g1) Q q
theorem etx_not (h1 : ETx tt ρ b ρ1) : ETx (tNot tt) ρ (!b) ρ1 := fun Bm B0 H0 B H σ S Q q => h1 Bm B0 H0 B H σ S _ q
theorem sk_app (hk : ρ[k]? = some (.l ds)) (h : EV te ρ d) (hz : ds.length ≤ 90000) : SK (tDrop (tBM K "list" rAppend (tVar k) (tCons te tNil))) ρ (ρ.set k (.l (ds ++ [d]))) := fun Bm B0 H0 B H σ D S P => by
  obtain ⟨ov, h1, p, vs, rfl, n, h2, r⟩ := S.r.at_ k _ hk
  refine ⟨_, h1, Or.inl ⟨rfl, vs, SqL.of h2⟩, h B H σ S.r _ fun v B1 H1 g1 r1 => ?_⟩
  refine ⟨p, vs, v, rfl, rfl, g1.hh _ _ h2, Evl.sz_lt (by rw [r.length]; omega), P B1 _ _ (fun _ _ => rfl) ((S.mono g1).write hk rfl h1 rfl fun n1 => ⟨p, vs ++ [v], rfl, n1, upd_same, (r.mono g1.bb).append (.cons r1 .nil)⟩)⟩
theorem sx_for {wi : TI} {xs : List Dat} {n : Nat} {x : Dat} (hx : xs[n]? = some x) (h : ITp wi ρ xs) (hw : ∀ y, Wk (ρ.set 4 (.d y)) ρ) (hb : ∀ i y, i < n → xs[i]? = some y → SK t (ρ.set 4 (.d y)) (ρ.set 4 (.d y))) (hl : SX t (ρ.set 4 (.d x)) ρ2) : SX (tSeq (tFor wi (gName 4) t) u) ρ ρ2 := fun Bm B0 H0 B H σ D R P => h B H σ R.r _ fun J B1 H1 g1 w => by
  have S1 : SE B1 B0 H0 B1 H1 σ ρ := (R.mono g1).low (Evl.Ex.refl B1)
  have hm : Ex Bm B1 := R.m.trans g1.bb
  have hn : n < xs.length := (List.getElem?_eq_some_iff.mp hx).1
  refine ⟨fun i m σ' H' => m = xs.length - i ∧ i ≤ n ∧ Same4 σ σ' ∧ ∃ B', SE B1 B0 H0 B' H' σ' ρ, ⟨xs.length, by simp, Nat.zero_le _, fun _ _ => rfl, B1, S1⟩, ?_⟩
  rintro i m σ' H' ⟨rfl, hi, hs, B', S'⟩
  have s4 : ∀ v, Same4 σ (σ'.set 4 (some v)) := fun v j hj => by
    rw [List.getElem?_set_ne (by omega)]
    exact hs j hj
  refine .inr ⟨w.go i B' H' (by omega) S'.m S'.r.bh, fun σ2 H2 => i + 1 ≤ n ∧ Same4 σ σ2 ∧ ∃ B', SE B1 B0 H0 B' H2 σ2 ρ, fun σ2 H2 q => ⟨xs.length - (i + 1), by omega, rfl, q⟩, fun y H2 hy => ?_⟩
  obtain ⟨d', B2, h1, g2, r2⟩ := w.yld i B' H' y H2 (by omega) S'.m S'.r.bh hy
  have S2 : SE B1 B0 H0 B2 H2 (σ'.set 4 (some y)) (ρ.set 4 (.d d')) := (S'.mono g2).set r2
  by_cases e : i = n
  · subst e
    rw [hx] at h1
    cases h1
    exact hl B1 B0 H0 B2 H2 _ _ S2 fun B3 H3 σ3 e3 S3 => P B3 H3 σ3 (fun j hj => (e3 j hj).trans (s4 y j hj)) (S3.low (hm.trans S3.m))
  · exact hb i d' (by omega) h1 B1 B0 H0 B2 H2 _ _ S2 fun B3 H3 σ3 e3 S3 => ⟨by omega, fun j hj => (e3 j hj).trans (s4 y j hj), B3, S3.wk (hw d')⟩
theorem sk_dput {ty tv : TE} {kds : List (Key × Dat)} {x : Key} (hk : ρ[k]? = some (.k kds)) (hv : EV tv ρ d) (hy : EV ty ρ (keyD x)) (hz : kds.length ≤ 90000) : SK (sDPut (tVar k) ty tv) ρ (ρ.set k (.k (putD kds x d))) := fun Bm B0 H0 B H σ D S P => by
  obtain ⟨ov, h1, p, ks, rfl, n, h2, r⟩ := S.r.at_ k _ hk
  refine hv B H σ S.r _ fun v B1 H1 g1 r1 => ⟨_, h1, hy B1 H1 σ (S.r.mono g1) _ fun y B2 H2 g2 r2 => ?_⟩
  have e := key_of r2
  subst e
  have h3 := g2.hh _ _ (g1.hh _ _ h2)
  refine ⟨p, _, rfl, DPut.k h3 (Evl.sz_lt (by rw [repks_len r]; omega)), P B2 _ _ (fun _ _ => rfl) ((S.mono (g1.trans g2)).write hk rfl h1 rfl fun n1 => ⟨p, _, rfl, n1, upd_same, repks_put x (r1.mono g2.bb) (r.mono (g1.trans g2).bb)⟩)⟩
theorem repks_none {x : Key} : ∀ {ks : List (Key × V)} {kds : List (Key × Dat)}, RepKs B ks kds → (valV ks x).isSome = (valD kds x).isSome
  | [], [], _ => rfl
  | (k, v) :: ks, (k', d) :: kds, ⟨e, _, r⟩ => by
    subst e
    have ih := repks_none (x := x) r
    unfold valV valD at ih ⊢
    by_cases h : k = x
    · rw [List.find?_cons_of_pos (by simpa using h), List.find?_cons_of_pos (by simpa using h)]
      rfl
    · rw [List.find?_cons_of_neg (by simpa using h), List.find?_cons_of_neg (by simpa using h)]
      exact ih
theorem ev_kni {ty : TE} {kds : List (Key × Dat)} {x : Key} (hk : ρ[k]? = some (.k kds)) (hy : EV ty ρ (keyD x)) : EV (tDNotIn ty (tVar k)) ρ (.bl (!(valD kds x).isSome)) := fun B H σ S Q q => by
  obtain ⟨ov, h1, p, ks, rfl, n, h2, r⟩ := S.at_ k _ hk
  refine hy B H σ S _ fun y B2 H2 g2 r2 => ⟨_, h1, ?_⟩
  have e := key_of r2
  subst e
  refine ⟨p, valV ks x, rfl, DGet.k (g2.hh _ _ h2), ?_⟩
  rw [repks_none r]
  exact q _ B2 H2 g2 (.bl _)

/-! ### a call that changes a dict and a list -/
def spW (P : List Dat → List (Key × Dat) → Int → List Dat → List (Key × Dat) → List Dat → Prop) : Sp := fun vs H Q _ => ∃ B H0 v0 ph i ps ks ws nd kds ds kds' ds', vs = [v0, .ref ph, .int i, .ref ps] ∧ H = upd (upd H0 ph (.dK ks)) ps (.lst ws) ∧ H0 ph = none ∧ H0 ps = none ∧ ph ≠ ps ∧ Ex B H0 ∧ Rep B v0 (.lst nd) ∧ RepKs B ks kds ∧ Reps B ws ds ∧ P nd kds i ds kds' ds' ∧
  ∀ B2 H2 ks2 ws2, Go B H0 B2 H2 → B2 ph = none → B2 ps = none → H2 ph = some (.dK ks2) → RepKs B2 ks2 kds' → H2 ps = some (.lst ws2) → Reps B2 ws2 ds' → Q (.bl true) H2
theorem start_seW {N : List Str} {B H0 : Hp} {v0 : V} {ph ps : Addr} {i : Int} {ks : List (Key × V)} {ws : List V} {nd : List Dat} {kds : List (Key × Dat)} (hN : N.length = 5) (h1 : H0 ph = none) (h2 : H0 ps = none) (hne : ph ≠ ps) (e : Ex B H0) (r0 : Rep B v0 (.lst nd)) (rk : RepKs B ks kds) (rw : Reps B ws ds) :
    SE B B H0 B (upd (upd H0 ph (.dK ks)) ps (.lst ws)) (L2.start N [v0, .ref ph, .int i, .ref ps]) [.d (.lst nd), .k kds, .d (.int i), .l ds, .x] := by
  have hp2 : (upd H0 ph (.dK ks)) ps = none := by
    rw [upd_ne (Ne.symm hne)]
    exact h2
  have g : Go B H0 B (upd (upd H0 ph (.dK ks)) ps (.lst ws)) := (Go.own e h1).trans (Go.own (Go.own (o := HO.dK ks) e h1).bh hp2)
  have es : L2.start N [v0, .ref ph, .int i, .ref ps] = ([some v0, some (V.ref ph), some (V.int i), some (V.ref ps), none] : List (Option V)) := by
    unfold L2.start
    simp [hN]
  rw [es]
  have q1 : (upd (upd H0 ph (.dK ks)) ps (.lst ws)) ph = some (.dK ks) := by rw [upd_ne hne, upd_same]
  refine ⟨⟨g.bh, rfl, fun j s hj => ?_, fun a b s s' p hab e1 e2 o1 o2 => ?_⟩, g, Evl.Ex.refl B, fun j s p hj o hp => ?_⟩
  · match j, hj with
    | 0, hj => cases hj; exact ⟨_, rfl, v0, rfl, r0⟩
    | 1, hj => cases hj; exact ⟨_, rfl, ph, ks, rfl, free_of e h1, q1, rk⟩
    | 2, hj => cases hj; exact ⟨_, rfl, _, rfl, .int i⟩
    | 3, hj => cases hj; exact ⟨_, rfl, ps, ws, rfl, free_of e h2, upd_same, rw⟩
    | 4, hj => cases hj; exact ⟨_, rfl, trivial⟩
    | n + 5, hj => cases hj
  · have own : ∀ {j : Nat} {s : Sl}, [Sl.d (.lst nd), .k kds, .d (.int i), .l ds, .x][j]? = some s → isOwn s = true → j = 1 ∨ j = 3 := fun {j s} hj o => by
      match j, hj with
      | 0, hj => cases hj; cases o
      | 1, _ => exact .inl rfl
      | 2, hj => cases hj; cases o
      | 3, _ => exact .inr rfl
      | 4, hj => cases hj; cases o
      | n + 5, hj => cases hj
    intro z1 z2
    rcases own e1 o1 with rfl | rfl <;> rcases own e2 o2 with rfl | rfl
    · exact hab rfl
    · cases z1
      cases z2
      exact hne rfl
    · cases z1
      cases z2
      exact hne rfl
    · exact hab rfl
  · match j, hj, hp with
    | 0, hj, _ => cases hj; cases o
    | 1, _, hp => cases hp; exact h1
    | 2, hj, _ => cases hj; cases o
    | 3, _, hp => cases hp; exact h2
    | 4, hj, _ => cases hj; cases o
    | n + 5, hj, _ => cases hj
/-- behind a call that was handed own things -/
theorem SE.after {B2 H2 : Hp} {ρ' : List Sl} (S : SE Bm B0 H0 B H σ ρ) (F : Addr → Prop) (hF : ∀ p, F p → H0 p = none) (hh : ∀ a o, H a = some o → ¬ F a → H2 a = some o) (bb : Ex B B2) (bh : Ex B2 H2) (no : ∀ p o, H p = some o → B p = none → B2 p = none)
    (hl : ρ'.length = ρ.length) (hs : ∀ (i : Nat) (s' : Sl), ρ'[i]? = some s' → ((∃ ov, σ[i]? = some ov ∧ SlOk B2 H2 ov s') ∧ ∃ s, ρ[i]? = some s ∧ isOwn s = isOwn s') ∨ (ρ[i]? = some s' ∧ ∀ p : Addr, σ[i]? = some (some (V.ref p)) → isOwn s' = true → ¬ F p)) : SE Bm B0 H0 B2 H2 σ ρ' := by
  have own : ∀ {i : Nat} {s' : Sl}, ρ'[i]? = some s' → isOwn s' = true → ∃ s, ρ[i]? = some s ∧ isOwn s = true := fun {i s'} hi o => by
    rcases hs i s' hi with ⟨_, s, h1, h2⟩ | ⟨h1, _⟩
    · exact ⟨s, h1, h2.trans o⟩
    · exact ⟨s', h1, o⟩
  refine ⟨⟨bh, S.r.len.trans hl.symm, fun i s' hi => ?_, fun i j s s' p hij e1 e2 o1 o2 => ?_⟩, ⟨fun a o ha => hh a o (S.g.hh a o ha) fun f => ?_, S.g.bb.trans bb, bh, fun p o h1 h2 => no p o (S.g.hh p o h1) (S.g.no p o h1 h2)⟩, S.m.trans bb, fun i s p hi o => ?_⟩
  · rcases hs i s' hi with ⟨h, _⟩ | ⟨h1, h2⟩
    · exact h
    · obtain ⟨ov, q1, q2⟩ := S.r.at_ i s' h1
      refine ⟨ov, q1, ?_⟩
      cases s' with
      | x => trivial
      | d d =>
        obtain ⟨v, e, r⟩ := q2
        exact ⟨v, e, r.mono bb⟩
      | l ds =>
        obtain ⟨p, vs, e, n, h, r⟩ := q2
        subst e
        exact ⟨p, vs, rfl, no p _ h n, hh p _ h (h2 p q1 rfl), r.mono bb⟩
      | k ds =>
        obtain ⟨p, vs, e, n, h, r⟩ := q2
        subst e
        exact ⟨p, vs, rfl, no p _ h n, hh p _ h (h2 p q1 rfl), RepKs.mono bb r⟩
      | o q C fs =>
        obtain ⟨dx, vs, e, n, h, r⟩ := q2
        subst e
        exact ⟨dx, vs, rfl, no q _ h n, hh q _ h (h2 q q1 rfl), r.mono bb⟩
  · obtain ⟨t1, a1, b1⟩ := own e1 o1
    obtain ⟨t2, a2, b2⟩ := own e2 o2
    exact S.r.ap i j t1 t2 p hij a1 a2 b1 b2
  · rw [hF a f] at ha
    cases ha
  · obtain ⟨t1, a1, b1⟩ := own hi o
    exact S.fr i t1 p a1 b1
section
variable {P : List Dat → List (Key × Dat) → Int → List Dat → List (Key × Dat) → List Dat → Prop} {E : XK} {ta0 ta2 : TE} {nd : List Dat} {kds kds' : List (Key × Dat)} {ds' : List Dat} {i : Int}
theorem split_hp {H : Hp} {ph ps : Addr} {o1 o2 : HO} (h1 : H ph = some o1) (h2 : H ps = some o2) (hne : ph ≠ ps) : H = upd (upd (fun a => if a = ph ∨ a = ps then none else H a) ph o1) ps o2 := by
  funext a
  by_cases e2 : a = ps
  · subst e2
    rw [upd_same, h2]
  · rw [upd_ne e2]
    by_cases e1 : a = ph
    · subst e1
      rw [upd_same, h1]
    · rw [upd_ne e1]
      simp [e1, e2]
/-- the call in the call -/
theorem etx_way (hkh : ρ[k]? = some (.k kds)) (hks : ρ[m]? = some (.l ds)) (hkm : k ≠ m) (h0 : EV ta0 ρ (.lst nd)) (h2 : EV ta2 ρ (.int i)) (hP : P nd kds i ds kds' ds') :
    ETx (tTest (tCall (spW P) [] E (tCons ta0 (tCons (tVar k) (tCons ta2 (tCons (tVar m) tNil)))))) ρ true ((ρ.set k (.k kds')).set m (.l ds')) := fun Bm B0 H0 B H σ S Q q => by
  obtain ⟨ov, k1, ph, ks, rfl, kn, k2, kr⟩ := S.r.at_ k _ hkh
  obtain ⟨ov, m1, ps, ws, rfl, mn, m2, mr⟩ := S.r.at_ m _ hks
  have hne : ph ≠ ps := fun z => S.r.ap k m _ _ ph hkm hkh hks rfl rfl k1 (by rw [m1, z])
  refine h0 B H σ S.r _ fun v0 B1 H1 g1 r1 => ⟨_, k1, ?_⟩
  refine h2 B1 H1 σ (S.r.mono g1) _ fun v2 B2 H2 g2 r2 => ⟨_, m1, ?_⟩
  cases r2
  have g := g1.trans g2
  have S2 := S.mono g
  have hk2 := g.hh _ _ k2
  have hm2 := g.hh _ _ m2
  have nk := g.no _ _ k2 kn
  have nm := g.no _ _ m2 mn
  have lk : k < ρ.length := (List.getElem?_eq_some_iff.mp hkh).1
  have lm : m < ρ.length := (List.getElem?_eq_some_iff.mp hks).1
  refine ⟨B2, fun a => if a = ph ∨ a = ps then none else H2 a, v0, ph, i, ps, ks, ws, nd, kds, ds, kds', ds', rfl, split_hp hk2 hm2 hne, by simp, by simp, hne, fun a o ha => ?_, r1.mono g2.bb, RepKs.mono g.bb kr, mr.mono g.bb, hP, fun B3 H3 ks2 ws2 g3 n1 n2 e1 r1 e2 r2 => ?_⟩
  · have x1 : a ≠ ph := fun z => by rw [z, nk] at ha; cases ha
    have x2 : a ≠ ps := fun z => by rw [z, nm] at ha; cases ha
    simp only [x1, x2, or_self, if_false]
    exact S2.r.bh a o ha
  · refine ⟨true, rfl, q B3 H3 (S2.after (fun a => a = ph ∨ a = ps) (fun p hp => ?_) (fun a o ha hf => g3.hh a o ?_) g3.bb g3.bh (fun p o hp hn => ?_) (by simp) fun j s' hj => ?_)⟩
    · rcases hp with rfl | rfl
      · exact S.fr k _ _ hkh rfl k1
      · exact S.fr m _ _ hks rfl m1
    · rw [if_neg hf]
      exact ha
    · by_cases x1 : p = ph
      · rw [x1]; exact n1
      · by_cases x2 : p = ps
        · rw [x2]; exact n2
        · exact g3.no p o (by simp only [x1, x2, or_self, if_false]; exact hp) hn
    · by_cases jm : m = j
      · subst jm
        rw [List.getElem?_set_self (by simpa using lm)] at hj
        cases hj
        exact .inl ⟨⟨_, m1, ps, ws2, rfl, n2, e2, r2⟩, _, hks, rfl⟩
      · rw [List.getElem?_set_ne jm] at hj
        by_cases jk : k = j
        · subst jk
          rw [List.getElem?_set_self lk] at hj
          cases hj
          exact .inl ⟨⟨_, k1, ph, ks2, rfl, n1, e1, r1⟩, _, hkh, rfl⟩
        · rw [List.getElem?_set_ne jk] at hj
          refine .inr ⟨hj, fun p hp ho hf => ?_⟩
          rcases hf with rfl | rfl
          · exact S.r.ap j k _ _ p (fun z => jk z.symm) hj hkh ho rfl hp k1
          · exact S.r.ap j m _ _ p (fun z => jm z.symm) hj hks ho rfl hp m1
/-- the call with a new list -/
theorem etx_way0 (hkh : ρ[k]? = some (.k kds)) (h0 : EV ta0 ρ (.lst nd)) (h2 : EV ta2 ρ (.int i)) (hP : P nd kds i [] kds' ds') :
    ETx (tTest (tCall (spW P) [] E (tCons ta0 (tCons (tVar k) (tCons ta2 (tCons (tLst tNil) tNil)))))) ρ true (ρ.set k (.k kds')) := fun Bm B0 H0 B H σ S Q q => by
  obtain ⟨ov, k1, ph, ks, rfl, kn, k2, kr⟩ := S.r.at_ k _ hkh
  refine h0 B H σ S.r _ fun v0 B1 H1 g1 r1 => ⟨_, k1, ?_⟩
  refine h2 B1 H1 σ (S.r.mono g1) _ fun v2 B2 H2 g2 r2 => ?_
  cases r2
  refine (evn_lst (ea_nil (ρ := ρ))) B2 H2 σ (S.r.mono (g1.trans g2)) _ fun ps ws B3 H3 g3 pn pn3 p3 rp => ?_
  have g := (g1.trans g2).trans g3
  have S2 := S.mono g
  have hk2 := g.hh _ _ k2
  have nk := g.no _ _ k2 kn
  have hne : ph ≠ ps := fun z => by
    have := (g1.trans g2).hh _ _ k2
    rw [z, pn] at this
    cases this
  have h0n : H0 ps = none := Evl.fresh_back (S.g.hh.trans (g1.trans g2).hh) pn
  have lk : k < ρ.length := (List.getElem?_eq_some_iff.mp hkh).1
  refine ⟨B3, fun a => if a = ph ∨ a = ps then none else H3 a, v0, ph, i, ps, ks, ws, nd, kds, [], kds', ds', rfl, split_hp hk2 p3 hne, by simp, by simp, hne, fun a o ha => ?_, r1.mono (g2.bb.trans g3.bb), RepKs.mono g.bb kr, rp, hP, fun B4 H4 ks2 ws2 g4 n1 n2 e1 r1 e2 r2 => ?_⟩
  · have x1 : a ≠ ph := fun z => by rw [z, nk] at ha; cases ha
    have x2 : a ≠ ps := fun z => by rw [z, pn3] at ha; cases ha
    simp only [x1, x2, or_self, if_false]
    exact S2.r.bh a o ha
  · refine ⟨true, rfl, q B4 H4 (S2.after (fun a => a = ph ∨ a = ps) (fun p hp => ?_) (fun a o ha hf => g4.hh a o ?_) g4.bb g4.bh (fun p o hp hn => ?_) (by simp) fun j s' hj => ?_)⟩
    · rcases hp with rfl | rfl
      · exact S.fr k _ _ hkh rfl k1
      · exact h0n
    · rw [if_neg hf]
      exact ha
    · by_cases x1 : p = ph
      · rw [x1]; exact n1
      · by_cases x2 : p = ps
        · rw [x2]; exact n2
        · exact g4.no p o (by simp only [x1, x2, or_self, if_false]; exact hp) hn
    · by_cases jk : k = j
      · subst jk
        rw [List.getElem?_set_self lk] at hj
        cases hj
        exact .inl ⟨⟨_, k1, ph, ks2, rfl, n1, e1, r1⟩, _, hkh, rfl⟩
      · rw [List.getElem?_set_ne jk] at hj
        refine .inr ⟨hj, fun p hp ho hf => ?_⟩
        rcases hf with rfl | rfl
        · exact S.r.ap j k _ _ p (fun z => jk z.symm) hj hkh ho rfl hp k1
        · obtain ⟨ov, z1, z2⟩ := S.r.at_ j _ hj
          rw [hp] at z1
          cases z1
          have hps : ∃ o, H p = some o := by
            cases s' with
            | x => cases ho
            | d d => cases ho
            | l ds => obtain ⟨_, _, e, _, h, _⟩ := z2; cases e; exact ⟨_, h⟩
            | k ds => obtain ⟨_, _, e, _, h, _⟩ := z2; cases e; exact ⟨_, h⟩
            | o q C fs => obtain ⟨_, _, e, _, h, _⟩ := z2; cases e; exact ⟨_, h⟩
          obtain ⟨o, h⟩ := hps
          have := (g1.trans g2).hh _ _ h
          rw [pn] at this
          cases this
end
end
end Dl

set_option maxHeartbeats 4000000
/-! enumerate over a tuple of an order; tuple(xs) known to its object; t.index(x) of such a tuple -/
namespace Ot
open PySem PySem.Spec PyProof.Rows L2 Dl
open Evl (Ex)
def tiObj (t : Addr) : Obj := { cls := .type "tuple_iterator", data := .fields #[.ref t, .int 0 0] }
theorem new_enum (t : Addr) (items : Array Value) : Meets (Builtin.«enumerate.__new__» ⟨[.type "enumerate", .ref t], []⟩) (fun _ R s => s.heap.IsTuple t items ∧
    R (.ok (.ret (.ref (s.heap.push (tiObj t)).objs.size))) { s with heap := (s.heap.push (tiObj t)).push { cls := .type "enumerate", data := .fields #[.none, .bool false, .ref s.heap.objs.size, rawInt 0, .none, .none] } }) :=
  .of_wp fun prog w A R s h => by
    obtain ⟨hp, g, d, tk, os⟩ := s
    obtain ⟨hl, h⟩ := h
    have hsub := sub_enumerate
    have q1 : ∀ {A' : Around} {E : Value → Shared → Prop} {Q : Value → Shared → Prop}, Q (.ref hp.objs.size) ⟨hp.push (tiObj t), g, d, tk, os⟩ → wpAny (model prog w) A' (pyIter (.ref t)) Q E ⟨hp, g, d, tk, os⟩ :=
      fun q => wpAny_pyIter_tuple hl q
    wp_walk using q1
    refine wpAny_stack_any fun st => wpAny_pure ?_
    split
    · rename_i c _ _ _ _ _
      cases (c == Value.type "enumerate") <;>
      · wp_walk using q1
        exact ⟨_, rfl, h⟩
    · wp_walk using q1
      exact ⟨_, rfl, h⟩
section
variable {prog : Program} {w : World} {A : Around} {E : Value → Shared → Prop} {s : Shared}
theorem call_enum {t : Addr} {items : Array Value} {Q : Value → Shared → Prop} (hL : s.heap.IsTuple t items)
    (h : ∀ h', IsEnum h' (s.heap.objs.size + 1) s.heap.objs.size 0 .none → h'.IsTupleIter s.heap.objs.size t 0 → (∀ b o, s.heap.get? b = some o → h'.get? b = some o) → Q (.ref (s.heap.objs.size + 1)) { s with heap := h' }) :
    wpAny (model prog w) A (call (.type "enumerate") [.ref t]) Q E s := by
  refine callType_new F.called_enumerate (by decide) (F.typeCall_enumerate_1 _) (F.newCall_enumerate_1 _) (fun obj => F.args_object_init_2 obj _) F.entry_enumerate_new (new_enum t items) ⟨hL, ?_⟩
  have hz : (s.heap.push (tiObj t)).objs.size = s.heap.objs.size + 1 := Heap.size_push ..
  show _ ∧ _
  rw [hz]
  have he : IsEnum ((s.heap.push (tiObj t)).push { cls := .type "enumerate", data := .fields #[.none, .bool false, .ref s.heap.objs.size, rawInt 0, .none, .none] }) (s.heap.objs.size + 1) s.heap.objs.size 0 .none := by
    have z := Heap.get?_push_size (s.heap.push (tiObj t)) (o := { cls := .type "enumerate", data := .fields #[.none, .bool false, .ref s.heap.objs.size, rawInt 0, .none, .none] }) rfl
    rw [hz] at z
    exact z
  exact ⟨⟨_, he, rfl⟩, h _ he ⟨_, Heap.get?_push_of_some _ (Heap.get?_push_size _ rfl), rfl, rfl⟩ fun b o x => Heap.get?_push_of_some _ (Heap.get?_push_of_some _ x)⟩
end
/-- the tuple at a, each item in a new pair -/
def Itet (K : PySem.W.Frag) (a : Addr) : It :=
  ⟨fun i H => ∃ (xs : List V) (x : V), SqT K H a xs ∧ xs[i]? = some x, fun i H v H' => ∃ T x, v = .ref T ∧ H T = none ∧ H' = upd H T (.tup [.int (i : Nat), x]) ∧ ∀ xs, SqT K H a xs → xs[i]? = some x, fun i H => ∃ xs : List V, SqT K H a xs ∧ xs.length = i⟩
theorem turn_enumT {P : Program} {w : World} {K : PySem.W.Frag} {elts : List Expr} {kk : Nat} {tpos : Pos} (a e it : Addr) (hai : a ≠ it) (hei : e ≠ it) (hae : a ≠ e) :
    Turn P w K (.Tuple elts kk tpos) (Itet K a) [e, it] e (fun i h => (∃ old, IsEnum h e it ((i : Nat) : Int) old) ∧ h.IsTupleIter it a i) where
  mem := by simp
  obj := fun i h st b hb => by
    obtain ⟨⟨old, he⟩, o, ho, hc, hd⟩ := st
    rcases List.mem_cons.mp hb with z | z
    · rw [z]
      exact ⟨_, he, fun v q => nomatch q⟩
    · rw [List.mem_singleton.mp z]
      exact ⟨o, ho, fun v q => by rw [hd] at q; cases q⟩
  keep := fun i h h' st k => let ⟨⟨old, he⟩, hi⟩ := st; ⟨⟨old, k e (by simp) _ he⟩, hi.at fun o q => k it (by simp) o q⟩
  item := by
    intro X hP hw hK hc i pins s σ H E I hf st hg
    subst hP hw hK
    obtain ⟨⟨old, he⟩, hit⟩ := st
    obtain ⟨xs, x, hq, hx⟩ := hg
    obtain ⟨its, rv, p, hz⟩ := I.tuple hq
    obtain ⟨u, hu, ru⟩ := rv.get hx
    have hel : e < s.heap.objs.size := Heap.lt_size he
    have hil : it < s.heap.objs.size := Heap.lt_size hit.choose_spec.1
    have hin : i < its.toArray.size := by
      have := (List.getElem?_eq_some_iff.mp hu).1
      simpa using this
    refine wpAny_pyNext_enum_itemD (Draws.tuple (A := X.A.in1) (I.ok.hd hc) it a hai its.toArray) he ⟨hit, p⟩ hin hei (by simp [hei, Ne.symm hae]) fun y h' tk hy ho st' hT hsz hk => ?_
    have ey : y = u := by
      have q : its[i]? = some y := by simpa using hy
      rw [hu] at q
      exact (Option.some.inj q).symm
    subst ey
    refine ⟨_, rfl, wpAny_letOwnedTupleGo_enum (s := { s with heap := h', toks := tk + 1 }) ho fun h'' he' sb => ?_⟩
    have hT2 : h''.get? s.heap.objs.size = some { cls := .type "tuple", data := .seq #[.int i tk, y] } := (sb.2 _ (Nat.ne_of_gt hel)).trans hT
    have new : ObjOk X.prog X.w (upd H s.heap.objs.size (.tup [.int (i : Nat), x])) h'' s.heap.objs.size (.tup [.int (i : Nat), x]) := ⟨by show 2 ≤ sizeLine; decide, [.int i tk, y], .cons ⟨_, rfl⟩ (.cons ru .nil), ⟨_, hT2, rfl, _, rfl⟩⟩
    have I1 : Inv X pins σ (upd H s.heap.objs.size (.tup [.int (i : Nat), x])) { s with heap := h'', toks := tk + 1 } :=
      I.turnedNew (ch := [e, it]) (fun b ob hb q => (sb.2 b (fun z => hb (by simp [z]))).trans (hk b ob (fun z => hb (by simp [z])) (fun z => hb (by simp [z])) q)) hf (Nat.le_refl _) new
    refine ⟨.ref s.heap.objs.size, _, I1, rfl, ⟨_, x, rfl, I.hok.fresh (Nat.le_refl _), rfl, fun ys hy => by rw [I.tuple_inj hy hq]; exact hx⟩, ⟨⟨y, ?_⟩, st'.1.at fun o q => (sb.2 it (Ne.symm hei)).trans q⟩, fun b hb => ?_⟩
    · rw [Int.natCast_succ]
      exact he'
    · have hb' : b < s.heap.objs.size := by
        rcases List.mem_cons.mp hb with z | z
        · exact z ▸ hel
        · exact (List.mem_singleton.mp z) ▸ hil
      rw [upd_ne (Nat.ne_of_lt hb')]
      exact (hf b hb).1
  done := by
    intro X hP hw hK hc i pins s σ H E I hf st hg
    subst hP hw hK
    obtain ⟨⟨old, he⟩, hit⟩ := st
    obtain ⟨xs, hq, hx⟩ := hg
    obtain ⟨its, rv, p, hz⟩ := I.tuple hq
    obtain ⟨f0, f1, f2, f3, f4, f5⟩ := hf it (by simp)
    have hl := rv.length
    have st2 : s.heap.IsTupleIter it a its.toArray.size ∧ s.heap.IsTuple a its.toArray := by
      rw [List.size_toArray, ← hl, hx]
      exact ⟨hit, p⟩
    exact wpAny_pyNext_enum_endD (Draws.tuple (A := X.A.in1) (I.ok.hd hc) it a hai its.toArray) he st2 fun h' eb => ⟨rfl, I.turned (t' := s.toks) (fun b o hb q => eb b o hb q) f0 f1 f3 f4 f5⟩
  self := fun A i s Q E st h => let ⟨⟨_, he⟩, _⟩ := st; wpAny_pyIter_enum he h
def iEnumT (K : PySem.W.Frag) (ta : TA) : TI := fun σ H R => ta σ H fun vs H1 => ∃ a xs, vs = [.ref a] ∧ SqT K H1 a xs ∧ R (Itet K a) H1
theorem pi_enumT {X : Cx} {e : Expr} {ta : TA} {p pos tpos : Pos} {elts : List Expr} {kk : Nat} (hg : Gl X "enumerate") (hm : X.mg "enumerate" = none) (ha : PA X [e] ta) (hs : starEach [e] X.env = [(false, eval e X.env)] := by rfl) :
    PI X (.Tuple elts kk tpos) (.Call (.Name "enumerate" p) [e] [] pos) (iEnumT X.K ta) := by
  refine ⟨fun pins s σ H R I h => ?_⟩
  refine Call_ (ld_blt I hg hm boot_enumerate (PyProof.Rows.callWith_type1 (thn (ha.run pos pins s σ H _ I h) fun us s1 ⟨vs, H1, I1, r1, a, xs, ex, hq, q⟩ => ?_) hs rfl))
  subst ex
  rw [Vals.ref1 r1]
  obtain ⟨its, rv, p', hz⟩ := I1.tuple hq
  have hal : a < s1.heap.objs.size := Heap.lt_size p'.choose_spec.1
  refine call_enum p' fun h' he hit hk => wpAny_pyIter_enum he ?_
  have I2 : Inv X pins σ H1 { s1 with heap := h' } := I1.kept (t' := s1.toks) hk
  refine ⟨s1.heap.objs.size + 1, [s1.heap.objs.size + 1, s1.heap.objs.size], _, _, H1, rfl, I2, turn_enumT a (s1.heap.objs.size + 1) s1.heap.objs.size (Nat.ne_of_lt hal) (Nat.succ_ne_self _) (Nat.ne_of_lt (Nat.lt_succ_of_lt hal)), ⟨⟨.none, he⟩, hit⟩, fun b hb => ?_, q⟩
  have hle : s1.heap.objs.size ≤ b := by
    rcases List.mem_cons.mp hb with z | z
    · rw [z]
      exact Nat.le_add_right _ _
    · rw [List.mem_singleton.mp z]
      exact Nat.le_refl _
  exact I1.fpOk hle (I1.hok.fresh hle)
/-- (0, a), (1, b), .. of an order's tuple -/
theorem it_enumO {K : PySem.W.Frag} {ρ : List Sl} {t : TA} {xs : List Str} (h : EA t ρ [.otp xs]) : ITp (iEnumT K t) ρ (enumD (xs.map .str)) := fun B H σ S R q => h B H σ S _ fun ws B1 H1 g1 r1 => by
  obtain ⟨v, rfl, r2⟩ := one_rep r1
  cases r2 with
  | otp h1 _ =>
    rename_i p o z
    have sq : ∀ {B H}, Ex B1 B → Ex B H → SqT K H p (xs.map V.str) := fun e1 e2 => .inl (.inr ⟨_, e2 _ _ (e1 _ _ h1)⟩)
    have hl : (enumD (xs.map Dat.str)).length = (xs.map V.str).length := by simp [enumD]
    refine ⟨p, _, rfl, sq (Evl.Ex.refl _) g1.bh, q _ B1 H1 g1 ⟨fun B H e1 e2 => ⟨_, sq e1 e2, hl.symm⟩, fun i B H hi e1 e2 => ⟨_, (xs.map V.str)[i]'(by rw [← hl]; exact hi), sq e1 e2, by
      have : i < xs.length := by rw [hl] at hi; simpa using hi
      simp [this]⟩, fun i B H x H' hi e1 e2 y => ?_⟩⟩
    obtain ⟨T, z, rfl, hT, e, hz⟩ := y
    subst e
    obtain ⟨d, h3, h4⟩ := (Reps.of_strs (H := B) xs).get (hz _ (sq e1 e2))
    have hn := Evl.Ex.new (o := HO.tup [V.int (i : Nat), z]) (free_of e2 hT)
    exact ⟨_, _, enumD_get h3, Go.new e2 hT, .tup upd_same (.cons (.int _) (.cons (h4.mono hn) .nil))⟩

/-! ### tuple(xs), known to its object -/
section
variable {X : Cx}
abbrev rTupF (K : PySem.W.Frag) : List V → Hp → VK → Prop := fun xs H Q => ∃ (p : Addr) (ys : List Str), xs = [.ref p] ∧ SqL K H p (ys.map V.str) ∧ ∀ (l : Addr) (o : Obj), H l = none → o.dict = none → Q (.ref l) (upd H l (.frz o (.tup (ys.map V.str))))
theorem call_tupF : CallR X (.type "tuple") (rTupF X.K) := by
  intro pins s σ H xs us Q I r h
  obtain ⟨p, ys, rfl, hq, q⟩ := h
  rw [Vals.ref1 r]
  obtain ⟨its, r', pl, hz⟩ := I.list hq
  have hlen := r'.length
  refine call_tuple_list pl.isList (fun h' kp => ?_) (by simp only [List.size_toArray] <;> omega)
  have I1 : Inv X pins σ H { s with heap := h' } := I.kept (t' := s.toks) kp
  have new : (h'.push { cls := .type "tuple", data := .seq its.toArray }).get? h'.objs.size = some { cls := .type "tuple", data := .seq its.toArray } := Heap.get?_push_size _ rfl
  exact ⟨.ref h'.objs.size, _, I1.laid (t' := s.toks) (o := .frz { cls := .type "tuple", data := .seq its.toArray } (.tup (ys.map V.str))) (fun b o e => Heap.get?_push_of_some _ e) (Nat.le_refl _) ⟨new, hz, its, r', IsTup.new _ _⟩, rfl, q _ _ (I1.hok.fresh (Nat.le_refl _)) rfl⟩
theorem ev_tupF {K : PySem.W.Frag} {ρ : List Sl} {t : TA} {xs : List Str} (h : EA t ρ [.lst (xs.map .str)]) : EV (tCB (rTupF K) t) ρ (.otp xs) := ev_cb h fun B H vs Q e r q => by
  obtain ⟨v, rfl, r1⟩ := one_rep r
  cases r1 with
  | lst h1 r1 =>
    have z := r1.strs
    subst z
    exact ⟨_, xs, rfl, SqL.of (e _ _ h1), fun l o hn ho => q _ _ _ (Go.new e hn) (.otp upd_same ho)⟩

/-! ### t.index(x) -/
abbrev kTidx (x : V) (H : Hp) (xs : List V) (H2 : Hp) (Q : VK) : Prop := ∃ (p : Addr) (o : Obj) (ys : List Str) (z : Str) (j : Nat), x = .ref p ∧ xs = [.str z] ∧ H p = some (.frz o (.tup (ys.map V.str))) ∧ H2 p = some (.frz o (.tup (ys.map V.str))) ∧ o.dict = none ∧ ys[j]? = some z ∧ (∀ m, m < j → ys[m]? ≠ some z) ∧ Q (.int (j : Nat)) H2
def tTidx (to : TE) (t : TA) : TE := fun σ H Q => to σ H fun x H1 => (∃ p o ys, x = .ref p ∧ H1 p = some (.frz o (.tup ys)) ∧ o.dict = none) ∧ t σ H1 fun xs H2 => kTidx x H1 xs H2 Q
theorem pe_tidx {o e : Expr} {es : List Expr} {to : TE} {t : TA} {apos cpos : Pos} (ho : PE X o to) (ha : PA X (e :: es) t) (hbase : attributeBase o "index" X.env (eval o X.env) = eval o X.env := by rfl)
    (hfew : ((backTo cpos (starEach (e :: es) X.env)).all (fun x => !x.1) && (backToKw cpos (keywordEach [] X.env)).all (fun x => x.1.isSome)
      && decide ((e :: es).length + ([] : List Keyword).length + (if ([] : List Keyword).isEmpty then 0 else 1) < 30)) = true := by rfl)
    (hline : (apos.endLine == cpos.line) = true := by rfl) (hs : starEach (e :: es) X.env = (false, eval e X.env) :: starEach es X.env := by rfl) (hplain : (backTo cpos (starEach es X.env)).any (·.1) = false := by rfl) :
    PE X (.Call (.Attribute o "index" apos) (e :: es) [] cpos) (tTidx to t) := by
  refine ⟨fun pins s σ H Q I h => wpAny_Call_method_late hbase hfew hline rfl (thn (ho.run pins s σ H _ I h) fun v s1 ⟨x, H1, I1, r1, ⟨p, ob, ys, ex, hp, hd⟩, q1⟩ => ?_)⟩
  subst ex
  cases r1
  obtain ⟨hget, hz, its, rv, o2, h2, hc, n, hdt⟩ := I1.hok p _ hp
  have eo : o2 = ob := Option.some.inj (h2.symm.trans hget)
  subst eo
  refine ⟨"tuple", "tuple.index", PySem.F.plainAttrs_tuple, PySem.F.slot_tuple_index, PySem.F.type_tuple_index, ⟨_, h2, hc⟩, fun a ea => by cases ea; exact ⟨_, h2, hd⟩, ?_⟩
  have hA := ha.run cpos pins s1 σ H1 _ I1 q1
  rw [hs] at hA ⊢
  refine Calls.callWith_builtin (by show (false || (backTo cpos (starEach es X.env)).any (·.1)) = false; rw [hplain] <;> rfl) (Calls.evalArgs_plain ?_)
  refine thn hA fun us s2 ⟨vs, H2, I2, r2, p2, o2, ys2, z, j, ep, ev, hp1, hp2, ho2, hj, hm, q⟩ => ?_
  cases ep
  exact mt_tup_index (X := X) pins s2 σ H2 (.ref p) vs (.ref p) us Q I2 rfl r2 ⟨p, ys2, z, j, rfl, ev, .inl (.inr ⟨_, hp2⟩), hj, hm, q⟩
end
theorem ev_tidx {ρ : List Sl} {to te : TE} {xs : List Str} {z : Str} {j : Nat} (ho : EV to ρ (.otp xs)) (he : EV te ρ (.str z)) (hj : xs[j]? = some z) (hm : ∀ m, m < j → xs[m]? ≠ some z) : EV (tTidx to (tCons te tNil)) ρ (.int (j : Nat)) := fun B H σ S Q q =>
  ho B H σ S _ fun v B1 H1 g1 r1 => by
    cases r1 with
    | otp h1 hd =>
      refine ⟨⟨_, _, _, rfl, g1.bh _ _ h1, hd⟩, he B1 H1 σ (S.mono g1) _ fun u B2 H2 g2 r2 => ?_⟩
      cases r2
      exact ⟨_, _, xs, z, j, rfl, rfl, g1.bh _ _ h1, g2.bh _ _ (g2.bb _ _ h1), hd, hj, hm, q _ B2 H2 (g1.trans g2) (.int _)⟩
end Ot

set_option maxHeartbeats 4000000
/-! what the law and the program compute, in plain words -/
namespace Ga
open PySem
structure Row where
  a : Nat
  b : Nat
  s : Int
  t : Option Int
deriving DecidableEq
structure Plc where
  w : Nat
  p : Nat
  n : Int
deriving DecidableEq
inductive Kind where
  | row | plain | eldest
deriving DecidableEq
structure Rul where
  kd : Kind
  os : List (Nat × List Nat)
structure Plan where
  pl : List Plc
  rw : List Row
  dp : Bool
  k : Nat
structure WR (r : Row) : Prop where
  a : r.a < 4
  b : r.b < 4
  ne : r.a ≠ r.b
  s : 0 ≤ r.s ∧ r.s ≤ 3
  t : ∀ t, r.t = some t → r.s ≤ t ∧ t ≤ 5
structure WP (x : Plc) : Prop where
  w : x.w < 26
  p : x.p < 4
  n : 1 ≤ x.n ∧ x.n ≤ 2
structure WPs (l : List Plc) : Prop where
  p : ∀ x ∈ l, WP x
  nd : (l.map (·.w)).Nodup
  ne : l ≠ []
  ln : l.length ≤ 3
structure WO (os : List (Nat × List Nat)) : Prop where
  k : ∀ o ∈ os, o.1 < 26 ∧ o.2.Nodup ∧ (∀ n ∈ o.2, n < 4) ∧ o.2.length ≤ 4
  nd : (os.map (·.1)).Nodup
  ln : os.length ≤ 3
/-! ### candidates -/
def opn (r : Row) (d : Int) : Bool := decide (r.s ≤ d) && match r.t with
  | none => true
  | some t => decide (d ≤ t)
inductive Rch (rs : List Row) (d : Int) (b : Nat) : Nat → Prop
  | one {r : Row} : r ∈ rs → r.b = b → opn r d = true → Rch rs d b r.a
  | more {r : Row} : Rch rs d b r.b → r ∈ rs → opn r d = true → Rch rs d b r.a
def isC (rs : List Row) (dp : Bool) (d : Int) (b n : Nat) : Prop := if dp = true then Rch rs d b n else ∃ r ∈ rs, r.b = b ∧ opn r d = true ∧ r.a = n
open Classical in
noncomputable def stand (rs : List Row) (dp : Bool) (b : Nat) (d : Int) : List Nat := (List.range 26).filter fun n => decide (n ≠ b ∧ isC rs dp d b n)
noncomputable def cand (rs : List Row) (dp : Bool) (b : Nat) (d : Int) : List Nat := b :: stand rs dp b d
theorem mem_stand {rs : List Row} {dp : Bool} {b n : Nat} {d : Int} : n ∈ stand rs dp b d ↔ n < 26 ∧ n ≠ b ∧ isC rs dp d b n := by
  simp [stand]
theorem stand_lt (rs : List Row) (dp : Bool) (b : Nat) (d : Int) : (stand rs dp b d).Pairwise (· < ·) := List.Pairwise.filter _ List.pairwise_lt_range
theorem cand_nd (rs : List Row) (dp : Bool) (b : Nat) (d : Int) : (cand rs dp b d).Nodup := List.nodup_cons.mpr ⟨fun h => (mem_stand.mp h).2.1 rfl, (stand_lt rs dp b d).imp fun h => Nat.ne_of_lt h⟩
theorem stand_of {rs : List Row} {dp : Bool} {b : Nat} {d : Int} {l : List Nat} (h : ∀ n, n < 26 → (n ∈ l ↔ n ≠ b ∧ isC rs dp d b n)) : asc l = stand rs dp b d := incr_nat (asc_lt l) (stand_lt rs dp b d) fun n => by
  rw [mem_asc, mem_stand]
  exact ⟨fun ⟨x, y⟩ => ⟨x, (h n x).mp y⟩, fun ⟨x, y⟩ => ⟨x, (h n x).mpr y⟩⟩
theorem cand_len (rs : List Row) (dp : Bool) (b : Nat) (d : Int) : (cand rs dp b d).length ≤ 27 := by
  have : (stand rs dp b d).length ≤ 26 := Nat.le_trans (List.length_filter_le ..) (by simp)
  show (stand rs dp b d).length + 1 ≤ 27
  omega
theorem isC_lt {rs : List Row} {dp : Bool} {b n : Nat} {d : Int} (h : ∀ r ∈ rs, WR r) (c : isC rs dp d b n) : n < 4 := by
  unfold isC at c
  split at c
  · cases c with
    | one h1 _ _ => exact (h _ h1).a
    | more _ h1 _ => exact (h _ h1).a
  · obtain ⟨r, h1, _, _, e⟩ := c
    exact e ▸ (h r h1).a
theorem cand_lt {rs : List Row} {dp : Bool} {b n : Nat} {d : Int} (h : ∀ r ∈ rs, WR r) (hb : b < 4) (c : n ∈ cand rs dp b d) : n < 4 := by
  rcases List.mem_cons.mp c with e | e
  · exact e ▸ hb
  · exact isC_lt h (mem_stand.mp e).2.2
theorem isC_mono {rs rs' : List Row} {dp : Bool} {b : Nat} {d d' : Int} (h : ∀ r, r ∈ rs → opn r d = true → r ∈ rs' ∧ opn r d' = true) {n : Nat} (c : isC rs dp d b n) : isC rs' dp d' b n := by
  unfold isC at c ⊢
  split at c
  · next e =>
    rw [if_pos e]
    induction c with
    | one h1 h2 h3 => exact .one (h _ h1 h3).1 h2 (h _ h1 h3).2
    | more _ h1 h3 ih => exact .more ih (h _ h1 h3).1 (h _ h1 h3).2
  · next e =>
    rw [if_neg e]
    obtain ⟨r, h1, h2, h3, h4⟩ := c
    exact ⟨r, (h r h1 h3).1, h2, (h r h1 h3).2, h4⟩
theorem cand_congr {rs rs' : List Row} {dp : Bool} {b : Nat} {d d' : Int} (h : ∀ r, (r ∈ rs ∧ opn r d = true) ↔ (r ∈ rs' ∧ opn r d' = true)) : cand rs dp b d = cand rs' dp b d' := by
  unfold cand
  congr 1
  refine incr_nat (stand_lt ..) (stand_lt ..) fun n => ?_
  rw [mem_stand, mem_stand]
  exact ⟨fun ⟨x, y, z⟩ => ⟨x, y, isC_mono (fun r h1 h2 => (h r).mp ⟨h1, h2⟩) z⟩, fun ⟨x, y, z⟩ => ⟨x, y, isC_mono (fun r h1 h2 => (h r).mpr ⟨h1, h2⟩) z⟩⟩

/-! ### the two walks that find them -/
def steps (rs : List Row) (b : Nat) (d : Int) : List Nat := asc ((rs.filter fun r => decide (r.b = b) && opn r d).map (·.a))
theorem mem_steps {rs : List Row} {b n : Nat} {d : Int} (h : ∀ r ∈ rs, WR r) : n ∈ steps rs b d ↔ ∃ r ∈ rs, r.b = b ∧ opn r d = true ∧ r.a = n := by
  rw [steps, mem_asc]
  simp only [List.mem_map, List.mem_filter, Bool.and_eq_true, decide_eq_true_eq]
  constructor
  · rintro ⟨_, r, ⟨h1, h2, h3⟩, h4⟩
    exact ⟨r, h1, h2, h3, h4⟩
  · rintro ⟨r, h1, h2, h3, h4⟩
    have := (h r h1).a
    exact ⟨by omega, r, ⟨h1, h2, h3⟩, h4⟩
/-- behind i turns of a walk along its own row -/
def walk (grow : List Nat → Nat → List Nat) (f0 : List Nat) : Nat → List Nat
  | 0 => f0
  | i + 1 => match (walk grow f0 i)[i]? with
    | some x => grow (walk grow f0 i) x
    | none => walk grow f0 i
structure Grows (grow : List Nat → Nat → List Nat) (nx : Nat → List Nat) : Prop where
  app : ∀ f x, ∃ g, grow f x = f ++ g
  nd : ∀ f x, f.Nodup → (grow f x).Nodup
  mem : ∀ f x n, n ∈ grow f x ↔ n ∈ f ∨ n ∈ nx x
theorem nd_one {α : Type} (a : α) : [a].Nodup := by simp
theorem len_le : ∀ {N : Nat} {l : List Nat}, l.Nodup → (∀ n ∈ l, n < N) → l.length ≤ N
  | 0, [], _, _ => Nat.le_refl _
  | 0, a :: l, _, h => absurd (h a List.mem_cons_self) (Nat.not_lt_zero _)
  | N + 1, l, hn, h => by
    by_cases hm : N ∈ l
    · have e := List.length_erase_of_mem hm
      have ih := len_le (N := N) (hn.erase N) fun n hx => by
        have h1 := (hn.mem_erase_iff).mp hx
        have h2 := h n h1.2
        have h3 := h1.1
        omega
      have : 0 < l.length := List.length_pos_of_mem hm
      omega
    · have ih := len_le (N := N) hn fun n hx => by
        have h2 := h n hx
        have h3 : n ≠ N := fun e => hm (e ▸ hx)
        omega
      omega
section
variable {grow : List Nat → Nat → List Nat} {nx : Nat → List Nat} {f0 : List Nat}
theorem walk_step {i x : Nat} (h : (walk grow f0 i)[i]? = some x) : walk grow f0 (i + 1) = grow (walk grow f0 i) x := by
  show (match (walk grow f0 i)[i]? with
    | some x => grow (walk grow f0 i) x
    | none => walk grow f0 i) = _
  rw [h]
theorem walk_nd (G : Grows grow nx) (h0 : f0.Nodup) : ∀ i, (walk grow f0 i).Nodup
  | 0 => h0
  | i + 1 => by
    have ih := walk_nd G h0 i
    show (match (walk grow f0 i)[i]? with
      | some x => grow (walk grow f0 i) x
      | none => walk grow f0 i).Nodup
    split
    · exact G.nd _ _ ih
    · exact ih
theorem walk_all (G : Grows grow nx) {R : Nat → Prop} (h0 : ∀ n ∈ f0, R n) (hn : ∀ x, R x → ∀ n ∈ nx x, R n) : ∀ i, ∀ n ∈ walk grow f0 i, R n
  | 0, n, h => h0 n h
  | i + 1, n, h => by
    have ih := walk_all G h0 hn i
    have h : n ∈ (match (walk grow f0 i)[i]? with
      | some x => grow (walk grow f0 i) x
      | none => walk grow f0 i) := h
    split at h
    · next x e =>
      rcases (G.mem _ _ _).mp h with z | z
      · exact ih n z
      · exact hn _ (ih x (List.mem_of_getElem? e)) n z
    · exact ih n h
theorem walk_app (G : Grows grow nx) (i : Nat) : ∀ j, ∃ g, walk grow f0 (i + j) = walk grow f0 i ++ g
  | 0 => ⟨[], by simp⟩
  | j + 1 => by
    obtain ⟨g, e⟩ := walk_app G i j
    show ∃ g, (match (walk grow f0 (i + j))[i + j]? with
      | some x => grow (walk grow f0 (i + j)) x
      | none => walk grow f0 (i + j)) = _
    split
    · next x _ =>
      obtain ⟨g2, e2⟩ := G.app (walk grow f0 (i + j)) x
      exact ⟨g ++ g2, by rw [e2, e, List.append_assoc]⟩
    · exact ⟨g, e⟩
theorem walk_stop (G : Grows grow nx) (h0 : f0.Nodup) {N : Nat} (hb : ∀ i, ∀ n ∈ walk grow f0 i, n < N) : ∃ n, n ≤ N ∧ (∀ i, i < n → i < (walk grow f0 i).length) ∧ (walk grow f0 n).length ≤ n := by
  have key : ∀ m, (∃ n, n ≤ m ∧ (∀ i, i < n → i < (walk grow f0 i).length) ∧ (walk grow f0 n).length ≤ n) ∨ ∀ i, i ≤ m → i < (walk grow f0 i).length := fun m => by
    induction m with
    | zero =>
      by_cases h : 0 < (walk grow f0 0).length
      · exact .inr fun i hi => by
          have : i = 0 := by omega
          exact this ▸ h
      · exact .inl ⟨0, Nat.le_refl _, fun i hi => by omega, by omega⟩
    | succ m ih =>
      rcases ih with ⟨n, h1, h2⟩ | ih
      · exact .inl ⟨n, by omega, h2⟩
      · by_cases h : m + 1 < (walk grow f0 (m + 1)).length
        · exact .inr fun i hi => by
            by_cases e : i = m + 1
            · exact e ▸ h
            · exact ih i (by omega)
        · exact .inl ⟨m + 1, Nat.le_refl _, fun i hi => ih i (by omega), by omega⟩
  rcases key N with h | h
  · exact h
  · have h1 := h N (Nat.le_refl _)
    have h2 := len_le (walk_nd G h0 N) (hb N)
    omega
theorem walk_closed (G : Grows grow nx) {n : Nat} (h1 : ∀ i, i < n → i < (walk grow f0 i).length) (h2 : (walk grow f0 n).length ≤ n) : (∀ x ∈ f0, x ∈ walk grow f0 n) ∧ ∀ x ∈ walk grow f0 n, ∀ y ∈ nx x, y ∈ walk grow f0 n := by
  refine ⟨fun x hx => ?_, fun x hx y hy => ?_⟩
  · obtain ⟨g, e⟩ := walk_app G (f0 := f0) 0 n
    rw [Nat.zero_add] at e
    rw [e]
    exact List.mem_append_left _ hx
  · obtain ⟨i, hi, e⟩ := List.mem_iff_getElem.mp hx
    have hin : i < n := by omega
    have hil := h1 i hin
    obtain ⟨j, ej⟩ : ∃ j, n = i + j := ⟨n - i, by omega⟩
    obtain ⟨g, eg⟩ := walk_app G (f0 := f0) i j
    have hx2 : (walk grow f0 i)[i]? = some x := by
      have e2 : (walk grow f0 n)[i]? = some x := by rw [List.getElem?_eq_getElem hi, e]
      rw [ej, eg, List.getElem?_append_left hil] at e2
      exact e2
    obtain ⟨j2, ej2⟩ : ∃ j2, n = i + 1 + j2 := ⟨n - (i + 1), by omega⟩
    obtain ⟨g2, eg2⟩ := walk_app G (f0 := f0) (i + 1) j2
    rw [ej2, eg2, walk_step hx2]
    exact List.mem_append_left _ ((G.mem _ _ _).mpr (.inr hy))
end
/-- the program's turn -/
def growP (nx : Nat → List Nat) (f : List Nat) (x : Nat) : List Nat := f ++ (nx x).filter fun n => decide (n ∉ f)
theorem growsP {nx : Nat → List Nat} (hn : ∀ x, (nx x).Nodup) : Grows (growP nx) nx where
  app := fun f x => ⟨_, rfl⟩
  nd := fun f x hf => by
    unfold growP
    rw [List.nodup_append]
    refine ⟨hf, (hn _).filter _, fun a ha b hb e => ?_⟩
    subst e
    exact (of_decide_eq_true (List.mem_filter.mp hb).2) ha
  mem := fun f x n => by
    unfold growP
    simp only [List.mem_append, List.mem_filter, decide_eq_true_eq]
    constructor
    · rintro (h | h)
      · exact .inl h
      · exact .inr h.1
    · rintro (h | h)
      · exact .inl h
      · by_cases hf : n ∈ f
        · exact .inl hf
        · exact .inr ⟨h, hf⟩
/-- the law's turn, row by row -/
def growL1 (d : Int) (x : Nat) (f : List Nat) (r : Row) : List Nat := if (decide (r.b = x) && (opn r d && decide (r.a ∉ f))) = true then f ++ [r.a] else f
def growL (rs : List Row) (d : Int) (f : List Nat) (x : Nat) : List Nat := rs.foldl (growL1 d x) f
theorem growL_ok (d : Int) (x : Nat) : ∀ (rs : List Row) (f : List Nat), (∃ g, growL rs d f x = f ++ g) ∧ (f.Nodup → (growL rs d f x).Nodup) ∧ ∀ n, n ∈ growL rs d f x ↔ n ∈ f ∨ ∃ r ∈ rs, r.b = x ∧ opn r d = true ∧ r.a = n
  | [], f => ⟨⟨[], by simp [growL]⟩, id, by simp [growL]⟩
  | r :: rs, f => by
    obtain ⟨⟨g, e⟩, hn, hm⟩ := growL_ok d x rs (growL1 d x f r)
    have es : growL (r :: rs) d f x = growL rs d (growL1 d x f r) x := rfl
    rw [es]
    by_cases c : (decide (r.b = x) && (opn r d && decide (r.a ∉ f))) = true
    · have e1 : growL1 d x f r = f ++ [r.a] := if_pos c
      rw [e1] at e hn hm ⊢
      simp only [Bool.and_eq_true, decide_eq_true_eq] at c
      obtain ⟨c1, c2, c3⟩ := c
      refine ⟨⟨[r.a] ++ g, by rw [e, List.append_assoc]⟩, fun hf => hn ?_, fun n => ?_⟩
      · rw [List.nodup_append]
        exact ⟨hf, nd_one _, fun a ha b hb e => c3 (by rw [← List.mem_singleton.mp hb, ← e]; exact ha)⟩
      · rw [hm n, List.mem_append, List.mem_singleton]
        simp only [List.mem_cons, exists_eq_or_imp]
        constructor
        · rintro ((h | h) | h)
          · exact .inl h
          · exact .inr (.inl ⟨c1, c2, h.symm⟩)
          · exact .inr (.inr h)
        · rintro (h | ⟨_, _, h⟩ | h)
          · exact .inl (.inl h)
          · exact .inl (.inr h.symm)
          · exact .inr h
    · have e1 : growL1 d x f r = f := if_neg c
      rw [e1] at e hn hm ⊢
      refine ⟨⟨g, e⟩, hn, fun n => ?_⟩
      rw [hm n]
      simp only [List.mem_cons, exists_eq_or_imp]
      constructor
      · rintro (h | h)
        · exact .inl h
        · exact .inr (.inr h)
      · rintro (h | ⟨h1, h2, h3⟩ | h)
        · exact .inl h
        · refine .inl ?_
          by_cases hf : r.a ∈ f
          · exact h3 ▸ hf
          · exact absurd (by simp [h1, h2, hf]) c
        · exact .inr h
theorem growsL (rs : List Row) (d : Int) (h : ∀ r ∈ rs, WR r) : Grows (growL rs d) fun x => steps rs x d where
  app := fun f x => (growL_ok d x rs f).1
  nd := fun f x => (growL_ok d x rs f).2.1
  mem := fun f x n => by rw [(growL_ok d x rs f).2.2 n, mem_steps h]
theorem steps_nd (rs : List Row) (b : Nat) (d : Int) : (steps rs b d).Nodup := asc_nd _
theorem steps_lt {rs : List Row} (h : ∀ r ∈ rs, WR r) {b n : Nat} {d : Int} (m : n ∈ steps rs b d) : n < 4 := by
  obtain ⟨r, h1, _, _, e⟩ := (mem_steps h).mp m
  exact e ▸ (h r h1).a
/-- what the program's walk finds -/
theorem progDeep {rs : List Row} (h : ∀ r ∈ rs, WR r) (b : Nat) (d : Int) : ∃ n, n ≤ 4 ∧ (∀ i, i < n → i < (walk (growP fun x => steps rs x d) (steps rs b d) i).length) ∧ (walk (growP fun x => steps rs x d) (steps rs b d) n).length ≤ n ∧
    asc ((walk (growP fun x => steps rs x d) (steps rs b d) n).filter fun y => decide (y ≠ b)) = stand rs true b d := by
  have G := growsP (nx := fun x => steps rs x d) fun x => steps_nd rs x d
  obtain ⟨n, h0, h1, h2⟩ := walk_stop G (steps_nd rs b d) (N := 4) fun i => walk_all G (R := (· < 4)) (fun n hn => steps_lt h hn) (fun x _ n hn => steps_lt h hn) i
  obtain ⟨c1, c2⟩ := walk_closed G h1 h2
  refine ⟨n, h0, h1, h2, stand_of fun y hy26 => ?_⟩
  clear hy26
  simp only [List.mem_filter, decide_eq_true_eq]
  have key : y ∈ walk (growP fun x => steps rs x d) (steps rs b d) n ↔ Rch rs d b y := by
    constructor
    · refine walk_all G (R := Rch rs d b) (fun y hy => ?_) (fun x hx y hy => ?_) n y
      · obtain ⟨r, r1, r2, r3, r4⟩ := (mem_steps h).mp hy
        exact r4 ▸ .one r1 r2 r3
      · obtain ⟨r, r1, r2, r3, r4⟩ := (mem_steps h).mp hy
        exact r4 ▸ .more (r2 ▸ hx) r1 r3
    · intro c
      induction c with
      | one r1 r2 r3 => exact c1 _ ((mem_steps h).mpr ⟨_, r1, r2, r3, rfl⟩)
      | more _ r1 r3 ih => exact c2 _ ih _ ((mem_steps h).mpr ⟨_, r1, rfl, r3, rfl⟩)
  rw [key]
  unfold isC
  rw [if_pos rfl]
  exact And.comm
theorem progFlat {rs : List Row} (h : ∀ r ∈ rs, WR r) (b : Nat) (d : Int) : asc ((steps rs b d).filter fun y => decide (y ≠ b)) = stand rs false b d := by
  refine stand_of fun y _ => ?_
  simp only [List.mem_filter, decide_eq_true_eq]
  rw [mem_steps h]
  unfold isC
  rw [if_neg (by simp)]
  exact And.comm
/-- what the law's walk finds -/
theorem lawDeep {rs : List Row} (h : ∀ r ∈ rs, WR r) {b : Nat} (hb : b < 4) (d : Int) : ∃ n, n ≤ 4 ∧ (∀ i, i < n → i < (walk (growL rs d) [b] i).length) ∧ (walk (growL rs d) [b] n).length ≤ n ∧
    asc ((walk (growL rs d) [b] n).drop 1) = stand rs true b d ∧ (walk (growL rs d) [b] n).Nodup ∧ ∀ y ∈ walk (growL rs d) [b] n, y < 4 := by
  have G := growsL rs d h
  have lt : ∀ i, ∀ y ∈ walk (growL rs d) [b] i, y < 4 := fun i => walk_all G (R := (· < 4)) (fun n hn => by rw [List.mem_singleton.mp hn]; exact hb) (fun x _ n hn => steps_lt h hn) i
  obtain ⟨n, h0, h1, h2⟩ := walk_stop G (nd_one b) (N := 4) lt
  obtain ⟨c1, c2⟩ := walk_closed G h1 h2
  have nd := walk_nd G (nd_one b) n
  refine ⟨n, h0, h1, h2, ?_, nd, lt n⟩
  obtain ⟨g, eg⟩ := walk_app G (f0 := [b]) 0 n
  rw [Nat.zero_add] at eg
  have eg : walk (growL rs d) [b] n = b :: g := eg
  refine stand_of fun y hy26 => ?_
  clear hy26
  have key : y ∈ walk (growL rs d) [b] n ↔ y = b ∨ Rch rs d b y := by
    constructor
    · refine walk_all G (R := fun y => y = b ∨ Rch rs d b y) (fun y hy => .inl (List.mem_singleton.mp hy)) (fun x hx y hy => ?_) n y
      obtain ⟨r, r1, r2, r3, r4⟩ := (mem_steps h).mp hy
      rcases hx with hx | hx
      · exact .inr (r4 ▸ .one r1 (r2.trans hx) r3)
      · exact .inr (r4 ▸ .more (r2 ▸ hx) r1 r3)
    · rintro (c | c)
      · exact c1 y (by rw [c]; exact List.mem_singleton.mpr rfl)
      · induction c with
        | one r1 r2 r3 => exact c2 _ (c1 b (List.mem_singleton.mpr rfl)) _ ((mem_steps h).mpr ⟨_, r1, r2, r3, rfl⟩)
        | more _ r1 r3 ih => exact c2 _ ih _ ((mem_steps h).mpr ⟨_, r1, rfl, r3, rfl⟩)
  rw [eg] at key nd ⊢
  obtain ⟨n1, n2⟩ := List.nodup_cons.mp nd
  show y ∈ g ↔ _
  unfold isC
  rw [if_pos rfl]
  constructor
  · intro hy
    have hne : y ≠ b := fun e => n1 (e ▸ hy)
    rcases key.mp (List.mem_cons_of_mem _ hy) with z | z
    · exact absurd z hne
    · exact ⟨hne, z⟩
  · rintro ⟨h3, h4⟩
    rcases List.mem_cons.mp (key.mpr (.inr h4)) with z | z
    · exact absurd z h3
    · exact z
theorem lawFlat {rs : List Row} (h : ∀ r ∈ rs, WR r) {b : Nat} (hb : b < 4) (d : Int) : asc ((growL rs d [b] b).drop 1) = stand rs false b d ∧ (growL rs d [b] b).Nodup ∧ ∀ y ∈ growL rs d [b] b, y < 4 := by
  obtain ⟨⟨g, eg⟩, nd, hm⟩ := growL_ok d b rs [b]
  have nd := nd (nd_one b)
  have eg : growL rs d [b] b = b :: g := eg
  refine ⟨stand_of fun y _ => ?_, nd, fun y hy => ?_⟩
  · rw [eg] at hm nd ⊢
    obtain ⟨n1, n2⟩ := List.nodup_cons.mp nd
    show y ∈ g ↔ _
    unfold isC
    rw [if_neg (by simp)]
    constructor
    · intro hy
      have hne : y ≠ b := fun e => n1 (e ▸ hy)
      rcases (hm y).mp (List.mem_cons_of_mem _ hy) with z | z
      · exact absurd (List.mem_singleton.mp z) hne
      · exact ⟨hne, z⟩
    · rintro ⟨h3, h4⟩
      rcases List.mem_cons.mp ((hm y).mpr (.inr h4)) with z | z
      · exact absurd z h3
      · exact z
  · rcases (hm y).mp hy with z | ⟨r, h1, _, _, e⟩
    · rw [List.mem_singleton.mp z]
      exact hb
    · exact e ▸ (h r h1).a
end Ga

set_option maxHeartbeats 4000000
/-! faults, by the program and by the law -/
namespace Ga
open PySem
def turns (rs : List Row) : List Int := ascI (0 :: rs.flatMap fun r => r.s :: match r.t with
  | none => []
  | some t => [t + 1])
theorem mem_turns {rs : List Row} (h : ∀ r ∈ rs, WR r) {d : Int} : d ∈ turns rs ↔ d = 0 ∨ ∃ r ∈ rs, d = r.s ∨ ∃ t, r.t = some t ∧ d = t + 1 := by
  rw [turns, mem_ascI, List.mem_cons, List.mem_flatMap]
  have key : (∃ r, r ∈ rs ∧ d ∈ (r.s :: match r.t with
    | none => []
    | some t => [t + 1])) ↔ ∃ r ∈ rs, d = r.s ∨ ∃ t, r.t = some t ∧ d = t + 1 := by
    constructor
    · rintro ⟨r, h1, h2⟩
      rcases List.mem_cons.mp h2 with z | z
      · exact ⟨r, h1, .inl z⟩
      · cases e : r.t with
        | none => rw [e] at z; cases z
        | some t =>
          rw [e] at z
          exact ⟨r, h1, .inr ⟨t, e, List.mem_singleton.mp z⟩⟩
    · rintro ⟨r, h1, h2⟩
      refine ⟨r, h1, ?_⟩
      rcases h2 with z | ⟨t, e, z⟩
      · exact List.mem_cons.mpr (.inl z)
      · rw [e]
        exact List.mem_cons_of_mem _ (List.mem_singleton.mpr z)
  rw [key]
  refine ⟨fun z => z.2, fun z => ⟨?_, z⟩⟩
  rcases z with z | ⟨r, h1, z | ⟨t, e, z⟩⟩
  · omega
  · have := (h r h1).s
    omega
  · have h2 := (h r h1).t t e
    have h3 := (h r h1).s
    omega
theorem turns_lt (rs : List Row) : (turns rs).Pairwise (· < ·) := ascI_lt _
theorem turns_rng {rs : List Row} (h : ∀ r ∈ rs, WR r) {d : Int} (m : d ∈ turns rs) : 0 ≤ d ∧ d ≤ 6 := by
  rcases (mem_turns h).mp m with z | ⟨r, h1, z | ⟨t, e, z⟩⟩
  · omega
  · have := (h r h1).s
    omega
  · have h2 := (h r h1).t t e
    have h3 := (h r h1).s
    omega
theorem turns0 {rs : List Row} (h : ∀ r ∈ rs, WR r) : (0 : Int) ∈ turns rs := (mem_turns h).mpr (.inl rfl)
theorem turns_congr {rs rs' : List Row} (h : ∀ r ∈ rs, WR r) (hm : ∀ r, r ∈ rs ↔ r ∈ rs') : turns rs = turns rs' := incr_int (turns_lt rs) (turns_lt rs') fun d => by
  rw [mem_turns h, mem_turns fun r hr => h r ((hm r).mpr hr)]
  simp only [hm]
def froms (rs : List Row) (d : Int) : List Int := d :: (turns rs).filter fun x => decide (x > d)
noncomputable def uses (pl : List Plc) (rs : List Row) (dp : Bool) (p : Nat) (d : Int) : List (Nat × Int) := (froms rs d).flatMap fun x => (pl.filter fun q => decide (p ∈ cand rs dp q.p x)).map fun q => (q.w, x)
noncomputable def newUse (pl : List Plc) (rs : List Row) (dp : Bool) (a b : Nat) (d : Int) : Option (Nat × Int) := (uses pl rs dp a d).find? fun u => !decide (u ∈ uses pl rs dp b d)
noncomputable def spare (pl : List Plc) (rs : List Row) (dp : Bool) (a b : Nat) (d : Int) : List (Nat × Int) := (uses pl rs dp a d).filter fun u => !decide (u ∈ uses pl rs dp b d)
section
variable {pl : List Plc} {rs : List Row} {dp : Bool} {a b p : Nat} {d : Int}
theorem mem_uses {u : Nat × Int} : u ∈ uses pl rs dp p d ↔ u.2 ∈ froms rs d ∧ ∃ q ∈ pl, q.w = u.1 ∧ p ∈ cand rs dp q.p u.2 := by
  simp only [uses, List.mem_flatMap, List.mem_map, List.mem_filter, decide_eq_true_eq]
  constructor
  · rintro ⟨x, h1, q, ⟨h2, h3⟩, e⟩
    subst e
    exact ⟨h1, q, h2, rfl, h3⟩
  · rintro ⟨h1, q, h2, h3, h4⟩
    exact ⟨u.2, h1, q, ⟨h2, h4⟩, by rw [h3]⟩
/-- a has a use that b has not -/
def NU (pl : List Plc) (rs : List Row) (dp : Bool) (a b : Nat) (d : Int) : Prop := ∃ x ∈ froms rs d, ∃ q ∈ pl, a ∈ cand rs dp q.p x ∧ b ∉ cand rs dp q.p x
theorem same_w {q q' : Plc} (h : (pl.map (·.w)).Nodup) (h1 : q ∈ pl) (h2 : q' ∈ pl) (e : q.w = q'.w) : q = q' := by
  induction pl with
  | nil => cases h1
  | cons x l ih =>
    obtain ⟨n1, n2⟩ := List.nodup_cons.mp h
    rcases List.mem_cons.mp h1 with z | z
    · rcases List.mem_cons.mp h2 with y | y
      · rw [z, y]
      · subst z
        exact absurd (List.mem_map.mpr ⟨q', y, e.symm⟩) n1
    · rcases List.mem_cons.mp h2 with y | y
      · subst y
        exact absurd (List.mem_map.mpr ⟨q, z, e⟩) n1
      · exact ih n2 z y
theorem new_mem (h : (pl.map (·.w)).Nodup) {u : Nat × Int} : (u ∈ uses pl rs dp a d ∧ u ∉ uses pl rs dp b d) ↔ u.2 ∈ froms rs d ∧ ∃ q ∈ pl, q.w = u.1 ∧ a ∈ cand rs dp q.p u.2 ∧ b ∉ cand rs dp q.p u.2 := by
  rw [mem_uses, mem_uses]
  constructor
  · rintro ⟨⟨h1, q, h2, h3, h4⟩, hn⟩
    exact ⟨h1, q, h2, h3, h4, fun z => hn ⟨h1, q, h2, h3, z⟩⟩
  · rintro ⟨h1, q, h2, h3, h4, h5⟩
    refine ⟨⟨h1, q, h2, h3, h4⟩, fun ⟨_, q', h2', h3', h4'⟩ => h5 ?_⟩
    rw [same_w h h2 h2' (h3.trans h3'.symm)]
    exact h4'
theorem newUse_none (h : (pl.map (·.w)).Nodup) : newUse pl rs dp a b d = none ↔ ¬ NU pl rs dp a b d := by
  rw [newUse, List.find?_eq_none]
  constructor
  · rintro hh ⟨x, h1, q, h2, h3, h4⟩
    obtain ⟨m1, m2⟩ := (new_mem (u := (q.w, x)) (a := a) (b := b) (d := d) (rs := rs) (dp := dp) h).mpr ⟨h1, q, h2, rfl, h3, h4⟩
    exact hh _ m1 (by simpa using m2)
  · intro hn u hu hc
    have hc : u ∉ uses pl rs dp b d := by simpa using hc
    obtain ⟨h1, q, h2, _, h3, h4⟩ := (new_mem h).mp ⟨hu, hc⟩
    exact hn ⟨u.2, h1, q, h2, h3, h4⟩
theorem newUse_some (h : (pl.map (·.w)).Nodup) {u : Nat × Int} (e : newUse pl rs dp a b d = some u) : u.2 ∈ froms rs d ∧ ∃ q ∈ pl, q.w = u.1 ∧ a ∈ cand rs dp q.p u.2 ∧ b ∉ cand rs dp q.p u.2 := by
  rw [newUse] at e
  have m := List.mem_of_find?_eq_some e
  have c := List.find?_some e
  exact (new_mem h).mp ⟨m, by simpa using c⟩
theorem spare_nil (h : (pl.map (·.w)).Nodup) : spare pl rs dp a b d = [] ↔ ¬ NU pl rs dp a b d := by
  rw [← newUse_none h, spare, newUse, List.find?_eq_none, List.filter_eq_nil_iff]
/-- where nothing begins or ends at 1 -/
theorem opn_shift (hr : ∀ r ∈ rs, WR r) (h1 : (1 : Int) ∉ turns rs) {r : Row} (m : r ∈ rs) : opn r 1 = opn r 0 := by
  have hs : r.s ≠ 1 := fun e => h1 ((mem_turns hr).mpr (.inr ⟨r, m, .inl e.symm⟩))
  have hw := hr r m
  have s0 := hw.s
  unfold opn
  congr 1
  · apply decide_eq_decide.mpr
    omega
  · cases e : r.t with
    | none => rfl
    | some t =>
      have ht : t + 1 ≠ 1 := fun z => h1 ((mem_turns hr).mpr (.inr ⟨r, m, .inr ⟨t, e, z.symm⟩⟩))
      have hb := hw.t t e
      show decide (1 ≤ t) = decide (0 ≤ t)
      apply decide_eq_decide.mpr
      omega
theorem cand_shift (hr : ∀ r ∈ rs, WR r) (h1 : (1 : Int) ∉ turns rs) (p : Nat) : cand rs dp p 1 = cand rs dp p 0 := cand_congr fun r => by
  constructor
  · rintro ⟨m, o⟩
    exact ⟨m, by rw [← opn_shift hr h1 m]; exact o⟩
  · rintro ⟨m, o⟩
    exact ⟨m, by rw [opn_shift hr h1 m]; exact o⟩
theorem mem_froms {x : Int} : x ∈ froms rs d ↔ x = d ∨ x ∈ turns rs ∧ x > d := by
  rw [froms, List.mem_cons, List.mem_filter, decide_eq_true_eq]
theorem nu_shift (hr : ∀ r ∈ rs, WR r) (h1 : (1 : Int) ∉ turns rs) : NU pl rs dp a b 1 ↔ NU pl rs dp a b 0 := by
  unfold NU
  have gt : ∀ x : Int, (x ∈ turns rs ∧ x > 1) ↔ (x ∈ turns rs ∧ x > 0) := fun x => by
    constructor
    · rintro ⟨m, h⟩
      exact ⟨m, by omega⟩
    · rintro ⟨m, h⟩
      have : x ≠ 1 := fun e => h1 (e ▸ m)
      exact ⟨m, by omega⟩
  constructor
  · rintro ⟨x, hx, q, h2, h3, h4⟩
    rcases mem_froms.mp hx with e | e
    · subst e
      rw [cand_shift hr h1] at h3 h4
      exact ⟨0, mem_froms.mpr (.inl rfl), q, h2, h3, h4⟩
    · exact ⟨x, mem_froms.mpr (.inr ((gt x).mp e)), q, h2, h3, h4⟩
  · rintro ⟨x, hx, q, h2, h3, h4⟩
    rcases mem_froms.mp hx with e | e
    · subst e
      rw [← cand_shift hr h1] at h3 h4
      exact ⟨1, mem_froms.mpr (.inl rfl), q, h2, h3, h4⟩
    · exact ⟨x, mem_froms.mpr (.inr ((gt x).mpr e)), q, h2, h3, h4⟩
end

/-! ### rules -/
def ordOf (os : List (Nat × List Nat)) (w : Nat) : List Nat := match os.find? fun o => decide (o.1 = w) with
  | some o => o.2
  | none => []
def rk (os : List (Nat × List Nat)) (w p : Nat) : Int := if p ∈ ordOf os w then ((ordOf os w).idxOf p : Nat) else 10 + (p : Nat)
def wt (r : Rul) (x : Plc) (p : Nat) (d : Int) : Int := match r.kd with
  | .eldest => d * 1000 + rk r.os x.w p
  | .plain => (if p = x.p then 0 else 1) * 100000000 + rk r.os x.w p * 100000 + d
  | .row => 0 * 100000000 + rk r.os x.w p * 100000 + d
def pref (r : Rul) (x : Plc) (a : Nat) (d : Int) (b : Nat) (e : Int) : Bool := decide (wt r x a d < wt r x b e)
theorem pref_same (r : Rul) (x : Plc) (a b : Nat) (d : Int) : pref r x a d b d = pref r x a 0 b 0 := by
  unfold pref wt
  apply decide_eq_decide.mpr
  cases r.kd <;> dsimp only <;> omega
theorem ordOf_mem {os : List (Nat × List Nat)} {w : Nat} (h : WO os) : (ordOf os w).Nodup ∧ (∀ n ∈ ordOf os w, n < 4) ∧ (ordOf os w).length ≤ 4 := by
  unfold ordOf
  cases e : os.find? fun o => decide (o.1 = w) with
  | none => exact ⟨.nil, (fun n hn => nomatch hn), Nat.zero_le _⟩
  | some o =>
    have := h.k o (List.mem_of_find?_eq_some e)
    exact this.2
theorem rk_rng {os : List (Nat × List Nat)} {w p : Nat} (h : WO os) (hp : p < 4) : 0 ≤ rk os w p ∧ rk os w p ≤ 13 := by
  unfold rk
  have z := (ordOf_mem (w := w) h).2.2
  split
  · next m =>
    have := List.idxOf_lt_length_iff.mpr m
    omega
  · omega
/-- an elder unit by one day -/
theorem pref_elder {r : Rul} {x : Plc} {a b : Nat} {d : Int} (hk : r.kd = .eldest) (h : WO r.os) (ha : a < 4) (hb : b < 4) : pref r x a (d - 1) b d = true := by
  have h1 := rk_rng (w := x.w) h ha
  have h2 := rk_rng (w := x.w) h hb
  unfold pref wt
  rw [hk]
  apply decide_eq_true
  dsimp only
  omega
def dayOf (rs : List Row) (r : Rul) (x : Plc) (a b : Nat) (d : Int) : Option Int :=
  if pref r x a d b d = true then some d else if r.kd = .eldest then (if d > 0 then some d else if (1 : Int) ∈ turns rs then none else some 1) else none
def pairs (c : List Nat) : List (Nat × Nat) := c.flatMap fun a => (c.filter fun b => !decide (a = b)).map fun b => (a, b)
theorem mem_pairs {c : List Nat} {z : Nat × Nat} : z ∈ pairs c ↔ z.1 ∈ c ∧ z.2 ∈ c ∧ z.1 ≠ z.2 := by
  simp only [pairs, List.mem_flatMap, List.mem_map, List.mem_filter, Bool.not_eq_true', decide_eq_false_iff_not]
  constructor
  · rintro ⟨a, h1, b, ⟨h2, h3⟩, e⟩
    subst e
    exact ⟨h1, h2, h3⟩
  · rintro ⟨h1, h2, h3⟩
    exact ⟨z.1, h1, z.2, ⟨h2, h3⟩, rfl⟩
abbrev Flt := Nat × Int × Nat × Nat × Nat × Int
noncomputable def flt1 (pl : List Plc) (rs : List Row) (dp : Bool) (r : Rul) (d : Int) (x : Plc) (z : Nat × Nat) : Option Flt := match dayOf rs r x z.1 z.2 d with
  | none => none
  | some y => (newUse pl rs dp z.1 z.2 y).map fun u => (x.w, y, z.1, z.2, u.1, u.2)
noncomputable def fault (pl : List Plc) (rs : List Row) (dp : Bool) (r : Rul) : Option Flt := (turns rs).findSome? fun d => pl.findSome? fun x => (pairs (cand rs dp x.p d)).findSome? fun z => flt1 pl rs dp r d x z
/-! the law's look -/
def days (rs : List Row) : List Int := ascI (turns rs ++ [1])
noncomputable def mayPref (rs : List Row) (dp : Bool) (r : Rul) (x : Plc) (a b : Nat) (d : Int) : Bool :=
  if a = b ∨ a ∉ cand rs dp x.p d ∨ b ∉ cand rs dp x.p d then false else if r.kd = .eldest ∧ d > 0 then true else pref r x a 0 b 0
noncomputable def wrongAt (pl : List Plc) (rs : List Row) (dp : Bool) (r : Rul) : Bool := pl.any fun x => (days rs).any fun d => (cand rs dp x.p d).any fun a => (cand rs dp x.p d).any fun b => mayPref rs dp r x a b d && !(spare pl rs dp a b d).isEmpty
section
variable {pl : List Plc} {rs : List Row} {dp : Bool} {r : Rul}
theorem mem_days (hr : ∀ r ∈ rs, WR r) {d : Int} : d ∈ days rs ↔ d ∈ turns rs ∨ d = 1 := by
  rw [days, mem_ascI, List.mem_append, List.mem_singleton]
  refine ⟨fun z => z.2, fun z => ⟨?_, z⟩⟩
  rcases z with z | z
  · have := turns_rng hr z
    omega
  · omega
theorem may_iff {x : Plc} {a b : Nat} {d : Int} : mayPref rs dp r x a b d = true ↔ a ≠ b ∧ a ∈ cand rs dp x.p d ∧ b ∈ cand rs dp x.p d ∧ (r.kd = .eldest ∧ d > 0 ∨ pref r x a 0 b 0 = true) := by
  unfold mayPref
  split
  · next h =>
    refine Iff.intro (fun z => nomatch z) fun ⟨h1, h2, h3, _⟩ => ?_
    rcases h with h | h | h
    · exact absurd h h1
    · exact absurd h2 h
    · exact absurd h3 h
  · next h =>
    have h : ¬ a = b ∧ a ∈ cand rs dp x.p d ∧ b ∈ cand rs dp x.p d := by
      refine ⟨fun z => h (.inl z), ?_, ?_⟩
      · exact Classical.byContradiction fun z => h (.inr (.inl z))
      · exact Classical.byContradiction fun z => h (.inr (.inr z))
    split
    · next c => exact ⟨fun _ => ⟨h.1, h.2.1, h.2.2, .inl c⟩, fun _ => rfl⟩
    · next c => exact ⟨fun z => ⟨h.1, h.2.1, h.2.2, .inr z⟩, fun ⟨_, _, _, z⟩ => z.elim (fun z => absurd z c) id⟩
theorem wrong_iff (hn : (pl.map (·.w)).Nodup) (hr : ∀ r ∈ rs, WR r) : wrongAt pl rs dp r = true ↔ ∃ x ∈ pl, ∃ d, (d ∈ turns rs ∨ d = 1) ∧ ∃ a b, mayPref rs dp r x a b d = true ∧ NU pl rs dp a b d := by
  have sp : ∀ a b d, (!(spare pl rs dp a b d).isEmpty) = true ↔ NU pl rs dp a b d := fun a b d => by
    rw [Bool.not_eq_true', List.isEmpty_eq_false_iff]
    rw [Ne, spare_nil hn]
    exact Classical.not_not
  unfold wrongAt
  simp only [List.any_eq_true, Bool.and_eq_true, sp, mem_days hr]
  constructor
  · rintro ⟨x, h1, d, h2, a, h3, b, h4, h5, h6⟩
    exact ⟨x, h1, d, h2, a, b, h5, h6⟩
  · rintro ⟨x, h1, d, h2, a, b, h5, h6⟩
    obtain ⟨_, h3, h4, _⟩ := may_iff.mp h5
    exact ⟨x, h1, d, h2, a, h3, b, h4, h5, h6⟩
theorem day_some {x : Plc} {a b : Nat} {d y : Int} (e : dayOf rs r x a b d = some y) : (y = d ∧ (pref r x a d b d = true ∨ r.kd = .eldest ∧ d > 0)) ∨ (y = 1 ∧ r.kd = .eldest ∧ ¬ d > 0 ∧ (1 : Int) ∉ turns rs) := by
  unfold dayOf at e
  split at e
  · next c => exact .inl ⟨(Option.some.inj e).symm, .inl c⟩
  · split at e
    · next k =>
      split at e
      · next c => exact .inl ⟨(Option.some.inj e).symm, .inr ⟨k, c⟩⟩
      · next c =>
        split at e
        · cases e
        · next m => exact .inr ⟨(Option.some.inj e).symm, k, c, m⟩
    · cases e
/-- what a told fault is -/
structure IsFault (pl : List Plc) (rs : List Row) (dp : Bool) (r : Rul) (f : Flt) : Prop where
  ex : ∃ x ∈ pl, x.w = f.1 ∧ f.2.2.1 ≠ f.2.2.2.1 ∧ f.2.2.1 ∈ cand rs dp x.p f.2.1 ∧ f.2.2.2.1 ∈ cand rs dp x.p f.2.1 ∧ (pref r x f.2.2.1 f.2.1 f.2.2.2.1 f.2.1 = true ∨ r.kd = .eldest ∧ f.2.1 > 0)
  d : f.2.1 ∈ turns rs ∨ f.2.1 = 1
  le : f.2.1 ≤ f.2.2.2.2.2
  hi : f.2.2.2.2.2 ≤ 6
  nu : NU pl rs dp f.2.2.1 f.2.2.2.1 f.2.1
  use : ∃ q ∈ pl, q.w = f.2.2.2.2.1 ∧ f.2.2.1 ∈ cand rs dp q.p f.2.2.2.2.2 ∧ f.2.2.2.1 ∉ cand rs dp q.p f.2.2.2.2.2
theorem fault_is (hn : (pl.map (·.w)).Nodup) (hr : ∀ r ∈ rs, WR r) {f : Flt} (e : fault pl rs dp r = some f) : IsFault pl rs dp r f := by
  obtain ⟨d, hd, e⟩ := List.exists_of_findSome?_eq_some e
  obtain ⟨x, hx, e⟩ := List.exists_of_findSome?_eq_some e
  obtain ⟨z, hz, e⟩ := List.exists_of_findSome?_eq_some e
  obtain ⟨m1, m2, m3⟩ := mem_pairs.mp hz
  unfold flt1 at e
  cases ey : dayOf rs r x z.1 z.2 d with
  | none => rw [ey] at e; cases e
  | some y =>
    rw [ey] at e
    dsimp only at e
    cases eu : newUse pl rs dp z.1 z.2 y with
    | none => rw [eu] at e; cases e
    | some u =>
      rw [eu] at e
      have e : (x.w, y, z.1, z.2, u.1, u.2) = f := Option.some.inj e
      subst e
      obtain ⟨h1, q, h2, h3, h4, h5⟩ := newUse_some hn eu
      have hday := day_some ey
      have hy : y ∈ turns rs ∨ y = 1 := by
        rcases hday with ⟨h, _⟩ | ⟨h, _⟩
        · exact .inl (h ▸ hd)
        · exact .inr h
      have hyr : 0 ≤ y ∧ y ≤ 6 := by
        rcases hy with h | h
        · exact turns_rng hr h
        · omega
      refine ⟨⟨x, hx, rfl, m3, ?_, ?_, ?_⟩, hy, ?_, ?_, ⟨u.2, h1, q, h2, h4, h5⟩, ⟨q, h2, h3, h4, h5⟩⟩
      · rcases hday with ⟨h, _⟩ | ⟨h, _, h6, h7⟩
        · exact h ▸ m1
        · have e0 : d = 0 := by
            have := turns_rng hr hd
            omega
          show z.1 ∈ cand rs dp x.p y
          rw [h, cand_shift hr h7, ← e0]
          exact m1
      · rcases hday with ⟨h, _⟩ | ⟨h, _, h6, h7⟩
        · exact h ▸ m2
        · have e0 : d = 0 := by
            have := turns_rng hr hd
            omega
          show z.2 ∈ cand rs dp x.p y
          rw [h, cand_shift hr h7, ← e0]
          exact m2
      · rcases hday with ⟨h, h8⟩ | ⟨h, h6, _, _⟩
        · rw [show y = d from h]
          exact h8
        · refine .inr ⟨h6, ?_⟩
          show y > 0
          omega
      · show y ≤ u.2
        rcases mem_froms.mp h1 with h | h
        · omega
        · have := h.2
          omega
      · show u.2 ≤ 6
        rcases mem_froms.mp h1 with h | h
        · omega
        · exact (turns_rng hr h.1).2
theorem fault_some {d : Int} {x : Plc} {a b : Nat} {y : Int} (hn : (pl.map (·.w)).Nodup) (hd : d ∈ turns rs) (hx : x ∈ pl) (hz : (a, b) ∈ pairs (cand rs dp x.p d)) (e : dayOf rs r x a b d = some y) (hu : NU pl rs dp a b y) : fault pl rs dp r ≠ none := by
  intro h
  unfold fault at h
  have h1 := List.findSome?_eq_none_iff.mp h d hd
  have h2 := List.findSome?_eq_none_iff.mp h1 x hx
  have h3 := List.findSome?_eq_none_iff.mp h2 (a, b) hz
  unfold flt1 at h3
  rw [e] at h3
  have h4 : newUse pl rs dp a b y = none := by
    have h3 : (newUse pl rs dp a b y).map _ = none := h3
    rwa [Option.map_eq_none_iff] at h3
  exact (newUse_none hn).mp h4 hu
theorem fault_wrong (hn : (pl.map (·.w)).Nodup) (hr : ∀ r ∈ rs, WR r) : (fault pl rs dp r).isSome = wrongAt pl rs dp r := by
  have key : wrongAt pl rs dp r = true ↔ fault pl rs dp r ≠ none := by
    rw [wrong_iff hn hr]
    constructor
    · rintro ⟨x, hx, d, hd, a, b, hm, hu⟩
      obtain ⟨n1, m1, m2, hp⟩ := may_iff.mp hm
      by_cases ht : d ∈ turns rs
      · refine fault_some hn ht hx (mem_pairs.mpr ⟨m1, m2, n1⟩) (y := d) ?_ hu
        unfold dayOf
        rcases hp with ⟨k, g⟩ | p
        · rw [if_pos k, if_pos g]
          split <;> rfl
        · rw [← pref_same r x a b d] at p
          rw [if_pos p]
      · have e1 : d = 1 := hd.resolve_left ht
        subst e1
        rw [cand_shift hr ht] at m1 m2
        have z0 := turns0 hr
        by_cases hp0 : pref r x a 0 b 0 = true
        · refine fault_some hn z0 hx (mem_pairs.mpr ⟨m1, m2, n1⟩) (y := 0) ?_ ((nu_shift hr ht).mp hu)
          unfold dayOf
          rw [if_pos hp0]
        · rcases hp with ⟨k, _⟩ | p
          · refine fault_some hn z0 hx (mem_pairs.mpr ⟨m1, m2, n1⟩) (y := 1) ?_ hu
            unfold dayOf
            rw [if_neg hp0, if_pos k, if_neg (by omega), if_neg ht]
          · exact absurd p hp0
    · intro h
      cases e : fault pl rs dp r with
      | none => exact absurd e h
      | some f =>
        obtain ⟨⟨x, hx, hw, n1, m1, m2, hp⟩, hd, hle, hhi, nu, q, h2, h3, h4, h5⟩ := fault_is hn hr e
        refine ⟨x, hx, f.2.1, hd, f.2.2.1, f.2.2.2.1, may_iff.mpr ⟨n1, m1, m2, ?_⟩, nu⟩
        · rcases hp with p | p
          · rw [pref_same] at p
            exact .inr p
          · exact .inl p
  cases e : fault pl rs dp r with
  | none =>
    rw [e] at key
    cases w : wrongAt pl rs dp r with
    | true => exact absurd rfl (key.mp w)
    | false => rfl
  | some f =>
    rw [e] at key
    rw [key.mpr (by simp)]
    rfl
end
end Ga

set_option maxHeartbeats 4000000
/-! the data of the plans, the promises of defs -/
namespace Gk
open PySem PySem.Spec PyProof.Rows L2 Dl Ga
def optD : Option Int → Dat
  | none => .non
  | some i => .int i
def ltD (n : Nat) : Dat := .str (Ga.P n)
def rowD (r : Ga.Row) : Dat := .tup [ltD r.a, ltD r.b, .int r.s, optD r.t]
def plcD (x : Plc) : Dat := .tup [ltD x.w, ltD x.p, .int x.n, .non]
def kindS : Ga.Kind → Str
  | .row => "row"
  | .plain => "plain"
  | .eldest => "eldest"
def ordD (os : List (Nat × List Nat)) : List (Str × Dat) := os.map fun o => (Ga.P o.1, .otp (o.2.map Ga.P))
def planD (p : Plan) : Dat := .dic [("places", .lst (p.pl.map plcD)), ("rows", .lst (p.rw.map rowD)), ("deep", .bl p.dp), ("letters", .lst ((List.range p.k).map ltD))]
def ruleD (r : Rul) : Dat := .dic [("kind", .str (kindS r.kd)), ("orders", .dic (ordD r.os))]
def bookF (rs : List Ga.Row) (dp : Bool) : List (Str × Dat) := [("own_rows", .lst (rs.map rowD)), ("own_through", .bl dp)]
def ruleF (r : Rul) : List (Str × Dat) := [("own_kind", .str (kindS r.kd)), ("own_orders", .dic (ordD r.os))]
def listF (pl : List Plc) : List (Str × Dat) := [("own_places", .tup (pl.map plcD))]

section
variable {X : Cx}
theorem pe_ty (n : String) {x : Str} {pos : Pos} (hg : Gl X x) (hm : X.mg x = none) (hv : bootBuiltins x = some (.type n)) (hn : x ≠ "__name__" := by decide) (hd : (x == ("__debug__" : Str)) = false := by decide) : PE X (.Name x pos) (tC (.ty n)) := pe_bltn hg hm hv rfl hn hd
theorem bo_int : bootBuiltins "int" = some (.type "int") := by decide +kernel
theorem bo_bool : bootBuiltins "bool" = some (.type "bool") := by decide +kernel
theorem bo_str : bootBuiltins "str" = some (.type "str") := by decide +kernel
theorem bo_tuple : bootBuiltins "tuple" = some (.type "tuple") := by decide +kernel
theorem bo_list : bootBuiltins "list" = some (.type "list") := by decide +kernel
theorem bo_dict : bootBuiltins "dict" = some (.type "dict") := by decide +kernel
theorem bo_set : bootBuiltins "set" = some (.type "set") := by decide +kernel
theorem bo_isi : bootBuiltins "isinstance" = some (.builtin "isinstance") := by decide +kernel
theorem bo_all : bootBuiltins "all" = some (.builtin "all") := by decide +kernel
theorem bo_sorted : bootBuiltins "sorted" = some (.builtin "sorted") := by decide +kernel
theorem bo_max : bootBuiltins "max" = some (.builtin "max") := by decide +kernel
theorem kb_int_int : kitB (tyD (.int 0)) "int" = some true := by decide +kernel
theorem kb_int_bool : kitB (tyD (.int 0)) "bool" = some false := by decide +kernel
theorem kb_str_str : kitB (tyD (.str "")) "str" = some true := by decide +kernel
theorem kb_tup_tup : kitB (tyD (.tup [])) "tuple" = some true := by decide +kernel
theorem kb_otp_tup : kitB (tyD (.otp [])) "tuple" = some true := by decide +kernel
theorem kb_lst_lst : kitB (tyD (.lst [])) "list" = some true := by decide +kernel
theorem kb_dic_dic : kitB (tyD (.dic [])) "dict" = some true := by decide +kernel
end
section
variable {pg : Program} {w : World} {K : PySem.W.Frag} {mg : Str → Option Value} {base : Heap}
abbrev bookD (K : PySem.W.Frag) (rs : List Ga.Row) (dp : Bool) : Dat := .ins (He.ga K "Allowances") (bookF rs dp)
abbrev ruleI (K : PySem.W.Frag) (r : Rul) : Dat := .ins (He.ga K "Rule") (ruleF r)
abbrev listD (K : PySem.W.Frag) (pl : List Plc) : Dat := .ins (He.ga K "PartsList") (listF pl)
theorem spR_len {R : List Dat → Dat → Prop} {n : Nat} (h : ∀ ds r, R ds r → ds.length = n) (vs : List V) (H : Hp) (Q : VK) (E : XK) (s : spR R vs H Q E) : vs.length = n := by
  obtain ⟨B, ds, _, rs, ⟨r, hp⟩, _⟩ := s
  rw [rs.length]
  exact h ds r hp
theorem scope_len {N ps : List Str} {sc : Scope} (S : FnScope N ps sc) : ps.length ≤ N.length := by
  have z := congrArg List.length S.pre
  rw [List.length_take] at z
  omega
/-- the body's slots at the start -/
abbrev sl0 (ds : List Dat) (N : List Str) : List Sl := ds.map Sl.d ++ List.replicate (N.length - ds.length) .x
abbrev Bod (pg : Program) (w : World) (K : PySem.W.Frag) (mg : Str → Option Value) (base : Heap) (k : Nat) (q : Str) (N : List Str) (d : He.DefD) (f : Addr) (R : List Dat → Dat → Prop) : Prop :=
  ∀ (cdv : Value) (A : Around) (outer : List Env) (s : Shared) (H : Hp) (E : XK), Room k (A.deeper (envOfC q d.scope s.heap.objs.size f cdv)) → ∀ ds r, R ds r →
      ∃ t, PSs (cxOf C8.CX0 pg w K mg base N q d.scope f cdv A outer s H E).nox d.body t ∧ (ST t (sl0 ds N) (.rt r) ∨ r = .non ∧ ∃ ρ', ST t (sl0 ds N) (.nx ρ'))
theorem fnD {d : He.DefD} {N ps : List Str} {k : Nat} {R : List Dat → Dat → Prop} {f : Addr} {fd : FuncData} (F : FunD K d.name d.qual d.params d.body d.scope [] [] f fd) (S : FnScope N ps d.scope)
    (hl : ∀ ds r, R ds r → ds.length = ps.length) (body : Bod pg w K mg base k d.qual N d f R) : FnOk pg w K mg base C8.CX0 (k + 1) f fd ps (spD R) :=
  F.ok S (spD_len hl) fun cdv A outer s H vs Q E hr hs => by
    obtain ⟨B, ds, r, e, rs, hp, q⟩ := hs
    obtain ⟨t, h1, h2⟩ := body cdv A outer s H E hr ds r hp
    refine ⟨t, h1.nox, ?_⟩
    have hlen : vs.length ≤ N.length := by rw [rs.length, hl ds r hp]; exact scope_len S
    rcases h2 with h2 | ⟨rfl, ρ', h2⟩
    · exact of_ST rs e hlen h2 q
    · exact h2 B B H B H (L2.start N vs) _ (start_se rs e hlen) fun B2 H2 σ2 S2 => q _ B2 H2 S2.g .non
theorem mkC {d : He.DefD} {x : Str} {N ps : List Str} {k : Nat} {R : List Dat → Dat → Prop} {fd : FuncData} (F : FunD K d.name d.qual d.params d.body d.scope [] [] (He.ga K x) fd) (hm : mg x = some (.ref (He.ga K x))) (b : Binds K fd ps []) (S : FnScope N ps d.scope)
    (hl : ∀ ds r, R ds r → ds.length = ps.length) (body : Bod pg w K mg base k d.qual N d (He.ga K x) R) : Ca pg w K mg base (k + 1) x R := ⟨_, fd, ps, [], fnD F S hl body, hm, F.kp, b, .nil⟩
theorem mkM {d : He.DefD} {C f : Addr} {m : Str} {N ps : List Str} {k : Nat} {R : List Dat → Dat → Prop} {fd : FuncData} (c : Cls K C) (me : Meth K C m f) (F : FunD K d.name d.qual d.params d.body d.scope [] [] f fd) (b : Binds K fd ps []) (S : FnScope N ps d.scope)
    (hl : ∀ ds r, R ds r → ds.length = ps.length) (body : Bod pg w K mg base k d.qual N d f R) : C8.Met pg w K mg base (k + 1) C m (spD R) [] := ⟨f, fd, ps, [], c, me, fnD F S hl body, b, .nil⟩
/-! new lists -/
theorem spN_len {R : List Dat → List Dat → Prop} {n : Nat} (h : ∀ ds r, R ds r → ds.length = n) (vs : List V) (H : Hp) (Q : VK) (E : XK) (s : spN R vs H Q E) : vs.length = n := by
  obtain ⟨B, ds, r, _, rs, hp, _⟩ := s
  rw [rs.length]
  exact h ds r hp
abbrev BodN (pg : Program) (w : World) (K : PySem.W.Frag) (mg : Str → Option Value) (base : Heap) (k : Nat) (q : Str) (N : List Str) (d : He.DefD) (f : Addr) (R : List Dat → List Dat → Prop) : Prop :=
  ∀ (cdv : Value) (A : Around) (outer : List Env) (s : Shared) (H : Hp) (E : XK), Room k (A.deeper (envOfC q d.scope s.heap.objs.size f cdv)) → ∀ ds r, R ds r →
      ∃ t, PSs (cxOf C8.CX0 pg w K mg base N q d.scope f cdv A outer s H E).nox d.body t ∧ ST t (sl0 ds N) (.rl r)
theorem fnN {d : He.DefD} {N ps : List Str} {k : Nat} {R : List Dat → List Dat → Prop} {f : Addr} {fd : FuncData} (F : FunD K d.name d.qual d.params d.body d.scope [] [] f fd) (S : FnScope N ps d.scope)
    (hl : ∀ ds r, R ds r → ds.length = ps.length) (body : BodN pg w K mg base k d.qual N d f R) : FnOk pg w K mg base C8.CX0 (k + 1) f fd ps (spN R) :=
  F.ok S (spN_len hl) fun cdv A outer s H vs Q E hr hs => by
    obtain ⟨B, ds, r, e, rs, hp, q⟩ := hs
    obtain ⟨t, h1, h2⟩ := body cdv A outer s H E hr ds r hp
    refine ⟨t, h1.nox, h2 B B H B H (L2.start N vs) _ (start_se rs e (by rw [rs.length, hl ds r hp]; exact scope_len S)) fun p ws B2 H2 g2 _ hp n2 h3 r3 => ?_⟩
    exact q p ws B2 H2 g2 hp n2 h3 r3
theorem mkN {d : He.DefD} {x : Str} {N ps : List Str} {k : Nat} {R : List Dat → List Dat → Prop} {fd : FuncData} (F : FunD K d.name d.qual d.params d.body d.scope [] [] (He.ga K x) fd) (hm : mg x = some (.ref (He.ga K x))) (b : Binds K fd ps []) (S : FnScope N ps d.scope)
    (hl : ∀ ds r, R ds r → ds.length = ps.length) (body : BodN pg w K mg base k d.qual N d (He.ga K x) R) : C8.Cal pg w K mg base (k + 1) x (spN R) [] := ⟨_, fd, ps, [], fnN F S hl body, hm, F.kp, b, .nil⟩
theorem mkMN {d : He.DefD} {C f : Addr} {m : Str} {N ps : List Str} {k : Nat} {R : List Dat → List Dat → Prop} {fd : FuncData} (c : Cls K C) (me : Meth K C m f) (F : FunD K d.name d.qual d.params d.body d.scope [] [] f fd) (b : Binds K fd ps []) (S : FnScope N ps d.scope)
    (hl : ∀ ds r, R ds r → ds.length = ps.length) (body : BodN pg w K mg base k d.qual N d f R) : C8.Met pg w K mg base (k + 1) C m (spN R) [] := ⟨f, fd, ps, [], c, me, fnN F S hl body, b, .nil⟩
/-- any datum of a kind -/
abbrev CaR (pg : Program) (w : World) (K : PySem.W.Frag) (mg : Str → Option Value) (base : Heap) (k : Nat) (x : Str) (R : List Dat → Dat → Prop) : Prop := C8.Cal pg w K mg base k x (spR R) []
theorem mkR {d : He.DefD} {x : Str} {N ps : List Str} {k : Nat} {R : List Dat → Dat → Prop} {fd : FuncData} (F : FunD K d.name d.qual d.params d.body d.scope [] [] (He.ga K x) fd) (hm : mg x = some (.ref (He.ga K x))) (b : Binds K fd ps []) (S : FnScope N ps d.scope)
    (hl : ∀ ds r, R ds r → ds.length = ps.length)
    (body : ∀ (cdv : Value) (A : Around) (outer : List Env) (s : Shared) (H : Hp) (E : XK), Room k (A.deeper (envOfC d.qual d.scope s.heap.objs.size (He.ga K x) cdv)) → ∀ ds r0, R ds r0 →
      ∃ t, PSs (cxOf C8.CX0 pg w K mg base N d.qual d.scope (He.ga K x) cdv A outer s H E).nox d.body t ∧ STs t (sl0 ds N) (fun o => ∃ r, R ds r ∧ o = .rt r)) : CaR pg w K mg base (k + 1) x R := by
  refine ⟨_, fd, ps, [], F.ok S (spR_len hl) fun cdv A outer s H vs Q E hr hs => ?_, hm, F.kp, b, .nil⟩
  obtain ⟨B, ds, e, rs, ⟨r0, hp⟩, q⟩ := hs
  obtain ⟨t, h1, h2⟩ := body cdv A outer s H E hr ds r0 hp
  refine ⟨t, h1.nox, ?_⟩
  have hlen : vs.length ≤ N.length := by rw [rs.length, hl ds r0 hp]; exact scope_len S
  refine h2 B B H B H (L2.start N vs) _ (start_se rs e hlen) fun o ho => ?_
  obtain ⟨r, hr', rfl⟩ := ho
  exact fun v B2 H2 g _ r2 => q r hr' v B2 H2 g r2
end
end Gk

set_option maxHeartbeats 4000000
/-! instances: made, called, their properties and items -/
namespace Gk
open PySem PySem.Spec PyProof.Rows L2 Dl Ga
open Evl (Ex)
section
variable {pg : Program} {w : World} {K : PySem.W.Frag} {mg : Str → Option Value} {base : Heap} {X : Cx} {ρ : List Sl} {ta tb te : TE} {t : TA} {d e : Dat} {ds es : List Dat}
/-! ### made -/
def spI (C : Addr) (Pf : List Dat → List (Str × Dat) → Prop) : Sp := fun vs H Q _ => ∃ B H0 x dx ws ds fs, vs = .ref x :: ws ∧ H = upd (upd H0 dx (.own x)) x (.ins C dx []) ∧ H0 x = none ∧ H0 dx = none ∧ dx ≠ x ∧ Ex B H0 ∧ Reps B ws ds ∧ Pf ds fs ∧
  ∀ B2 H2, Go B H0 B2 H2 → Rep B2 (.ref x) (.ins C fs) → Q .non H2
theorem spI_len {C : Addr} {Pf : List Dat → List (Str × Dat) → Prop} {n : Nat} (h : ∀ ds r, Pf ds r → ds.length + 1 = n) (vs : List V) (H : Hp) (Q : VK) (E : XK) (s : spI C Pf vs H Q E) : vs.length = n := by
  obtain ⟨B, H0, x, dx, ws, ds, fs, rfl, _, _, _, _, _, rs, hp, _⟩ := s
  rw [List.length_cons, rs.length]
  exact h ds fs hp
theorem ev_make {C : Addr} {Pf : List Dat → List (Str × Dat) → Prop} {fs : List (Str × Dat)} {E : XK} (h : EA t ρ ds) (hp : Pf ds fs) : EV (tMake C (spI C Pf) [] E t) ρ (.ins C fs) := fun B H σ S Q q => h B H σ S _ fun vs B1 H1 g1 r1 => fun x dx hx hd hne =>
  ⟨B1, H1, x, dx, vs, ds, fs, by rw [List.append_nil], rfl, hx, hd, hne, g1.bh, r1, hp, fun B2 H2 g2 r2 => ⟨rfl, q _ B2 H2 (g1.trans g2) r2⟩⟩
theorem ev_makeK {C : Addr} {Pf : List Dat → List (Str × Dat) → Prop} {fs : List (Str × Dat)} {E : XK} {tk : TA} {n m : Nat} {gV : List V → List V → List V} (h : EA t ρ ds) (hk : EA tk ρ es) (hn : ds.length = n) (hm : es.length = m) (hg : ∀ x vs zs, gV (x :: vs) zs = x :: (vs ++ zs)) (hp : Pf (ds ++ es) fs) :
    EV (tMakeK C n m (spI C Pf) gV E t tk) ρ (.ins C fs) := fun B H σ S Q q => h B H σ S _ fun vs B1 H1 g1 r1 => hk B1 H1 σ (S.mono g1) _ fun zs B2 H2 g2 r2 =>
  ⟨by rw [r1.length]; exact hn, by rw [r2.length]; exact hm, fun x dx hx hd hne => ⟨B2, H2, x, dx, vs ++ zs, ds ++ es, fs, hg _ _ _, rfl, hx, hd, hne, g2.bh, (r1.mono g2.bb).append r2, hp, fun B3 H3 g3 r3 => ⟨rfl, q _ B3 H3 ((g1.trans g2).trans g3) r3⟩⟩⟩
/-- an __init__ by its body -/
theorem fnI {d : He.DefD} {C : Addr} {N ps : List Str} {k : Nat} {Pf : List Dat → List (Str × Dat) → Prop} {f : Addr} {fd : FuncData} {dvs : List V} {kws : List (Str × V)} (F : FunD K d.name d.qual d.params d.body d.scope dvs kws f fd) (S : FnScope N ps d.scope)
    (hl : ∀ ds r, Pf ds r → ds.length + 1 = ps.length)
    (body : ∀ (cdv : Value) (A : Around) (outer : List Env) (s : Shared) (H : Hp) (E : XK), Room k (A.deeper (envOfC d.qual d.scope s.heap.objs.size f cdv)) → ∀ ds fs, Pf ds fs →
      ∃ t, PSs (cxOf C8.CX0 pg w K mg base N d.qual d.scope f cdv A outer s H E).nox d.body t ∧ ∀ x, ∃ ρ', ST t (.o x C [] :: (ds.map .d ++ List.replicate (N.length - 1 - ds.length) .x)) (.nx ρ') ∧ ρ'[0]? = some (.o x C fs)) : FnOk pg w K mg base C8.CX0 (k + 1) f fd ps (spI C Pf) :=
  F.ok S (spI_len hl) fun cdv A outer s H vs Q E hr hs => by
    obtain ⟨B, H0, x, dx, ws, ds, fs, rfl, rfl, hx, hd, hne, e, rs, hp, q⟩ := hs
    obtain ⟨t, h1, h2⟩ := body cdv A outer s _ E hr ds fs hp
    obtain ⟨ρ', h3, h4⟩ := h2 x
    refine ⟨t, h1.nox, h3 B B H0 B _ _ _ (start_seI rs e (by rw [rs.length, hl ds fs hp]; exact scope_len S) hx hd hne) fun B2 H2 σ2 S2 => ?_⟩
    obtain ⟨ov, h5, dx2, gs, rfl, n2, h6, r6⟩ := S2.r.at_ 0 _ h4
    exact q _ H2 (S2.g.keep hx n2 h6) (.ins upd_same (r6.mono (Evl.Ex.new n2)))
/-- a class whose last parameter is given by its keyword -/
structure MakA (pg : Program) (w : World) (K : PySem.W.Frag) (mg : Str → Option Value) (base : Heap) (k : Nat) (x : Str) (C : Addr) (n : Nat) (ks : List Str) (sp : Sp) : Prop where
  ex : ∃ f fd ps g, Mk K C f ∧ FnOk pg w K mg base C8.CX0 k f fd ps sp ∧ mg x = some (.ref C) ∧ KBn K fd ps (n + 1) ks g (fun vs zs => vs ++ zs)
theorem pe_ma {C : Addr} {k j n : Nat} {ks : List Str} {sp : Sp} {x : Str} {p pos : Pos} {e : Expr} {es : List Expr} {kws : List Keyword} {tk : TA} (c : MakA X.prog X.w X.K X.mg X.base k x C n ks sp) (hr : Room j X.A) (hk : k + 1 ≤ j) (hg : Gl X x) (ha : PA X (e :: es) t) (hkw : PK X kws tk)
    (hall : (backToKw pos (keywordEach kws X.env)).all (·.1.isSome) = true := by rfl) (hks : (backToKw pos (keywordEach kws X.env)).filterMap (·.1) = ks := by rfl) (hdb : (x == ("__debug__" : Str)) = false := by decide)
    (he : starEach (e :: es) X.env = (false, eval e X.env) :: starEach es X.env := by rfl) (hpl : ((backTo pos (starEach (e :: es) X.env)).any (·.1) || (backToKw pos (keywordEach kws X.env)).any (·.1.isNone)) = false := by rfl) :
    PE X (.Call (.Name x p) (e :: es) kws pos) (tMakeK C n ks.length sp (fun vs zs => vs ++ zs) C8.E0 t tk) := by
  obtain ⟨f, fd, ps, g, M, F, hm, b⟩ := c.ex
  exact pe_makeK M F (hr.mono hk) hg hm b C8.pass0 ha hkw hall hks hdb he hpl
/-! ### called -/
structure CaO (pg : Program) (w : World) (K : PySem.W.Frag) (mg : Str → Option Value) (base : Heap) (k : Nat) (C : Addr) (R : List Dat → Dat → Prop) : Prop where
  ex : ∃ g, StX.CallO K C g ∧ FnR pg w K mg base C8.CX0 k g (spD R)
theorem fnR_of {k : Nat} {f : Addr} {fd : FuncData} {ps : List Str} {sp : Sp} (F : FnOk pg w K mg base C8.CX0 k f fd ps sp) (b : Binds K fd ps []) : FnR pg w K mg base C8.CX0 k f sp := (F.raw b .nil).imp fun vs H Q E h => by
  rw [List.append_nil]
  exact h
theorem pe_co {C : Addr} {R : List Dat → Dat → Prop} {k j : Nat} {fe e : Expr} {es : List Expr} {tf : TE} {pos : Pos} (c : CaO X.prog X.w X.K X.mg X.base k C R) (hr : Room j X.A) (hk : k ≤ j) (hf : PE X fe tf) (ha : PA X (e :: es) t)
    (ht : eval (.Call fe (e :: es) [] pos) X.env = (do callWith pos (← eval fe X.env) [] (backTo pos (starEach (e :: es) X.env)) (backToKw pos (keywordEach [] X.env))) := by rfl)
    (he : starEach (e :: es) X.env = (false, eval e X.env) :: starEach es X.env := by rfl) (hpl : (backTo pos (starEach es X.env)).any (·.1) = false := by rfl) : PE X (.Call fe (e :: es) [] pos) (StX.tCallO X C (spD R) C8.E0 tf t) := by
  obtain ⟨g, co, F⟩ := c.ex
  exact StX.pe_callO hf co F (hr.mono hk) C8.pass0 ha ht he hpl
/-! ### o[i] -/
structure CaG (pg : Program) (w : World) (K : PySem.W.Frag) (mg : Str → Option Value) (base : Heap) (k : Nat) (C : Addr) (R : List Dat → Dat → Prop) : Prop where
  ex : ∃ f fd ps, PySem.W.findIn K (.ref C) "__getitem__" = some (some (.ref f)) ∧ PySem.W.isFn K (.ref f) = true ∧ PySem.W.fnIn K f = true ∧ FnOk pg w K mg base C8.CX0 k f fd ps (spD R) ∧ Binds K fd ps []
theorem pe_gi {C : Addr} {R : List Dat → Dat → Prop} {k j : Nat} {o i : Expr} {to ti : TE} {pos : Pos} (c : CaG X.prog X.w X.K X.mg X.base k C R) (hr : Room j X.A) (hk : k + 1 ≤ j) (ho : PE X o to) (hi : PE X i ti)
    (hsl : ∀ ov iv, subscripted i true ov iv = runValue (.builtin "lifetime.subscript" ⟨[ov, iv], []⟩) := by intro _ _; with_unfolding_all rfl) : PE X (.Subscript o i pos) (tGet C (spD R) C8.E0 to ti) := by
  obtain ⟨f, fd, ps, h1, h2, h3, F, b⟩ := c.ex
  exact pe_getitem ho hi h1 h2 h3 F (hr.mono hk) b C8.pass0 hsl
/-! ### rule.kind -/
abbrev N_kind : List Str := ["self"]
theorem sc_kind : FnScope N_kind ["self"] (defScope s_Rule_kind) := C8.fnScope_by (by decide +kernel)
theorem pe_kind {j : Nat} {o : Expr} {to : TE} {pos : Pos} (T : Tx X.K X.mg) (hr : Room j X.A) (hk : 2 ≤ j) (ho : PE X o to) (hab : attributeBase o "kind" X.env (eval o X.env) = eval o X.env := by rfl) :
    PE X (.Attribute o "kind" pos) (tProp (He.ga X.K "Rule") (getSp (He.ga X.K "Rule") "own_kind") [] C8.E0 to) := by
  obtain ⟨fd, F⟩ := funD_at (d := d_Rule_kind) T.kd T.xs.2.2.2.2.1
  have b : Binds X.K fd ["self"] [] := F.bindsN (ps := ["self"]) fun kV doc pm an cdv ct us h => by
    match us, h with
    | [a], _ => rfl
  obtain ⟨oc, od, dV, kV, doc, pm, an, cdv, ct, osl, rfl, lk, hcd, _, _⟩ := F.ex
  exact pe_prop ho T.cls_Rule T.prop (fn_getter (k := 0) (f := "own_kind") lk hcd sc_kind rfl rfl T.cls_Rule T.no_own_kind) (hr.mono hk) b .nil C8.pass0 hab
/-! ### the kinds -/
theorem Tx.g_KINDS (T : Tx K mg) : mg "KINDS" = some (.ref (He.ga K "KINDS")) := T.glo (x := "KINDS") 67 rfl
theorem pe_kinds {pos : Pos} (hm : X.mg "KINDS" = some (.ref (He.ga X.K "KINDS"))) (hg : Gl X "KINDS") : PE X (.Name "KINDS" pos) (tC (.ref (He.ga X.K "KINDS"))) := pe_glob hg hm rfl
theorem ev_niK (T : Tx K mg) {k : Ga.Kind} (ha : EV ta ρ (.str (kindS k))) : EV (tOp (rIn K true) ta (tC (.ref (He.ga K "KINDS")))) ρ (.bl false) := fun B H σ S Q q => ha B H σ S _ fun v B1 H1 g1 r1 => by
  cases r1
  have sq : SqT K H1 (He.ga K "KINDS") ((["row", "plain", "eldest"] : List Str).map V.str) := He.tupB_ok T.xs.2.2.2.2.2 H1
  refine ⟨_, _, rfl, .inr sq, rfl, Dl.flat_strs _, ?_⟩
  have e : inV (.str (kindS k)) ((["row", "plain", "eldest"] : List Str).map V.str) = true := by
    rw [inV_strs]
    cases k <;> decide
  show Q (.bl (!inV (.str (kindS k)) _)) H1
  rw [e]
  exact q _ B1 H1 g1 (.bl false)
/-! ### isinstance, by kinds -/
theorem isi_int_int {i : Int} (h : EV ta ρ (.int i)) : EV (tCB (rIsi K) (tCons ta (tCons (tC (.ty "int")) tNil))) ρ (.bl true) := ev_isi h (fun z => by simp [tyD] at z) kb_int_int
theorem isi_int_bool {i : Int} (h : EV ta ρ (.int i)) : EV (tCB (rIsi K) (tCons ta (tCons (tC (.ty "bool")) tNil))) ρ (.bl false) := ev_isi h (fun z => by simp [tyD] at z) kb_int_bool
theorem isi_str_str {s : Str} (h : EV ta ρ (.str s)) : EV (tCB (rIsi K) (tCons ta (tCons (tC (.ty "str")) tNil))) ρ (.bl true) := ev_isi h (fun z => by simp [tyD] at z) kb_str_str
theorem isi_tup_tup {ds : List Dat} (h : EV ta ρ (.tup ds)) : EV (tCB (rIsi K) (tCons ta (tCons (tC (.ty "tuple")) tNil))) ρ (.bl true) := ev_isi h (fun z => by simp [tyD] at z) kb_tup_tup
theorem isi_otp_tup {xs : List Str} (h : EV ta ρ (.otp xs)) : EV (tCB (rIsi K) (tCons ta (tCons (tC (.ty "tuple")) tNil))) ρ (.bl true) := ev_isi h (fun z => by simp [tyD] at z) kb_otp_tup
theorem isi_lst_lst {ds : List Dat} (h : EV ta ρ (.lst ds)) : EV (tCB (rIsi K) (tCons ta (tCons (tC (.ty "list")) tNil))) ρ (.bl true) := ev_isi h (fun z => by simp [tyD] at z) kb_lst_lst
theorem isi_dic_dic {ds : List (Str × Dat)} (h : EV ta ρ (.dic ds)) : EV (tCB (rIsi K) (tCons ta (tCons (tC (.ty "dict")) tNil))) ρ (.bl true) := ev_isi h (fun z => by simp [tyD] at z) kb_dic_dic
theorem isi_lst_two {ds : List Dat} (h : EV ta ρ (.lst ds)) : EV (tCB (rIsiT K) (tCons ta (tCons (tTup (tCons (tC (.ty "list")) (tCons (tC (.ty "tuple")) tNil))) tNil))) ρ (.bl true) := ev_isi2 (c := false) h (fun z => by simp [tyD] at z) kb_lst_lst (fun z => nomatch z)
theorem ev_len1 {s : Str} (h : EV ta ρ (.str s)) (hz : s.length ≤ 100000) : EV (tCB (fun xs H Q => ∃ z, xs = [.str z] ∧ z.length ≤ sizeLine ∧ Q (.int z.length) H) (tCons ta tNil)) ρ (.int s.length) := ev_cb (ea_cons h ea_nil) fun B H vs Q e r q => by
  obtain ⟨v, rfl, r1⟩ := one_rep r
  cases r1
  exact ⟨s, rfl, sl_of hz, q _ B H (Go.refl e) (.int _)⟩
theorem ev_inSign {c : Nat} {z : Str} (ha : EV ta ρ (.str ⟨#[c]⟩)) (hb : EV tb ρ (.str z)) : EV (tOp (fun x y H Q => ∃ (c : Nat) (z : Str), x = .str ⟨#[c]⟩ ∧ y = .str z ∧ Q (.bl (decide (c ∈ z.cps.toList))) H) ta tb) ρ (.bl (decide (c ∈ z.cps.toList))) := fun B H σ S Q q =>
  ha B H σ S _ fun v B1 H1 g1 r1 => hb B1 H1 σ (S.mono g1) _ fun u B2 H2 g2 r2 => by
    cases r1
    cases r2
    exact ⟨c, z, rfl, rfl, q _ B2 H2 (g1.trans g2) (.bl _)⟩
end
end Gk

set_option maxHeartbeats 4000000
/-! measures compared; all([..]); the lookup of an order -/
namespace Gk
open PySem PySem.Spec PyProof.Rows L2 Dl Ga
theorem lt_cons (p q : Int ⊕ List Nat) (l m : List (Int ⊕ List Nat)) : PyProof.Rows.lexLt itemOrd (p :: l) (q :: m) = if p = q then PyProof.Rows.lexLt itemOrd l m else itemOrd.blt p q := by
  split
  · next h =>
    subst h
    exact lex_self (O := itemOrd) p l m
  · next h => exact lex_diff (O := itemOrd) h
def rkA (os : List (Nat × List Nat)) (w p : Nat) : Int := if p ∈ ordOf os w then ((ordOf os w).idxOf p : Nat) else ((ordOf os w).length : Nat)
def rkB (os : List (Nat × List Nat)) (w p : Nat) : Str := if p ∈ ordOf os w then "" else Ga.P p
def mD (r : Rul) (x : Plc) (p : Nat) (d : Int) : List Dat := match r.kd with
  | .eldest => [.int d, .int (rkA r.os x.w p), .str (rkB r.os x.w p)]
  | .plain => [.int (if p = x.p then 0 else 1), .int (rkA r.os x.w p), .str (rkB r.os x.w p), .int d]
  | .row => [.int (rkA r.os x.w p), .str (rkB r.os x.w p), .int d]
theorem rank_lt {os : List (Nat × List Nat)} {w p q : Nat} (h : WO os) (hp : p < 4) (hq : q < 4) :
    (rk os w p < rk os w q ↔ rkA os w p < rkA os w q ∨ rkA os w p = rkA os w q ∧ (rkB os w p).cps.toList < (rkB os w q).cps.toList) ∧ (rk os w p = rk os w q ↔ rkA os w p = rkA os w q ∧ (rkB os w p).cps.toList = (rkB os w q).cps.toList) := by
  have z := (ordOf_mem (w := w) h).2.2
  unfold rk rkA rkB
  by_cases c1 : p ∈ ordOf os w
  · have i1 := List.idxOf_lt_length_iff.mpr c1
    by_cases c2 : q ∈ ordOf os w
    · have i2 := List.idxOf_lt_length_iff.mpr c2
      simp only [c1, c2, if_true, List.lt_irrefl, and_false, or_false, and_true]
    · simp only [c1, c2, if_true, if_false]
      refine ⟨⟨fun _ => .inl (by omega), fun _ => by omega⟩, ⟨fun e => by omega, fun e => by omega⟩⟩
  · by_cases c2 : q ∈ ordOf os w
    · have i2 := List.idxOf_lt_length_iff.mpr c2
      simp only [c1, c2, if_true, if_false]
      refine ⟨⟨fun _ => by omega, fun e => ?_⟩, ⟨fun e => by omega, fun e => by omega⟩⟩
      rcases e with e | e <;> omega
    · simp only [c1, c2, if_false, Ga.P]
      refine ⟨⟨fun e => .inr ⟨by trivial, ?_⟩, fun e => ?_⟩, ⟨fun e => ⟨by trivial, ?_⟩, fun e => ?_⟩⟩
      · rw [List.cons_lt_cons_iff]
        exact .inl (by omega)
      · rcases e with e | ⟨_, e⟩
        · omega
        · rw [List.cons_lt_cons_iff] at e
          rcases e with e | ⟨_, e⟩
          · omega
          · simp at e
      · have : p = q := by omega
        rw [this]
      · have e := e.2
        simp at e
        omega
theorem meas_lt {r : Rul} {x : Plc} {p q : Nat} {d e : Int} (h : WO r.os) (hp : p < 4) (hq : q < 4) (hd : 0 ≤ d ∧ d ≤ 9999) (he : 0 ≤ e ∧ e ≤ 9999) : PySem.W.dataLt (toPy (.tup (mD r x p d))) (toPy (.tup (mD r x q e))) = pref r x p d q e := by
  obtain ⟨r1, r2⟩ := rank_lt (w := x.w) h hp hq
  have b1 := rk_rng (w := x.w) h hp
  have b2 := rk_rng (w := x.w) h hq
  unfold PySem.W.dataLt pref mD wt
  have se : ∀ s t : List Nat, (itemOrd.blt (.inr s) (.inr t)) = decide (s < t) := fun s t => rfl
  have ie : ∀ s t : Int, (itemOrd.blt (.inl s) (.inl t)) = decide (s < t) := fun s t => rfl
  have sub : ∀ (l m : List (Int ⊕ List Nat)), lexLt itemOrd (.inl (rkA r.os x.w p) :: .inl 1 :: .inr (rkB r.os x.w p).cps.toList :: l) (.inl (rkA r.os x.w q) :: .inl 1 :: .inr (rkB r.os x.w q).cps.toList :: m) = if rk r.os x.w p = rk r.os x.w q then lexLt itemOrd l m else decide (rk r.os x.w p < rk r.os x.w q) := fun l m => by
    rw [lt_cons, lt_cons, lt_cons, ie, se]
    simp only [Sum.inl.injEq, Sum.inr.injEq, if_true]
    by_cases c : rkA r.os x.w p = rkA r.os x.w q
    · rw [if_pos c]
      by_cases c2 : (rkB r.os x.w p).cps.toList = (rkB r.os x.w q).cps.toList
      · rw [if_pos c2, if_pos (r2.mpr ⟨c, c2⟩)]
      · rw [if_neg c2, if_neg fun z => c2 (r2.mp z).2]
        apply decide_eq_decide.mpr
        rw [r1]
        exact ⟨fun z => .inr ⟨c, z⟩, fun z => z.elim (fun z => by omega) fun z => z.2⟩
    · rw [if_neg c, if_neg fun z => c (r2.mp z).1]
      apply decide_eq_decide.mpr
      rw [r1]
      exact ⟨.inl, fun z => z.elim id fun z => absurd z.1 c⟩
  have last : ∀ (i j : Int), lexLt itemOrd [.inl 1, .inl i, .inl 0] [.inl 1, .inl j, .inl 0] = decide (i < j) := fun i j => by
    rw [lt_cons, if_pos rfl, lt_cons, ie]
    split
    · next z =>
      have z : i = j := Sum.inl.inj z
      rw [lt_cons, if_pos rfl, z, decide_eq_false (by omega)]
      rfl
    · rfl
  have none : lexLt itemOrd [.inl 0] [.inl 0] = false := by
    rw [lt_cons, if_pos rfl]
    rfl
  cases r.kd with
  | eldest =>
    show lexLt itemOrd (.inl 1 :: .inl d :: .inl 1 :: .inl (rkA r.os x.w p) :: .inl 1 :: .inr (rkB r.os x.w p).cps.toList :: [.inl 0]) (.inl 1 :: .inl e :: .inl 1 :: .inl (rkA r.os x.w q) :: .inl 1 :: .inr (rkB r.os x.w q).cps.toList :: [.inl 0]) = _
    rw [lt_cons, if_pos rfl, lt_cons, ie, lt_cons, if_pos rfl, sub, none]
    dsimp only
    simp only [Sum.inl.injEq]
    split
    · next z =>
      subst z
      split
      · next z2 =>
        rw [z2]
        simp
      · apply decide_eq_decide.mpr
        omega
    · apply decide_eq_decide.mpr
      omega
  | plain =>
    show lexLt itemOrd (.inl 1 :: .inl (if p = x.p then 0 else 1) :: .inl 1 :: .inl (rkA r.os x.w p) :: .inl 1 :: .inr (rkB r.os x.w p).cps.toList :: [.inl 1, .inl d, .inl 0]) (.inl 1 :: .inl (if q = x.p then 0 else 1) :: .inl 1 :: .inl (rkA r.os x.w q) :: .inl 1 :: .inr (rkB r.os x.w q).cps.toList :: [.inl 1, .inl e, .inl 0]) = _
    rw [lt_cons, if_pos rfl, lt_cons, ie, lt_cons, if_pos rfl, sub, last]
    dsimp only
    simp only [Sum.inl.injEq]
    have a1 : ∀ n : Nat, (if n = x.p then (0 : Int) else 1) = 0 ∨ (if n = x.p then (0 : Int) else 1) = 1 := fun n => by
      split
      · exact .inl rfl
      · exact .inr rfl
    have a2 := a1 p
    have a3 := a1 q
    generalize (if p = x.p then (0 : Int) else 1) = A at a2 ⊢
    generalize (if q = x.p then (0 : Int) else 1) = B at a3 ⊢
    split
    · next z =>
      subst z
      split
      · next z2 =>
        rw [z2]
        apply decide_eq_decide.mpr
        omega
      · apply decide_eq_decide.mpr
        omega
    · apply decide_eq_decide.mpr
      omega
  | row =>
    show lexLt itemOrd (.inl 1 :: .inl (rkA r.os x.w p) :: .inl 1 :: .inr (rkB r.os x.w p).cps.toList :: [.inl 1, .inl d, .inl 0]) (.inl 1 :: .inl (rkA r.os x.w q) :: .inl 1 :: .inr (rkB r.os x.w q).cps.toList :: [.inl 1, .inl e, .inl 0]) = _
    rw [lt_cons, if_pos rfl, sub, last]
    dsimp only
    split
    · next z2 =>
      rw [z2]
      apply decide_eq_decide.mpr
      omega
    · apply decide_eq_decide.mpr
      omega
/-! ### what may be compared in depth -/
structure Ok (n : Nat) (d : Dat) : Prop where
  p : plain d = true
  c : (toPy d).canLay0 = true
  z : (toPy d).depth ≤ n
theorem Ok.shp {n : Nat} {d : Dat} (h : Ok n d) (hn : n ≤ 64) : shp d = true := by
  unfold Dl.shp SeqAt.shaped
  rw [h.p, h.c, decide_eq_true (Nat.le_trans h.z hn)]
  rfl
theorem Ok.mono {n m : Nat} {d : Dat} (h : Ok n d) (hn : n ≤ m) : Ok m d := ⟨h.p, h.c, Nat.le_trans h.z hn⟩
theorem ok_non {n : Nat} : Ok n .non := ⟨rfl, by simp [toPy, PyData.canLay0], by simp [toPy, PyData.depth]⟩
theorem ok_int {n : Nat} {i : Int} : Ok n (.int i) := ⟨rfl, by simp [toPy, PyData.canLay0], by simp [toPy, PyData.depth]⟩
theorem ok_str {n : Nat} {s : Str} (h : PyData.strOk s = true) : Ok n (.str s) := ⟨rfl, by simp [toPy, PyData.canLay0, h], by simp [toPy, PyData.depth]⟩
theorem ok_all {n : Nat} : ∀ {ds : List Dat}, (∀ d ∈ ds, Ok n d) → plains ds = true ∧ PyData.canLayAll0 (toPys ds) = true ∧ PyData.depthAll (toPys ds) ≤ n
  | [], _ => ⟨rfl, by simp [toPys, PyData.canLayAll0], by simp [toPys, PyData.depthAll]⟩
  | d :: ds, h => by
    obtain ⟨a, b, c⟩ := ok_all (ds := ds) fun x hx => h x (List.mem_cons_of_mem _ hx)
    obtain ⟨a1, b1, c1⟩ := h d List.mem_cons_self
    refine ⟨?_, ?_, ?_⟩
    · show (plain d && plains ds) = true
      rw [a, a1]
      rfl
    · simp only [toPys, PyData.canLayAll0, b, b1, Bool.and_self]
    · simp only [toPys, PyData.depthAll]
      omega
theorem ok_tup {n : Nat} {ds : List Dat} (h : ∀ d ∈ ds, Ok n d) : Ok (n + 1) (.tup ds) := by
  obtain ⟨a, b, c⟩ := ok_all h
  exact ⟨a, by simp only [toPy, PyData.canLay0, b], by simp only [toPy, PyData.depth]; omega⟩
theorem ok_lst {n : Nat} {ds : List Dat} (h : ∀ d ∈ ds, Ok n d) : Ok (n + 1) (.lst ds) := by
  obtain ⟨a, b, c⟩ := ok_all h
  exact ⟨a, by simp only [toPy, PyData.canLay0, b], by simp only [toPy, PyData.depth]; omega⟩
theorem ok_P {n m : Nat} (h : m < 26) : Ok n (ltD m) := ok_str (by
  have : ∀ m : Fin 26, PyData.strOk (Ga.P m.val) = true := by decide +kernel
  exact this ⟨m, h⟩)
theorem ok_opt {n : Nat} : ∀ o : Option Int, Ok n (optD o)
  | none => ok_non
  | some _ => ok_int
theorem ok_mD {r : Rul} {x : Plc} {p : Nat} {d : Int} (hp : p < 26) : Ok 1 (.tup (mD r x p d)) := by
  have hB : Ok 0 (.str (rkB r.os x.w p)) := by
    unfold rkB
    split
    · exact ok_str (by decide +kernel)
    · exact ok_P hp
  unfold mD
  cases r.kd <;>
  · refine ok_tup fun d hd => ?_
    simp only [List.mem_cons, List.not_mem_nil, or_false] at hd
    rcases hd with rfl | rfl | rfl | rfl <;> first | exact ok_int | exact hB
theorem kE (k : Ga.Kind) : decide (kindS k = "eldest") = decide (k = .eldest) := by cases k <;> decide
theorem kP (k : Ga.Kind) : decide (kindS k = "plain") = decide (k = .plain) := by cases k <;> decide
/-- the order of a word -/
def ordDat (os : List (Nat × List Nat)) (w : Nat) : Option Dat := (os.find? fun o => decide (o.1 = w)).map fun o => .otp (o.2.map Ga.P)
theorem look_ord (w : Nat) : ∀ os : List (Nat × List Nat), (ordD os).lookup (Ga.P w) = ordDat os w
  | [] => rfl
  | o :: os => by
    have ih := look_ord w os
    show ((Ga.P o.1, Dat.otp (o.2.map Ga.P)) :: ordD os).lookup (Ga.P w) = _
    rw [List.lookup_cons]
    by_cases h : o.1 = w
    · have hb : (Ga.P w == Ga.P o.1) = true := by rw [h]; exact beq_self_eq_true _
      rw [hb]
      unfold ordDat
      rw [List.find?_cons_of_pos (by simpa using h)]
      rfl
    · have hb : (Ga.P w == Ga.P o.1) = false := beq_eq_false_iff_ne.mpr fun z => h (P_inj z).symm
      rw [hb]
      unfold ordDat
      rw [List.find?_cons_of_neg (by simpa using h)]
      exact ih
section
variable {K : PySem.W.Frag} {ρ : List Sl} {te : TE} {tt : TT}
theorem ev_allc {α : Type} {wi : TI} {g : TG} {vs : List Nat} (xs : List α) (f : α → Dat) (val : α → Bool) (h : ITo wi ρ (xs.map f)) (hz : xs.length ≤ 90000)
    (hb : ∀ x, x ∈ xs → ∃ ρ' ix, GT g (wipeS ρ vs) (f x) ρ' ix ∧ (∀ i ∈ ix, i ∈ vs) ∧ ET tt ρ' true ∧ EV te ρ' (.bl (val x))) : EV (tCB (rAll K) (tCons (tLc wi g tt te vs) tNil)) ρ (.bl (xs.all val)) := by
  have h1 := (evn_lc xs f (fun _ => true) (fun x => .bl (val x)) h hz fun x hx => by
    obtain ⟨ρ', ix, a, b, c, d⟩ := hb x hx
    exact ⟨ρ', ix, a, b, c, fun _ => d⟩).ev
  have e : ((xs.filter fun _ => true).map fun x => Dat.bl (val x)) = ((xs.map val).map .bl) := by
    rw [List.map_map, List.filter_eq_self.mpr (by simp)]
    rfl
  rw [e] at h1
  refine ev_is (ev_all (ea_cons h1 ea_nil)) ?_
  congr 1
  rw [List.all_map]
  rfl
theorem SE.unset {Bm B0 H0 B H : Hp} {σ : L2.St} (S : SE Bm B0 H0 B H σ ρ) (i : Nat) (o : Option V) : SE Bm B0 H0 B H (σ.set i o) (ρ.set i .x) := by
  refine ⟨S.r.unset i o, S.g, S.m, fun j s p h1 o1 h2 => ?_⟩
  by_cases hj : i = j
  · subst hj
    by_cases hl : i < ρ.length
    · rw [List.getElem?_set_self hl] at h1
      cases h1
      cases o1
    · rw [List.getElem?_eq_none (by rw [List.length_set]; omega)] at h1
      cases h1
  · rw [List.getElem?_set_ne hj] at h1 h2
    exact S.fr j s p h1 o1 h2
end
end Gk

set_option maxHeartbeats 4000000
/-! the rules with the written part named -/
namespace Gk
open PySem PySem.Spec PyProof.Rows L2 Dl Ga
section
variable {X : Cx} {K : PySem.W.Frag} {e l : Expr} {ta te tl : TE} {t : TA} {es : List Expr} {tg : Expr} {pos p p2 tpos : Pos}
theorem ix_tupK (h : X.K = K := by rfl) : IxR X (rIxT K) := h ▸ ix_tup
theorem ix_listK (h : X.K = K := by rfl) : IxR X (rIxL K) := h ▸ ix_list
theorem op_in_seqK (h : X.K = K := by rfl) : OpR X (compareOp .In) (rIn K false) := h ▸ op_in_seq
theorem op_notIn_seqK (h : X.K = K := by rfl) : OpR X (compareOp .NotIn) (rIn K true) := h ▸ op_notIn_seq
theorem op_inDK (hu : X.A.units + 65 < cLine) (h : X.K = K := by rfl) : OpR X (compareOp .In) (rInD K) := h ▸ op_inD hu
theorem op_notInDK (hu : X.A.units + 65 < cLine) (h : X.K = K := by rfl) : OpR X (compareOp .NotIn) (rNotInD K) := h ▸ op_notInD hu
theorem op_eqDK (hu : X.A.units + 64 < cLine) (h : X.K = K := by rfl) : OpR X (compareOp .Eq) (rEqD K) := h ▸ op_eqD hu
theorem op_neDK (hu : X.A.units + 64 < cLine) (h : X.K = K := by rfl) : OpR X (compareOp .NotEq) (rNeD K) := h ▸ op_neD hu
theorem sl_listK (h : X.K = K := by rfl) : SlR X (rSlL K) := h ▸ sl_list
theorem sl_tupAK (h : X.K = K := by rfl) : SlR X (rSlA K) := h ▸ sl_tupA
theorem call_lenK (h : X.K = K := by rfl) : CallR X (.builtin "len") (rLenQ K) := h ▸ call_len_seq
theorem call_isiK2 (h : X.K = K := by rfl) : CallR X (.builtin "isinstance") (rIsi K) := h ▸ call_isi
theorem cr_allK (hc : X.calm = true) (h : X.K = K := by rfl) : CallR X (.builtin "all") (rAll K) := h ▸ cr_all hc
theorem pe_fldK {f : Str} (he : PE X e ta) (hb : attributeBase e f X.env (eval e X.env) = eval e X.env) (h : X.K = K := by rfl) : PE X (.Attribute e f pos) (tFld K ta f) := h ▸ pe_fld he hb
theorem pi_listK (hl : PE X l tl) (h : X.K = K := by rfl) : PI X tg l (iList K tl) := h ▸ pi_list hl
theorem pi_tupK (hl : PE X l tl) (h : X.K = K := by rfl) : PI X tg l (iTup K tl) := h ▸ pi_tup hl
theorem pg_tupK {k : Nat} {t : TGs} {n : Nat} (hc : X.calm = true) (h : PGs X es t) (hn : (assignEach es X.env).length = n := by rfl) (hst : (assignEach es X.env).findIdx? (·.1) = none := by rfl) (hK : X.K = K := by rfl) : PG X (.Tuple es k pos) (gTup K n t) := hK ▸ pg_tup hc h hn hst
theorem pa_starK (he : PE X e te) (hr : PA X es t) (hs : starEach (.Starred e p :: es) X.env = (true, eval e X.env) :: starEach es X.env := by rfl) (hK : X.K = K := by rfl) : PA X (.Starred e p :: es) (StX.tStar K te t) := hK ▸ StX.pa_star he hr hs
theorem call_isiTK (h : X.K = K := by rfl) : CallR X (.builtin "isinstance") (rIsiT K) := h ▸ call_isiT
theorem call_listK (h : X.K = K := by rfl) : CallR X (.type "list") (rListOf K) := h ▸ call_list_of
theorem call_tupleK (h : X.K = K := by rfl) : CallR X (.type "tuple") (rTupOf K) := h ▸ call_tuple_of
theorem ev_neI {ρ : List Sl} {ta tb : TE} {i j : Int} (ha : EV ta ρ (.int i)) (hb : EV tb ρ (.int j)) : EV (tOp rNe ta tb) ρ (.bl (!decide (i = j))) := fun B H σ S Q q =>
  ha B H σ S _ fun v B1 H1 g1 r1 => hb B1 H1 σ (S.mono g1) _ fun u B2 H2 g2 r2 => by
    cases r1
    cases r2
    refine ⟨rfl, ?_⟩
    have e : decide (V.int i = V.int j) = decide (i = j) := by simp
    rw [e]
    exact q _ B2 H2 (g1.trans g2) (.bl _)
theorem hu1 {k : Nat} {A : Around} (hr : Room k A) : A.units + 1 < cLine := by
  have := hr.un
  omega
theorem hu64 {k : Nat} {A : Around} (hr : Room k A) : A.units + 64 < cLine := by
  have := hr.un
  omega
theorem hu65 {k : Nat} {A : Around} (hr : Room k A) : A.units + 65 < cLine := by
  have := hr.un
  omega
end
end Gk

set_option maxHeartbeats 4000000
/-! the loop over an order dict, which stands still meanwhile -/
namespace Gk
open PySem PySem.Spec PyProof.Rows L2 Dl Ga
theorem repk_len {B : Hp} : ∀ {ks : List (Key × V)} {kvs : List (Str × Dat)}, RepK B ks kvs → ks.length = kvs.length
  | _, _, .nil => rfl
  | _, _, .cons _ r => congrArg Nat.succ (repk_len r)
theorem repk_at {B : Hp} : ∀ {ks : List (Key × V)} {kvs : List (Str × Dat)} (i : Nat) {p : Key × V} {q : Str × Dat}, RepK B ks kvs → ks[i]? = some p → kvs[i]? = some q → p.1 = .inr q.1 ∧ Rep B p.2 q.2
  | _, _, _, _, _, .nil, e, _ => by simp at e
  | _, _, 0, _, _, .cons a _, e1, e2 => by
    cases e1
    cases e2
    exact ⟨rfl, a⟩
  | _, _, i + 1, _, _, .cons _ b, e1, e2 => repk_at i b e1 e2
theorem st_orders {P1 P2 : List Dat → Dat → Prop} {ρ : List Sl} {os : List (Nat × List Nat)} (h0 : ρ[0]? = some (.d (.dic (ordD os)))) (hl : 1 < ρ.length) (h1 : ∀ o ∈ os, P1 [ltD o.1] (.bl true)) (h2 : ∀ o ∈ os, P2 [.otp (o.2.map Ga.P)] (.bl true)) :
    ST (tLock (tFor (iKeys (tVar 0)) (gName 1) (tIfS (tOr (tNot (tB (tCall (spD P1) [] C8.E0 (tCons (tVar 1) tNil)))) (tNot (tB (tCall (spD P2) [] C8.E0 (tCons (tDGet (tVar 0) (tVar 1)) tNil))))) tNever tNext))) ρ (.nx (ρ.set 1 .x)) := fun Bm B0 H0 B H σ D S P => by
  obtain ⟨ov, s0, v, rfl, r0⟩ := S.r.at_ 0 _ h0
  cases r0 with
  | dic hb rk =>
    rename_i d ks
    have hH := S.r.bh _ _ hb
    refine ⟨d, .dK ks, hH, trivial, fun od => ?_⟩
    have hf : ∀ a, a ≠ d → upd H d (.frz od (.dK ks)) a = H a := fun a h => upd_ne h
    have bd : Evl.Ex (fun a => if a = d then none else B a) (upd H d (.frz od (.dK ks))) := fun a o ha => by
      by_cases h : a = d
      · simp [h] at ha
      · rw [hf a h]
        exact S.r.bh a o (by simpa [h] using ha)
    have hlen : ks.length = os.length := (repk_len rk).trans (List.length_map ..)
    refine ⟨.ref d, s0, d, od, rfl, .inl ⟨ks, upd_same, ?_⟩⟩
    refine ⟨fun i m σ' H' => m = ks.length - i ∧ i ≤ ks.length ∧ (∃ o, σ' = σ.set 1 o ∨ σ' = σ) ∧ Evl.Ex (upd H d (.frz od (.dK ks))) H', ⟨ks.length, by simp, Nat.zero_le _, ⟨none, .inr rfl⟩, Evl.Ex.refl _⟩, ?_⟩
    rintro i m σ' H' ⟨rfl, hi, hσ, e⟩
    have hd : H' d = some (.frz od (.dK ks)) := e _ _ upd_same
    have hs0 : σ'[0]? = some (some (.ref d)) := by
      obtain ⟨o, h | h⟩ := hσ
      · rw [h, List.getElem?_set_ne (by decide), s0]
      · rw [h, s0]
    by_cases hlt : i < ks.length
    · refine .inr ⟨⟨hd, hlt⟩, fun σ2 H2 => (∃ o, σ2 = σ.set 1 o ∨ σ2 = σ) ∧ Evl.Ex (upd H d (.frz od (.dK ks))) H2, fun σ2 H2 q => ⟨_, by omega, rfl, hlt, q⟩, fun x H2 y => ?_⟩
      obtain ⟨rfl, k, v, hk, rfl⟩ := y
      obtain ⟨o, ho⟩ : ∃ o, os[i]? = some o := ⟨os[i]'(by omega), List.getElem?_eq_getElem (by omega)⟩
      have hom : o ∈ os := List.mem_of_getElem? ho
      obtain ⟨ek, _⟩ : k = .inr (Ga.P o.1) ∧ Rep B v (.otp (o.2.map Ga.P)) := by
        exact repk_at (q := (Ga.P o.1, .otp (o.2.map Ga.P))) i rk hk (by unfold ordD; rw [List.getElem?_map, ho]; rfl)
      subst ek
      obtain ⟨o2, ho2, v2, hval, hv⟩ : ∃ o2 ∈ os, ∃ v2, valV ks (.inr (Ga.P o.1)) = some v2 ∧ Rep B v2 (.otp (o2.2.map Ga.P)) := by
        have z := rk.val (k := Ga.P o.1)
        rw [look_ord] at z
        unfold ordDat at z
        cases e1 : os.find? fun z => decide (z.1 = o.1) with
        | none => exact absurd (decide_eq_true rfl) (List.find?_eq_none.mp e1 o hom)
        | some o2 =>
          rw [e1] at z
          cases e2 : valV ks (.inr (Ga.P o.1) : Key) with
          | none =>
            rw [e2] at z
            exact z.elim
          | some v2 =>
            rw [e2] at z
            exact ⟨o2, List.mem_of_find?_eq_some e1, v2, rfl, z⟩
      have hσ2 : ∃ o', σ'.set 1 (some (.str (Ga.P o.1))) = σ.set 1 o' := by
        obtain ⟨o', h | h⟩ := hσ
        · exact ⟨_, by rw [h, List.set_set]⟩
        · exact ⟨_, by rw [h]⟩
      have hl1 : 1 < σ'.length := by
        obtain ⟨o', h | h⟩ := hσ
        · rw [h, List.length_set, S.r.len]; exact hl
        · rw [h, S.r.len]; exact hl
      have g1 : (σ'.set 1 (some (.str (Ga.P o.1))))[1]? = some (some (.str (Ga.P o.1))) := List.getElem?_set_self hl1
      have g0 : (σ'.set 1 (some (.str (Ga.P o.1))))[0]? = some (some (.ref d)) := by rw [List.getElem?_set_ne (by decide)]; exact hs0
      have ebd := bd.trans e
      have rv : Rep (fun a => if a = d then none else B a) v2 (.otp (o2.2.map Ga.P)) := by
        cases hv with
        | otp h3 h4 =>
          refine .otp ?_ h4
          rename_i a ob
          have hne : a ≠ d := fun z => by
            subst z
            rw [hb] at h3
            cases h3
          simpa [hne] using h3
      refine ⟨_, g1, _, _, _, ebd, .cons (.str (Ga.P o.1)) .nil, h1 o hom, fun v3 B3 H3 g3 r3 => ?_⟩
      cases r3
      refine ⟨true, rfl, iteF ?_⟩
      have hd3 : H3 d = some (.frz od (.dK ks)) := g3.hh _ _ hd
      refine ⟨_, g0, _, g1, d, v2, rfl, ?_, ?_⟩
      · have q := DGet.k (k := (Sum.inr (Ga.P o.1) : Key)) (H := H3) (a := d) (kvs := ks)
        exact .inl ⟨ks, .inr (Ga.P o.1), .inr ⟨_, hd3⟩, rfl, hval.symm⟩
      · exact ⟨_, _, _, (ebd.trans g3.hh), .cons rv .nil, h2 o2 ho2, fun v4 B4 H4 g4 r4 => by
          cases r4
          exact ⟨true, rfl, iteF ⟨hσ2.elim fun o' h => ⟨o', .inl h⟩, (e.trans g3.hh).trans g4.hh⟩⟩⟩
    · have ei : i = ks.length := by omega
      subst ei
      refine .inl ⟨⟨hd, Nat.le_refl _⟩, hd, ?_⟩
      have g : Go B H B (upd H' d (.dK ks)) := ⟨fun a o ha => ?_, Evl.Ex.refl B, fun a o ha => ?_, fun _ _ _ n => n⟩
      · obtain ⟨o, h | h⟩ := hσ
        · rw [h]
          exact P B _ _ (SE.unset (S.mono g) 1 o)
        · rw [h]
          have z := SE.unset (S.mono g) 1 (σ[1]'(by rw [S.r.len]; exact hl))
          rw [List.set_getElem_self] at z
          exact P B _ _ z
      · by_cases h : a = d
        · subst h
          rw [upd_same, ← hH]
          exact ha
        · rw [upd_ne h]
          exact e a o (by rw [hf a h]; exact ha)
      · by_cases h : a = d
        · subst h
          rw [upd_same, ← hb]
          exact ha
        · rw [upd_ne h]
          exact e a o (by rw [hf a h]; exact S.r.bh a o ha)
end Gk

set_option maxHeartbeats 4000000
namespace Gk
open PySem PySem.Spec PyProof.Rows L2 Dl Ga
theorem evn_is {te : TE} {ρ : List Sl} {ds es : List Dat} (h : EVN te ρ ds) (q : ds = es) : EVN te ρ es := q ▸ h
theorem evl_is {te : TE} {ρ : List Sl} {ds es : List Dat} (h : EVL te ρ ds) (q : ds = es) : EVL te ρ es := q ▸ h
theorem map_str (l : List Nat) : l.map ltD = (l.map Ga.P).map Dat.str := by rw [List.map_map]; rfl
theorem lst_is {te : TE} {ρ : List Sl} {ds es : List Dat} (h : EV te ρ (.lst ds)) (q : ds = es) : EV te ρ (.lst es) := q ▸ h
/-- a walk that ends at the first find -/
theorem foldX_find {α S : Type} (h : α → Option Dat) (step : S → α → S ⊕ Dat) (hs : ∀ s a, step s a = match h a with
    | some d => .inr d
    | none => .inl s) : ∀ (xs : List α) (s : S), foldX step xs s = match xs.findSome? h with
    | some d => .inr d
    | none => .inl s
  | [], s => rfl
  | a :: xs, s => by
    have ih := foldX_find h step hs xs
    unfold foldX
    rw [hs, List.findSome?_cons]
    cases h a with
    | some d => rfl
    | none => exact ih s
def stepF {α S : Type} (h : α → Option Dat) (s : S) (a : α) : S ⊕ Dat := match h a with
  | some d => .inr d
  | none => .inl s
theorem stepF_some {α S : Type} {h : α → Option Dat} {s : S} {a : α} {d : Dat} (e : h a = some d) : stepF h s a = .inr d := by
  unfold stepF
  rw [e]
theorem stepF_none {α S : Type} {h : α → Option Dat} {s : S} {a : α} (e : h a = none) : stepF h s a = .inl s := by
  unfold stepF
  rw [e]
theorem foldX_some {α S : Type} {h : α → Option Dat} {xs : List α} {s : S} {d : Dat} (e : xs.findSome? h = some d) : foldX (stepF h) xs s = .inr d := by
  rw [foldX_find h (stepF h) (fun _ _ => rfl), e]
theorem foldX_none {α S : Type} {h : α → Option Dat} {xs : List α} {s : S} (e : xs.findSome? h = none) : foldX (stepF h) xs s = .inl s := by
  rw [foldX_find h (stepF h) (fun _ _ => rfl), e]
theorem foldX_all {α S : Type} (step : S → α → S ⊕ Dat) (g : S → α → S) (xs : List α) (hs : ∀ s a, a ∈ xs → step s a = .inl (g s a)) (s : S) : foldX step xs s = .inl (xs.foldl g s) := by
  induction xs generalizing s with
  | nil => rfl
  | cons a xs ih =>
    unfold foldX
    rw [hs s a List.mem_cons_self]
    exact ih (fun s b hb => hs s b (List.mem_cons_of_mem _ hb)) _
theorem sIx_nat {n i : Nat} (h : i ≤ n) : HT.sIx n n (some ((i : Nat) : Int)) = i := by
  have hneg : ¬ ((i : Int) < 0) := by omega
  unfold HT.sIx
  simp [hneg]
  omega
theorem cut_to {ds : List Dat} {i : Nat} (h : i ≤ ds.length) : Dl.cutD ds none (some (i : Int)) = ds.take i := by
  unfold Dl.cutD
  rw [sIx_nat h]
  have h0 : HT.sIx ds.length 0 none = 0 := rfl
  rw [h0, List.drop_zero, Nat.sub_zero]
end Gk

set_option maxHeartbeats 4000000
/-! the texts of rows; the rows of a book; dicts of dates -/
namespace Gk
open PySem PySem.Spec PyProof.Rows L2 Dl Ga
section
variable {K : PySem.W.Frag} {ρ : List Sl} {te : TE} {ts : List TE} {t : TE}
def EJ (ts : List TE) (ρ : List Sl) (acc out : Str) : Prop := ∀ (B H : Hp) (σ : L2.St), SR B H σ ρ → ∀ Q : Str → Hp → Prop, (∀ B2 H2, Go B H B2 H2 → Q out H2) → tJs ts acc σ H Q
theorem ej_nil {acc : Str} : EJ [] ρ acc acc := fun B H σ S Q q => q B H (Go.refl S.bh)
theorem ej_cons {l1 l2 : List Nat} {out : Str} (h : EV t ρ (.str (SX.S l2))) (hz : l1.length + l2.length ≤ 100000) (r : EJ ts ρ (SX.S (l1 ++ l2)) out) : EJ (t :: ts) ρ (SX.S l1) out := fun B H σ S Q q => h B H σ S _ fun v B1 H1 g1 r1 => by
  cases r1
  refine ⟨_, rfl, ?_, ?_⟩
  · rw [SX.S_cat, SX.S_len, List.length_append]
    exact sl_of hz
  · rw [SX.S_cat]
    exact r B1 H1 σ (S.mono g1) Q fun B2 H2 g2 => q B2 H2 (g1.trans g2)
theorem ev_joined {out : Str} (h : EJ ts ρ (SX.S []) out) : EV (fun σ H Q => tJs ts Str.empty σ H fun out H1 => Q (.str out) H1) ρ (.str out) := fun B H σ S Q q => h B H σ S (fun out H1 => Q (.str out) H1) fun B2 H2 g => q _ B2 H2 g (.str _)
theorem ev_fmtS {y : Str} (h : EV te ρ (.str y)) (hz : y.length ≤ 100000) : EV (tFmt te) ρ (.str y) := fun B H σ S Q q => h B H σ S _ fun v B1 H1 g1 r1 => by
  cases r1
  exact .inl ⟨y, rfl, sl_of hz, q _ B1 H1 g1 (.str y)⟩
theorem ev_fmt5 {n : Nat} (h : EV te ρ (.int (n : Nat))) (hn : n ≤ 6) : EV (tFmt5 te) ρ (.str (pad5 (n : Nat))) := fun B H σ S Q q => h B H σ S _ fun v B1 H1 g1 r1 => by
  cases r1
  exact ⟨n, rfl, hn, q _ B1 H1 g1 (.str _)⟩
end
def padL (n : Int) : List Nat := [48, 48, 48, 48, (48 + n).toNat]
def tillL : Option Int → List Nat
  | none => [120]
  | some t => padL t
def txt (r : Ga.Row) : Str := SX.S (((((([] ++ [97 + r.a]) ++ [32]) ++ [97 + r.b]) ++ [32]) ++ padL r.s) ++ [32] ++ tillL r.t)
theorem txt_inj {r r' : Ga.Row} (h : WR r) (h' : WR r') (e : txt r = txt r') : r = r' := by
  have e := SX.S_inj e
  obtain ⟨a, b, s, t⟩ := r
  obtain ⟨a', b', s', t'⟩ := r'
  have h1 := h.s
  have h1' := h'.s
  have h2 := h.t
  have h2' := h'.t
  simp only at h1 h1' h2 h2'
  cases t with
  | none =>
    cases t' with
    | none =>
      simp [padL, tillL] at e
      obtain ⟨e1, e2, e3⟩ := e
      have : s = s' := by omega
      subst e1 e2 this
      rfl
    | some t' =>
      simp [padL, tillL] at e
  | some t =>
    cases t' with
    | none => simp [padL, tillL] at e
    | some t' =>
      have := h2 t rfl
      have := h2' t' rfl
      simp [padL, tillL] at e
      obtain ⟨e1, e2, e3, e4⟩ := e
      have h5 : s = s' := by omega
      have h6 : t = t' := by omega
      subst e1 e2 h5 h6
      rfl
/-! ### a sorted permutation -/
open Classical in
noncomputable def srt (xs : List Str) : List Str := if h : ∃ zs : List Str, zs.Perm xs ∧ sortedS zs = true then h.choose else xs
theorem srt_perm (xs : List Str) : (srt xs).Perm xs := by
  unfold srt
  split
  · next h => exact h.choose_spec.1
  · exact List.Perm.refl _
theorem rise_all : ∀ (ss : List Str) (p : Str), risingS p ss = true → (p :: ss).Pairwise fun a b => ¬ b.cps.toList < a.cps.toList
  | [], p, _ => by simp
  | x :: ss, p, h => by
    have h2 : (!ltCps x.cps.toList p.cps.toList && risingS x ss) = true := h
    obtain ⟨a, b⟩ := Bool.and_eq_true_iff.mp h2
    have ih := rise_all ss x b
    have hpx : ¬ x.cps.toList < p.cps.toList := by
      rw [ltCps_eq] at a
      simpa using a
    refine List.pairwise_cons.mpr ⟨fun y hy => ?_, ih⟩
    rcases List.mem_cons.mp hy with z | z
    · subst z
      exact hpx
    · have hxy := (List.pairwise_cons.mp ih).1 y z
      intro hlt
      have h1 : p.cps.toList ≤ x.cps.toList := List.not_lt.mp hpx
      have h3 : x.cps.toList ≤ y.cps.toList := List.not_lt.mp hxy
      exact absurd hlt (List.not_lt.mpr (List.le_trans h1 h3))
theorem sorted_strict {zs : List Str} (h : sortedS zs = true) (nd : zs.Nodup) : zs.Pairwise fun a b => a.cps.toList < b.cps.toList := by
  have h1 : zs.Pairwise fun a b => ¬ b.cps.toList < a.cps.toList := by
    cases zs with
    | nil => exact .nil
    | cons z zs => exact rise_all zs z h
  refine (h1.and nd).imp fun {a b} ⟨x, y⟩ => ?_
  have z : a.cps.toList ≤ b.cps.toList := List.not_lt.mp x
  rcases List.le_iff_lt_or_eq.mp z with k | k
  · exact k
  · exact absurd (PySem.W.str_of_cps k) y
theorem srt_of {xs zs : List Str} (nd : xs.Nodup) (hp : zs.Perm xs) (hs : sortedS zs = true) : zs = srt xs := by
  have h : ∃ zs : List Str, zs.Perm xs ∧ sortedS zs = true := ⟨zs, hp, hs⟩
  have e : srt xs = h.choose := by
    unfold srt
    rw [dif_pos h]
  have hc := h.choose_spec
  rw [← e] at hc
  exact incr_ext (fun a b : Str => a.cps.toList < b.cps.toList) (fun a => List.lt_irrefl _) (fun a b c => List.lt_trans) (sorted_strict hs (hp.nodup_iff.mpr nd)) (sorted_strict hc.2 (hc.1.nodup_iff.mpr nd)) fun x => by rw [hp.mem_iff, hc.1.mem_iff]
/-! ### the rows of a book -/
noncomputable def bookRows (rs : List Ga.Row) : List Ga.Row := (srt (rs.map txt)).filterMap fun y => rs.find? fun r => decide (txt r = y)
theorem find_row {rs : List Ga.Row} (h : ∀ r ∈ rs, WR r) {r : Ga.Row} (m : r ∈ rs) : (rs.find? fun q => decide (txt q = txt r)) = some r := by
  cases e : rs.find? fun q => decide (txt q = txt r) with
  | none => exact absurd (decide_eq_true rfl) (List.find?_eq_none.mp e r m)
  | some q =>
    have hq := List.find?_some e
    have mq := List.mem_of_find?_eq_some e
    rw [txt_inj (h q mq) (h r m) (of_decide_eq_true hq)]
theorem mem_bookRows {rs : List Ga.Row} (h : ∀ r ∈ rs, WR r) {r : Ga.Row} : r ∈ bookRows rs ↔ r ∈ rs := by
  unfold bookRows
  rw [List.mem_filterMap]
  constructor
  · rintro ⟨y, _, e⟩
    exact List.mem_of_find?_eq_some e
  · intro m
    exact ⟨txt r, (srt_perm _).mem_iff.mpr (List.mem_map_of_mem m), find_row h m⟩
theorem bookRows_map {rs : List Ga.Row} (h : ∀ r ∈ rs, WR r) (f : Ga.Row → Dat) : (srt (rs.map txt)).map (fun y => match rs.find? fun r => decide (txt r = y) with
    | some r => f r
    | none => .non) = (bookRows rs).map f := by
  have key : ∀ ys : List Str, (∀ y ∈ ys, y ∈ rs.map txt) → ys.map (fun y => match rs.find? fun r => decide (txt r = y) with
    | some r => f r
    | none => .non) = (ys.filterMap fun y => rs.find? fun r => decide (txt r = y)).map f := fun ys => by
    induction ys with
    | nil => intro _; rfl
    | cons y ys ih =>
      intro hy
      obtain ⟨r, m, e⟩ := List.mem_map.mp (hy y List.mem_cons_self)
      subst e
      rw [List.map_cons, ih fun z hz => hy z (List.mem_cons_of_mem _ hz), List.filterMap_cons, find_row h m]
      rfl
  exact key _ fun y hy => (srt_perm _).mem_iff.mp hy
theorem bookRows_len (rs : List Ga.Row) : (bookRows rs).length ≤ rs.length := by
  have := (srt_perm (rs.map txt)).length_eq
  rw [List.length_map] at this
  exact Nat.le_trans (List.length_filterMap_le ..) (by omega)
/-! ### dicts by distinct keys -/
theorem put_new {kds : List (Key × Dat)} {k : Key} {d : Dat} (h : ∀ x ∈ kds, x.1 ≠ k) : putD kds k d = kds ++ [(k, d)] := by
  unfold putD
  rw [if_neg]
  intro z
  obtain ⟨y, hy, q⟩ := List.any_eq_true.mp z
  exact h y hy (of_decide_eq_true q)
theorem fold_put {α : Type} (key : α → Key) (val : α → Dat) : ∀ (xs : List α) (acc : List (Key × Dat)), (xs.map key).Nodup → (∀ a ∈ xs, ∀ x ∈ acc, x.1 ≠ key a) → xs.foldl (fun acc x => putD acc (key x) (val x)) acc = acc ++ xs.map fun x => (key x, val x)
  | [], acc, _, _ => by simp
  | a :: xs, acc, hn, hd => by
    obtain ⟨n1, n2⟩ := List.nodup_cons.mp hn
    rw [List.foldl_cons, put_new (hd a List.mem_cons_self), fold_put key val xs _ n2 fun b hb x hx => ?_]
    · simp
    · rcases List.mem_append.mp hx with z | z
      · exact hd b (List.mem_cons_of_mem _ hb) x z
      · rw [List.mem_singleton.mp z]
        exact fun e => n1 (List.mem_map.mpr ⟨b, hb, e.symm⟩)
/-- dates as keys -/
def kI (ks : List Int) : List (Key × Dat) := ks.map fun i => (.inl i, .bl true)
def addK (ks : List Int) (i : Int) : List Int := if i ∈ ks then ks else ks ++ [i]
theorem put_kI (ks : List Int) (i : Int) : putD (kI ks) (.inl i) (.bl true) = kI (addK ks i) := by
  unfold addK
  split
  · next h =>
    have h1 : ((kI ks).any fun x => decide (x.1 = (.inl i : Key))) = true := List.any_eq_true.mpr ⟨(.inl i, .bl true), List.mem_map.mpr ⟨i, h, rfl⟩, by simp⟩
    unfold putD
    rw [if_pos h1]
    unfold kI
    rw [List.map_map]
    apply List.map_congr_left
    intro j hj
    show (if ((Sum.inl j : Key)) = Sum.inl i then _ else _) = _
    split <;> rfl
  · next h =>
    rw [put_new]
    · unfold kI
      simp
    · intro x hx
      obtain ⟨j, hj, e⟩ := List.mem_map.mp hx
      subst e
      intro z
      exact h (Sum.inl.inj z ▸ hj)
theorem addK_nd {ks : List Int} (h : ks.Nodup) (i : Int) : (addK ks i).Nodup := by
  unfold addK
  split
  · exact h
  · next hn =>
    rw [List.nodup_append]
    exact ⟨h, nd_one _, fun a ha b hb e => hn (by rw [← List.mem_singleton.mp hb, ← e]; exact ha)⟩
theorem mem_addK {ks : List Int} {i j : Int} : j ∈ addK ks i ↔ j ∈ ks ∨ j = i := by
  unfold addK
  split
  · next h => exact ⟨.inl, fun z => z.elim id fun e => e ▸ h⟩
  · rw [List.mem_append, List.mem_singleton]
theorem addK_len (ks : List Int) (i : Int) : (addK ks i).length ≤ ks.length + 1 := by
  unfold addK
  split <;> simp
def rowK (ks : List Int) (r : Ga.Row) : List Int := match r.t with
  | none => addK ks r.s
  | some t => addK (addK ks r.s) (t + 1)
theorem fold_rowK : ∀ (rs : List Ga.Row) (ks : List Int), ks.Nodup → (rs.foldl rowK ks).Nodup ∧ (rs.foldl rowK ks).length ≤ ks.length + 2 * rs.length ∧ ∀ d, d ∈ rs.foldl rowK ks ↔ d ∈ ks ∨ ∃ r ∈ rs, d = r.s ∨ ∃ t, r.t = some t ∧ d = t + 1
  | [], ks, h => ⟨h, by simp, by simp⟩
  | r :: rs, ks, h => by
    have h1 : (rowK ks r).Nodup := by
      unfold rowK
      split
      · exact addK_nd h _
      · exact addK_nd (addK_nd h _) _
    have l1 : (rowK ks r).length ≤ ks.length + 2 := by
      unfold rowK
      split
      · have := addK_len ks r.s
        omega
      · next t _ =>
        have := addK_len ks r.s
        have := addK_len (addK ks r.s) (t + 1)
        omega
    have m1 : ∀ d, d ∈ rowK ks r ↔ d ∈ ks ∨ d = r.s ∨ ∃ t, r.t = some t ∧ d = t + 1 := fun d => by
      unfold rowK
      cases e : r.t with
      | none =>
        rw [mem_addK]
        exact ⟨fun z => z.imp id .inl, fun z => z.imp id fun z => z.elim id fun ⟨t, q, _⟩ => nomatch q⟩
      | some t =>
        show d ∈ addK (addK ks r.s) (t + 1) ↔ _
        rw [mem_addK, mem_addK]
        constructor
        · rintro ((z | z) | z)
          · exact .inl z
          · exact .inr (.inl z)
          · exact .inr (.inr ⟨t, rfl, z⟩)
        · rintro (z | z | ⟨t', q, z⟩)
          · exact .inl (.inl z)
          · exact .inl (.inr z)
          · cases q
            exact .inr z
    obtain ⟨a, b, c⟩ := fold_rowK rs (rowK ks r) h1
    refine ⟨a, ?_, fun d => ?_⟩
    · rw [List.foldl_cons, List.length_cons]
      omega
    · rw [List.foldl_cons, c d, m1 d]
      simp only [List.mem_cons, exists_eq_or_imp]
      exact or_assoc
theorem turns_sort {rs : List Ga.Row} (h : ∀ r ∈ rs, WR r) {zs : List Int} (hp : zs.Perm (rs.foldl rowK [0])) (hs : zs.Pairwise (· ≤ ·)) : zs = turns rs := by
  obtain ⟨a, b, c⟩ := fold_rowK rs [0] (nd_one 0)
  refine incr_int ?_ (turns_lt rs) fun d => ?_
  · exact (hs.and (hp.nodup_iff.mpr a)).imp fun {x y} ⟨u, v⟩ => by omega
  · rw [hp.mem_iff, c d, mem_turns h, List.mem_singleton]
end Gk
namespace Gk
open PySem PySem.Spec PyProof.Rows L2 Dl Ga
theorem val_txt (y : Str) : ∀ rs : List Ga.Row, valD (rs.map fun q => ((.inr (txt q) : Key), rowD q)) (.inr y) = (rs.find? fun q => decide (txt q = y)).map rowD
  | [] => rfl
  | q :: rs => by
    have ih := val_txt y rs
    unfold valD at ih ⊢
    rw [List.map_cons]
    by_cases h : txt q = y
    · rw [List.find?_cons_of_pos (by simpa using h), List.find?_cons_of_pos (by simpa using h)]
      rfl
    · rw [List.find?_cons_of_neg (by simpa using h), List.find?_cons_of_neg (by simpa using h)]
      exact ih
theorem ok_row {q : Ga.Row} (h : WR q) : Ok 1 (rowD q) := ok_tup fun d hd => by
  have := h.a
  have := h.b
  simp only [List.mem_cons, List.not_mem_nil, or_false] at hd
  rcases hd with rfl | rfl | rfl | rfl
  · exact ok_P (by omega)
  · exact ok_P (by omega)
  · exact ok_int
  · exact ok_opt _
theorem eqv_tup (xs ys : List Dat) : eqD (.tup xs) (.tup ys) = PyData.eqvAll (toPys xs) (toPys ys) := by
  unfold eqD
  show PyData.eqv (.tuple (toPys xs)) (.tuple (toPys ys)) = _
  rw [PyData.eqv]
theorem eqv_all (x y : Dat) (xs ys : List Dat) : PyData.eqvAll (toPys (x :: xs)) (toPys (y :: ys)) = (eqD x y && PyData.eqvAll (toPys xs) (toPys ys)) := by
  show PyData.eqvAll (toPy x :: toPys xs) (toPy y :: toPys ys) = _
  rw [PyData.eqvAll]
  rfl
theorem eqv_nil : PyData.eqvAll (toPys []) (toPys []) = true := by
  show PyData.eqvAll [] [] = true
  rw [PyData.eqvAll]
theorem eqD_lt (m n : Nat) : eqD (ltD m) (ltD n) = decide (m = n) := by
  unfold eqD
  show PyData.eqv (.str (Ga.P m)) (.str (Ga.P n)) = _
  rw [PyData.eqv]
  by_cases h : m = n
  · subst h
    simp
  · have hn : Ga.P m ≠ Ga.P n := fun z => h (P_inj z)
    simp [h, hn]
theorem eqD_int (m n : Int) : eqD (.int m) (.int n) = decide (m = n) := by
  unfold eqD
  show PyData.eqv (.int m) (.int n) = _
  rw [PyData.eqv]
  by_cases h : m = n
  · subst h
    simp
  · simp [h]
theorem eqD_opt (s t : Option Int) : eqD (optD s) (optD t) = decide (s = t) := by
  cases s with
  | none =>
    cases t with
    | none => unfold eqD; show PyData.eqv .none .none = _; rw [PyData.eqv]; rfl
    | some t => unfold eqD; show PyData.eqv .none (.int t) = _; simp [PyData.eqv]
  | some s =>
    cases t with
    | none => unfold eqD; show PyData.eqv (.int s) .none = _; simp [PyData.eqv]
    | some t =>
      show eqD (.int s) (.int t) = _
      rw [eqD_int]
      by_cases h : s = t <;> simp [h]
theorem eqD_row (q q' : Ga.Row) : eqD (rowD q) (rowD q') = decide (q = q') := by
  unfold rowD
  rw [eqv_tup, eqv_all, eqv_all, eqv_all, eqv_all, eqv_nil, eqD_lt, eqD_lt, eqD_int, eqD_opt]
  obtain ⟨a, b, s, t⟩ := q
  obtain ⟨a', b', s', t'⟩ := q'
  rw [Bool.and_true, ← Bool.decide_and, ← Bool.decide_and, ← Bool.decide_and]
  apply decide_eq_decide.mpr
  constructor
  · rintro ⟨rfl, rfl, rfl, rfl⟩
    rfl
  · intro h
    cases h
    exact ⟨rfl, rfl, rfl, rfl⟩
end Gk

set_option maxHeartbeats 4000000
namespace Gk
open PySem PySem.Spec PyProof.Rows L2 Dl Ga
section
variable {pg : Program} {w : World} {K : PySem.W.Frag} {mg : Str → Option Value} {base : Heap}
local macro_rules | `(tactic| trivial) => `(tactic| first
  | with_reducible exact ev_int
  | with_reducible exact ev_str
  | with_reducible exact ev_bl
  | with_reducible exact ev_non
  | ((with_reducible apply ev_var) <;> rfl)
  | ((with_reducible apply evl_var) <;> rfl)
  | with_reducible exact eo_none
  | with_reducible apply eo_some
  | with_reducible apply ev_add
  | with_reducible apply ev_sub
  | with_reducible apply ev_cmp
  | with_reducible apply ev_chain rfl rfl
  | with_reducible apply ev_and
  | with_reducible apply ev_or
  | with_reducible apply ev_not
  | with_reducible apply ev_isN
  | with_reducible apply ev_notN
  | with_reducible apply ea_cons
  | with_reducible exact ea_nil
  | with_reducible apply et_B
  | with_reducible apply et_test
  | with_reducible apply et_not
  | with_reducible apply et_and
  | with_reducible apply et_or
  | with_reducible apply ev_ixT
  | with_reducible apply ev_tup
  | with_reducible apply ev_int1
  | with_reducible apply ev_str1
  | with_reducible apply isi_int_int
  | with_reducible apply isi_int_bool
  | with_reducible apply isi_str_str
  | with_reducible apply isi_tup_tup
  | with_reducible apply isi_lst_lst
  | with_reducible apply isi_dic_dic
  | with_reducible exact et_yes
  | intro _)
abbrev N_is_word : List Str := ["value", "sign"]
theorem sc_is_word : FnScope N_is_word ["value"] (defScope s_is_word) := C8.fnScope_by (by decide +kernel)
def R_is_word (ds : List Dat) (r : Dat) : Prop := ∃ n : Nat, n < 26 ∧ ds = [ltD n] ∧ r = .bl true
theorem sign_ok (n : Nat) (h : n < 26) : decide (97 + n ∈ (Str.ofString "abcdefghijklmnopqrstuvwxyz").cps.toList) = true := by
  have : ∀ n : Fin 26, decide (97 + n.val ∈ (Str.ofString "abcdefghijklmnopqrstuvwxyz").cps.toList) = true := by decide +kernel
  exact this ⟨n, h⟩
theorem p_is_word (T : Tx K mg) : Ca pg w K mg base 1 "is_word" R_is_word := by
  obtain ⟨fd, F⟩ := T.d_is_word
  refine mkC (d := d_is_word) F T.g_is_word (F.bindsN (ps := ["value"]) fun kV doc pm an cdv ct us h => by
    match us, h with
    | [a], _ => rfl) sc_is_word (by
    rintro ds r ⟨n, hn, rfl, rfl⟩
    rfl) ?_
  rintro cdv A outer s H E hr ds r ⟨n, hn, rfl, rfl⟩
  refine ⟨_, (pss_cons (ps_if (PW.pt (pw_or (pt_not (pt_val (pe_callB (call_isiK2 (K := K)) (by rfl) T.f_isinstance bo_isi (pa_cons (pv 0) (pa_cons (pe_ty "str" (by rfl) T.f_str bo_str) pa_nil))))) (pw_or1 (pt_not (pt_chain op_le op_le pe_int (pe_callB call_len_str (by rfl) T.f_len PySem.boot_len (pa_cons (pv 0) pa_nil)) (C8.pe_gc (by rfl) T.g_MOST_LETTERS)))))) (pss_one (ps_ret pe_bl)) pss_nil)
      (pss_one (ps_ret (pe_callB (cr_allK (K := K) rfl) (by rfl) T.f_all bo_all (pa_cons (pe_lc rfl sc_is_word.nd (pi_str (pv 0)) (blkOk_by (own := [("sign", 1)]) (N := N_is_word) (sc := defScope s_is_word) (by decide +kernel)) (fun _ _ _ _ _ => (pg_name (i := 1) sc_is_word.nd rfl (by first | exact Or.inl rfl | exact Or.inr rfl))) (fun _ _ _ _ _ => pts_nil) (fun _ _ _ _ _ => (pe_cmpR op_in_sign (pv 1) (C8.pe_gc (by rfl) T.g_LETTERS) rfl))) pa_nil))))), .inl ?_⟩
  refine st_seqIf (b := false) ?_ (fun h => nomatch h) fun _ => st_seqNext (st_ret (ev_is (d := .bl true) ?_ rfl))
  · refine et_is (b := !true || !(decide ((1 : Int) ≤ (Ga.P n).length) && decide (((Ga.P n).length : Int) ≤ 8))) ?_ rfl
    refine et_or (et_not (et_B (isi_str_str (ev_var rfl)))) fun _ => et_not (et_B (ev_chain rfl rfl ev_int (ev_len1 (ev_var rfl) (show (1 : Nat) ≤ 100000 by decide)) ev_int))
  · refine ev_is (d := .bl ((([n].filter fun _ => true).map fun _ => true).all id)) (ev_all (bs := ([n].filter fun _ => true).map fun _ => true) (ea_cons ?_ ea_nil)) rfl
    rw [List.map_map]
    refine (evn_lc (vs := [1]) [n] ltD (fun _ => true) (fun _ => .bl true) (it_str (s := Ga.P n) (ev_var rfl)).o (by simp) fun x hx => ?_).ev
    obtain rfl := List.mem_singleton.mp hx
    refine ⟨_, _, gt_name, fun i hi => hi, et_yes, fun _ => ev_is (ev_inSign (c := 97 + x) (ev_var rfl) ev_str) ?_⟩
    congr 1
    exact sign_ok x hn

abbrev N_is_integer : List Str := ["value", "lowest", "highest"]
theorem sc_is_integer : FnScope N_is_integer ["value", "lowest", "highest"] (defScope s_is_integer) := C8.fnScope_by (by decide +kernel)
def R_is_integer (ds : List Dat) (r : Dat) : Prop := ∃ v lo hi : Int, ds = [.int v, .int lo, .int hi] ∧ r = .bl (decide (lo ≤ v) && decide (v ≤ hi))
theorem p_is_integer (T : Tx K mg) : Ca pg w K mg base 1 "is_integer" R_is_integer := by
  obtain ⟨fd, F⟩ := T.d_is_integer
  refine mkC (d := d_is_integer) F T.g_is_integer (F.bindsN (ps := ["value", "lowest", "highest"]) fun kV doc pm an cdv ct us h => by
    match us, h with
    | [a, b, c], _ => rfl) sc_is_integer (by
    rintro ds r ⟨v, lo, hi, rfl, rfl⟩
    rfl) ?_
  rintro cdv A outer s H E hr ds r ⟨v, lo, hi, rfl, rfl⟩
  refine ⟨_, (pss_one (ps_ret (pe_and (pe_callB (call_isiK2 (K := K)) (by rfl) T.f_isinstance bo_isi (pa_cons (pv 0) (pa_cons (pe_ty "int" (by rfl) T.f_int bo_int) pa_nil))) (pe_and (pe_not (pe_callB (call_isiK2 (K := K)) (by rfl) T.f_isinstance bo_isi (pa_cons (pv 0) (pa_cons (pe_ty "bool" (by rfl) T.f_bool bo_bool) pa_nil)))) (pe_one (pe_chain op_le op_le (pv 1) (pv 0) (pv 2))))))), .inl ?_⟩
  refine st_ret (ev_is (d := .bl (true && (!false && (decide (lo ≤ v) && decide (v ≤ hi))))) ?_ rfl)
  repeat' trivial

abbrev N_is_date : List Str := ["value"]
theorem sc_is_date : FnScope N_is_date ["value"] (defScope s_is_date) := C8.fnScope_by (by decide +kernel)
def R_is_date (ds : List Dat) (r : Dat) : Prop := ∃ v : Int, 0 ≤ v ∧ v ≤ 9999 ∧ ds = [.int v] ∧ r = .bl true
theorem p_is_date (T : Tx K mg) (c_is_integer : Ca pg w K mg base 1 "is_integer" R_is_integer) : Ca pg w K mg base 2 "is_date" R_is_date := by
  obtain ⟨fd, F⟩ := T.d_is_date
  refine mkC (d := d_is_date) F T.g_is_date (F.bindsN (ps := ["value"]) fun kV doc pm an cdv ct us h => by
    match us, h with
    | [a], _ => rfl) sc_is_date (by
    rintro ds r ⟨v, h0, h1, rfl, rfl⟩
    rfl) ?_
  rintro cdv A outer s H E hr ds r ⟨v, h0, h1, rfl, rfl⟩
  refine ⟨_, (pss_one (ps_ret (C8.pe_c c_is_integer hr (by decide) (by rfl) (pa_cons (pv 0) (pa_cons pe_int (pa_cons (C8.pe_gc (by rfl) T.g_LAST_DATE) pa_nil)))))), .inl ?_⟩
  refine st_ret (ev_call (ds := [.int v, .int 0, .int 9999]) (by repeat' trivial) ⟨v, 0, 9999, rfl, ?_⟩)
  rw [decide_eq_true h0, decide_eq_true h1]
  rfl

abbrev N_check_date : List Str := ["value"]
theorem sc_check_date : FnScope N_check_date ["value"] (defScope s_check_date) := C8.fnScope_by (by decide +kernel)
def R_check_date (ds : List Dat) (r : Dat) : Prop := ∃ v : Int, 0 ≤ v ∧ v ≤ 9999 ∧ ds = [.int v] ∧ r = .non
theorem p_check_date (T : Tx K mg) (c_is_date : Ca pg w K mg base 2 "is_date" R_is_date) : Ca pg w K mg base 3 "check_date" R_check_date := by
  obtain ⟨fd, F⟩ := T.d_check_date
  refine mkC (d := d_check_date) F T.g_check_date (F.bindsN (ps := ["value"]) fun kV doc pm an cdv ct us h => by
    match us, h with
    | [a], _ => rfl) sc_check_date (by
    rintro ds r ⟨v, h0, h1, rfl, rfl⟩
    rfl) ?_
  rintro cdv A outer s H E hr ds r ⟨v, h0, h1, rfl, rfl⟩
  refine ⟨_, (pss_one (ps_if (pt_not (pt_val (C8.pe_c c_is_date hr (by decide) (by rfl) (pa_cons (pv 0) pa_nil)))) (pss_one ps_never) pss_nil)), .inr ⟨rfl, ?_⟩⟩
  exact ⟨_, st_if (b := !true) (et_not (et_B (ev_call (ds := [.int v]) (by repeat' trivial) ⟨v, h0, h1, rfl, rfl⟩))) (fun h => nomatch h) fun _ => st_next⟩

abbrev N_ascending : List Str := ["words", "word"]
theorem sc_ascending : FnScope N_ascending ["words"] (defScope s_ascending) := C8.fnScope_by (by decide +kernel)
def R_ascending (ds : List Dat) (r : List Dat) : Prop := ∃ ns : List Nat, ns.length < 64 ∧ (∀ n ∈ ns, n < 26) ∧ ds = [.lst (ns.map ltD)] ∧ r = (asc ns).map ltD
theorem p_ascending (T : Tx K mg) : C8.Cal pg w K mg base 1 "ascending" (spN R_ascending) [] := by
  obtain ⟨fd, F⟩ := T.d_ascending
  refine mkN (d := d_ascending) F T.g_ascending (F.bindsN (ps := ["words"]) fun kV doc pm an cdv ct us h => by
    match us, h with
    | [a], _ => rfl) sc_ascending (by
    rintro ds r ⟨ns, hl, hn, rfl, rfl⟩
    rfl) ?_
  rintro cdv A outer s H E hr ds r ⟨ns, hl, hn, rfl, rfl⟩
  refine ⟨_, (pss_one (ps_ret (pe_callB (Ts.cr_sortT rfl) (by rfl) T.f_sorted bo_sorted (pa_cons (Ts.pe_ts rfl sc_ascending.nd (pi_listK (K := K) (pv 0)) (blkOk_by (own := [("word", 1)]) (N := N_ascending) (sc := defScope s_ascending) (by decide +kernel)) (fun _ _ _ _ _ => (pg_name (i := 1) sc_ascending.nd rfl (by first | exact Or.inl rfl | exact Or.inr rfl))) (fun _ _ _ _ _ => pts_nil) (fun _ _ _ _ _ => (pe_callTy SkE.call_str_str (by rfl) T.f_str bo_str (pa_cons (pv 1) pa_nil))) (fun _ => rfl)) pa_nil)))), ?_⟩
  have e : (asc ns).map ltD = ((asc ns).map Ga.P).map .str := by rw [List.map_map]; rfl
  rw [e]
  refine st_retN (evn_sortSet (vs := [1]) ns ltD Ga.P (it_list (ev_var rfl)).o hl (fun x hx => ⟨_, _, gt_name, fun i hi => hi, et_yes, by repeat' trivial⟩) fun l zs nd hm hp hs => ?_)
  exact asc_of (hp.nodup_iff.mpr nd) hs (fun y => by rw [hp.mem_iff, hm]) hn

end
end Gk

set_option maxHeartbeats 4000000
namespace Gk
open PySem PySem.Spec PyProof.Rows L2 Dl Ga
section
variable {pg : Program} {w : World} {K : PySem.W.Frag} {mg : Str → Option Value} {base : Heap}
local macro_rules | `(tactic| trivial) => `(tactic| first
  | with_reducible exact ev_int
  | with_reducible exact ev_str
  | with_reducible exact ev_bl
  | with_reducible exact ev_non
  | ((with_reducible apply ev_var) <;> rfl)
  | ((with_reducible apply evl_var) <;> rfl)
  | with_reducible exact eo_none
  | with_reducible apply eo_some
  | with_reducible apply ev_add
  | with_reducible apply ev_sub
  | with_reducible apply ev_cmp
  | with_reducible apply ev_chain rfl rfl
  | with_reducible apply ev_and
  | with_reducible apply ev_or
  | with_reducible apply ev_not
  | with_reducible apply ev_isN
  | with_reducible apply ev_notN
  | with_reducible apply ea_cons
  | with_reducible exact ea_nil
  | with_reducible apply et_B
  | with_reducible apply et_test
  | with_reducible apply et_not
  | with_reducible apply et_and
  | with_reducible apply et_or
  | with_reducible apply ev_ixT
  | with_reducible apply ev_tup
  | with_reducible apply ev_int1
  | with_reducible apply ev_str1
  | with_reducible apply isi_int_int
  | with_reducible apply isi_int_bool
  | with_reducible apply isi_str_str
  | with_reducible apply isi_tup_tup
  | with_reducible apply isi_lst_lst
  | with_reducible apply isi_dic_dic
  | with_reducible exact et_yes
  | intro _)
abbrev N_is_order : List Str := ["value", "part", "index"]
theorem sc_is_order : FnScope N_is_order ["value"] (defScope s_is_order) := C8.fnScope_by (by decide +kernel)
def R_is_order (ds : List Dat) (r : Dat) : Prop := ∃ l : List Nat, l.Nodup ∧ (∀ n ∈ l, n < 26) ∧ l.length ≤ 1000 ∧ ds = [.otp (l.map Ga.P)] ∧ r = .bl true
theorem p_is_order (T : Tx K mg) (c_is_word : Ca pg w K mg base 1 "is_word" R_is_word) : Ca pg w K mg base 2 "is_order" R_is_order := by
  obtain ⟨fd, F⟩ := T.d_is_order
  refine mkC (d := d_is_order) F T.g_is_order (F.bindsN (ps := ["value"]) fun kV doc pm an cdv ct us h => by
    match us, h with
    | [a], _ => rfl) sc_is_order (by
    rintro ds r ⟨l, nd, hn, hl, rfl, rfl⟩
    rfl) ?_
  rintro cdv A outer s H E hr ds r ⟨l, nd, hn, hl, rfl, rfl⟩
  refine ⟨_, (pss_cons (ps_if (PW.pt (pw_or (pt_not (pt_val (pe_callB (call_isiK2 (K := K)) (by rfl) T.f_isinstance bo_isi (pa_cons (pv 0) (pa_cons (pe_ty "tuple" (by rfl) T.f_tuple bo_tuple) pa_nil))))) (pw_or1 (pt_not (pt_val (pe_callB (cr_allK (K := K) rfl) (by rfl) T.f_all bo_all (pa_cons (pe_lc rfl sc_is_order.nd (pi_tupK (K := K) (pv 0)) (blkOk_by (own := [("part", 1)]) (N := N_is_order) (sc := defScope s_is_order) (by decide +kernel)) (fun _ _ _ _ _ => (pg_name (i := 1) sc_is_order.nd rfl (by first | exact Or.inl rfl | exact Or.inr rfl))) (fun _ _ _ _ _ => pts_nil) (fun _ _ _ _ _ => (C8.pe_c c_is_word hr (by decide) (by rfl) (pa_cons (pv 1) pa_nil)))) pa_nil))))))) (pss_one (ps_ret pe_bl)) pss_nil)
      (pss_one (ps_ret (pe_callB (cr_allK (K := K) rfl) (by rfl) T.f_all bo_all (pa_cons (pe_lc rfl sc_is_order.nd (Ot.pi_enumT (by rfl) T.f_enumerate (pa_cons (pv 0) pa_nil)) (blkOk_by (own := [("index", 2), ("part", 1)]) (N := N_is_order) (sc := defScope s_is_order) (by decide +kernel)) (fun _ _ _ _ _ => (pg_tupK (K := K) (n := 2) rfl (pgs_cons (pg_name (i := 2) sc_is_order.nd rfl (by first | exact Or.inl rfl | exact Or.inr rfl)) (pgs_cons (pg_name (i := 1) sc_is_order.nd rfl (by first | exact Or.inl rfl | exact Or.inr rfl)) pgs_nil)))) (fun _ _ _ _ _ => pts_nil) (fun _ _ _ _ _ => (pe_cmpR (op_notIn_seqK (K := K)) (pv 1) (pe_slice (sl_tupAK (K := K)) (pv 0) po_none (po_some (pv 2))) (by rfl)))) pa_nil))))), .inl ?_⟩
  have e1 : (l.map Ga.P).map Dat.str = l.map ltD := by rw [List.map_map]; rfl
  refine st_seqIf (b := !true || !true) (et_or (et_not (et_B (isi_otp_tup (ev_var rfl)))) fun _ => et_not (et_B ?_)) (fun h => nomatch h) fun _ => st_seqNext (st_ret ?_)
  · refine ev_is (ev_allc (vs := [1]) l ltD (fun _ => true) (e1 ▸ (it_otp (ev_var rfl)).o) (by omega) fun x hx => ⟨_, _, gt_name, fun i hi => hi, et_yes, ev_call (ds := [ltD x]) (by repeat' trivial) ⟨x, hn x hx, rfl, rfl⟩⟩) ?_
    simp
  · have e2 : enumD ((l.map Ga.P).map Dat.str) = l.zipIdx.map fun p => Dat.tup [.int (p.2 : Nat), ltD p.1] := by
      rw [e1]
      simp [enumD, List.zipIdx_map, Function.comp_def]
    refine ev_is (ev_allc (vs := [2, 1]) l.zipIdx (fun p => .tup [.int (p.2 : Nat), ltD p.1]) (fun _ => true) (e2 ▸ (Ot.it_enumO (ea_cons (ev_var rfl) ea_nil)).o) (by simp; omega) fun x hx => ⟨_, _, gt_tup (is := [2, 1]) rfl rfl rfl, fun i hi => hi, et_yes, ev_is (ev_niSlO (xs := l.map Ga.P) (hi := some (x.2 : Nat)) (by repeat' trivial) (by repeat' trivial) (by repeat' trivial)) ?_⟩) ?_
    · have hi := List.mem_zipIdx hx
      obtain ⟨h1, h2, h3⟩ := hi
      have es : HT.sIx (l.map Ga.P).length (l.map Ga.P).length (some ((x.2 : Nat) : Int)) = x.2 := by
        have hneg : ¬ ((x.2 : Int) < 0) := by omega
        unfold HT.sIx
        simp [hneg]
        omega
      rw [es]
      congr 1
      rw [Bool.not_eq_true', decide_eq_false_iff_not, ← List.map_take, P_mem]
      intro hm
      obtain ⟨j, hj, e⟩ := List.mem_iff_getElem.mp hm
      rw [List.length_take] at hj
      rw [List.getElem_take] at e
      have hj2 : j < x.2 := by
        have := List.length_take (i := x.2) (l := l)
        omega
      have hx2 : x.2 < l.length := by omega
      refine List.pairwise_iff_getElem.mp nd j x.2 (by omega) hx2 hj2 (e.trans ?_)
      rw [h3]
      congr 1
    · simp

abbrev N_Rule_order : List Str := ["self", "word"]
theorem sc_Rule_order : FnScope N_Rule_order ["self", "word"] (defScope s_Rule_order) := C8.fnScope_by (by decide +kernel)
def R_Rule_order (K : PySem.W.Frag) (ds : List Dat) (r : Dat) : Prop := ∃ (r0 : Rul) (v : Nat), WO r0.os ∧ v < 26 ∧ ds = [ruleI K r0, ltD v] ∧ r = (ordDat r0.os v).getD (.tup [])
theorem p_Rule_order (T : Tx K mg) (c_is_word : Ca pg w K mg base 1 "is_word" R_is_word) : C8.Met pg w K mg base 2 (He.ga K "Rule") "order" (spD (R_Rule_order K)) [] := by
  obtain ⟨fd, F⟩ := T.d_Rule_order
  refine mkM (d := d_Rule_order) T.cls_Rule T.me_order F (F.bindsN (ps := ["self", "word"]) fun kV doc pm an cdv ct us h => by
    match us, h with
    | [a, b], _ => rfl) sc_Rule_order (by
    rintro ds r ⟨r0, v, ho, hv, rfl, rfl⟩
    rfl) ?_
  rintro cdv A outer s H E hr ds r ⟨r0, v, ho, hv, rfl, rfl⟩
  refine ⟨_, (pss_one (ps_ret (pe_ifExp (PW.pt (pw_and (pt_val (C8.pe_c c_is_word hr (by decide) (by rfl) (pa_cons (pv 1) pa_nil))) (pw_and1 (pt_cmp (pc_din (hu1 hr) (pv 1) (pe_fldK (K := K) (pv 0) rfl)))))) (pe_dget (hu1 hr) (pe_fldK (K := K) (pv 0) rfl) (pv 1) (fun _ _ => rfl)) (pe_tup pa_nil)))), .inl ?_⟩
  refine st_ret (ev_if (b := true && ((ordD r0.os).lookup (Ga.P v)).isSome) (et_and (et_B (ev_call (ds := [ltD v]) (by repeat' trivial) ⟨v, hv, rfl, rfl⟩)) fun _ => et_test (ev_din (ev_var rfl) (ev_fld (ev_var rfl) T.cls_Rule T.no_own_orders rfl))) (fun h => ?_) fun h => ?_)
  · rw [look_ord] at h
    cases e : ordDat r0.os v with
    | none => rw [e] at h; cases h
    | some d => exact ev_dget (ev_fld (ev_var rfl) T.cls_Rule T.no_own_orders rfl) (ev_var rfl) (by rw [look_ord, e]; rfl)
  · rw [look_ord] at h
    cases e : ordDat r0.os v with
    | none => exact ev_tup ea_nil
    | some d => rw [e] at h; cases h

abbrev N_Rule_rank : List Str := ["self", "word", "part", "parts"]
theorem sc_Rule_rank : FnScope N_Rule_rank ["self", "word", "part"] (defScope s_Rule_rank) := C8.fnScope_by (by decide +kernel)
def R_Rule_rank (K : PySem.W.Frag) (ds : List Dat) (r : Dat) : Prop := ∃ (r0 : Rul) (v p : Nat), WO r0.os ∧ v < 26 ∧ p < 4 ∧ ds = [ruleI K r0, ltD v, ltD p] ∧ r = .tup [.int (rkA r0.os v p), .str (rkB r0.os v p)]
theorem p_Rule_rank (T : Tx K mg) (m_order : C8.Met pg w K mg base 2 (He.ga K "Rule") "order" (spD (R_Rule_order K)) []) : C8.Met pg w K mg base 3 (He.ga K "Rule") "rank" (spD (R_Rule_rank K)) [] := by
  obtain ⟨fd, F⟩ := T.d_Rule_rank
  refine mkM (d := d_Rule_rank) T.cls_Rule T.me_rank F (F.bindsN (ps := ["self", "word", "part"]) fun kV doc pm an cdv ct us h => by
    match us, h with
    | [a, b, c], _ => rfl) sc_Rule_rank (by
    rintro ds r ⟨r0, v, p, ho, hv, hp, rfl, rfl⟩
    rfl) ?_
  rintro cdv A outer s H E hr ds r ⟨r0, v, p, ho, hv, hp, rfl, rfl⟩
  refine ⟨_, (pss_cons (ps_set (i := 3) sc_Rule_rank.nd rfl (by first | exact Or.inl rfl | exact Or.inr rfl) (C8.pe_mt m_order hr (by decide) (pv 0) (pa_cons (pv 1) pa_nil)))
      (pss_one (ps_ret (pe_ifExp (pt_cmpR (op_in_seqK (K := K)) (pv 2) (pv 3) (by rfl)) (pe_tup (pa_cons (Ot.pe_tidx (pv 3) (pa_cons (pv 2) pa_nil)) (pa_cons pe_str pa_nil))) (pe_tup (pa_cons (pe_callB (call_lenK (K := K)) (by rfl) T.f_len PySem.boot_len (pa_cons (pv 3) pa_nil)) (pa_cons (pe_callTy SkE.call_str_str (by rfl) T.f_str bo_str (pa_cons (pv 2) pa_nil)) pa_nil))))))), .inl ?_⟩
  refine st_seq (st_asg (ev_meth (ds := [ltD v]) (ev_var rfl) rfl (by repeat' trivial) ⟨r0, v, ho, hv, rfl, rfl⟩)) (st_ret ?_)
  cases e : r0.os.find? fun o => decide (o.1 = v) with
  | none =>
    have h1 : ordOf r0.os v = [] := by unfold ordOf; rw [e]
    have h2 : ordDat r0.os v = none := by unfold ordDat; rw [e]; rfl
    have h3 : rkA r0.os v p = 0 := by unfold rkA; rw [h1]; simp
    have h4 : rkB r0.os v p = Ga.P p := by unfold rkB; rw [h1]; simp
    rw [h2, h3, h4]
    exact ev_if (b := decide (Ga.P p ∈ ([] : List Str))) (et_test (ev_inST (xs := []) (ev_var rfl) (ev_var rfl))) (fun h => by simp at h) fun _ => ev_is (ev_tup (ea_cons (ev_lenT (ds := []) (ev_var rfl)) (ea_cons (ev_str1 (ea_cons (ev_var rfl) ea_nil)) ea_nil))) rfl
  | some o =>
    have h1 : ordOf r0.os v = o.2 := by unfold ordOf; rw [e]
    have h2 : ordDat r0.os v = some (.otp (o.2.map Ga.P)) := by unfold ordDat; rw [e]; rfl
    have nd := (ordOf_mem (w := v) ho).1
    rw [h1] at nd
    rw [h2]
    refine ev_if (b := decide (Ga.P p ∈ o.2.map Ga.P)) (et_test (ev_inSO (ev_var rfl) (ev_var rfl))) (fun h => ?_) fun h => ?_
    · have hm : p ∈ o.2 := P_mem.mp (of_decide_eq_true h)
      have hi := List.idxOf_lt_length_iff.mpr hm
      have h3 : rkA r0.os v p = (o.2.idxOf p : Nat) := by unfold rkA; rw [h1, if_pos hm]
      have h4 : rkB r0.os v p = "" := by unfold rkB; rw [h1, if_pos hm]
      rw [h3, h4]
      refine ev_is (ev_tup (ea_cons (Ot.ev_tidx (xs := o.2.map Ga.P) (z := Ga.P p) (j := o.2.idxOf p) (ev_var rfl) (ev_var rfl) ?_ ?_) (ea_cons ev_str ea_nil))) rfl
      · rw [List.getElem?_map, List.getElem?_eq_getElem hi, List.getElem_idxOf hi]
        rfl
      · intro m hm2 he
        rw [List.getElem?_map] at he
        have hml : m < o.2.length := by omega
        rw [List.getElem?_eq_getElem hml] at he
        have he : Ga.P o.2[m] = Ga.P p := Option.some.inj he
        have he := P_inj he
        exact List.pairwise_iff_getElem.mp nd m (o.2.idxOf p) hml hi hm2 (he.trans (List.getElem_idxOf hi).symm)
    · have hm : p ∉ o.2 := fun z => by
        rw [decide_eq_true (P_mem.mpr z)] at h
        cases h
      have h3 : rkA r0.os v p = (o.2.length : Nat) := by unfold rkA; rw [h1, if_neg hm]
      have h4 : rkB r0.os v p = Ga.P p := by unfold rkB; rw [h1, if_neg hm]
      rw [h3, h4]
      exact ev_is (ev_tup (ea_cons (ev_lenO (ev_var rfl)) (ea_cons (ev_str1 (ea_cons (ev_var rfl) ea_nil)) ea_nil))) (by rw [List.length_map])

abbrev N_Rule_measure : List Str := ["self", "place", "unit", "word", "plain", "part", "day", "rank"]
theorem sc_Rule_measure : FnScope N_Rule_measure ["self", "place", "unit"] (defScope s_Rule_measure) := C8.fnScope_by (by decide +kernel)
def R_Rule_measure (K : PySem.W.Frag) (ds : List Dat) (r : Dat) : Prop := ∃ (r0 : Rul) (x : Plc) (p : Nat) (d : Int), WO r0.os ∧ WP x ∧ p < 4 ∧ ds = [ruleI K r0, plcD x, .tup [ltD p, .int d]] ∧ r = .tup (mD r0 x p d)
theorem p_Rule_measure (T : Tx K mg) (m_rank : C8.Met pg w K mg base 3 (He.ga K "Rule") "rank" (spD (R_Rule_rank K)) []) : C8.Met pg w K mg base 4 (He.ga K "Rule") "measure" (spD (R_Rule_measure K)) [] := by
  obtain ⟨fd, F⟩ := T.d_Rule_measure
  refine mkM (d := d_Rule_measure) T.cls_Rule T.me_measure F (F.bindsN (ps := ["self", "place", "unit"]) fun kV doc pm an cdv ct us h => by
    match us, h with
    | [a, b, c], _ => rfl) sc_Rule_measure (by
    rintro ds r ⟨r0, x, p, d, ho, hx, hp, rfl, rfl⟩
    rfl) ?_
  rintro cdv A outer s H E hr ds r ⟨r0, x, p, d, ho, hx, hp, rfl, rfl⟩
  refine ⟨_, (pss_cons (ps_par (i := 3) (j := 4) (by rfl) sc_Rule_measure.nd rfl rfl (by decide) rfl rfl (pa_cons (pe_ix (ix_tupK (K := K)) (pv 1) pe_int (fun _ _ => rfl)) (pa_cons (pe_ix (ix_tupK (K := K)) (pv 1) pe_int (fun _ _ => rfl)) pa_nil)) (by rfl))
      (pss_cons (ps_asg (pv 2) (pg_tupK (K := K) (n := 2) rfl (pgs_cons (pg_name (i := 5) sc_Rule_measure.nd rfl (by first | exact Or.inl rfl | exact Or.inr rfl)) (pgs_cons (pg_name (i := 6) sc_Rule_measure.nd rfl (by first | exact Or.inl rfl | exact Or.inr rfl)) pgs_nil))))
      (pss_cons (ps_set (i := 7) sc_Rule_measure.nd rfl (by first | exact Or.inl rfl | exact Or.inr rfl) (C8.pe_mt m_rank hr (by decide) (pv 0) (pa_cons (pv 3) (pa_cons (pv 5) pa_nil))))
      (pss_cons (ps_if (pt_cmpR op_eq (pe_fldK (K := K) (pv 0) rfl) pe_str (nomark _)) (pss_one (ps_ret (pe_tup (pa_cons (pv 6) (pa_starK (K := K) (pv 7) pa_nil))))) pss_nil)
      (pss_cons (ps_if (pt_cmpR op_eq (pe_fldK (K := K) (pv 0) rfl) pe_str (nomark _)) (pss_one (ps_ret (pe_tup (pa_cons (pe_callTy call_int1 (by rfl) T.f_int bo_int (pa_cons (pe_cmpR op_ne (pv 5) (pv 4) (nomark _)) pa_nil)) (pa_starK (K := K) (pv 7) (pa_cons (pv 6) pa_nil)))))) pss_nil)
      (pss_one (ps_ret (pe_tup (pa_starK (K := K) (pv 7) (pa_cons (pv 6) pa_nil)))))))))), .inl ?_⟩
  refine st_seq (st_par (ea_cons (ev_ixT (ev_var rfl) ev_int rfl) (ea_cons (ev_ixT (ev_var rfl) ev_int rfl) ea_nil))) ?_
  refine st_seq (st_asgG (ev_var rfl) (gt_tup (is := [5, 6]) rfl rfl rfl)) ?_
  refine st_seq (st_asg (ev_meth (ds := [ltD x.w, ltD p]) (ev_var rfl) rfl (by repeat' trivial) ⟨r0, x.w, p, ho, hx.w, hp, rfl, rfl⟩)) ?_
  obtain ⟨kd, os⟩ := r0
  cases kd with
  | eldest =>
    refine st_seqIf (b := true) (et_is (et_test (ev_eqS (ev_fld (ev_var rfl) T.cls_Rule T.no_own_kind rfl) ev_str)) (kE _)) (fun _ => st_seqRt (st_ret ?_)) (fun h => nomatch h)
    exact ev_is (ev_tup (ea_cons (ev_var rfl) (ea_starT (ev_var rfl) ea_nil))) rfl
  | plain =>
    refine st_seqIf (b := false) (et_is (et_test (ev_eqS (ev_fld (ev_var rfl) T.cls_Rule T.no_own_kind rfl) ev_str)) (kE _)) (fun h => nomatch h) (fun _ => st_seqNext ?_)
    refine st_seqIf (b := true) (et_is (et_test (ev_eqS (ev_fld (ev_var rfl) T.cls_Rule T.no_own_kind rfl) ev_str)) (kP _)) (fun _ => st_seqRt (st_ret ?_)) (fun h => nomatch h)
    refine ev_is (ev_tup (ea_cons (ev_intB (ea_cons (ev_neS (ev_var rfl) (ev_var rfl)) ea_nil)) (ea_starT (ev_var rfl) (ea_cons (ev_var rfl) ea_nil)))) ?_
    show Dat.tup [.int (if (!decide (Ga.P p = Ga.P x.p)) = true then 1 else 0), _, _, _] = Dat.tup [.int (if p = x.p then 0 else 1), _, _, _]
    by_cases h : p = x.p <;> simp [h, P_eq]
  | row =>
    refine st_seqIf (b := false) (et_is (et_test (ev_eqS (ev_fld (ev_var rfl) T.cls_Rule T.no_own_kind rfl) ev_str)) (kE _)) (fun h => nomatch h) (fun _ => st_seqNext ?_)
    refine st_seqIf (b := false) (et_is (et_test (ev_eqS (ev_fld (ev_var rfl) T.cls_Rule T.no_own_kind rfl) ev_str)) (kP _)) (fun h => nomatch h) (fun _ => st_seqNext (st_ret ?_))
    exact ev_is (ev_tup (ea_starT (ev_var rfl) (ea_cons (ev_var rfl) ea_nil))) rfl

abbrev N_Rule_call : List Str := ["self", "place", "one", "other"]
theorem sc_Rule_call : FnScope N_Rule_call ["self", "place", "one", "other"] (defScope s_Rule_call) := C8.fnScope_by (by decide +kernel)
def R_Rule_call (K : PySem.W.Frag) (ds : List Dat) (r : Dat) : Prop := ∃ (r0 : Rul) (x : Plc) (p q : Nat) (d e : Int), WO r0.os ∧ WP x ∧ p < 4 ∧ q < 4 ∧ (0 ≤ d ∧ d ≤ 9999) ∧ (0 ≤ e ∧ e ≤ 9999) ∧ ds = [ruleI K r0, plcD x, .tup [ltD p, .int d], .tup [ltD q, .int e]] ∧ r = .bl (pref r0 x p d q e)
theorem p_Rule_call (T : Tx K mg) (m_measure : C8.Met pg w K mg base 4 (He.ga K "Rule") "measure" (spD (R_Rule_measure K)) []) : CaO pg w K mg base 5 (He.ga K "Rule") (R_Rule_call K) := by
  obtain ⟨fd, F⟩ := T.d_Rule_call
  refine ⟨_, T.co_Rule, fnR_of (fnD (d := d_Rule_call) F sc_Rule_call (by
    rintro ds r ⟨r0, x, p, q, d, e, ho, hx, hp, hq, hd, he, rfl, rfl⟩
    rfl) ?_) (F.bindsN (ps := ["self", "place", "one", "other"]) fun kV doc pm an cdv ct us h => by
    match us, h with
    | [a, b, c, d], _ => rfl)⟩
  rintro cdv A outer s H E hr ds r ⟨r0, x, p, q, d, e, ho, hx, hp, hq, hd, he, rfl, rfl⟩
  refine ⟨_, (pss_one (ps_ret (pe_cmpR (op_ltD (hu64 hr)) (C8.pe_mt m_measure hr (by decide) (pv 0) (pa_cons (pv 1) (pa_cons (pv 2) pa_nil))) (C8.pe_mt m_measure hr (by decide) (pv 0) (pa_cons (pv 1) (pa_cons (pv 3) pa_nil))) (nomark _)))), .inl ?_⟩
  refine st_ret (ev_is (ev_ltD (ev_meth (ds := [plcD x, .tup [ltD p, .int d]]) (ev_var rfl) rfl (by repeat' trivial) ⟨r0, x, p, d, ho, hx, hp, rfl, rfl⟩) (ev_meth (ds := [plcD x, .tup [ltD q, .int e]]) (ev_var rfl) rfl (by repeat' trivial) ⟨r0, x, q, e, ho, hx, hq, rfl, rfl⟩) ((ok_mD (by omega)).shp (by omega)) ((ok_mD (by omega)).shp (by omega)) ?_ ?_ (Nat.le_trans (ok_mD (by omega)).z (by omega))) ?_)
  · unfold mD
    cases r0.kd <;> rfl
  · intro h
    cases h
  · rw [meas_lt ho hp hq hd he]

abbrev N_checked_orders : List Str := ["orders", "word"]
theorem sc_checked_orders : FnScope N_checked_orders ["orders"] (defScope s_checked_orders) := C8.fnScope_by (by decide +kernel)
def R_checked_orders (ds : List Dat) (r : Dat) : Prop := ∃ os : List (Nat × List Nat), WO os ∧ ds = [.dic (ordD os)] ∧ r = .dic (ordD os)
theorem p_checked_orders (T : Tx K mg) (c_is_word : Ca pg w K mg base 1 "is_word" R_is_word) (c_is_order : Ca pg w K mg base 2 "is_order" R_is_order) : Ca pg w K mg base 3 "checked_orders" R_checked_orders := by
  obtain ⟨fd, F⟩ := T.d_checked_orders
  refine mkC (d := d_checked_orders) F T.g_checked_orders (F.bindsN (ps := ["orders"]) fun kV doc pm an cdv ct us h => by
    match us, h with
    | [a], _ => rfl) sc_checked_orders (by
    rintro ds r ⟨os, ho, rfl, rfl⟩
    rfl) ?_
  rintro cdv A outer s H E hr ds r ⟨os, ho, rfl, rfl⟩
  refine ⟨_, (pss_cons (ps_if (pt_cmp (pc_isN (pv 0))) (pss_one (ps_ret pe_dnewK)) pss_nil)
      (pss_cons (ps_if (pt_not (pt_val (pe_callB (call_isiK2 (K := K)) (by rfl) T.f_isinstance bo_isi (pa_cons (pv 0) (pa_cons (pe_ty "dict" (by rfl) T.f_dict bo_dict) pa_nil))))) (pss_one ps_never) pss_nil)
      (pss_cons (ps_lock (ps_for PassesOwn.never rfl (pi_keys (pv 0)) (pg_name (i := 1) sc_checked_orders.nd rfl (by first | exact Or.inl rfl | exact Or.inr rfl)) (pss_one (ps_if (PW.pt (pw_or (pt_not (pt_val (C8.pe_c c_is_word hr (by decide) (by rfl) (pa_cons (pv 1) pa_nil)))) (pw_or1 (pt_not (pt_val (C8.pe_c c_is_order hr (by decide) (by rfl) (pa_cons (pe_dget (hu1 hr) (pv 0) (pv 1) (fun _ _ => rfl)) pa_nil))))))) (pss_one ps_never) pss_nil))))
      (pss_one (ps_ret (pe_callTy call_dictD (by rfl) T.f_dict bo_dict (pa_cons (pv 0) pa_nil))))))), .inl ?_⟩
  refine st_seqIf (b := false) (et_is (et_test (ev_isN (ev_var rfl))) rfl) (fun h => nomatch h) (fun _ => st_seqNext ?_)
  refine st_seqIf (b := !true) (et_not (et_B (isi_dic_dic (ev_var rfl)))) (fun h => nomatch h) (fun _ => st_seqNext ?_)
  refine st_seq (st_orders (os := os) rfl (show 1 < 2 from by decide) (fun o h => ⟨o.1, (ho.k o h).1, rfl, rfl⟩) fun o h => ⟨o.2, (ho.k o h).2.1, fun n hn => ?_, ?_, rfl, rfl⟩) (st_ret (ev_dictD (ea_cons (ev_var rfl) ea_nil)))
  · have := (ho.k o h).2.2.1 n hn
    omega
  · have := (ho.k o h).2.2.2
    omega

abbrev N_Rule_init : List Str := ["self", "kind", "orders"]
theorem sc_Rule_init : FnScope N_Rule_init ["self", "kind", "orders"] (defScope s_Rule_init) := C8.fnScope_by (by decide +kernel)
def R_Rule_init (ds : List Dat) (r : List (Str × Dat)) : Prop := ∃ r0 : Rul, WO r0.os ∧ ds = [.str (kindS r0.kd), .dic (ordD r0.os)] ∧ r = ruleF r0
theorem p_Rule_init (T : Tx K mg) (c_checked_orders : Ca pg w K mg base 3 "checked_orders" R_checked_orders) : C8.Mak pg w K mg base 4 "Rule" (He.ga K "Rule") (spI (He.ga K "Rule") R_Rule_init) [] := by
  obtain ⟨fd, F⟩ := T.d_Rule_init
  obtain ⟨bs, hv, hb⟩ := F.binds1 (ps := ["self", "kind", "orders"]) 3 1 (fun z => nomatch z) rfl fun TT kV doc pm an cdv ct us its h h2 => by
    match us, h, its, h2 with
    | [a, b, c], _, [d], _ => exact ⟨_, rfl, rfl⟩
  refine ⟨_, _, _, bs, T.mk_Rule, fnI (d := d_Rule_init) F sc_Rule_init (by
    rintro ds r ⟨r0, ho, rfl, rfl⟩
    rfl) ?_, T.g_Rule, hb, hv⟩
  rintro cdv A outer s H E hr ds r ⟨r0, ho, rfl, rfl⟩
  refine ⟨_, (pss_cons (ps_if (PW.pt (pw_or (pt_not (pt_val (pe_callB (call_isiK2 (K := K)) (by rfl) T.f_isinstance bo_isi (pa_cons (pv 1) (pa_cons (pe_ty "str" (by rfl) T.f_str bo_str) pa_nil))))) (pw_or1 (pt_cmpR (op_notIn_seqK (K := K)) (pv 1) (pe_kinds T.g_KINDS (by rfl)) (by rfl))))) (pss_one ps_never) pss_nil)
      (pss_cons (ps_fld (pv 0) (pv 1) rfl)
      (pss_one (ps_fld (pv 0) (C8.pe_c c_checked_orders hr (by decide) (by rfl) (pa_cons (pv 2) pa_nil)) rfl)))), ?_⟩
  exact fun x => ⟨_, st_seqIf (b := !true || false) (et_or (et_not (et_B (isi_str_str (ev_var rfl)))) fun _ => et_test (ev_niK T (ev_var rfl))) (fun h => nomatch h) fun _ => st_seqNext (st_seq (st_fld rfl (ev_var rfl) T.cls_Rule T.no_own_kind rfl (by decide))
    (st_fld rfl (ev_call (ds := [.dic (ordD r0.os)]) (by repeat' trivial) ⟨r0.os, ho, rfl, rfl⟩) T.cls_Rule T.no_own_orders rfl (by decide : ([("own_kind", Dat.non)] : List (Str × Dat)).length < 1000))), rfl⟩

end
end Gk

set_option maxHeartbeats 4000000
namespace Gk
open PySem PySem.Spec PyProof.Rows L2 Dl Ga
section
variable {pg : Program} {w : World} {K : PySem.W.Frag} {mg : Str → Option Value} {base : Heap}
local macro_rules | `(tactic| trivial) => `(tactic| first
  | with_reducible exact ev_int
  | with_reducible exact ev_str
  | with_reducible exact ev_bl
  | with_reducible exact ev_non
  | ((with_reducible apply ev_var) <;> rfl)
  | ((with_reducible apply evl_var) <;> rfl)
  | with_reducible exact eo_none
  | with_reducible apply eo_some
  | with_reducible apply ev_add
  | with_reducible apply ev_sub
  | with_reducible apply ev_cmp
  | with_reducible apply ev_chain rfl rfl
  | with_reducible apply ev_and
  | with_reducible apply ev_or
  | with_reducible apply ev_not
  | with_reducible apply ev_isN
  | with_reducible apply ev_notN
  | with_reducible apply ea_cons
  | with_reducible exact ea_nil
  | with_reducible apply et_B
  | with_reducible apply et_test
  | with_reducible apply et_not
  | with_reducible apply et_and
  | with_reducible apply et_or
  | with_reducible apply ev_ixT
  | with_reducible apply ev_tup
  | with_reducible apply ev_int1
  | with_reducible apply ev_str1
  | with_reducible apply isi_int_int
  | with_reducible apply isi_int_bool
  | with_reducible apply isi_str_str
  | with_reducible apply isi_tup_tup
  | with_reducible apply isi_lst_lst
  | with_reducible apply isi_dic_dic
  | with_reducible exact et_yes
  | intro _)
abbrev N_PartsList_places : List Str := ["self"]
theorem sc_PartsList_places : FnScope N_PartsList_places ["self"] (defScope s_PartsList_places) := C8.fnScope_by (by decide +kernel)
def R_PartsList_places (K : PySem.W.Frag) (ds : List Dat) (r : Dat) : Prop := ∃ pl : List Plc, pl.length ≤ 1000 ∧ ds = [listD K pl] ∧ r = .lst (pl.map plcD)
theorem p_PartsList_places (T : Tx K mg) : C8.Met pg w K mg base 1 (He.ga K "PartsList") "places" (spD (R_PartsList_places K)) [] := by
  obtain ⟨fd, F⟩ := T.d_PartsList_places
  refine mkM (d := d_PartsList_places) T.cls_PartsList T.me_places F (F.bindsN (ps := ["self"]) fun kV doc pm an cdv ct us h => by
    match us, h with
    | [a], _ => rfl) sc_PartsList_places (by
    rintro ds r ⟨pl, hl, rfl, rfl⟩
    rfl) ?_
  rintro cdv A outer s H E hr ds r ⟨pl, hl, rfl, rfl⟩
  refine ⟨_, (pss_one (ps_ret (pe_callTy (call_listK (K := K)) (by rfl) T.f_list bo_list (pa_cons (pe_fldK (K := K) (pv 0) rfl) pa_nil)))), .inl ?_⟩
  exact st_ret (evn_listT (ea_cons (ev_fld (ev_var rfl) T.cls_PartsList T.no_own_places rfl) ea_nil)).ev

abbrev N_PartsList_getitem : List Str := ["self", "word", "place"]
theorem sc_PartsList_getitem : FnScope N_PartsList_getitem ["self", "word"] (defScope s_PartsList_getitem) := C8.fnScope_by (by decide +kernel)
def R_PartsList_getitem (K : PySem.W.Frag) (ds : List Dat) (r : Dat) : Prop := ∃ (pl : List Plc) (x : Plc), (∀ y ∈ pl, WP y) ∧ (pl.map (·.w)).Nodup ∧ x ∈ pl ∧ ds = [listD K pl, ltD x.w] ∧ r = plcD x
theorem p_PartsList_getitem (T : Tx K mg) (c_is_word : Ca pg w K mg base 1 "is_word" R_is_word) : CaG pg w K mg base 2 (He.ga K "PartsList") (R_PartsList_getitem K) := by
  obtain ⟨fd, F⟩ := T.d_PartsList_getitem
  refine ⟨_, _, _, (cal_of T.xs.2.2.1).1, (cal_of T.xs.2.2.1).2.1, (cal_of T.xs.2.2.1).2.2, fnD (d := d_PartsList_getitem) F sc_PartsList_getitem (by
    rintro ds r ⟨pl, x, hp, nd, hx, rfl, rfl⟩
    rfl) ?_, (F.bindsN (ps := ["self", "word"]) fun kV doc pm an cdv ct us h => by
    match us, h with
    | [a, b], _ => rfl)⟩
  rintro cdv A outer s H E hr ds r ⟨pl, x, hp, nd, hx, rfl, rfl⟩
  refine ⟨_, (pss_cons (ps_for PassesOwn.never rfl (pi_tupK (K := K) (pe_fldK (K := K) (pv 0) rfl)) (pg_name (i := 2) sc_PartsList_getitem.nd rfl (by first | exact Or.inl rfl | exact Or.inr rfl)) (pss_one (ps_if (PW.pt (pw_and (pt_val (C8.pe_c c_is_word hr (by decide) (by rfl) (pa_cons (pv 1) pa_nil))) (pw_and1 (pt_cmpR op_eq (pe_ix (ix_tupK (K := K)) (pv 2) pe_int (fun _ _ => rfl)) (pv 1) (nomark _))))) (pss_one (ps_ret (pv 2))) pss_nil)))
      (pss_one ps_never)), .inl ?_⟩
  have fx : pl.findSome? (fun y => if y.w = x.w then some (plcD y) else none) = some (plcD x) := by
    clear hp
    induction pl with
    | nil => cases hx
    | cons y l ih =>
      obtain ⟨n1, n2⟩ := List.nodup_cons.mp nd
      rw [List.findSome?_cons]
      rcases List.mem_cons.mp hx with e | e
      · rw [e, if_pos rfl]
      · have hne : y.w ≠ x.w := fun z => n1 (List.mem_map.mpr ⟨x, e, z.symm⟩)
        rw [if_neg hne]
        exact ih n2 e
  refine st_seqRt (st_out (st_forN (k := 2) pl plcD (fun _ : Unit => [.d (listD K pl), .d (ltD x.w), .x]) (stepF fun y => if y.w = x.w then some (plcD y) else none) () (it_tup (ev_fld (ev_var rfl) T.cls_PartsList T.no_own_places rfl)) (Wk.refl _) fun s y hy => ?_) ?_)
  rotate_left
  · rw [foldX_some fx]
    rfl
  refine st_if (b := true && decide (Ga.P y.w = Ga.P x.w)) (et_and (et_B (ev_call (ds := [ltD x.w]) (by repeat' trivial) ⟨x.w, (hp x hx).w, rfl, rfl⟩)) fun _ => et_test (ev_eqS (ev_ixT (ev_var rfl) ev_int rfl) (ev_var rfl))) (fun h => ?_) fun h => ?_
  · have e : y.w = x.w := P_inj (by simpa using h)
    have e2 : stepF (fun y : Plc => if y.w = x.w then some (plcD y) else none) s y = .inr (plcD y) := stepF_some (if_pos e)
    rw [e2]
    exact st_ret (ev_var rfl)
  · have e : y.w ≠ x.w := fun z => by simp [z] at h
    have e2 : stepF (fun y : Plc => if y.w = x.w then some (plcD y) else none) s y = .inl s := stepF_none (if_neg e)
    rw [e2]
    exact st_wk st_next (.same (.same (.fog .nil)))

abbrev N_check_shares : List Str := ["parts_list", "place"]
theorem sc_check_shares : FnScope N_check_shares ["parts_list"] (defScope s_check_shares) := C8.fnScope_by (by decide +kernel)
def R_check_shares (K : PySem.W.Frag) (ds : List Dat) (r : Dat) : Prop := ∃ pl : List Plc, pl.length ≤ 1000 ∧ ds = [listD K pl] ∧ r = .non
theorem p_check_shares (T : Tx K mg) (m_places : C8.Met pg w K mg base 1 (He.ga K "PartsList") "places" (spD (R_PartsList_places K)) []) : Ca pg w K mg base 2 "check_shares" (R_check_shares K) := by
  obtain ⟨fd, F⟩ := T.d_check_shares
  refine mkC (d := d_check_shares) F T.g_check_shares (F.bindsN (ps := ["parts_list"]) fun kV doc pm an cdv ct us h => by
    match us, h with
    | [a], _ => rfl) sc_check_shares (by
    rintro ds r ⟨pl, hl, rfl, rfl⟩
    rfl) ?_
  rintro cdv A outer s H E hr ds r ⟨pl, hl, rfl, rfl⟩
  refine ⟨_, (pss_one (ps_for PassesOwn.never rfl (pi_listK (K := K) (C8.pe_mt0 m_places hr (by decide) (pv 0))) (pg_name (i := 1) sc_check_shares.nd rfl (by first | exact Or.inl rfl | exact Or.inr rfl)) (pss_one (ps_if (pt_cmp (pc_notN (pe_ix (ix_tupK (K := K)) (pv 1) pe_int (fun _ _ => rfl)))) (pss_one ps_never) pss_nil)))), .inr ⟨rfl, ?_⟩⟩
  refine ⟨_, st_out (o2 := .nx [.d (listD K pl), .x]) (st_forN (k := 1) pl plcD (fun _ : Unit => [.d (listD K pl), .x]) (fun s y => .inl s) () (it_list (ev_meth (ds := []) (ev_var rfl) rfl ea_nil ⟨pl, hl, rfl, rfl⟩)) (Wk.refl _) fun s y hy => ?_) ?_⟩
  rotate_left
  · rw [foldX_all _ (fun s _ => s) pl (fun _ _ _ => rfl)]
    rfl
  exact st_if (b := false) (et_is (et_test (ev_notN (ev_ixT (ev_var rfl) ev_int rfl))) rfl) (fun h => nomatch h) fun _ => st_wk st_next (.same (.fog .nil))

abbrev N_is_place : List Str := ["value"]
theorem sc_is_place : FnScope N_is_place ["value"] (defScope s_is_place) := C8.fnScope_by (by decide +kernel)
def R_is_place (ds : List Dat) (r : Dat) : Prop := ∃ x : Plc, WP x ∧ ds = [plcD x] ∧ r = .bl true
theorem p_is_place (T : Tx K mg) (c_is_word : Ca pg w K mg base 1 "is_word" R_is_word) (c_is_integer : Ca pg w K mg base 1 "is_integer" R_is_integer) : Ca pg w K mg base 2 "is_place" R_is_place := by
  obtain ⟨fd, F⟩ := T.d_is_place
  refine mkC (d := d_is_place) F T.g_is_place (F.bindsN (ps := ["value"]) fun kV doc pm an cdv ct us h => by
    match us, h with
    | [a], _ => rfl) sc_is_place (by
    rintro ds r ⟨x, hx, rfl, rfl⟩
    rfl) ?_
  rintro cdv A outer s H E hr ds r ⟨x, hx, rfl, rfl⟩
  refine ⟨_, (pss_cons (ps_if (PW.pt (pw_or (pt_not (pt_val (pe_callB (call_isiK2 (K := K)) (by rfl) T.f_isinstance bo_isi (pa_cons (pv 0) (pa_cons (pe_ty "tuple" (by rfl) T.f_tuple bo_tuple) pa_nil))))) (pw_or (pt_cmpR op_ne (pe_callB (call_lenK (K := K)) (by rfl) T.f_len PySem.boot_len (pa_cons (pv 0) pa_nil)) pe_int (nomark _)) (pw_or (pt_not (pt_val (C8.pe_c c_is_word hr (by decide) (by rfl) (pa_cons (pe_ix (ix_tupK (K := K)) (pv 0) pe_int (fun _ _ => rfl)) pa_nil)))) (pw_or1 (pt_not (pt_val (C8.pe_c c_is_word hr (by decide) (by rfl) (pa_cons (pe_ix (ix_tupK (K := K)) (pv 0) pe_int (fun _ _ => rfl)) pa_nil))))))))) (pss_one (ps_ret pe_bl)) pss_nil)
      (pss_cons (ps_if (pt_not (pt_val (C8.pe_c c_is_integer hr (by decide) (by rfl) (pa_cons (pe_ix (ix_tupK (K := K)) (pv 0) pe_int (fun _ _ => rfl)) (pa_cons pe_int (pa_cons (C8.pe_gc (by rfl) T.g_MOST_NUMBER) pa_nil)))))) (pss_one (ps_ret pe_bl)) pss_nil)
      (pss_one (ps_ret (pe_or (pe_cmp (pc_isN (pe_ix (ix_tupK (K := K)) (pv 0) pe_int (fun _ _ => rfl)))) (pe_one (C8.pe_c c_is_integer hr (by decide) (by rfl) (pa_cons (pe_ix (ix_tupK (K := K)) (pv 0) pe_int (fun _ _ => rfl)) (pa_cons pe_int (pa_cons (pe_ix (ix_tupK (K := K)) (pv 0) pe_int (fun _ _ => rfl)) pa_nil)))))))))), .inl ?_⟩
  have w26 := hx.w
  have p4 := hx.p
  have n12 := hx.n
  refine st_seqIf (b := !true || ((!decide ((4 : Int) = 4)) || (!true || !true))) (et_or (et_not (et_B (isi_tup_tup (ev_var rfl)))) fun _ => et_or (et_test ?_) fun _ => et_or (et_not (et_B (ev_call (ds := [ltD x.w]) (by repeat' trivial) ⟨x.w, hx.w, rfl, rfl⟩))) fun _ => et_not (et_B (ev_call (ds := [ltD x.p]) (by repeat' trivial) ⟨x.p, by omega, rfl, rfl⟩))) (fun h => by simp at h) fun _ => st_seqNext ?_
  · exact ev_neI (ev_lenT (ds := [ltD x.w, ltD x.p, .int x.n, .non]) (ev_var rfl)) ev_int
  refine st_seqIf (b := !true) (et_not (et_B (ev_call (ds := [.int x.n, .int 1, .int 999]) (by repeat' trivial) ⟨x.n, 1, 999, rfl, by rw [decide_eq_true (by omega), decide_eq_true (by omega)]; rfl⟩))) (fun h => nomatch h) fun _ => st_seqNext (st_ret ?_)
  exact ev_is (ev_or (c := true) (ev_isN (ev_ixT (ev_var rfl) ev_int rfl)) fun h => nomatch h) rfl

abbrev N_PartsList_init : List Str := ["self", "places", "index", "place", "earlier"]
theorem sc_PartsList_init : FnScope N_PartsList_init ["self", "places"] (defScope s_PartsList_init) := C8.fnScope_by (by decide +kernel)
def R_PartsList_init (ds : List Dat) (r : List (Str × Dat)) : Prop := ∃ pl : List Plc, WPs pl ∧ ds = [.lst (pl.map plcD)] ∧ r = listF pl
theorem p_PartsList_init (T : Tx K mg) (c_is_place : Ca pg w K mg base 2 "is_place" R_is_place) : C8.Mak pg w K mg base 3 "PartsList" (He.ga K "PartsList") (spI (He.ga K "PartsList") R_PartsList_init) [] := by
  obtain ⟨fd, F⟩ := T.d_PartsList_init
  refine ⟨_, _, _, [], T.mk_PartsList, fnI (d := d_PartsList_init) F sc_PartsList_init (by
    rintro ds r ⟨pl, hp, rfl, rfl⟩
    rfl) ?_, T.g_PartsList, (F.bindsN (ps := ["self", "places"]) fun kV doc pm an cdv ct us h => by
    match us, h with
    | [a, b], _ => rfl), .nil⟩
  rintro cdv A outer s H E hr ds r ⟨pl, hp, rfl, rfl⟩
  refine ⟨_, (pss_cons (ps_if (PW.pt (pw_or (pt_not (pt_val (pe_callB (call_isiTK (K := K)) (by rfl) T.f_isinstance bo_isi (pa_cons (pv 1) (pa_cons (pe_tup (pa_cons (pe_ty "list" (by rfl) T.f_list bo_list) (pa_cons (pe_ty "tuple" (by rfl) T.f_tuple bo_tuple) pa_nil))) pa_nil))))) (pw_or1 (pt_cmpR op_eq (pe_callB (call_lenK (K := K)) (by rfl) T.f_len PySem.boot_len (pa_cons (pv 1) pa_nil)) pe_int (nomark _))))) (pss_one ps_never) pss_nil)
      (pss_cons (ps_for PassesOwn.never rfl (pi_enum (by rfl) T.f_enumerate (pa_cons (pv 1) pa_nil)) (pg_tupK (K := K) (n := 2) rfl (pgs_cons (pg_name (i := 2) sc_PartsList_init.nd rfl (by first | exact Or.inl rfl | exact Or.inr rfl)) (pgs_cons (pg_name (i := 3) sc_PartsList_init.nd rfl (by first | exact Or.inl rfl | exact Or.inr rfl)) pgs_nil))) (pss_one (ps_if (PW.pt (pw_or (pt_not (pt_val (C8.pe_c c_is_place hr (by decide) (by rfl) (pa_cons (pv 3) pa_nil)))) (pw_or1 (pt_cmpR (op_in_seqK (K := K)) (pe_ix (ix_tupK (K := K)) (pv 3) pe_int (fun _ _ => rfl)) (pe_lc rfl sc_PartsList_init.nd (pi_listK (K := K) (pe_slice (sl_listK (K := K)) (pv 1) po_none (po_some (pv 2)))) (blkOk_by (own := [("earlier", 4)]) (N := N_PartsList_init) (sc := defScope s_PartsList_init) (by decide +kernel)) (fun _ _ _ _ _ => (pg_name (i := 4) sc_PartsList_init.nd rfl (by first | exact Or.inl rfl | exact Or.inr rfl))) (fun _ _ _ _ _ => pts_nil) (fun _ _ _ _ _ => (pe_ix (ix_tupK (K := K)) (pv 4) pe_int (fun _ _ => rfl)))) (by rfl))))) (pss_one ps_never) pss_nil)))
      (pss_cons (ps_if (pt_cmp (pc_gt (pe_callB (call_lenK (K := K)) (by rfl) T.f_len PySem.boot_len (pa_cons (pv 1) pa_nil)) (C8.pe_gc (by rfl) T.g_MOST_PLACES))) (pss_one ps_never) pss_nil)
      (pss_one (ps_fld (pv 0) (pe_callTy (call_tupleK (K := K)) (by rfl) T.f_tuple bo_tuple (pa_cons (pv 1) pa_nil)) rfl))))), ?_⟩
  have hl := hp.ln
  have ne := hp.ne
  have pos : 0 < pl.length := List.length_pos_iff.mpr ne
  intro x
  have en : enumD (pl.map plcD) = pl.zipIdx.map fun p => Dat.tup [.int (p.2 : Nat), plcD p.1] := by
    simp [enumD, List.zipIdx_map, Function.comp_def]
  refine ⟨_, st_seqIf (b := !true || decide (((pl.map plcD).length : Int) = 0)) (et_or (et_not (et_B (isi_lst_two (ev_var rfl)))) fun _ => et_test (ev_eqI (ev_lenL (ev_var rfl).l) ev_int)) (fun h => ?_) (fun _ => st_seqNext (st_seq (st_out (o2 := .nx (.o x (He.ga K "PartsList") [] :: .d (.lst (pl.map plcD)) :: [.x, .x, .x])) (st_for pl.zipIdx (fun p => Dat.tup [.int (p.2 : Nat), plcD p.1]) (fun _ : Unit => .o x (He.ga K "PartsList") [] :: .d (.lst (pl.map plcD)) :: [.x, .x, .x]) (fun s _ => .inl s) () (en ▸ it_enum (ea_cons (ev_var rfl) ea_nil)) (Wk.refl _) fun s y hy => ⟨_, _, gt_tup (is := [2, 3]) rfl rfl rfl, ?_⟩) ?_)
      (st_seqIf (b := decide (((pl.map plcD).length : Int) > 12)) (et_test (ev_cmp (ev_lenL (ev_var rfl).l) ev_int)) (fun h => ?_) fun _ => st_seqNext (st_fld rfl (ev_tupL (ea_cons (ev_var rfl) ea_nil)) T.cls_PartsList T.no_own_places rfl (by decide))))), rfl⟩
  · simp at h
    exact absurd h ne
  rotate_left
  · rw [foldX_all _ (fun s _ => s) _ (fun _ _ _ => rfl)]
    rfl
  · simp at h
    omega
  · obtain ⟨h1, h2, h3⟩ := List.mem_zipIdx hy
    have hyl : y.2 < pl.length := by omega
    have hym : y.1 ∈ pl := by rw [h3]; exact List.getElem_mem _
    refine st_if (b := !true || decide (Ga.P y.1.w ∈ (pl.take y.2).map fun z => Ga.P z.w)) (et_or (et_not (et_B (ev_call (ds := [plcD y.1]) (by repeat' trivial) ⟨y.1, hp.p _ hym, rfl, rfl⟩))) fun _ => et_test ?_) (fun h => ?_) fun _ => st_wk st_next (.same (.same (.fog (.fog (.same .nil)))))
    · refine ev_inSL (s := Ga.P y.1.w) (xs := (pl.take y.2).map fun z => Ga.P z.w) ?_ ?_
      · exact ev_ixT (ev_var rfl) ev_int rfl
      have sl : EVN (tSl (rSlL K) (tVar 1) tNoPart (tPart (tVar 2))) (setz (.o x (He.ga K "PartsList") [] :: .d (.lst (pl.map plcD)) :: [.x, .x, .x]) [2, 3] [.int (y.2 : Nat), plcD y.1]) ((pl.take y.2).map plcD) := by
        have z := evn_slL (K := K) (lo := none) (hi := some (y.2 : Nat)) (ρ := setz (.o x (He.ga K "PartsList") [] :: .d (.lst (pl.map plcD)) :: [.x, .x, .x]) [2, 3] [.int (y.2 : Nat), plcD y.1]) (te := tVar 1) (tlo := tNoPart) (thi := tPart (tVar 2)) (ev_var rfl).l eo_none (eo_some (ev_var rfl))
        rw [cut_to (by rw [List.length_map]; omega), ← List.map_take] at z
        exact z
      refine (evn_is (evn_lc (vs := [4]) (pl.take y.2) plcD (fun _ => true) (fun z => ltD z.w) (it_listO sl.l) (by rw [List.length_take]; omega) fun z hz => ⟨_, _, gt_name, fun i hi => hi, et_yes, fun _ => ev_ixT (ev_var rfl) ev_int rfl⟩) ?_).l
      rw [List.filter_eq_self.mpr (by simp), List.map_map]
      rfl
    · exfalso
      have h : Ga.P y.1.w ∈ (pl.take y.2).map fun z => Ga.P z.w := by simpa using h
      obtain ⟨z, hz, e⟩ := List.mem_map.mp h
      obtain ⟨j, hj, ej⟩ := List.mem_iff_getElem.mp hz
      rw [List.length_take] at hj
      rw [List.getElem_take] at ej
      have hj2 : j < y.2 := by omega
      have nd := List.pairwise_iff_getElem.mp hp.nd j y.2 (by rw [List.length_map]; omega) (by rw [List.length_map]; omega) hj2
      rw [List.getElem_map, List.getElem_map] at nd
      refine nd ?_
      rw [ej]
      have e3 : pl[y.2] = y.1 := by
        rw [h3]
        rfl
      rw [e3]
      exact P_inj e

end
end Gk

set_option maxHeartbeats 4000000
namespace Gk
open PySem PySem.Spec PyProof.Rows L2 Dl Ga
section
variable {pg : Program} {w : World} {K : PySem.W.Frag} {mg : Str → Option Value} {base : Heap}
local macro_rules | `(tactic| trivial) => `(tactic| first
  | with_reducible exact ev_int
  | with_reducible exact ev_str
  | with_reducible exact ev_bl
  | with_reducible exact ev_non
  | ((with_reducible apply ev_var) <;> rfl)
  | ((with_reducible apply evl_var) <;> rfl)
  | with_reducible exact eo_none
  | with_reducible apply eo_some
  | with_reducible apply ev_add
  | with_reducible apply ev_sub
  | with_reducible apply ev_cmp
  | with_reducible apply ev_chain rfl rfl
  | with_reducible apply ev_and
  | with_reducible apply ev_or
  | with_reducible apply ev_not
  | with_reducible apply ev_isN
  | with_reducible apply ev_notN
  | with_reducible apply ea_cons
  | with_reducible exact ea_nil
  | with_reducible apply et_B
  | with_reducible apply et_test
  | with_reducible apply et_not
  | with_reducible apply et_and
  | with_reducible apply et_or
  | with_reducible apply ev_ixT
  | with_reducible apply ev_tup
  | with_reducible apply ev_int1
  | with_reducible apply ev_str1
  | with_reducible apply isi_int_int
  | with_reducible apply isi_int_bool
  | with_reducible apply isi_str_str
  | with_reducible apply isi_tup_tup
  | with_reducible apply isi_lst_lst
  | with_reducible apply isi_dic_dic
  | with_reducible exact et_yes
  | intro _)
abbrev N_is_open : List Str := ["row", "date"]
theorem sc_is_open : FnScope N_is_open ["row", "date"] (defScope s_is_open) := C8.fnScope_by (by decide +kernel)
def R_is_open (ds : List Dat) (r : Dat) : Prop := ∃ (q : Ga.Row) (d : Int), ds = [rowD q, .int d] ∧ r = .bl (opn q d)
theorem p_is_open (T : Tx K mg) : Ca pg w K mg base 1 "is_open" R_is_open := by
  obtain ⟨fd, F⟩ := T.d_is_open
  refine mkC (d := d_is_open) F T.g_is_open (F.bindsN (ps := ["row", "date"]) fun kV doc pm an cdv ct us h => by
    match us, h with
    | [a, b], _ => rfl) sc_is_open (by
    rintro ds r ⟨q, d, rfl, rfl⟩
    rfl) ?_
  rintro cdv A outer s H E hr ds r ⟨q, d, rfl, rfl⟩
  refine ⟨_, (pss_one (ps_ret (pe_and (pe_cmp (pc_le (pe_ix (ix_tupK (K := K)) (pv 0) pe_int (fun _ _ => rfl)) (pv 1))) (pe_one (pe_or (pe_cmp (pc_isN (pe_ix (ix_tupK (K := K)) (pv 0) pe_int (fun _ _ => rfl)))) (pe_one (pe_cmp (pc_le (pv 1) (pe_ix (ix_tupK (K := K)) (pv 0) pe_int (fun _ _ => rfl)))))))))), .inl ?_⟩
  obtain ⟨a, b, s0, t⟩ := q
  cases t with
  | none => exact st_ret (ev_is (ev_and (ev_cmp (ev_ixT (ev_var rfl) ev_int rfl) (ev_var rfl)) fun _ => ev_or (c := true) (ev_isN (ev_ixT (ev_var rfl) ev_int rfl)) fun h => nomatch h) rfl)
  | some t => exact st_ret (ev_is (ev_and (ev_cmp (ev_ixT (ev_var rfl) ev_int rfl) (ev_var rfl)) fun _ => ev_or (ev_isN (ev_ixT (ev_var rfl) ev_int rfl)) fun _ => ev_cmp (ev_var rfl) (ev_ixT (ev_var rfl) ev_int rfl)) rfl)

abbrev N_is_allowance : List Str := ["value"]
theorem sc_is_allowance : FnScope N_is_allowance ["value"] (defScope s_is_allowance) := C8.fnScope_by (by decide +kernel)
def R_is_allowance (ds : List Dat) (r : Dat) : Prop := ∃ q : Ga.Row, WR q ∧ ds = [rowD q] ∧ r = .bl true
theorem p_is_allowance (T : Tx K mg) (c_is_word : Ca pg w K mg base 1 "is_word" R_is_word) (c_is_date : Ca pg w K mg base 2 "is_date" R_is_date) : Ca pg w K mg base 3 "is_allowance" R_is_allowance := by
  obtain ⟨fd, F⟩ := T.d_is_allowance
  refine mkC (d := d_is_allowance) F T.g_is_allowance (F.bindsN (ps := ["value"]) fun kV doc pm an cdv ct us h => by
    match us, h with
    | [a], _ => rfl) sc_is_allowance (by
    rintro ds r ⟨q, hq, rfl, rfl⟩
    rfl) ?_
  rintro cdv A outer s H E hr ds r ⟨q, hq, rfl, rfl⟩
  refine ⟨_, (pss_cons (ps_if (PW.pt (pw_or (pt_not (pt_val (pe_callB (call_isiK2 (K := K)) (by rfl) T.f_isinstance bo_isi (pa_cons (pv 0) (pa_cons (pe_ty "tuple" (by rfl) T.f_tuple bo_tuple) pa_nil))))) (pw_or (pt_cmpR op_ne (pe_callB (call_lenK (K := K)) (by rfl) T.f_len PySem.boot_len (pa_cons (pv 0) pa_nil)) pe_int (nomark _)) (pw_or (pt_not (pt_val (C8.pe_c c_is_word hr (by decide) (by rfl) (pa_cons (pe_ix (ix_tupK (K := K)) (pv 0) pe_int (fun _ _ => rfl)) pa_nil)))) (pw_or1 (pt_not (pt_val (C8.pe_c c_is_word hr (by decide) (by rfl) (pa_cons (pe_ix (ix_tupK (K := K)) (pv 0) pe_int (fun _ _ => rfl)) pa_nil))))))))) (pss_one (ps_ret pe_bl)) pss_nil)
      (pss_cons (ps_if (PW.pt (pw_or (pt_cmpR op_eq (pe_ix (ix_tupK (K := K)) (pv 0) pe_int (fun _ _ => rfl)) (pe_ix (ix_tupK (K := K)) (pv 0) pe_int (fun _ _ => rfl)) (nomark _)) (pw_or1 (pt_not (pt_val (C8.pe_c c_is_date hr (by decide) (by rfl) (pa_cons (pe_ix (ix_tupK (K := K)) (pv 0) pe_int (fun _ _ => rfl)) pa_nil))))))) (pss_one (ps_ret pe_bl)) pss_nil)
      (pss_one (ps_ret (pe_or (pe_cmp (pc_isN (pe_ix (ix_tupK (K := K)) (pv 0) pe_int (fun _ _ => rfl)))) (pe_one (pe_and (C8.pe_c c_is_date hr (by decide) (by rfl) (pa_cons (pe_ix (ix_tupK (K := K)) (pv 0) pe_int (fun _ _ => rfl)) pa_nil)) (pe_one (pe_cmp (pc_ge (pe_ix (ix_tupK (K := K)) (pv 0) pe_int (fun _ _ => rfl)) (pe_ix (ix_tupK (K := K)) (pv 0) pe_int (fun _ _ => rfl)))))))))))), .inl ?_⟩
  have ha := hq.a
  have hb := hq.b
  have hs := hq.s
  refine st_seqIf (b := !true || ((!decide ((4 : Int) = 4)) || (!true || !true))) (et_or (et_not (et_B (isi_tup_tup (ev_var rfl)))) fun _ => et_or (et_test ?_) fun _ => et_or (et_not (et_B (ev_call (ds := [ltD q.a]) (by repeat' trivial) ⟨q.a, by omega, rfl, rfl⟩))) fun _ => et_not (et_B (ev_call (ds := [ltD q.b]) (by repeat' trivial) ⟨q.b, by omega, rfl, rfl⟩))) (fun h => by simp at h) fun _ => st_seqNext ?_
  · exact ev_neI (ev_lenT (ds := [ltD q.a, ltD q.b, .int q.s, optD q.t]) (ev_var rfl)) ev_int
  refine st_seqIf (b := decide (Ga.P q.a = Ga.P q.b) || !true) (et_or (et_test (ev_eqS (ev_ixT (ev_var rfl) ev_int rfl) (ev_ixT (ev_var rfl) ev_int rfl))) fun _ => et_not (et_B (ev_call (ds := [.int q.s]) (by repeat' trivial) ⟨q.s, by omega, by omega, rfl, rfl⟩))) (fun h => ?_) fun _ => st_seqNext (st_ret ?_)
  · exact absurd (P_inj (by simpa using h)) hq.ne
  cases e : q.t with
  | none =>
    refine ev_is (ev_or (b := true) (c := true) ?_ fun h => nomatch h) rfl
    exact ev_is (ev_isN (d := optD q.t) (ev_ixT (ev_var rfl) ev_int rfl)) (by rw [e]; rfl)
  | some t =>
    have ht := hq.t t e
    have g : EV (tOp (rIxT K) (tVar 0) (tC (.int 3))) (sl0 [rowD q] N_is_allowance) (.int t) := ev_is (ev_ixT (d := optD q.t) (ev_var rfl) ev_int rfl) (by rw [e]; rfl)
    exact ev_is (ev_or (ev_isN g) fun _ => ev_and (ev_call (ds := [.int t]) (ea_cons g ea_nil) ⟨t, by omega, by omega, rfl, rfl⟩) fun _ => ev_cmp g (ev_ixT (ev_var rfl) ev_int rfl)) (by
      show Dat.bl (false || (true && decide (t ≥ q.s))) = _
      rw [decide_eq_true (by omega)]
      rfl)

abbrev N_text_of : List Str := ["row", "till"]
theorem sc_text_of : FnScope N_text_of ["row"] (defScope s_text_of) := C8.fnScope_by (by decide +kernel)
def R_text_of (ds : List Dat) (r : Dat) : Prop := ∃ q : Ga.Row, WR q ∧ ds = [rowD q] ∧ r = .str (txt q)
theorem p_text_of (T : Tx K mg) : Ca pg w K mg base 1 "text_of" R_text_of := by
  obtain ⟨fd, F⟩ := T.d_text_of
  refine mkC (d := d_text_of) F T.g_text_of (F.bindsN (ps := ["row"]) fun kV doc pm an cdv ct us h => by
    match us, h with
    | [a], _ => rfl) sc_text_of (by
    rintro ds r ⟨q, hq, rfl, rfl⟩
    rfl) ?_
  rintro cdv A outer s H E hr ds r ⟨q, hq, rfl, rfl⟩
  refine ⟨_, (pss_cons (ps_set (i := 1) sc_text_of.nd rfl (by first | exact Or.inl rfl | exact Or.inr rfl) (pe_ifExp (pt_cmp (pc_isN (pe_ix (ix_tupK (K := K)) (pv 0) pe_int (fun _ _ => rfl)))) pe_str (pe_joined1 (pe_fmt5 (pe_ix (ix_tupK (K := K)) (pv 0) pe_int (fun _ _ => rfl))))))
      (pss_one (ps_ret (pe_joined (PJ.cons (pe_fmt (pe_ix (ix_tupK (K := K)) (pv 0) pe_int (fun _ _ => rfl))) (PJ.cons pe_str (PJ.cons (pe_fmt (pe_ix (ix_tupK (K := K)) (pv 0) pe_int (fun _ _ => rfl))) (PJ.cons pe_str (PJ.cons (pe_fmt5 (pe_ix (ix_tupK (K := K)) (pv 0) pe_int (fun _ _ => rfl))) (PJ.cons pe_str (PJ.cons (pe_fmt (pv 1)) PJ.nil))))))))))), .inl ?_⟩
  have hs := hq.s
  have pad : ∀ n : Int, 0 ≤ n → n ≤ 6 → SX.S (padL n) = pad5 n := fun n _ _ => rfl
  have h5 : ∀ {te : TE} {ρ : List Sl} {n : Int}, EV te ρ (.int n) → 0 ≤ n → n ≤ 6 → EV (tFmt5 te) ρ (.str (SX.S (padL n))) := fun {te ρ n} h h0 h1 => by
    obtain ⟨m, rfl⟩ : ∃ m : Nat, n = m := ⟨n.toNat, by omega⟩
    exact ev_fmt5 h (by omega)
  refine st_seq (st_asg (d := .str (SX.S (tillL q.t))) ?_) (st_ret (ev_joined ?_))
  · cases e : q.t with
    | none => exact ev_if (b := true) (et_is (et_test (ev_isN (d := optD q.t) (ev_ixT (ev_var rfl) ev_int rfl))) (by rw [e]; rfl)) (fun _ => ev_str) fun h => nomatch h
    | some t =>
      have ht := hq.t t e
      exact ev_if (b := false) (et_is (et_test (ev_isN (d := optD q.t) (ev_ixT (ev_var rfl) ev_int rfl))) (by rw [e]; rfl)) (fun h => nomatch h) fun _ => h5 (ev_is (ev_ixT (d := optD q.t) (ev_var rfl) ev_int rfl) (by rw [e]; rfl)) (by omega) (by omega)
  · have l5 : ∀ o : Option Int, (tillL o).length ≤ 5 := fun o => by cases o <;> simp [tillL, padL]
    have l5 := l5 q.t
    refine ej_cons (l2 := [97 + q.a]) (ev_fmtS (ev_ixT (ev_var rfl) ev_int rfl) (show (1 : Nat) ≤ 100000 by decide)) (by simp) ?_
    refine ej_cons (l2 := [32]) ev_str (by simp) ?_
    refine ej_cons (l2 := [97 + q.b]) (ev_fmtS (ev_ixT (ev_var rfl) ev_int rfl) (show (1 : Nat) ≤ 100000 by decide)) (by simp) ?_
    refine ej_cons (l2 := [32]) ev_str (by simp) ?_
    refine ej_cons (l2 := padL q.s) (h5 (ev_ixT (ev_var rfl) ev_int rfl) (by omega) (by omega)) (by simp [padL]) ?_
    refine ej_cons (l2 := [32]) ev_str (by simp [padL]) ?_
    refine ej_cons (l2 := tillL q.t) (ev_fmtS (ev_var rfl) ?_) (by simp [padL]; omega) ej_nil
    rw [SX.S_len]
    omega

abbrev N_Allowances_steps : List Str := ["self", "plain", "date", "row"]
theorem sc_Allowances_steps : FnScope N_Allowances_steps ["self", "plain", "date"] (defScope s_Allowances_steps) := C8.fnScope_by (by decide +kernel)
def R_Allowances_steps (K : PySem.W.Frag) (ds : List Dat) (r : List Dat) : Prop := ∃ (rs : List Ga.Row) (b : Bool) (p : Nat) (d : Int), (∀ q ∈ rs, WR q) ∧ rs.length ≤ 12 ∧ ds = [bookD K rs b, ltD p, .int d] ∧ r = (steps rs p d).map ltD
theorem p_Allowances_steps (T : Tx K mg) (c_is_open : Ca pg w K mg base 1 "is_open" R_is_open) (c_ascending : C8.Cal pg w K mg base 1 "ascending" (spN R_ascending) []) : C8.Met pg w K mg base 2 (He.ga K "Allowances") "steps" (spN (R_Allowances_steps K)) [] := by
  obtain ⟨fd, F⟩ := T.d_Allowances_steps
  refine mkMN (d := d_Allowances_steps) T.cls_Allowances T.me_steps F (F.bindsN (ps := ["self", "plain", "date"]) fun kV doc pm an cdv ct us h => by
    match us, h with
    | [a, b, c], _ => rfl) sc_Allowances_steps (by
    rintro ds r ⟨rs, b, p, d, hw, hl, rfl, rfl⟩
    rfl) ?_
  rintro cdv A outer s H E hr ds r ⟨rs, b, p, d, hw, hl, rfl, rfl⟩
  refine ⟨_, (pss_one (ps_ret (C8.pe_c c_ascending hr (by decide) (by rfl) (pa_cons (pe_lc rfl sc_Allowances_steps.nd (pi_listK (K := K) (pe_fldK (K := K) (pv 0) rfl)) (blkOk_by (own := [("row", 3)]) (N := N_Allowances_steps) (sc := defScope s_Allowances_steps) (by decide +kernel)) (fun _ _ _ _ _ => (pg_name (i := 3) sc_Allowances_steps.nd rfl (by first | exact Or.inl rfl | exact Or.inr rfl))) (fun _ _ _ _ _ => (pts_one (PW.pt (pw_and (pt_cmpR op_eq (pe_ix (ix_tupK (K := K)) (pv 3) pe_int (fun _ _ => rfl)) (pv 1) (nomark _)) (pw_and1 (pt_val (C8.pe_c c_is_open hr (by decide) (by rfl) (pa_cons (pv 3) (pa_cons (pv 2) pa_nil))))))))) (fun _ _ _ _ _ => (pe_ix (ix_tupK (K := K)) (pv 3) pe_int (fun _ _ => rfl)))) pa_nil)))), ?_⟩
  have lf : ((rs.filter fun q => decide (q.b = p) && opn q d).map (·.a)).length ≤ rs.length := by
    rw [List.length_map]
    exact List.length_filter_le ..
  refine st_retN (evn_call (ds := [.lst (((rs.filter fun q => decide (q.b = p) && opn q d).map (·.a)).map ltD)]) (ea_cons (lst_is (evn_lc (vs := [3]) rs rowD (fun q => decide (q.b = p) && opn q d) (fun q => ltD q.a) (it_list (ev_fld (ev_var rfl) T.cls_Allowances T.no_own_rows rfl)).o (by omega) fun x hx => ⟨_, _, gt_name, fun i hi => hi, ?_, fun _ => ev_ixT (ev_var rfl) ev_int rfl⟩).ev ?_) ea_nil) ⟨_, by omega, fun n hn => ?_, rfl, rfl⟩)
  · exact et_and (et_is (et_test (ev_eqS (ev_ixT (ev_var rfl) ev_int rfl) (ev_var rfl))) (decide_eq_decide.mpr ⟨P_inj, fun e => by rw [e]⟩)) fun _ => et_B (ev_call (ds := [rowD x, .int d]) (by repeat' trivial) ⟨x, d, rfl, rfl⟩)
  · rw [List.map_map]
    rfl
  · obtain ⟨q, hq, e⟩ := List.mem_map.mp hn
    have := (hw q (List.mem_filter.mp hq).1).a
    omega

abbrev N_Allowances_dates : List Str := ["self", "found", "row", "date"]
theorem sc_Allowances_dates : FnScope N_Allowances_dates ["self"] (defScope s_Allowances_dates) := C8.fnScope_by (by decide +kernel)
def R_Allowances_dates (K : PySem.W.Frag) (ds : List Dat) (r : Dat) : Prop := ∃ (rs : List Ga.Row) (b : Bool), (∀ q ∈ rs, WR q) ∧ rs.length ≤ 12 ∧ ds = [bookD K rs b] ∧ r = .lst ((turns rs).map .int)
theorem p_Allowances_dates (T : Tx K mg) : C8.Met pg w K mg base 1 (He.ga K "Allowances") "dates" (spD (R_Allowances_dates K)) [] := by
  obtain ⟨fd, F⟩ := T.d_Allowances_dates
  refine mkM (d := d_Allowances_dates) T.cls_Allowances T.me_dates F (F.bindsN (ps := ["self"]) fun kV doc pm an cdv ct us h => by
    match us, h with
    | [a], _ => rfl) sc_Allowances_dates (by
    rintro ds r ⟨rs, b, hw, hl, rfl, rfl⟩
    rfl) ?_
  rintro cdv A outer s H E hr ds r ⟨rs, b, hw, hl, rfl, rfl⟩
  refine ⟨_, (pss_cons (ps_set (i := 1) sc_Allowances_dates.nd rfl (by first | exact Or.inl rfl | exact Or.inr rfl) (pe_disp (pps_cons pe_int pe_bl pps_nil) rfl rfl (by simp) (by decide)))
      (pss_cons (ps_for PassesOwn.never rfl (pi_listK (K := K) (pe_fldK (K := K) (pv 0) rfl)) (pg_name (i := 2) sc_Allowances_dates.nd rfl (by first | exact Or.inl rfl | exact Or.inr rfl)) (pss_cons (ps_dput (hu1 hr) (pv 1) (pe_ix (ix_tupK (K := K)) (pv 2) pe_int (fun _ _ => rfl)) pe_bl rfl)
      (pss_one (ps_if (PW.pt (pw_and (pt_cmp (pc_notN (pe_ix (ix_tupK (K := K)) (pv 2) pe_int (fun _ _ => rfl)))) (pw_and1 (pt_cmp (pc_lt (pe_ix (ix_tupK (K := K)) (pv 2) pe_int (fun _ _ => rfl)) (C8.pe_gc (by rfl) T.g_LAST_DATE)))))) (pss_one (ps_dput (hu1 hr) (pv 1) (pe_add (pe_ix (ix_tupK (K := K)) (pv 2) pe_int (fun _ _ => rfl)) pe_int) pe_bl rfl)) pss_nil))))
      (pss_one (ps_ret (pe_callB cr_sorted (by rfl) T.f_sorted bo_sorted (pa_cons (pe_lock (pe_lc rfl sc_Allowances_dates.nd (pi_keys (pv 1)) (blkOk_by (own := [("date", 3)]) (N := N_Allowances_dates) (sc := defScope s_Allowances_dates) (by decide +kernel)) (fun _ _ _ _ _ => (pg_name (i := 3) sc_Allowances_dates.nd rfl (by first | exact Or.inl rfl | exact Or.inr rfl))) (fun _ _ _ _ _ => pts_nil) (fun _ _ _ _ _ => (pe_callTy call_int1 (by rfl) T.f_int bo_int (pa_cons (pv 3) pa_nil))))) pa_nil)))))), .inl ?_⟩
  obtain ⟨nd, ln, hm⟩ := fold_rowK rs [0] (nd_one 0)
  refine st_seq (st_asgK (kds := kI [0]) (evk_disp (eps_cons (x := .inl 0) ev_int ev_bl eps_nil) (nd_one _) (by decide))) ?_
  refine st_seq (STs.one (out := .nx [.d (bookD K rs b), .k (kI (rs.foldl rowK [0])), .x, .x]) (sts_for rs rowD (fun i ρ => ρ = [.d (bookD K rs b), .k (kI ((rs.take i).foldl rowK [0])), .x, .x]) _ (it_list (ev_fld (ev_var rfl) T.cls_Allowances T.no_own_rows rfl)) ⟨_, rfl, Wk.refl _⟩ (fun i ρ q hq hρ => ⟨_, _, gt_name, ?_⟩) fun ρ hρ => by rw [hρ, List.take_length])) (st_ret ?_)
  · subst hρ
    have hlt : i < rs.length := (List.getElem?_eq_some_iff.mp hq).1
    obtain ⟨nd2, ln2, _⟩ := fold_rowK (rs.take i) [0] (nd_one 0)
    have l12 : ((rs.take i).foldl rowK [0]).length ≤ 25 := by
      rw [List.length_take] at ln2
      simp at ln2
      omega
    have etake : (rs.take (i + 1)).foldl rowK [0] = rowK ((rs.take i).foldl rowK [0]) q := by
      have e2 : rs[i] = q := by
        rw [List.getElem?_eq_getElem hlt] at hq
        exact Option.some.inj hq
      rw [List.take_succ_eq_append_getElem hlt, List.foldl_append, e2]
      rfl
    generalize (rs.take i).foldl rowK [0] = ks at l12 etake ⊢
    have l2 := addK_len ks q.s
    obtain ⟨qa, qb, qs, qt⟩ := q
    have ht := (hw _ (List.mem_of_getElem? hq)).t
    refine ST.s (out := .nx [.d (bookD K rs b), .k (kI (rowK ks ⟨qa, qb, qs, qt⟩)), .d (rowD ⟨qa, qb, qs, qt⟩), .x]) (st_seq (ρ1 := [.d (bookD K rs b), .k (kI (addK ks qs)), .d (rowD ⟨qa, qb, qs, qt⟩), .x]) (st_out (st_dput (kds := kI ks) (x := .inl qs) rfl ev_bl (ev_ixT (ev_var rfl) ev_int rfl) (by simp [kI]; omega)) (by rw [put_kI]; rfl)) ?_) (.inl ⟨_, _, rfl, .same (.same (.fog (.same .nil))), by rw [etake]⟩)
    cases qt with
    | none => exact st_if (b := false && false) (et_and (et_is (et_test (ev_notN (ev_ixT (ev_var rfl) ev_int rfl))) rfl) fun h => nomatch h) (fun h => nomatch h) fun _ => st_next
    | some t =>
      have := ht t rfl
      exact st_if (b := true && decide (t < 9999)) (et_and (et_is (et_test (ev_notN (ev_ixT (ev_var rfl) ev_int rfl))) rfl) fun _ => et_test (ev_cmp (ev_ixT (ev_var rfl) ev_int rfl) ev_int)) (fun _ => st_out (st_dput (kds := kI (addK ks qs)) (x := .inl (t + 1)) rfl ev_bl (ev_add (ev_ixT (ev_var rfl) ev_int rfl) ev_int) (by simp only [kI, List.length_map]; exact Nat.le_trans l2 (by omega))) (by rw [put_kI]; rfl)) (fun h => by simp at h; omega)
  · refine (evn_sortI (xs := rs.foldl rowK [0]) (ys := turns rs) (ea_cons (lst_is (evn_lcK (vs := [3]) (kds := kI (rs.foldl rowK [0])) (fun _ => true) (fun x => keyD x.1) rfl (by simp [kI]; simp at ln; omega) fun x hx => ⟨_, _, gt_name, fun i hi => hi, et_yes, fun _ => ?_⟩).ev ?_) ea_nil) (by simp at ln; omega) fun zs hp hs => turns_sort hw hp hs).ev
    · obtain ⟨i, hi, e⟩ := List.mem_map.mp hx
      subst e
      exact ev_int1 (ea_cons (ev_var rfl) ea_nil)
    · rw [List.filter_eq_self.mpr (by simp)]
      unfold kI
      rw [List.map_map]
      rfl

abbrev N_Allowances_call : List Str := ["self", "plain", "date", "found", "at", "part"]
theorem sc_Allowances_call : FnScope N_Allowances_call ["self", "plain", "date"] (defScope s_Allowances_call) := C8.fnScope_by (by decide +kernel)
def R_Allowances_call (K : PySem.W.Frag) (ds : List Dat) (r : Dat) : Prop := ∃ (rs : List Ga.Row) (b : Bool) (p : Nat) (d : Int), (∀ q ∈ rs, WR q) ∧ rs.length ≤ 12 ∧ p < 4 ∧ (0 ≤ d ∧ d ≤ 9999) ∧ ds = [bookD K rs b, ltD p, .int d] ∧ r = .tup ((cand rs b p d).map ltD)
theorem p_Allowances_call (T : Tx K mg) (c_check_date : Ca pg w K mg base 3 "check_date" R_check_date) (c_ascending : C8.Cal pg w K mg base 1 "ascending" (spN R_ascending) []) (m_steps : C8.Met pg w K mg base 2 (He.ga K "Allowances") "steps" (spN (R_Allowances_steps K)) []) : CaO pg w K mg base 4 (He.ga K "Allowances") (R_Allowances_call K) := by
  obtain ⟨fd, F⟩ := T.d_Allowances_call
  refine ⟨_, T.co_Book, fnR_of (fnD (d := d_Allowances_call) F sc_Allowances_call (by
    rintro ds r ⟨rs, b, p, d, hw, hl, hp, hd, rfl, rfl⟩
    rfl) ?_) (F.bindsN (ps := ["self", "plain", "date"]) fun kV doc pm an cdv ct us h => by
    match us, h with
    | [a, b, c], _ => rfl)⟩
  rintro cdv A outer s H E hr ds r ⟨rs, b, p, d, hw, hl, hp, hd, rfl, rfl⟩
  refine ⟨_, (pss_cons (ps_expr (C8.pe_c c_check_date hr (by decide) (by rfl) (pa_cons (pv 2) pa_nil)))
      (pss_cons (ps_set (i := 3) sc_Allowances_call.nd rfl (by first | exact Or.inl rfl | exact Or.inr rfl) (C8.pe_mt m_steps hr (by decide) (pv 0) (pa_cons (pv 1) (pa_cons (pv 2) pa_nil))))
      (pss_cons (ps_set (i := 4) sc_Allowances_call.nd rfl (by first | exact Or.inl rfl | exact Or.inr rfl) pe_int)
      (pss_cons (ps_while PassesOwn.never (PW.pt (pw_and (pt_val (pe_fldK (K := K) (pv 0) rfl)) (pw_and1 (pt_cmp (pc_lt (pv 4) (pe_callB (call_lenK (K := K)) (by rfl) T.f_len PySem.boot_len (pa_cons (pv 3) pa_nil))))))) (pss_cons (ps_expr (pe_bm PySem.F.plainAttrs_list PySem.F.slot_list_extend PySem.F.type_list_extend mt_extend (pv 3) (pa_cons (pe_lc rfl sc_Allowances_call.nd (pi_listK (K := K) (C8.pe_mt m_steps hr (by decide) (pv 0) (pa_cons (pe_ix (ix_listK (K := K)) (pv 3) (pv 4) (fun _ _ => rfl)) (pa_cons (pv 2) pa_nil)))) (blkOk_by (own := [("part", 5)]) (N := N_Allowances_call) (sc := defScope s_Allowances_call) (by decide +kernel)) (fun _ _ _ _ _ => (pg_name (i := 5) sc_Allowances_call.nd rfl (by first | exact Or.inl rfl | exact Or.inr rfl))) (fun _ _ _ _ _ => (pts_one (pt_cmpR (op_notIn_seqK (K := K)) (pv 5) (pv 3) (by rfl)))) (fun _ _ _ _ _ => (pv 5))) pa_nil)))
      (pss_one (ps_aug (i := 4) sc_Allowances_call.nd rfl (by first | exact Or.inl rfl | exact Or.inr rfl) pe_int ip_add))))
      (pss_one (ps_ret (pe_tup (pa_cons (pv 1) (pa_starK (K := K) (C8.pe_c c_ascending hr (by decide) (by rfl) (pa_cons (pe_lc rfl sc_Allowances_call.nd (pi_listK (K := K) (pv 3)) (blkOk_by (own := [("part", 5)]) (N := N_Allowances_call) (sc := defScope s_Allowances_call) (by decide +kernel)) (fun _ _ _ _ _ => (pg_name (i := 5) sc_Allowances_call.nd rfl (by first | exact Or.inl rfl | exact Or.inr rfl))) (fun _ _ _ _ _ => (pts_one (pt_cmpR op_ne (pv 5) (pv 1) (nomark _)))) (fun _ _ _ _ _ => (pv 5))) pa_nil)) pa_nil))))))))), .inl ?_⟩
  refine st_seq (st_drop (ev_call (ds := [.int d]) (by repeat' trivial) ⟨d, hd.1, hd.2, rfl, rfl⟩)) ?_
  refine st_seq (st_asgN (evn_meth (ds := [ltD p, .int d]) (ev_var rfl) rfl (by repeat' trivial) ⟨rs, b, p, d, hw, hl, rfl, rfl⟩)) ?_
  refine st_seq (st_asg ev_int) ?_
  have goal : (.tup ((cand rs b p d).map ltD)) = Dat.tup (ltD p :: (stand rs b p d).map ltD ++ []) := by
    rw [List.append_nil]
    rfl
  rw [goal]
  cases b with
  | false =>
    have hst := progFlat hw p d
    have l4 : ∀ n ∈ steps rs p d, n < 4 := fun n hn => steps_lt hw hn
    have ll := len_le (steps_nd rs p d) l4
    refine st_seq (st_while (fun i => [.d (bookD K rs false), .d (ltD p), .d (.int d), .l ((steps rs p d).map ltD), .d (.int 0), .x]) 0 (Wk.refl _) (fun i hi => absurd hi (Nat.not_lt_zero _)) (et_and (b := false) (c := false) (et_B (ev_fld (ev_var rfl) T.cls_Allowances T.no_own_through rfl)) fun h => nomatch h)) (st_ret ?_)
    refine ev_tup (ds := ltD p :: (stand rs false p d).map ltD ++ []) (ea_cons (ev_var rfl) (ea_starL (EVN.l (evn_is (evn_call (es := (asc ((steps rs p d).filter fun y => decide (y ≠ p))).map ltD) (ds := [.lst (((steps rs p d).filter fun y => decide (y ≠ p)).map ltD)]) (ea_cons (evn_lc (vs := [5]) (steps rs p d) ltD (fun y => decide (y ≠ p)) ltD (it_listO (evl_var rfl)) (by omega) fun x hx => ⟨_, _, gt_name, fun i hi => hi, et_is (et_test (ev_neS (ev_var rfl) (ev_var rfl))) ?_, fun _ => ev_var rfl⟩).ev ea_nil) ⟨_, ?_, ?_, rfl, rfl⟩) ?_)) ea_nil)) ?_
    · by_cases h : x = p <;> simp [h, P_eq]
    · exact Nat.lt_of_le_of_lt (List.length_filter_le ..) (by omega)
    · intro n hn
      have := l4 n (List.mem_filter.mp hn).1
      omega
    · rw [hst]
    · have := cand_len rs false p d
      unfold cand at this
      simp at this ⊢
      omega
  | true =>
    obtain ⟨n, hn4, h1, h2, hst⟩ := progDeep hw p d
    have G := growsP (nx := fun x => steps rs x d) fun x => steps_nd rs x d
    have w4 : ∀ i, ∀ y ∈ walk (growP fun x => steps rs x d) (steps rs p d) i, y < 4 := fun i => walk_all G (R := (· < 4)) (fun n hn => steps_lt hw hn) (fun x _ n hn => steps_lt hw hn) i
    have wl : ∀ i, (walk (growP fun x => steps rs x d) (steps rs p d) i).length ≤ 4 := fun i => len_le (walk_nd G (steps_nd rs p d) i) (w4 i)
    have l4 := w4 n
    have ll := wl n
    refine st_seq (st_while (fun i => [.d (bookD K rs true), .d (ltD p), .d (.int d), .l ((walk (growP fun x => steps rs x d) (steps rs p d) i).map ltD), .d (.int (i : Nat)), .x]) n (Wk.refl _) (fun i hi => ⟨?_, ?_⟩) ?_) (st_ret ?_)
    · refine et_is (et_and (b := true) (et_B (ev_fld (ev_var rfl) T.cls_Allowances T.no_own_through rfl)) fun _ => et_B (ev_cmp (ev_var rfl) (ev_lenL (evl_var rfl)))) ?_
      have := h1 i hi
      simp
      omega
    · have hi1 := h1 i hi
      obtain ⟨x, hx⟩ : ∃ x, (walk (growP fun x => steps rs x d) (steps rs p d) i)[i]? = some x := ⟨_, List.getElem?_eq_getElem hi1⟩
      have hxm := List.mem_of_getElem? hx
      rw [walk_step hx]
      have w4i := w4 i
      have wli := wl i
      generalize walk (growP fun x => steps rs x d) (steps rs p d) i = l at hx hxm w4i wli ⊢
      have sl : (steps rs x d).length ≤ 4 := len_le (steps_nd rs x d) fun n hn => steps_lt hw hn
      have ix : atI (l.map ltD) (i : Nat) = some (ltD x) := L2.atI_nat (by rw [List.getElem?_map, hx]; rfl)
      refine st_seq (ρ1 := [.d (bookD K rs true), .d (ltD p), .d (.int d), .l ((growP (fun x => steps rs x d) l x).map ltD), .d (.int (i : Nat)), .x]) (st_out (st_ext (es := ((steps rs x d).filter fun y => decide (y ∉ l)).map ltD) rfl (evn_lc (vs := [5]) (steps rs x d) ltD (fun y => decide (y ∉ l)) ltD (it_listO (EVN.l (evn_meth (ds := [ltD x, .int d]) (ev_var rfl) rfl (ea_cons (ev_ixL (evl_var rfl) (ev_var rfl) ix) (ea_cons (ev_var rfl) ea_nil)) ⟨rs, true, x, d, hw, hl, rfl, rfl⟩))) (by omega) fun y hy => ⟨_, _, gt_name, fun i hi => hi, et_is (et_test (ev_niSL (s := Ga.P y) (xs := l.map Ga.P) (ev_var rfl) (evl_is (evl_var rfl) (map_str l)))) ?_, fun _ => ev_var rfl⟩).l ?_) ?_) (st_out (st_aug (f := fun a b => a + b) rfl ev_int) ?_)
      · by_cases h : y ∈ l <;> simp [h, P_mem]
      · have := List.length_filter_le (fun y => decide (y ∉ l)) (steps rs x d)
        rw [List.length_map, List.length_map]
        omega
      · unfold growP
        rw [List.map_append]
        rfl
      · rfl
    · refine et_is (et_and (b := true) (et_B (ev_fld (ev_var rfl) T.cls_Allowances T.no_own_through rfl)) fun _ => et_B (ev_cmp (ev_var rfl) (ev_lenL (evl_var rfl)))) ?_
      simp
      omega
    refine ev_tup (ds := ltD p :: (stand rs true p d).map ltD ++ []) (ea_cons (ev_var rfl) (ea_starL (EVN.l (evn_is (evn_call (es := (asc ((walk (growP fun x => steps rs x d) (steps rs p d) n).filter fun y => decide (y ≠ p))).map ltD) (ds := [.lst (((walk (growP fun x => steps rs x d) (steps rs p d) n).filter fun y => decide (y ≠ p)).map ltD)]) (ea_cons (evn_lc (vs := [5]) (walk (growP fun x => steps rs x d) (steps rs p d) n) ltD (fun y => decide (y ≠ p)) ltD (it_listO (evl_var rfl)) (by omega) fun x hx => ⟨_, _, gt_name, fun i hi => hi, et_is (et_test (ev_neS (ev_var rfl) (ev_var rfl))) ?_, fun _ => ev_var rfl⟩).ev ea_nil) ⟨_, ?_, ?_, rfl, rfl⟩) ?_)) ea_nil)) ?_
    · by_cases h : x = p <;> simp [h, P_eq]
    · exact Nat.lt_of_le_of_lt (List.length_filter_le ..) (by omega)
    · intro n hn
      have := l4 n (List.mem_filter.mp hn).1
      omega
    · rw [hst]
    · have := cand_len rs true p d
      unfold cand at this
      simp at this ⊢
      omega

abbrev N_Allowances_init : List Str := ["self", "rows", "through", "index", "row", "known", "text"]
theorem sc_Allowances_init : FnScope N_Allowances_init ["self", "rows", "through"] (defScope s_Allowances_init) := C8.fnScope_by (by decide +kernel)
def R_Allowances_init (ds : List Dat) (r : List (Str × Dat)) : Prop := ∃ (rs : List Ga.Row) (b : Bool), (∀ q ∈ rs, WR q) ∧ rs.Nodup ∧ rs.length ≤ 12 ∧ ds = [.lst (rs.map rowD), .bl b] ∧ r = bookF (bookRows rs) b
theorem p_Allowances_init (T : Tx K mg) (c_is_allowance : Ca pg w K mg base 3 "is_allowance" R_is_allowance) (c_text_of : Ca pg w K mg base 1 "text_of" R_text_of) : MakA pg w K mg base 4 "Allowances" (He.ga K "Allowances") 1 ["through"] (spI (He.ga K "Allowances") R_Allowances_init) := by
  obtain ⟨fd, F⟩ := T.d_Allowances_init
  obtain ⟨its, mv, hb⟩ := F.kbinds (ps := ["self", "rows", "through"]) 2 ["through"] [] (fun us _ _ ws => us ++ ws) (fun z => nomatch z) (fun z => nomatch z) (fun _ h => nomatch h) (fun r1 _ _ r4 => r1.append r4) fun TT DD doc pm an cdv ct us its mv ws h h2 h3 h4 => by
    match us, h, its, h2, mv, h3, ws, h4 with
    | [a, b], _, [d], _, [], _, [c], _ => exact ⟨_, rfl, rfl⟩
  refine ⟨_, _, _, _, T.mk_Allowances, fnI (d := d_Allowances_init) F sc_Allowances_init (by
    rintro ds r ⟨rs, b, hw, nd, hl, rfl, rfl⟩
    rfl) ?_, T.g_Allowances, hb⟩
  rintro cdv A outer s H E hr ds r ⟨rs, b, hw, nd, hl, rfl, rfl⟩
  refine ⟨_, (pss_cons (ps_if (pt_not (pt_val (pe_callB call_isiT (by rfl) T.f_isinstance bo_isi (pa_cons (pv 1) (pa_cons (pe_tup (pa_cons (pe_ty "list" (by rfl) T.f_list bo_list) (pa_cons (pe_ty "tuple" (by rfl) T.f_tuple bo_tuple) pa_nil))) pa_nil))))) (pss_one ps_never) pss_nil)
      (pss_cons (ps_for PassesOwn.never rfl (pi_enum (by rfl) T.f_enumerate (pa_cons (pv 1) pa_nil)) (pg_tupK (K := K) (n := 2) rfl (pgs_cons (pg_name (i := 3) sc_Allowances_init.nd rfl (by first | exact Or.inl rfl | exact Or.inr rfl)) (pgs_cons (pg_name (i := 4) sc_Allowances_init.nd rfl (by first | exact Or.inl rfl | exact Or.inr rfl)) pgs_nil))) (pss_one (ps_if (PW.pt (pw_or (pt_not (pt_val (C8.pe_c c_is_allowance hr (by decide) (by rfl) (pa_cons (pv 4) pa_nil)))) (pw_or1 (pt_cmpR (op_inDK (K := K) (hu65 hr)) (pv 4) (pe_slice (sl_listK (K := K)) (pv 1) po_none (po_some (pv 3))) (by rfl))))) (pss_one ps_never) pss_nil)))
      (pss_cons (ps_if (pt_cmp (pc_gt (pe_callB (call_lenK (K := K)) (by rfl) T.f_len PySem.boot_len (pa_cons (pv 1) pa_nil)) (C8.pe_gc (by rfl) T.g_MOST_ALLOWANCES))) (pss_one ps_never) pss_nil)
      (pss_cons (ps_set (i := 5) sc_Allowances_init.nd rfl (by first | exact Or.inl rfl | exact Or.inr rfl) (pe_dc rfl sc_Allowances_init.nd (pi_listK (K := K) (pv 1)) (blkOk_by (own := [("row", 4)]) (N := N_Allowances_init) (sc := defScope s_Allowances_init) (by decide +kernel)) (fun _ _ _ _ _ => (pg_name (i := 4) sc_Allowances_init.nd rfl (by first | exact Or.inl rfl | exact Or.inr rfl))) (fun _ _ _ _ _ => pts_nil) (fun _ _ _ _ _ => (C8.pe_c c_text_of hr (by decide) (by rfl) (pa_cons (pv 4) pa_nil))) (fun _ _ _ _ _ => (pv 4))))
      (pss_cons (ps_fld (pv 0) (pe_lc rfl sc_Allowances_init.nd (pi_listK (K := K) (pe_callB cr_sortedS (by rfl) T.f_sorted bo_sorted (pa_cons (pe_lock (pe_lc rfl sc_Allowances_init.nd (pi_keys (pv 5)) (blkOk_by (own := [("text", 6)]) (N := N_Allowances_init) (sc := defScope s_Allowances_init) (by decide +kernel)) (fun _ _ _ _ _ => (pg_name (i := 6) sc_Allowances_init.nd rfl (by first | exact Or.inl rfl | exact Or.inr rfl))) (fun _ _ _ _ _ => pts_nil) (fun _ _ _ _ _ => (pe_callTy SkE.call_str_str (by rfl) T.f_str bo_str (pa_cons (pv 6) pa_nil))))) pa_nil))) (blkOk_by (own := [("text", 6)]) (N := N_Allowances_init) (sc := defScope s_Allowances_init) (by decide +kernel)) (fun _ _ _ _ _ => (pg_name (i := 6) sc_Allowances_init.nd rfl (by first | exact Or.inl rfl | exact Or.inr rfl))) (fun _ _ _ _ _ => pts_nil) (fun _ _ _ _ _ => (pe_dget (hu1 hr) (pv 5) (pv 6) (fun _ _ => rfl)))) rfl)
      (pss_one (ps_fld (pv 0) (pe_callTy call_bool1 (by rfl) T.f_bool bo_bool (pa_cons (pv 2) pa_nil)) rfl))))))), ?_⟩
  intro x
  have en : enumD (rs.map rowD) = rs.zipIdx.map fun p => Dat.tup [.int (p.2 : Nat), rowD p.1] := by
    simp [enumD, List.zipIdx_map, Function.comp_def]
  have tnd : (rs.map txt).Nodup := by
    clear hl en
    induction rs with
    | nil => exact .nil
    | cons q rs ih =>
      obtain ⟨n1, n2⟩ := List.nodup_cons.mp nd
      rw [List.map_cons, List.nodup_cons]
      refine ⟨fun z => ?_, ih (fun y hy => hw y (List.mem_cons_of_mem _ hy)) n2⟩
      obtain ⟨y, hy, e⟩ := List.mem_map.mp z
      exact n1 (txt_inj (hw y (List.mem_cons_of_mem _ hy)) (hw q List.mem_cons_self) e ▸ hy)
  have kn : (rs.map fun q => (.inr (txt q) : Key)).Nodup := by
    have z : (rs.map fun q => (.inr (txt q) : Key)) = (rs.map txt).map .inr := by rw [List.map_map]; rfl
    rw [z]
    exact List.pairwise_map.mpr (tnd.imp fun h e => h (Sum.inr.inj e))
  refine ⟨_, st_seqIf (b := !true) (et_not (et_B (isi_lst_two (ev_var rfl)))) (fun h => nomatch h) (fun _ => st_seqNext (st_seq (st_out (o2 := .nx (.o x (He.ga K "Allowances") [] :: .d (.lst (rs.map rowD)) :: .d (.bl b) :: [.x, .x, .x, .x])) (st_for rs.zipIdx (fun p => Dat.tup [.int (p.2 : Nat), rowD p.1]) (fun _ : Unit => .o x (He.ga K "Allowances") [] :: .d (.lst (rs.map rowD)) :: .d (.bl b) :: [.x, .x, .x, .x]) (fun s _ => .inl s) () (en ▸ it_enum (ea_cons (ev_var rfl) ea_nil)) (Wk.refl _) fun s y hy => ⟨_, _, gt_tup (is := [3, 4]) rfl rfl rfl, ?_⟩) ?_)
    (st_seqIf (b := decide (((rs.map rowD).length : Int) > 12)) (et_test (ev_cmp (ev_lenL (ev_var rfl).l) ev_int)) (fun h => ?_) fun _ => st_seqNext
    (st_seq (ρ1 := .o x (He.ga K "Allowances") [] :: .d (.lst (rs.map rowD)) :: .d (.bl b) :: [.x, .x, .k (rs.map fun q => (.inr (txt q), rowD q)), .x]) (st_out (st_asgK (evk_dc (vs := [4]) rs rowD (fun q => .inr (txt q)) rowD (it_list (ev_var rfl)).o (by omega) fun q hq => ⟨_, _, gt_name, fun i hi => hi, et_yes, ev_call (ds := [rowD q]) (by repeat' trivial) ⟨q, hw q hq, rfl, rfl⟩, ev_var rfl⟩)) ?_)
    (st_seq (st_fld (d := .lst ((bookRows rs).map rowD)) rfl (lst_is (evn_lc (vs := [6]) (srt (rs.map txt)) Dat.str (fun _ => true) (fun y => match rs.find? fun q => decide (txt q = y) with
      | some q => rowD q
      | none => .non) (it_list (evn_sortS (xs := rs.map txt) (ys := srt (rs.map txt)) (ea_cons (lst_is (evn_lcK (vs := [6]) (kds := rs.map fun q => (.inr (txt q), rowD q)) (fun _ => true) (fun z => keyD z.1) rfl ?_ fun z hz => ⟨_, _, gt_name, fun i hi => hi, et_yes, fun _ => ?_⟩).ev ?_) ea_nil) ?_ fun zs hp hs => srt_of tnd hp hs).ev).o ?_ fun y hy => ⟨_, _, gt_name, fun i hi => hi, et_yes, fun _ => ?_⟩).ev ?_) T.cls_Allowances T.no_own_rows rfl (by decide : ([] : List (Str × Dat)).length < 1000))
    (st_fld rfl (ev_bool1 (ea_cons (ev_var rfl) ea_nil)) T.cls_Allowances T.no_own_through rfl (by decide : ([("own_rows", Dat.non)] : List (Str × Dat)).length < 1000))))))), rfl⟩
  · obtain ⟨h1, h2, h3⟩ := List.mem_zipIdx hy
    have hyl : y.2 < rs.length := by omega
    have hym : y.1 ∈ rs := by rw [h3]; exact List.getElem_mem _
    have wy := hw _ hym
    refine st_if (b := !true || ((rs.take y.2).map rowD).any fun z => eqD z (rowD y.1)) (et_or (et_not (et_B (ev_call (ds := [rowD y.1]) (by repeat' trivial) ⟨y.1, wy, rfl, rfl⟩))) fun _ => et_test (ev_isD (ev_var rfl) (evl_is (evn_slL (lo := none) (hi := some (y.2 : Nat)) (ev_var rfl).l eo_none (eo_some (ev_var rfl))).l ?_) ((ok_row wy).shp (by omega)) ((ok_lst (n := 1) ?_).shp (by omega)))) (fun h => ?_) fun _ => st_wk st_next (.same (.same (.same (.fog (.fog (.same (.same .nil)))))))
    · rw [cut_to (by rw [List.length_map]; omega), ← List.map_take]
    · intro d hd
      obtain ⟨z, hz, e⟩ := List.mem_map.mp hd
      subst e
      exact ok_row (hw z (List.mem_of_mem_take hz))
    · exfalso
      simp only [Bool.not_true, Bool.false_or, List.any_map, List.any_eq_true, Function.comp_apply, eqD_row, decide_eq_true_eq] at h
      obtain ⟨z, hz, e⟩ := h
      subst e
      obtain ⟨j, hj, ej⟩ := List.mem_iff_getElem.mp hz
      rw [List.length_take] at hj
      rw [List.getElem_take] at ej
      refine List.pairwise_iff_getElem.mp nd j y.2 (by omega) hyl (by omega) (ej.trans ?_)
      rw [h3]
      rfl
  · rw [foldX_all _ (fun s _ => s) _ (fun _ _ _ => rfl)]
    rfl
  · simp at h
    omega
  · rw [fold_put (fun q => (.inr (txt q) : Key)) rowD rs [] kn (fun _ _ _ h => nomatch h)]
    rfl
  · rw [List.length_map]
    omega
  · obtain ⟨q, hq, e⟩ := List.mem_map.mp hz
    subst e
    exact ev_str1 (ea_cons (ev_var rfl) ea_nil)
  · rw [List.filter_eq_self.mpr (by simp), List.map_map, List.map_map]
    rfl
  · rw [List.length_map]
    omega
  · rw [(srt_perm _).length_eq, List.length_map]
    omega
  · have hy2 := (srt_perm _).mem_iff.mp hy
    obtain ⟨q, hq, e⟩ := List.mem_map.mp hy2
    subst e
    rw [find_row hw hq]
    exact ev_kget (x := .inr (txt q)) rfl (ev_var rfl) (by rw [val_txt, find_row hw hq]; rfl)
  · rw [List.filter_eq_self.mpr (by simp)]
    exact bookRows_map hw rowD

end
end Gk

set_option maxHeartbeats 4000000
namespace Gk
open PySem PySem.Spec PyProof.Rows L2 Dl Ga
section
variable {pg : Program} {w : World} {K : PySem.W.Frag} {mg : Str → Option Value} {base : Heap}
local macro_rules | `(tactic| trivial) => `(tactic| first
  | with_reducible exact ev_int
  | with_reducible exact ev_str
  | with_reducible exact ev_bl
  | with_reducible exact ev_non
  | ((with_reducible apply ev_var) <;> rfl)
  | ((with_reducible apply evl_var) <;> rfl)
  | with_reducible exact eo_none
  | with_reducible apply eo_some
  | with_reducible apply ev_add
  | with_reducible apply ev_sub
  | with_reducible apply ev_cmp
  | with_reducible apply ev_chain rfl rfl
  | with_reducible apply ev_and
  | with_reducible apply ev_or
  | with_reducible apply ev_not
  | with_reducible apply ev_isN
  | with_reducible apply ev_notN
  | with_reducible apply ea_cons
  | with_reducible exact ea_nil
  | with_reducible apply et_B
  | with_reducible apply et_test
  | with_reducible apply et_not
  | with_reducible apply et_and
  | with_reducible apply et_or
  | with_reducible apply ev_ixT
  | with_reducible apply ev_tup
  | with_reducible apply ev_int1
  | with_reducible apply ev_str1
  | with_reducible apply isi_int_int
  | with_reducible apply isi_int_bool
  | with_reducible apply isi_str_str
  | with_reducible apply isi_tup_tup
  | with_reducible apply isi_lst_lst
  | with_reducible apply isi_dic_dic
  | with_reducible exact et_yes
  | intro _)
/-- rows and places as they may be -/
structure Okp (pl : List Plc) (rs : List Ga.Row) : Prop where
  wp : ∀ x ∈ pl, WP x
  nd : (pl.map (·.w)).Nodup
  ln : pl.length ≤ 3
  wr : ∀ q ∈ rs, WR q
  lr : rs.length ≤ 12
def useD (u : Nat × Int) : Dat := .tup [ltD u.1, .int u.2]
theorem turns_len (rs : List Ga.Row) : (turns rs).length ≤ 64 := ascI_len _
theorem froms_len (rs : List Ga.Row) (d : Int) : (froms rs d).length ≤ 65 := by
  have h := List.length_filter_le (fun x => decide (x > d)) (turns rs)
  have h2 := turns_len rs
  unfold froms
  rw [List.length_cons]
  omega
theorem froms_rng {rs : List Ga.Row} (h : ∀ q ∈ rs, WR q) {d x : Int} (hd : 0 ≤ d ∧ d ≤ 9999) (m : x ∈ froms rs d) : 0 ≤ x ∧ x ≤ 9999 := by
  rcases mem_froms.mp m with e | e
  · omega
  · have := turns_rng h e.1
    omega
/-- one date's uses -/
noncomputable def usesAt (pl : List Plc) (rs : List Ga.Row) (dp : Bool) (p : Nat) (x : Int) : List (Nat × Int) := (pl.filter fun q => decide (p ∈ cand rs dp q.p x)).map fun q => (q.w, x)
theorem usesAt_len (pl : List Plc) (rs : List Ga.Row) (dp : Bool) (p : Nat) (x : Int) : (usesAt pl rs dp p x).length ≤ pl.length := by
  unfold usesAt
  rw [List.length_map]
  exact List.length_filter_le ..
theorem uses_len {pl : List Plc} {n : Nat} (rs : List Ga.Row) (dp : Bool) (p : Nat) (h : pl.length ≤ n) : ∀ l : List Int, (l.flatMap fun x => usesAt pl rs dp p x).length ≤ n * l.length
  | [] => Nat.le_refl _
  | x :: l => by
    have := uses_len rs dp p h l
    have := usesAt_len pl rs dp p x
    rw [List.flatMap_cons, List.length_append, List.length_cons, Nat.mul_succ]
    omega
theorem ok_use {u : Nat × Int} (h : u.1 < 26) : Ok 1 (useD u) := ok_tup fun d hd => by
  simp only [List.mem_cons, List.not_mem_nil, or_false] at hd
  rcases hd with rfl | rfl
  · exact ok_P h
  · exact ok_int
theorem eqD_use (u v : Nat × Int) : eqD (useD u) (useD v) = decide (u = v) := by
  unfold useD
  rw [eqv_tup, eqv_all, eqv_all, eqv_nil, eqD_lt, eqD_int, Bool.and_true, ← Bool.decide_and]
  apply decide_eq_decide.mpr
  exact ⟨fun ⟨a, b⟩ => Prod.ext a b, fun h => by rw [h]; exact ⟨rfl, rfl⟩⟩
theorem any_use (us : List (Nat × Int)) (u : Nat × Int) : ((us.map useD).any fun z => eqD z (useD u)) = decide (u ∈ us) := by
  rw [List.any_map]
  simp only [Function.comp_def, eqD_use]
  by_cases h : u ∈ us
  · rw [decide_eq_true h]
    exact List.any_eq_true.mpr ⟨u, h, by simp⟩
  · rw [decide_eq_false h]
    refine List.any_eq_false.mpr fun z hz => ?_
    simp only [decide_eq_true_eq]
    exact fun e => h (e ▸ hz)

abbrev N_dates_from : List Str := ["allowances", "date", "later"]
theorem sc_dates_from : FnScope N_dates_from ["allowances", "date"] (defScope s_dates_from) := C8.fnScope_by (by decide +kernel)
def R_dates_from (K : PySem.W.Frag) (ds : List Dat) (r : Dat) : Prop := ∃ (rs : List Ga.Row) (b : Bool) (d : Int), (∀ q ∈ rs, WR q) ∧ rs.length ≤ 12 ∧ ds = [bookD K rs b, .int d] ∧ r = .lst ((froms rs d).map .int)
theorem p_dates_from (T : Tx K mg) (m_dates : C8.Met pg w K mg base 1 (He.ga K "Allowances") "dates" (spD (R_Allowances_dates K)) []) : Ca pg w K mg base 2 "dates_from" (R_dates_from K) := by
  obtain ⟨fd, F⟩ := T.d_dates_from
  refine mkC (d := d_dates_from) F T.g_dates_from (F.bindsN (ps := ["allowances", "date"]) fun kV doc pm an cdv ct us h => by
    match us, h with
    | [a, b], _ => rfl) sc_dates_from (by
    rintro ds r ⟨rs, b, d, hw, hl, rfl, rfl⟩
    rfl) ?_
  rintro cdv A outer s H E hr ds r ⟨rs, b, d, hw, hl, rfl, rfl⟩
  refine ⟨_, (pss_one (ps_ret (pe_op op_cat (pe_lst (pa_cons (pv 1) pa_nil)) (pe_lc rfl sc_dates_from.nd (pi_listK (K := K) (C8.pe_mt0 m_dates hr (by decide) (pv 0))) (blkOk_by (own := [("later", 2)]) (N := N_dates_from) (sc := defScope s_dates_from) (by decide +kernel)) (fun _ _ _ _ _ => (pg_name (i := 2) sc_dates_from.nd rfl (by first | exact Or.inl rfl | exact Or.inr rfl))) (fun _ _ _ _ _ => (pts_one (pt_cmp (pc_gt (pv 2) (pv 1))))) (fun _ _ _ _ _ => (pv 2)))))), .inl ?_⟩
  have tl := turns_len rs
  have fl := List.length_filter_le (fun x => decide (x > d)) (turns rs)
  refine st_ret (lst_is (evn_cat (ds := [.int d]) (es := ((turns rs).filter fun x => decide (x > d)).map .int) (evn_lst (ea_cons (ev_var rfl) ea_nil)).l (evn_lc (vs := [2]) (turns rs) Dat.int (fun x => decide (x > d)) Dat.int (it_list (ev_meth (ds := []) (ev_var rfl) rfl ea_nil ⟨rs, b, hw, hl, rfl, rfl⟩)).o (by omega) fun x hx => ⟨_, _, gt_name, fun i hi => hi, et_test (ev_cmp (ev_var rfl) (ev_var rfl)), fun _ => ev_var rfl⟩).l ?_).ev rfl)
  rw [List.length_map]
  show 1 + _ ≤ _
  omega

abbrev N_uses_from : List Str := ["parts_list", "allowances", "part", "date", "found", "later", "place"]
theorem sc_uses_from : FnScope N_uses_from ["parts_list", "allowances", "part", "date"] (defScope s_uses_from) := C8.fnScope_by (by decide +kernel)
def R_uses_from (K : PySem.W.Frag) (ds : List Dat) (r : Dat) : Prop := ∃ (pl : List Plc) (rs : List Ga.Row) (b : Bool) (p : Nat) (d : Int), Okp pl rs ∧ p < 4 ∧ (0 ≤ d ∧ d ≤ 9999) ∧ ds = [listD K pl, bookD K rs b, ltD p, .int d] ∧ r = .lst ((uses pl rs b p d).map useD)
theorem p_uses_from (T : Tx K mg) (c_check_shares : Ca pg w K mg base 2 "check_shares" (R_check_shares K)) (c_check_date : Ca pg w K mg base 3 "check_date" R_check_date) (c_dates_from : Ca pg w K mg base 2 "dates_from" (R_dates_from K)) (m_places : C8.Met pg w K mg base 1 (He.ga K "PartsList") "places" (spD (R_PartsList_places K)) []) (o_Book : CaO pg w K mg base 4 (He.ga K "Allowances") (R_Allowances_call K)) : Ca pg w K mg base 5 "uses_from" (R_uses_from K) := by
  obtain ⟨fd, F⟩ := T.d_uses_from
  refine mkC (d := d_uses_from) F T.g_uses_from (F.bindsN (ps := ["parts_list", "allowances", "part", "date"]) fun kV doc pm an cdv ct us h => by
    match us, h with
    | [a, b, c, d], _ => rfl) sc_uses_from (by
    rintro ds r ⟨pl, rs, b, p, d, ok, hp, hd, rfl, rfl⟩
    rfl) ?_
  rintro cdv A outer s H E hr ds r ⟨pl, rs, b, p, d, ok, hp, hd, rfl, rfl⟩
  refine ⟨_, (pss_cons (ps_expr (C8.pe_c c_check_shares hr (by decide) (by rfl) (pa_cons (pv 0) pa_nil)))
      (pss_cons (ps_expr (C8.pe_c c_check_date hr (by decide) (by rfl) (pa_cons (pv 3) pa_nil)))
      (pss_cons (ps_set (i := 4) sc_uses_from.nd rfl (by first | exact Or.inl rfl | exact Or.inr rfl) (pe_lst pa_nil))
      (pss_cons (ps_for PassesOwn.never rfl (pi_listK (K := K) (C8.pe_c c_dates_from hr (by decide) (by rfl) (pa_cons (pv 1) (pa_cons (pv 3) pa_nil)))) (pg_name (i := 5) sc_uses_from.nd rfl (by first | exact Or.inl rfl | exact Or.inr rfl)) (pss_one (ps_for PassesOwn.never rfl (pi_listK (K := K) (C8.pe_mt0 m_places hr (by decide) (pv 0))) (pg_name (i := 6) sc_uses_from.nd rfl (by first | exact Or.inl rfl | exact Or.inr rfl)) (pss_one (ps_if (pt_cmpR (op_in_seqK (K := K)) (pv 2) (pe_co o_Book hr (by decide) (pv 1) (pa_cons (pe_ix (ix_tupK (K := K)) (pv 6) pe_int (fun _ _ => rfl)) (pa_cons (pv 5) pa_nil))) (by rfl)) (pss_one (ps_expr (pe_bm PySem.F.plainAttrs_list PySem.F.slot_list_append PySem.F.type_list_append mt_append (pv 4) (pa_cons (pe_tup (pa_cons (pe_ix (ix_tupK (K := K)) (pv 6) pe_int (fun _ _ => rfl)) (pa_cons (pv 5) pa_nil))) pa_nil)))) pss_nil)))))
      (pss_one (ps_ret (pv 4))))))), .inl ?_⟩
  have fl := froms_len rs d
  have pl3 := ok.ln
  refine st_seq (st_drop (ev_call (ds := [listD K pl]) (by repeat' trivial) ⟨pl, by omega, rfl, rfl⟩)) ?_
  refine st_seq (st_drop (ev_call (ds := [.int d]) (by repeat' trivial) ⟨d, hd.1, hd.2, rfl, rfl⟩)) ?_
  refine st_seq (st_asgN (evn_lst ea_nil)) ?_
  refine st_seq (STs.one (out := .nx [.d (listD K pl), .d (bookD K rs b), .d (ltD p), .d (.int d), .l ((uses pl rs b p d).map useD), .x, .x]) (sts_for (froms rs d) Dat.int (fun i ρ => ρ = [.d (listD K pl), .d (bookD K rs b), .d (ltD p), .d (.int d), .l ((((froms rs d).take i).flatMap fun x => usesAt pl rs b p x).map useD), .x, .x]) _ (it_list (ev_call (ds := [bookD K rs b, .int d]) (by repeat' trivial) ⟨rs, b, d, ok.wr, ok.lr, rfl, rfl⟩)) ⟨_, rfl, Wk.refl _⟩ (fun i ρ x hx hρ => ⟨_, _, gt_name, ?_⟩) fun ρ hρ => ?_)) (st_retL rfl)
  · subst hρ
    have hlt : i < (froms rs d).length := (List.getElem?_eq_some_iff.mp hx).1
    have xr := froms_rng ok.wr hd (List.mem_of_getElem? hx)
    have etake : ((froms rs d).take (i + 1)).flatMap (fun x => usesAt pl rs b p x) = ((froms rs d).take i).flatMap (fun x => usesAt pl rs b p x) ++ usesAt pl rs b p x := by
      have e2 : (froms rs d)[i] = x := by
        rw [List.getElem?_eq_getElem hlt] at hx
        exact Option.some.inj hx
      rw [List.take_succ_eq_append_getElem hlt, List.flatMap_append, e2]
      simp
    have ul := uses_len (n := 3) rs b p pl3 ((froms rs d).take i)
    rw [List.length_take] at ul
    have ul2 : (((froms rs d).take i).flatMap fun x => usesAt pl rs b p x).length ≤ 200 := by omega
    rw [etake]
    generalize ((froms rs d).take i).flatMap (fun x => usesAt pl rs b p x) = U at ul2 ⊢
    refine STs.mono (O1 := (· = .nx [.d (listD K pl), .d (bookD K rs b), .d (ltD p), .d (.int d), .l ((U ++ usesAt pl rs b p x).map useD), .d (.int x), .x])) (sts_for pl plcD (fun j ρ => ρ = [.d (listD K pl), .d (bookD K rs b), .d (ltD p), .d (.int d), .l ((U ++ usesAt (pl.take j) rs b p x).map useD), .d (.int x), .x]) _ (it_list (ev_meth (ds := []) (ev_var rfl) rfl ea_nil ⟨pl, by omega, rfl, rfl⟩)) ⟨_, rfl, ?_⟩ (fun j ρ y hy hρ => ⟨_, _, gt_name, ?_⟩) fun ρ hρ => ?_) fun o ho => ?_
    · have e0 : usesAt (pl.take 0) rs b p x = [] := rfl
      rw [e0, List.append_nil]
      exact Wk.refl _
    · subst hρ
      have hlj : j < pl.length := (List.getElem?_eq_some_iff.mp hy).1
      have hym := List.mem_of_getElem? hy
      have ey : pl[j] = y := by
        rw [List.getElem?_eq_getElem hlj] at hy
        exact Option.some.inj hy
      have hul := usesAt_len (pl.take j) rs b p x
      rw [List.length_take] at hul
      have es : usesAt (pl.take (j + 1)) rs b p x = usesAt (pl.take j) rs b p x ++ if p ∈ cand rs b y.p x then [(y.w, x)] else [] := by
        unfold usesAt
        rw [List.take_succ_eq_append_getElem hlj, ey, List.filter_append, List.map_append]
        congr 1
        by_cases h : p ∈ cand rs b y.p x <;> simp [h]
      refine ST.s (out := .nx [.d (listD K pl), .d (bookD K rs b), .d (ltD p), .d (.int d), .l ((U ++ usesAt (pl.take (j + 1)) rs b p x).map useD), .d (.int x), .d (plcD y)]) ?_ (.inl ⟨_, _, rfl, .same (.same (.same (.same (.same (.same (.fog .nil)))))), rfl⟩)
      refine st_if (b := decide (Ga.P p ∈ (cand rs b y.p x).map Ga.P)) (et_test (ev_inST (xs := (cand rs b y.p x).map Ga.P) (ev_var rfl) (ev_is (ev_callO (X := cxOf C8.CX0 pg w K mg base N_uses_from d_uses_from.qual d_uses_from.scope (He.ga K "uses_from") cdv A outer s H E) (d := .tup ((cand rs b y.p x).map ltD)) (ds := [ltD y.p, .int x]) (ev_var rfl) (ea_cons (ev_ixT (ev_var rfl) ev_int rfl) (ea_cons (ev_var rfl) ea_nil)) ⟨rs, b, y.p, x, ok.wr, ok.lr, (ok.wp y hym).p, xr, rfl, rfl⟩) (by rw [map_str])))) (fun h => ?_) fun h => ?_
      · have hm : p ∈ cand rs b y.p x := P_mem.mp (of_decide_eq_true h)
        rw [es, if_pos hm]
        refine st_out (st_app rfl (ev_tup (ea_cons (ev_ixT (ev_var rfl) ev_int rfl) (ea_cons (ev_var rfl) ea_nil))) ?_) ?_
        · rw [List.length_map, List.length_append]
          omega
        · have em : (U ++ usesAt (pl.take j) rs b p x ++ [(y.w, x)]).map useD = (U ++ usesAt (pl.take j) rs b p x).map useD ++ [useD (y.w, x)] := by
            rw [List.map_append]
            rfl
          rw [← List.append_assoc, em]
          rfl
      · have hm : p ∉ cand rs b y.p x := fun z => by
          rw [decide_eq_true (P_mem.mpr z)] at h
          cases h
        rw [es, if_neg hm, List.append_nil]
        exact st_next
    · rw [hρ, List.take_length]
    · subst ho
      exact .inl ⟨_, _, rfl, .same (.same (.same (.same (.same (.fog (.same .nil)))))), rfl⟩
  · rw [hρ, List.take_length]
    rfl

abbrev N_new_use : List Str := ["parts_list", "allowances", "parts", "date", "known", "use"]
theorem sc_new_use : FnScope N_new_use ["parts_list", "allowances", "parts", "date"] (defScope s_new_use) := C8.fnScope_by (by decide +kernel)
def R_new_use (K : PySem.W.Frag) (ds : List Dat) (r : Dat) : Prop := ∃ (pl : List Plc) (rs : List Ga.Row) (b : Bool) (p q : Nat) (d : Int), Okp pl rs ∧ p < 4 ∧ q < 4 ∧ (0 ≤ d ∧ d ≤ 9999) ∧ ds = [listD K pl, bookD K rs b, .tup [ltD p, ltD q], .int d] ∧ r = ((newUse pl rs b p q d).map useD).getD .non
theorem p_new_use (T : Tx K mg) (c_uses_from : Ca pg w K mg base 5 "uses_from" (R_uses_from K)) : Ca pg w K mg base 6 "new_use" (R_new_use K) := by
  obtain ⟨fd, F⟩ := T.d_new_use
  refine mkC (d := d_new_use) F T.g_new_use (F.bindsN (ps := ["parts_list", "allowances", "parts", "date"]) fun kV doc pm an cdv ct us h => by
    match us, h with
    | [a, b, c, d], _ => rfl) sc_new_use (by
    rintro ds r ⟨pl, rs, b, p, q, d, ok, hp, hq, hd, rfl, rfl⟩
    rfl) ?_
  rintro cdv A outer s H E hr ds r ⟨pl, rs, b, p, q, d, ok, hp, hq, hd, rfl, rfl⟩
  refine ⟨_, (pss_cons (ps_set (i := 4) sc_new_use.nd rfl (by first | exact Or.inl rfl | exact Or.inr rfl) (C8.pe_c c_uses_from hr (by decide) (by rfl) (pa_cons (pv 0) (pa_cons (pv 1) (pa_cons (pe_ix (ix_tupK (K := K)) (pv 2) pe_int (fun _ _ => rfl)) (pa_cons (pv 3) pa_nil))))))
      (pss_cons (ps_for PassesOwn.never rfl (pi_listK (K := K) (C8.pe_c c_uses_from hr (by decide) (by rfl) (pa_cons (pv 0) (pa_cons (pv 1) (pa_cons (pe_ix (ix_tupK (K := K)) (pv 2) pe_int (fun _ _ => rfl)) (pa_cons (pv 3) pa_nil)))))) (pg_name (i := 5) sc_new_use.nd rfl (by first | exact Or.inl rfl | exact Or.inr rfl)) (pss_one (ps_if (pt_cmpR (op_notInDK (K := K) (hu65 hr)) (pv 5) (pv 4) (by rfl)) (pss_one (ps_ret (pv 5))) pss_nil)))
      (pss_one (ps_ret pe_non)))), .inl ?_⟩
  have w26 : ∀ m, ∀ u ∈ uses pl rs b m d, u.1 < 26 := fun m u hu => by
    obtain ⟨_, y, hy, e, _⟩ := mem_uses.mp hu
    exact e ▸ (ok.wp y hy).w
  refine st_seq (st_asg (ev_call (ds := [listD K pl, bookD K rs b, ltD q, .int d]) (by repeat' trivial) ⟨pl, rs, b, q, d, ok, hq, hd, rfl, rfl⟩)) ?_
  cases e : newUse pl rs b p q d with
  | none =>
    refine st_seq (st_out (o2 := .nx [.d (listD K pl), .d (bookD K rs b), .d (.tup [ltD p, ltD q]), .d (.int d), .d (.lst ((uses pl rs b q d).map useD)), .x]) (st_forN (k := 5) (uses pl rs b p d) useD (fun _ : Unit => [.d (listD K pl), .d (bookD K rs b), .d (.tup [ltD p, ltD q]), .d (.int d), .d (.lst ((uses pl rs b q d).map useD)), .x]) (stepF fun u => if u ∈ uses pl rs b q d then none else some (useD u)) () (it_list (ev_call (ds := [listD K pl, bookD K rs b, ltD p, .int d]) (by repeat' trivial) ⟨pl, rs, b, p, d, ok, hp, hd, rfl, rfl⟩)) (Wk.refl _) fun s u hu => ?_) ?_) (st_ret ev_non)
    · have hs : stepF (fun u => if u ∈ uses pl rs b q d then none else some (useD u)) s u = if u ∈ uses pl rs b q d then .inl s else .inr (useD u) := by
        by_cases h : u ∈ uses pl rs b q d <;> simp [stepF, h]
      rw [hs]
      refine st_if (b := !((uses pl rs b q d).map useD).any fun z => eqD z (useD u)) (et_test (ev_niD (ev_var rfl) (ev_var rfl).l ((ok_use (w26 p u hu)).shp (by omega)) ((ok_lst (n := 1) ?_).shp (by omega)))) (fun h => ?_) fun h => ?_
      · intro x hx
        obtain ⟨z, hz, e⟩ := List.mem_map.mp hx
        subst e
        exact ok_use (w26 q z hz)
      · rw [any_use] at h
        rw [if_neg (by simpa using h)]
        exact st_ret (ev_var rfl)
      · rw [any_use] at h
        rw [if_pos (by simpa using h)]
        exact st_wk st_next (.same (.same (.same (.same (.same (.fog .nil))))))
    · rw [foldX_none]
      · rfl
      · refine List.findSome?_eq_none_iff.mpr fun u hu => if_pos ?_
        have := List.find?_eq_none.mp e u hu
        simpa using this
  | some u0 =>
    refine st_seqRt (st_out (st_forN (k := 5) (uses pl rs b p d) useD (fun _ : Unit => [.d (listD K pl), .d (bookD K rs b), .d (.tup [ltD p, ltD q]), .d (.int d), .d (.lst ((uses pl rs b q d).map useD)), .x]) (stepF fun u => if u ∈ uses pl rs b q d then none else some (useD u)) () (it_list (ev_call (ds := [listD K pl, bookD K rs b, ltD p, .int d]) (by repeat' trivial) ⟨pl, rs, b, p, d, ok, hp, hd, rfl, rfl⟩)) (Wk.refl _) fun s u hu => ?_) ?_)
    · have hs : stepF (fun u => if u ∈ uses pl rs b q d then none else some (useD u)) s u = if u ∈ uses pl rs b q d then .inl s else .inr (useD u) := by
        by_cases h : u ∈ uses pl rs b q d <;> simp [stepF, h]
      rw [hs]
      refine st_if (b := !((uses pl rs b q d).map useD).any fun z => eqD z (useD u)) (et_test (ev_niD (ev_var rfl) (ev_var rfl).l ((ok_use (w26 p u hu)).shp (by omega)) ((ok_lst (n := 1) ?_).shp (by omega)))) (fun h => ?_) fun h => ?_
      · intro x hx
        obtain ⟨z, hz, e⟩ := List.mem_map.mp hx
        subst e
        exact ok_use (w26 q z hz)
      · rw [any_use] at h
        rw [if_neg (by simpa using h)]
        exact st_ret (ev_var rfl)
      · rw [any_use] at h
        rw [if_pos (by simpa using h)]
        exact st_wk st_next (.same (.same (.same (.same (.same (.fog .nil))))))
    · rw [foldX_some (d := useD u0)]
      · rfl
      · unfold newUse at e
        generalize uses pl rs b p d = l at e
        induction l with
        | nil => cases e
        | cons z l ih =>
          rw [List.findSome?_cons]
          rw [List.find?_cons] at e
          by_cases h : z ∈ uses pl rs b q d
          · rw [decide_eq_true h] at e
            rw [if_pos h]
            exact ih e
          · rw [decide_eq_false h] at e
            rw [if_neg h]
            cases e
            rfl

abbrev N_later_day : List Str := ["allowances", "date"]
theorem sc_later_day : FnScope N_later_day ["allowances", "date"] (defScope s_later_day) := C8.fnScope_by (by decide +kernel)
def R_later_day (K : PySem.W.Frag) (ds : List Dat) (r : Dat) : Prop := ∃ (rs : List Ga.Row) (b : Bool) (d : Int), (∀ q ∈ rs, WR q) ∧ rs.length ≤ 12 ∧ ds = [bookD K rs b, .int d] ∧ r = optD (if d > 0 then some d else if (1 : Int) ∈ turns rs then none else some 1)
theorem p_later_day (T : Tx K mg) (m_dates : C8.Met pg w K mg base 1 (He.ga K "Allowances") "dates" (spD (R_Allowances_dates K)) []) : Ca pg w K mg base 2 "later_day" (R_later_day K) := by
  obtain ⟨fd, F⟩ := T.d_later_day
  refine mkC (d := d_later_day) F T.g_later_day (F.bindsN (ps := ["allowances", "date"]) fun kV doc pm an cdv ct us h => by
    match us, h with
    | [a, b], _ => rfl) sc_later_day (by
    rintro ds r ⟨rs, b, d, hw, hl, rfl, rfl⟩
    rfl) ?_
  rintro cdv A outer s H E hr ds r ⟨rs, b, d, hw, hl, rfl, rfl⟩
  refine ⟨_, (pss_cons (ps_if (pt_cmp (pc_gt (pv 1) pe_int)) (pss_one (ps_ret (pv 1))) pss_nil)
      (pss_one (ps_ret (pe_ifExp (pt_cmpR (op_in_seqK (K := K)) pe_int (C8.pe_mt0 m_dates hr (by decide) (pv 0)) (by rfl)) pe_non pe_int)))), .inl ?_⟩
  refine st_seqIf (b := decide (d > 0)) (et_test (ev_cmp (ev_var rfl) ev_int)) (fun h => ?_) fun h => st_seqNext (st_ret ?_)
  · rw [if_pos (of_decide_eq_true h)]
    exact st_seqRt (st_ret (ev_var rfl))
  · rw [if_neg (of_decide_eq_false h)]
    refine ev_if (b := decide ((1 : Int) ∈ turns rs)) (et_test (ev_inIL ev_int (ev_meth (d := .lst ((turns rs).map .int)) (ds := []) (ev_var rfl) rfl ea_nil ⟨rs, b, hw, hl, rfl, rfl⟩).l)) (fun h => ?_) fun h => ?_
    · rw [if_pos (of_decide_eq_true h)]
      exact ev_non
    · rw [if_neg (of_decide_eq_false h)]
      exact ev_int

abbrev N_date_of_preferring : List Str := ["allowances", "rule", "place", "parts", "date"]
theorem sc_date_of_preferring : FnScope N_date_of_preferring ["allowances", "rule", "place", "parts", "date"] (defScope s_date_of_preferring) := C8.fnScope_by (by decide +kernel)
def R_date_of_preferring (K : PySem.W.Frag) (ds : List Dat) (r : Dat) : Prop := ∃ (rs : List Ga.Row) (b : Bool) (r0 : Rul) (x : Plc) (p q : Nat) (d : Int), (∀ y ∈ rs, WR y) ∧ rs.length ≤ 12 ∧ WO r0.os ∧ WP x ∧ p < 4 ∧ q < 4 ∧ (0 ≤ d ∧ d ≤ 9999) ∧ ds = [bookD K rs b, ruleI K r0, plcD x, .tup [ltD p, ltD q], .int d] ∧ r = optD (dayOf rs r0 x p q d)
theorem p_date_of_preferring (T : Tx K mg) (o_Rule : CaO pg w K mg base 5 (He.ga K "Rule") (R_Rule_call K)) (c_later_day : Ca pg w K mg base 2 "later_day" (R_later_day K)) : Ca pg w K mg base 6 "date_of_preferring" (R_date_of_preferring K) := by
  obtain ⟨fd, F⟩ := T.d_date_of_preferring
  refine mkC (d := d_date_of_preferring) F T.g_date_of_preferring (F.bindsN (ps := ["allowances", "rule", "place", "parts", "date"]) fun kV doc pm an cdv ct us h => by
    match us, h with
    | [a, b, c, d, e], _ => rfl) sc_date_of_preferring (by
    rintro ds r ⟨rs, b, r0, x, p, q, d, hw, hl, ho, hx, hp, hq, hd, rfl, rfl⟩
    rfl) ?_
  rintro cdv A outer s H E hr ds r ⟨rs, b, r0, x, p, q, d, hw, hl, ho, hx, hp, hq, hd, rfl, rfl⟩
  refine ⟨_, (pss_cons (ps_if (pt_val (pe_co o_Rule hr (by decide) (pv 1) (pa_cons (pv 2) (pa_cons (pe_tup (pa_cons (pe_ix (ix_tupK (K := K)) (pv 3) pe_int (fun _ _ => rfl)) (pa_cons (pv 4) pa_nil))) (pa_cons (pe_tup (pa_cons (pe_ix (ix_tupK (K := K)) (pv 3) pe_int (fun _ _ => rfl)) (pa_cons (pv 4) pa_nil))) pa_nil))))) (pss_one (ps_ret (pv 4))) pss_nil)
      (pss_one (ps_ret (pe_ifExp (pt_cmpR op_eq (pe_kind T hr (by decide) (pv 1)) pe_str (nomark _)) (C8.pe_c c_later_day hr (by decide) (by rfl) (pa_cons (pv 0) (pa_cons (pv 4) pa_nil))) pe_non)))), .inl ?_⟩
  refine st_seqIf (b := pref r0 x p d q d) (et_B (ev_callO (X := cxOf C8.CX0 pg w K mg base N_date_of_preferring d_date_of_preferring.qual d_date_of_preferring.scope (He.ga K "date_of_preferring") cdv A outer s H E) (ds := [plcD x, .tup [ltD p, .int d], .tup [ltD q, .int d]]) (ev_var rfl) (ea_cons (ev_var rfl) (ea_cons (ev_tup (ea_cons (ev_ixT (ev_var rfl) ev_int rfl) (ea_cons (ev_var rfl) ea_nil))) (ea_cons (ev_tup (ea_cons (ev_ixT (ev_var rfl) ev_int rfl) (ea_cons (ev_var rfl) ea_nil))) ea_nil))) ⟨r0, x, p, q, d, d, ho, hx, hp, hq, hd, hd, rfl, rfl⟩)) (fun h => ?_) fun h => st_seqNext (st_ret ?_)
  · unfold dayOf
    rw [if_pos h]
    exact st_seqRt (st_ret (ev_var rfl))
  · unfold dayOf
    rw [if_neg (by rw [h]; exact Bool.false_ne_true)]
    refine ev_if (b := decide (r0.kd = .eldest)) (et_is (et_test (ev_eqS (ev_prop (f := "kind") (ev_var rfl) rfl) ev_str)) (kE _)) (fun h => ?_) fun h => ?_
    · rw [if_pos (of_decide_eq_true h)]
      exact ev_call (ds := [bookD K rs b, .int d]) (by repeat' trivial) ⟨rs, b, d, hw, hl, rfl, rfl⟩
    · rw [if_neg (of_decide_eq_false h)]
      exact ev_non

abbrev N_pairs_of : List Str := ["candidates", "one", "other"]
theorem sc_pairs_of : FnScope N_pairs_of ["candidates"] (defScope s_pairs_of) := C8.fnScope_by (by decide +kernel)
def R_pairs_of (ds : List Dat) (r : Dat) : Prop := ∃ c : List Nat, c.length ≤ 27 ∧ ds = [.tup (c.map ltD)] ∧ r = .lst ((pairs c).map fun z => .tup [ltD z.1, ltD z.2])
theorem p_pairs_of (T : Tx K mg) : Ca pg w K mg base 1 "pairs_of" R_pairs_of := by
  obtain ⟨fd, F⟩ := T.d_pairs_of
  refine mkC (d := d_pairs_of) F T.g_pairs_of (F.bindsN (ps := ["candidates"]) fun kV doc pm an cdv ct us h => by
    match us, h with
    | [a], _ => rfl) sc_pairs_of (by
    rintro ds r ⟨c, hl, rfl, rfl⟩
    rfl) ?_
  rintro cdv A outer s H E hr ds r ⟨c, hl, rfl, rfl⟩
  refine ⟨_, (pss_one (ps_ret (pe_lc2 (vs1 := [2]) rfl sc_pairs_of.nd (pi_tupK (K := K) (pv 0)) (blkOk_by (own := [("one", 1), ("other", 2)]) (N := N_pairs_of) (sc := defScope s_pairs_of) (by decide +kernel)) (by decide) (fun _ _ _ _ _ => (pg_name (i := 1) sc_pairs_of.nd rfl (by first | exact Or.inl rfl | exact Or.inr rfl))) (fun _ _ _ _ _ => pts_nil) (fun _ _ _ _ _ => (pi_tupK (K := K) (pv 0))) (fun _ _ _ _ _ => (pg_name (i := 2) sc_pairs_of.nd rfl (by first | exact Or.inl rfl | exact Or.inr rfl))) (fun _ _ _ _ _ => (pts_one (pt_cmpR op_ne (pv 1) (pv 2) (nomark _)))) (fun _ _ _ _ _ => (pe_tup (pa_cons (pv 1) (pa_cons (pv 2) pa_nil))))))), .inl ?_⟩
  have cl : ∀ l : List Nat, (l.flatMap fun _ => c).length ≤ 27 * l.length := fun l => by
    induction l with
    | nil => exact Nat.le_refl _
    | cons a l ih =>
      rw [List.flatMap_cons, List.length_append, List.length_cons]
      omega
  refine st_ret (lst_is (evn_lc2 (vs := [1, 2]) (vs1 := [2]) c ltD (fun _ => c) ltD (fun a b => !decide (a = b)) (fun a b => .tup [ltD a, ltD b]) (it_tup (ev_var rfl)) (fun i hi => ?_) (fun _ _ => by omega) fun a ha => ⟨_, _, gt_name, fun i hi => by rw [List.mem_singleton.mp hi]; exact List.mem_cons_self, et_yes, it_tup (ev_var rfl), fun y hy => ⟨_, _, gt_name, fun i hi => hi, et_is (et_test (ev_neS (ev_var rfl) (ev_var rfl))) ?_, fun _ => ev_tup (ea_cons (ev_var rfl) (ea_cons (ev_var rfl) ea_nil))⟩⟩).ev ?_)
  · have := cl (c.take i)
    rw [List.length_take] at this
    omega
  · by_cases h : a = y <;> simp [h, P_eq]
  · unfold pairs
    rw [List.map_flatMap]
    congr 1
    funext a
    rw [List.map_map]
    rfl

def fltD (f : Flt) : Dat := .tup [ltD f.1, .int f.2.1, ltD f.2.2.1, ltD f.2.2.2.1, ltD f.2.2.2.2.1, .int f.2.2.2.2.2]
def optF (o : Option Flt) : Dat := (o.map fltD).getD .non
theorem pairs_len (c : List Nat) : ∀ l : List Nat, (l.flatMap fun a => (c.filter fun b => !decide (a = b)).map fun b => (a, b)).length ≤ c.length * l.length
  | [] => Nat.le_refl _
  | a :: l => by
    have := pairs_len c l
    have := List.length_filter_le (fun b => !decide (a = b)) c
    rw [List.flatMap_cons, List.length_append, List.length_map, List.length_cons, Nat.mul_succ]
    omega
theorem find_map {α β γ : Type} (f : α → Option β) (g : β → γ) : ∀ l : List α, (l.findSome? fun a => (f a).map g) = (l.findSome? f).map g
  | [] => rfl
  | a :: l => by
    rw [List.findSome?_cons, List.findSome?_cons, find_map f g l]
    cases f a <;> rfl
/-- from a loop's find to its end -/
theorem st_find {α : Type} {wi : TI} {g : TG} {t : TS} {ρ ρ0 : List Sl} (xs : List α) (f : α → Dat) (h : α → Option Dat) (hi : ITp wi ρ (xs.map f)) (h0 : Wk ρ ρ0)
    (hb : ∀ x, x ∈ xs → ∃ ρ' ix, GT g ρ0 (f x) ρ' ix ∧ ST t ρ' (match h x with
      | some d => .rt d
      | none => .nx ρ0)) : ST (tFor wi g t) ρ (match xs.findSome? h with
      | some d => .rt d
      | none => .nx ρ0) := by
  refine st_out (st_for xs f (fun _ : Unit => ρ0) (stepF h) () hi h0 fun s x hx => ?_) ?_
  · obtain ⟨ρ', ix, a, b⟩ := hb x hx
    refine ⟨ρ', ix, a, st_out b ?_⟩
    cases e : h x with
    | some d => rw [stepF_some e]; rfl
    | none => rw [stepF_none e]; rfl
  · cases e : xs.findSome? h with
    | some d => rw [foldX_some e]; rfl
    | none => rw [foldX_none e]; rfl

abbrev N_fault : List Str := ["parts_list", "allowances", "rule", "date", "place", "parts", "day", "use"]
theorem sc_fault : FnScope N_fault ["parts_list", "allowances", "rule"] (defScope s_fault) := C8.fnScope_by (by decide +kernel)
def R_fault (K : PySem.W.Frag) (ds : List Dat) (r : Dat) : Prop := ∃ (pl : List Plc) (rs : List Ga.Row) (b : Bool) (r0 : Rul), Okp pl rs ∧ WO r0.os ∧ ds = [listD K pl, bookD K rs b, ruleI K r0] ∧ r = optF (fault pl rs b r0)
theorem p_fault (T : Tx K mg) (c_check_shares : Ca pg w K mg base 2 "check_shares" (R_check_shares K)) (m_dates : C8.Met pg w K mg base 1 (He.ga K "Allowances") "dates" (spD (R_Allowances_dates K)) []) (m_places : C8.Met pg w K mg base 1 (He.ga K "PartsList") "places" (spD (R_PartsList_places K)) []) (o_Book : CaO pg w K mg base 4 (He.ga K "Allowances") (R_Allowances_call K)) (c_pairs_of : Ca pg w K mg base 1 "pairs_of" R_pairs_of) (c_date_of_preferring : Ca pg w K mg base 6 "date_of_preferring" (R_date_of_preferring K)) (c_new_use : Ca pg w K mg base 6 "new_use" (R_new_use K)) : Ca pg w K mg base 7 "fault" (R_fault K) := by
  obtain ⟨fd, F⟩ := T.d_fault
  refine mkC (d := d_fault) F T.g_fault (F.bindsN (ps := ["parts_list", "allowances", "rule"]) fun kV doc pm an cdv ct us h => by
    match us, h with
    | [a, b, c], _ => rfl) sc_fault (by
    rintro ds r ⟨pl, rs, b, r0, ok, ho, rfl, rfl⟩
    rfl) ?_
  rintro cdv A outer s H E hr ds r ⟨pl, rs, b, r0, ok, ho, rfl, rfl⟩
  refine ⟨_, (pss_cons (ps_expr (C8.pe_c c_check_shares hr (by decide) (by rfl) (pa_cons (pv 0) pa_nil)))
      (pss_cons (ps_for PassesOwn.never rfl (pi_listK (K := K) (C8.pe_mt0 m_dates hr (by decide) (pv 1))) (pg_name (i := 3) sc_fault.nd rfl (by first | exact Or.inl rfl | exact Or.inr rfl)) (pss_one (ps_for PassesOwn.never rfl (pi_listK (K := K) (C8.pe_mt0 m_places hr (by decide) (pv 0))) (pg_name (i := 4) sc_fault.nd rfl (by first | exact Or.inl rfl | exact Or.inr rfl)) (pss_one (ps_for PassesOwn.never rfl (pi_listK (K := K) (C8.pe_c c_pairs_of hr (by decide) (by rfl) (pa_cons (pe_co o_Book hr (by decide) (pv 1) (pa_cons (pe_ix (ix_tupK (K := K)) (pv 4) pe_int (fun _ _ => rfl)) (pa_cons (pv 3) pa_nil))) pa_nil))) (pg_name (i := 5) sc_fault.nd rfl (by first | exact Or.inl rfl | exact Or.inr rfl)) (pss_cons (ps_set (i := 6) sc_fault.nd rfl (by first | exact Or.inl rfl | exact Or.inr rfl) (C8.pe_c c_date_of_preferring hr (by decide) (by rfl) (pa_cons (pv 1) (pa_cons (pv 2) (pa_cons (pv 4) (pa_cons (pv 5) (pa_cons (pv 3) pa_nil)))))))
      (pss_cons (ps_set (i := 7) sc_fault.nd rfl (by first | exact Or.inl rfl | exact Or.inr rfl) (pe_ifExp (pt_cmp (pc_isN (pv 6))) pe_non (C8.pe_c c_new_use hr (by decide) (by rfl) (pa_cons (pv 0) (pa_cons (pv 1) (pa_cons (pv 5) (pa_cons (pv 6) pa_nil)))))))
      (pss_one (ps_if (pt_cmp (pc_notN (pv 7))) (pss_one (ps_ret (pe_tup (pa_cons (pe_ix (ix_tupK (K := K)) (pv 4) pe_int (fun _ _ => rfl)) (pa_cons (pv 6) (pa_starK (K := K) (pv 5) (pa_starK (K := K) (pv 7) pa_nil))))))) pss_nil)))))))))
      (pss_one (ps_ret pe_non)))), .inl ?_⟩
  have ln := ok.ln
  refine st_seq (st_drop (ev_call (ds := [listD K pl]) (by repeat' trivial) ⟨pl, by omega, rfl, rfl⟩)) ?_
  have key : ∀ {t : TS} {ρ0 : List Sl}, ST t (sl0 [listD K pl, bookD K rs b, ruleI K r0] N_fault) (match (turns rs).findSome? fun d => (pl.findSome? fun x => (pairs (cand rs b x.p d)).findSome? fun z => flt1 pl rs b r0 d x z).map fltD with
      | some d => .rt d
      | none => .nx ρ0) → ST (tSeq t (tRet (tC .non))) (sl0 [listD K pl, bookD K rs b, ruleI K r0] N_fault) (.rt (optF (fault pl rs b r0))) := fun {t ρ0} h => by
    have e : ((turns rs).findSome? fun d => (pl.findSome? fun x => (pairs (cand rs b x.p d)).findSome? fun z => flt1 pl rs b r0 d x z).map fltD) = (fault pl rs b r0).map fltD := find_map _ _ _
    rw [e] at h
    unfold optF
    cases e2 : fault pl rs b r0 with
    | some f =>
      rw [e2] at h
      exact st_seqRt h
    | none =>
      rw [e2] at h
      exact st_seq h (st_ret ev_non)
  refine key (ρ0 := [.d (listD K pl), .d (bookD K rs b), .d (ruleI K r0), .x, .x, .x, .x, .x]) (st_find (turns rs) Dat.int (fun d => (pl.findSome? fun x => (pairs (cand rs b x.p d)).findSome? fun z => flt1 pl rs b r0 d x z).map fltD) (it_list (ev_meth (ds := []) (ev_var rfl) rfl ea_nil ⟨rs, b, ok.wr, ok.lr, rfl, rfl⟩)) (Wk.refl _) fun d hd => ⟨_, _, gt_name, ?_⟩)
  have dr := turns_rng ok.wr hd
  have e1 : ((pl.findSome? fun x => (pairs (cand rs b x.p d)).findSome? fun z => flt1 pl rs b r0 d x z).map fltD) = pl.findSome? fun x => ((pairs (cand rs b x.p d)).findSome? fun z => flt1 pl rs b r0 d x z).map fltD := (find_map _ _ _).symm
  rw [e1]
  have wk1 : ∀ {t : TS} {o : Option Dat} {ρ : List Sl}, ST t ρ (match o with
      | some d => .rt d
      | none => .nx [.d (listD K pl), .d (bookD K rs b), .d (ruleI K r0), .d (.int d), .x, .x, .x, .x]) → ST t ρ (match o with
      | some d => .rt d
      | none => .nx [.d (listD K pl), .d (bookD K rs b), .d (ruleI K r0), .x, .x, .x, .x, .x]) := fun {t o ρ} h => by
    cases o with
    | some d => exact h
    | none => exact st_wk h (.same (.same (.same (.fog (.same (.same (.same (.same .nil))))))))
  refine wk1 (st_find pl plcD (fun x => ((pairs (cand rs b x.p d)).findSome? fun z => flt1 pl rs b r0 d x z).map fltD) (it_list (ev_meth (ds := []) (ev_var rfl) rfl ea_nil ⟨pl, by omega, rfl, rfl⟩)) (Wk.refl _) fun x hx => ⟨_, _, gt_name, ?_⟩)
  have wx := ok.wp x hx
  have cl := cand_len rs b x.p d
  have e2 : (((pairs (cand rs b x.p d)).findSome? fun z => flt1 pl rs b r0 d x z).map fltD) = (pairs (cand rs b x.p d)).findSome? fun z => (flt1 pl rs b r0 d x z).map fltD := (find_map _ _ _).symm
  rw [e2]
  have wk2 : ∀ {t : TS} {o : Option Dat} {ρ : List Sl}, ST t ρ (match o with
      | some d => .rt d
      | none => .nx [.d (listD K pl), .d (bookD K rs b), .d (ruleI K r0), .d (.int d), .d (plcD x), .x, .x, .x]) → ST t ρ (match o with
      | some d => .rt d
      | none => .nx [.d (listD K pl), .d (bookD K rs b), .d (ruleI K r0), .d (.int d), .x, .x, .x, .x]) := fun {t o ρ} h => by
    cases o with
    | some d => exact h
    | none => exact st_wk h (.same (.same (.same (.same (.fog (.same (.same (.same .nil))))))))
  refine wk2 (st_find (pairs (cand rs b x.p d)) (fun z => .tup [ltD z.1, ltD z.2]) (fun z => (flt1 pl rs b r0 d x z).map fltD) (it_list (ev_call (ds := [.tup ((cand rs b x.p d).map ltD)]) (ea_cons (ev_callO (X := cxOf C8.CX0 pg w K mg base N_fault d_fault.qual d_fault.scope (He.ga K "fault") cdv A outer s H E) (ds := [ltD x.p, .int d]) (ev_var rfl) (ea_cons (ev_ixT (ev_var rfl) ev_int rfl) (ea_cons (ev_var rfl) ea_nil)) ⟨rs, b, x.p, d, ok.wr, ok.lr, wx.p, by omega, rfl, rfl⟩) ea_nil) ⟨_, cl, rfl, rfl⟩)) (Wk.refl _) fun z hz => ⟨_, _, gt_name, ?_⟩)
  obtain ⟨z1, z2, z3⟩ := mem_pairs.mp hz
  have y1 := cand_lt ok.wr wx.p z1
  have y2 := cand_lt ok.wr wx.p z2
  refine st_seq (st_asg (ev_call (ds := [bookD K rs b, ruleI K r0, plcD x, .tup [ltD z.1, ltD z.2], .int d]) (by repeat' trivial) ⟨rs, b, r0, x, z.1, z.2, d, ok.wr, ok.lr, ho, wx, y1, y2, by omega, rfl, rfl⟩)) ?_
  cases ey : dayOf rs r0 x z.1 z.2 d with
  | none =>
    have ef : flt1 pl rs b r0 d x z = none := by unfold flt1; rw [ey]
    rw [ef]
    refine st_seq (st_asg (d := .non) (ev_if (b := true) (et_is (et_test (ev_isN (ev_var rfl))) rfl) (fun _ => ev_non) fun h => nomatch h)) ?_
    exact st_if (b := false) (et_is (et_test (ev_notN (ev_var rfl))) rfl) (fun h => nomatch h) fun _ => st_wk st_next (.same (.same (.same (.same (.same (.fog (.fog (.fog .nil))))))))
  | some y =>
    have yr : 0 ≤ y ∧ y ≤ 9999 := by
      rcases day_some ey with h | h <;> omega
    have ef : flt1 pl rs b r0 d x z = (newUse pl rs b z.1 z.2 y).map fun u => (x.w, y, z.1, z.2, u.1, u.2) := by unfold flt1; rw [ey]
    rw [ef]
    refine st_seq (st_asg (d := ((newUse pl rs b z.1 z.2 y).map useD).getD .non) (ev_if (b := false) (et_is (et_test (ev_isN (d := .int y) (ev_var rfl))) rfl) (fun h => nomatch h) fun _ => ev_call (ds := [listD K pl, bookD K rs b, .tup [ltD z.1, ltD z.2], .int y]) (by repeat' trivial) ⟨pl, rs, b, z.1, z.2, y, ok, y1, y2, yr, rfl, rfl⟩)) ?_
    cases eu : newUse pl rs b z.1 z.2 y with
    | none => exact st_if (b := false) (et_is (et_test (ev_notN (d := .non) (ev_var rfl))) rfl) (fun h => nomatch h) fun _ => st_wk st_next (.same (.same (.same (.same (.same (.fog (.fog (.fog .nil))))))))
    | some u =>
      refine st_if (b := true) (et_is (et_test (ev_notN (d := useD u) (ev_var rfl))) rfl) (fun _ => st_ret ?_) fun h => nomatch h
      exact ev_tup (ea_cons (ev_ixT (ev_var rfl) ev_int rfl) (ea_cons (ev_var rfl) (ea_starT (ds := [ltD z.1, ltD z.2]) (ev_var rfl) (ea_starT (ds := [ltD u.1, .int u.2]) (ev_var rfl) ea_nil))))

abbrev N_is_right : List Str := ["parts_list", "allowances", "rule"]
theorem sc_is_right : FnScope N_is_right ["parts_list", "allowances", "rule"] (defScope s_is_right) := C8.fnScope_by (by decide +kernel)
def R_is_right (K : PySem.W.Frag) (ds : List Dat) (r : Dat) : Prop := ∃ (pl : List Plc) (rs : List Ga.Row) (b : Bool) (r0 : Rul), Okp pl rs ∧ WO r0.os ∧ ds = [listD K pl, bookD K rs b, ruleI K r0] ∧ r = .bl (!(fault pl rs b r0).isSome)
theorem p_is_right (T : Tx K mg) (c_fault : Ca pg w K mg base 7 "fault" (R_fault K)) : Ca pg w K mg base 8 "is_right" (R_is_right K) := by
  obtain ⟨fd, F⟩ := T.d_is_right
  refine mkC (d := d_is_right) F T.g_is_right (F.bindsN (ps := ["parts_list", "allowances", "rule"]) fun kV doc pm an cdv ct us h => by
    match us, h with
    | [a, b, c], _ => rfl) sc_is_right (by
    rintro ds r ⟨pl, rs, b, r0, ok, ho, rfl, rfl⟩
    rfl) ?_
  rintro cdv A outer s H E hr ds r ⟨pl, rs, b, r0, ok, ho, rfl, rfl⟩
  refine ⟨_, (pss_one (ps_ret (pe_cmp (pc_isN (C8.pe_c c_fault hr (by decide) (by rfl) (pa_cons (pv 0) (pa_cons (pv 1) (pa_cons (pv 2) pa_nil)))))))), .inl ?_⟩
  refine st_ret (ev_is (ev_isN (ev_call (ds := [listD K pl, bookD K rs b, ruleI K r0]) (by repeat' trivial) ⟨pl, rs, b, r0, ok, ho, rfl, rfl⟩)) ?_)
  cases fault pl rs b r0 <;> rfl

def evsD (f : Flt) (e : Int) : Dat := .lst [.tup [.str "come", ltD f.2.2.1, .int e], .tup [.str "come", ltD f.2.2.2.1, .int f.2.1], .tup [.str "ask", ltD f.1, .int f.2.1], .tup [.str "ask", ltD f.2.2.2.2.1, .int f.2.2.2.2.2]]

abbrev N_faulty_events : List Str := ["parts_list", "allowances", "rule", "found", "word", "date", "part", "other", "later_word", "later", "is_equal", "first"]
theorem sc_faulty_events : FnScope N_faulty_events ["parts_list", "allowances", "rule"] (defScope s_faulty_events) := C8.fnScope_by (by decide +kernel)
def R_faulty_events (K : PySem.W.Frag) (ds : List Dat) (r : Dat) : Prop := ∃ (pl : List Plc) (rs : List Ga.Row) (b : Bool) (r0 : Rul), Okp pl rs ∧ WO r0.os ∧ ds = [listD K pl, bookD K rs b, ruleI K r0] ∧ ((fault pl rs b r0 = none ∧ r = .non) ∨ ∃ f x, fault pl rs b r0 = some f ∧ x ∈ pl ∧ x.w = f.1 ∧ r = evsD f (if pref r0 x f.2.2.1 f.2.1 f.2.2.2.1 f.2.1 = true then f.2.1 else f.2.1 - 1))
theorem p_faulty_events (T : Tx K mg) (c_fault : Ca pg w K mg base 7 "fault" (R_fault K)) (o_Rule : CaO pg w K mg base 5 (He.ga K "Rule") (R_Rule_call K)) (g_Parts : CaG pg w K mg base 2 (He.ga K "PartsList") (R_PartsList_getitem K)) : Ca pg w K mg base 8 "faulty_events" (R_faulty_events K) := by
  obtain ⟨fd, F⟩ := T.d_faulty_events
  refine mkC (d := d_faulty_events) F T.g_faulty_events (F.bindsN (ps := ["parts_list", "allowances", "rule"]) fun kV doc pm an cdv ct us h => by
    match us, h with
    | [a, b, c], _ => rfl) sc_faulty_events (by
    rintro ds r ⟨pl, rs, b, r0, ok, ho, rfl, hr2⟩
    rfl) ?_
  rintro cdv A outer s H E hr ds r ⟨pl, rs, b, r0, ok, ho, rfl, hr2⟩
  refine ⟨_, (pss_cons (ps_set (i := 3) sc_faulty_events.nd rfl (by first | exact Or.inl rfl | exact Or.inr rfl) (C8.pe_c c_fault hr (by decide) (by rfl) (pa_cons (pv 0) (pa_cons (pv 1) (pa_cons (pv 2) pa_nil)))))
      (pss_cons (ps_if (pt_cmp (pc_isN (pv 3))) (pss_one (ps_ret pe_non)) pss_nil)
      (pss_cons (ps_asg (pv 3) (pg_tupK (K := K) (n := 6) rfl (pgs_cons (pg_name (i := 4) sc_faulty_events.nd rfl (by first | exact Or.inl rfl | exact Or.inr rfl)) (pgs_cons (pg_name (i := 5) sc_faulty_events.nd rfl (by first | exact Or.inl rfl | exact Or.inr rfl)) (pgs_cons (pg_name (i := 6) sc_faulty_events.nd rfl (by first | exact Or.inl rfl | exact Or.inr rfl)) (pgs_cons (pg_name (i := 7) sc_faulty_events.nd rfl (by first | exact Or.inl rfl | exact Or.inr rfl)) (pgs_cons (pg_name (i := 8) sc_faulty_events.nd rfl (by first | exact Or.inl rfl | exact Or.inr rfl)) (pgs_cons (pg_name (i := 9) sc_faulty_events.nd rfl (by first | exact Or.inl rfl | exact Or.inr rfl)) pgs_nil))))))))
      (pss_cons (ps_set (i := 10) sc_faulty_events.nd rfl (by first | exact Or.inl rfl | exact Or.inr rfl) (pe_co o_Rule hr (by decide) (pv 2) (pa_cons (pe_gi g_Parts hr (by decide) (pv 0) (pv 4)) (pa_cons (pe_tup (pa_cons (pv 6) (pa_cons (pv 5) pa_nil))) (pa_cons (pe_tup (pa_cons (pv 7) (pa_cons (pv 5) pa_nil))) pa_nil)))))
      (pss_cons (ps_set (i := 11) sc_faulty_events.nd rfl (by first | exact Or.inl rfl | exact Or.inr rfl) (pe_tup (pa_cons pe_str (pa_cons (pv 6) (pa_cons (pe_ifExp (pt_val (pv 10)) (pv 5) (pe_sub (pv 5) pe_int)) pa_nil)))))
      (pss_one (ps_ret (pe_lst (pa_cons (pv 11) (pa_cons (pe_tup (pa_cons pe_str (pa_cons (pv 7) (pa_cons (pv 5) pa_nil)))) (pa_cons (pe_tup (pa_cons pe_str (pa_cons (pv 4) (pa_cons (pv 5) pa_nil)))) (pa_cons (pe_tup (pa_cons pe_str (pa_cons (pv 8) (pa_cons (pv 9) pa_nil)))) pa_nil)))))))))))), .inl ?_⟩
  refine st_seq (st_asg (ev_call (ds := [listD K pl, bookD K rs b, ruleI K r0]) (by repeat' trivial) ⟨pl, rs, b, r0, ok, ho, rfl, rfl⟩)) ?_
  rcases hr2 with ⟨e, rfl⟩ | ⟨f, x, e, hx, hw, rfl⟩
  · rw [e]
    exact st_seqIf (b := true) (et_is (et_test (ev_isN (d := .non) (ev_var rfl))) rfl) (fun _ => st_seqRt (st_ret ev_non)) fun h => nomatch h
  · rw [e]
    obtain ⟨fw, fd2, fa, fb, fl, fu⟩ := f
    obtain ⟨⟨x2, hx2, hw2, n1, m1, m2, _⟩, hd, _, _, _, _⟩ := fault_is ok.nd ok.wr e
    have exx : x = x2 := same_w ok.nd hx hx2 (hw.trans hw2.symm)
    subst exx
    simp only at hw n1 m1 m2 hd
    subst hw
    have wx := ok.wp x hx
    have y1 := cand_lt ok.wr wx.p m1
    have y2 := cand_lt ok.wr wx.p m2
    have dr : 0 ≤ fd2 ∧ fd2 ≤ 9999 := by
      rcases hd with h | h
      · have := turns_rng ok.wr h
        omega
      · omega
    refine st_seqIf (b := false) (et_is (et_test (ev_isN (d := fltD (x.w, fd2, fa, fb, fl, fu)) (ev_var rfl))) rfl) (fun h => nomatch h) fun _ => st_seqNext ?_
    refine st_seq (st_asgG (d := .tup [ltD x.w, .int fd2, ltD fa, ltD fb, ltD fl, .int fu]) (ev_var rfl) (gt_tup (is := [4, 5, 6, 7, 8, 9]) rfl rfl rfl)) ?_
    refine st_seq (st_asg (d := .bl (pref r0 x fa fd2 fb fd2)) (ev_callO (X := cxOf C8.CX0 pg w K mg base N_faulty_events d_faulty_events.qual d_faulty_events.scope (He.ga K "faulty_events") cdv A outer s H E) (ds := [plcD x, .tup [ltD fa, .int fd2], .tup [ltD fb, .int fd2]]) (ev_var rfl) (ea_cons (ev_get (ev_var rfl) (ev_var rfl) ⟨pl, x, ok.wp, ok.nd, hx, rfl, rfl⟩) (ea_cons (ev_tup (ea_cons (ev_var rfl) (ea_cons (ev_var rfl) ea_nil))) (ea_cons (ev_tup (ea_cons (ev_var rfl) (ea_cons (ev_var rfl) ea_nil))) ea_nil))) ⟨r0, x, fa, fb, fd2, fd2, ho, wx, y1, y2, dr, dr, rfl, rfl⟩)) ?_
    refine st_seq (st_asg (d := .tup [.str "come", ltD fa, .int (if pref r0 x fa fd2 fb fd2 = true then fd2 else fd2 - 1)]) (ev_tup (ea_cons ev_str (ea_cons (ev_var rfl) (ea_cons (ev_if (b := pref r0 x fa fd2 fb fd2) (et_B (ev_var rfl)) (fun h => ?_) fun h => ?_) ea_nil))))) ?_
    · rw [if_pos h]
      exact ev_var rfl
    · rw [if_neg (by rw [h]; exact Bool.false_ne_true)]
      exact ev_sub (ev_var rfl) ev_int
    · refine st_ret (evn_lst (ea_cons (ev_var rfl) (ea_cons (ev_tup ?_) (ea_cons (ev_tup ?_) (ea_cons (ev_tup ?_) ea_nil))))).ev
      all_goals exact ea_cons ev_str (ea_cons (ev_var rfl) (ea_cons (ev_var rfl) ea_nil))

end
end Gk

set_option maxHeartbeats 4000000
namespace Gk
open PySem PySem.Spec PyProof.Rows L2 Dl Ga
section
variable {pg : Program} {w : World} {K : PySem.W.Frag} {mg : Str → Option Value} {base : Heap}
local macro_rules | `(tactic| trivial) => `(tactic| first
  | with_reducible exact ev_int
  | with_reducible exact ev_str
  | with_reducible exact ev_bl
  | with_reducible exact ev_non
  | ((with_reducible apply ev_var) <;> rfl)
  | ((with_reducible apply evl_var) <;> rfl)
  | with_reducible exact eo_none
  | with_reducible apply eo_some
  | with_reducible apply ev_add
  | with_reducible apply ev_sub
  | with_reducible apply ev_cmp
  | with_reducible apply ev_chain rfl rfl
  | with_reducible apply ev_and
  | with_reducible apply ev_or
  | with_reducible apply ev_not
  | with_reducible apply ev_isN
  | with_reducible apply ev_notN
  | with_reducible apply ea_cons
  | with_reducible exact ea_nil
  | with_reducible apply et_B
  | with_reducible apply et_test
  | with_reducible apply et_not
  | with_reducible apply et_and
  | with_reducible apply et_or
  | with_reducible apply ev_ixT
  | with_reducible apply ev_tup
  | with_reducible apply ev_int1
  | with_reducible apply ev_str1
  | with_reducible apply isi_int_int
  | with_reducible apply isi_int_bool
  | with_reducible apply isi_str_str
  | with_reducible apply isi_tup_tup
  | with_reducible apply isi_lst_lst
  | with_reducible apply isi_dic_dic
  | with_reducible exact et_yes
  | intro _)
/-- a plan as it may be -/
structure WPlan (p : Plan) : Prop where
  ok : Okp p.pl p.rw
  ne : p.pl ≠ []
  nd : p.rw.Nodup
  k : 2 ≤ p.k ∧ p.k ≤ 4
theorem ev_plan_pl {ρ : List Sl} {p : Plan} {te : TE} (h : EV te ρ (planD p)) : EV (tDGet te (tC (.str "places"))) ρ (.lst (p.pl.map plcD)) := ev_dget h ev_str (by rfl)
theorem ev_plan_rw {ρ : List Sl} {p : Plan} {te : TE} (h : EV te ρ (planD p)) : EV (tDGet te (tC (.str "rows"))) ρ (.lst (p.rw.map rowD)) := ev_dget h ev_str (by rfl)
theorem ev_plan_dp {ρ : List Sl} {p : Plan} {te : TE} (h : EV te ρ (planD p)) : EV (tDGet te (tC (.str "deep"))) ρ (.bl p.dp) := ev_dget h ev_str (by rfl)
theorem ev_plan_k {ρ : List Sl} {p : Plan} {te : TE} (h : EV te ρ (planD p)) : EV (tDGet te (tC (.str "letters"))) ρ (.lst ((List.range p.k).map ltD)) := ev_dget h ev_str (by rfl)
theorem ev_rule_kd {ρ : List Sl} {r : Rul} {te : TE} (h : EV te ρ (ruleD r)) : EV (tDGet te (tC (.str "kind"))) ρ (.str (kindS r.kd)) := ev_dget h ev_str (by rfl)
theorem ev_rule_os {ρ : List Sl} {r : Rul} {te : TE} (h : EV te ρ (ruleD r)) : EV (tDGet te (tC (.str "orders"))) ρ (.dic (ordD r.os)) := ev_dget h ev_str (by rfl)
theorem P_len (n : Nat) : (Ga.P n).length ≤ 100000 := show (1 : Nat) ≤ 100000 by decide

abbrev N_law_open : List Str := ["_law_row", "_law_day"]
theorem sc_law_open : FnScope N_law_open ["_law_row", "_law_day"] (defScope s_law_open) := C8.fnScope_by (by decide +kernel)
def R_law_open (ds : List Dat) (r : Dat) : Prop := ∃ (q : Ga.Row) (d : Int), ds = [rowD q, .int d] ∧ r = .bl (opn q d)
theorem p_law_open (T : Tx K mg) : Ca pg w K mg base 1 "_law_open" R_law_open := by
  obtain ⟨fd, F⟩ := T.d_law_open
  refine mkC (d := d_law_open) F T.g__law_open (F.bindsN (ps := ["_law_row", "_law_day"]) fun kV doc pm an cdv ct us h => by
    match us, h with
    | [a, b], _ => rfl) sc_law_open (by
    rintro ds r ⟨q, d, rfl, rfl⟩
    rfl) ?_
  rintro cdv A outer s H E hr ds r ⟨q, d, rfl, rfl⟩
  refine ⟨_, (pss_one (ps_ret (pe_and (pe_cmp (pc_le (pe_ix (ix_tupK (K := K)) (pv 0) pe_int (fun _ _ => rfl)) (pv 1))) (pe_one (pe_or (pe_cmp (pc_isN (pe_ix (ix_tupK (K := K)) (pv 0) pe_int (fun _ _ => rfl)))) (pe_one (pe_cmp (pc_le (pv 1) (pe_ix (ix_tupK (K := K)) (pv 0) pe_int (fun _ _ => rfl)))))))))), .inl ?_⟩
  obtain ⟨a, b, s0, t⟩ := q
  cases t with
  | none => exact st_ret (ev_is (ev_and (ev_cmp (ev_ixT (ev_var rfl) ev_int rfl) (ev_var rfl)) fun _ => ev_or (c := true) (ev_isN (ev_ixT (ev_var rfl) ev_int rfl)) fun h => nomatch h) rfl)
  | some t => exact st_ret (ev_is (ev_and (ev_cmp (ev_ixT (ev_var rfl) ev_int rfl) (ev_var rfl)) fun _ => ev_or (ev_isN (ev_ixT (ev_var rfl) ev_int rfl)) fun _ => ev_cmp (ev_var rfl) (ev_ixT (ev_var rfl) ev_int rfl)) rfl)

abbrev N_law_place : List Str := ["_law_plan_here", "_law_word", "_law_place_here"]
theorem sc_law_place : FnScope N_law_place ["_law_plan_here", "_law_word"] (defScope s_law_place) := C8.fnScope_by (by decide +kernel)
def R_law_place (ds : List Dat) (r : Dat) : Prop := ∃ (p : Plan) (x : Plc), WPlan p ∧ x ∈ p.pl ∧ ds = [planD p, ltD x.w] ∧ r = plcD x
theorem p_law_place (T : Tx K mg) : Ca pg w K mg base 1 "_law_place" R_law_place := by
  obtain ⟨fd, F⟩ := T.d_law_place
  refine mkC (d := d_law_place) F T.g__law_place (F.bindsN (ps := ["_law_plan_here", "_law_word"]) fun kV doc pm an cdv ct us h => by
    match us, h with
    | [a, b], _ => rfl) sc_law_place (by
    rintro ds r ⟨p, x, wp, hx, rfl, rfl⟩
    rfl) ?_
  rintro cdv A outer s H E hr ds r ⟨p, x, wp, hx, rfl, rfl⟩
  refine ⟨_, (pss_one (ps_ret (pe_ix (ix_listK (K := K)) (pe_lc rfl sc_law_place.nd (pi_listK (K := K) (pe_dget (hu1 hr) (pv 0) pe_str (fun _ _ => rfl))) (blkOk_by (own := [("_law_place_here", 2)]) (N := N_law_place) (sc := defScope s_law_place) (by decide +kernel)) (fun _ _ _ _ _ => (pg_name (i := 2) sc_law_place.nd rfl (by first | exact Or.inl rfl | exact Or.inr rfl))) (fun _ _ _ _ _ => (pts_one (pt_cmpR op_eq (pe_ix (ix_tupK (K := K)) (pv 2) pe_int (fun _ _ => rfl)) (pv 1) (nomark _)))) (fun _ _ _ _ _ => (pv 2))) pe_int (fun _ _ => rfl)))), .inl ?_⟩
  have ln := wp.ok.ln
  have ef : (p.pl.filter fun y => decide (y.w = x.w)) = [x] := by
    have nd := wp.ok.nd
    clear wp ln
    generalize p.pl = l at hx nd
    induction l with
    | nil => cases hx
    | cons y l ih =>
      obtain ⟨n1, n2⟩ := List.nodup_cons.mp nd
      rcases List.mem_cons.mp hx with e | e
      · subst e
        rw [List.filter_cons_of_pos (by simp)]
        congr 1
        refine List.filter_eq_nil_iff.mpr fun z hz => ?_
        have hne : z.w ≠ x.w := fun q => n1 (List.mem_map.mpr ⟨z, hz, q⟩)
        simpa using hne
      · have hne : y.w ≠ x.w := fun z => n1 (List.mem_map.mpr ⟨x, e, z.symm⟩)
        rw [List.filter_cons_of_neg (by simpa using hne)]
        exact ih e n2
  refine st_ret (ev_ixL (ds := [plcD x]) (evn_is (evn_lc (vs := [2]) p.pl plcD (fun y => decide (y.w = x.w)) plcD (it_list (ev_plan_pl (ev_var rfl))).o (by omega) fun y hy => ⟨_, _, gt_name, fun i hi => hi, et_is (et_test (ev_eqS (ev_ixT (ev_var rfl) ev_int rfl) (ev_var rfl))) (decide_eq_decide.mpr ⟨P_inj, fun e => by rw [e]⟩), fun _ => ev_var rfl⟩) ?_).l ev_int rfl)
  rw [ef]
  rfl

abbrev N_law_turns : List Str := ["_law_plan_here", "_law_found", "_law_row", "_law_day"]
theorem sc_law_turns : FnScope N_law_turns ["_law_plan_here"] (defScope s_law_turns) := C8.fnScope_by (by decide +kernel)
def R_law_turns (ds : List Dat) (r : Dat) : Prop := ∃ p : Plan, WPlan p ∧ ds = [planD p] ∧ r = .lst ((turns p.rw).map .int)
theorem p_law_turns (T : Tx K mg) : Ca pg w K mg base 1 "_law_turns" R_law_turns := by
  obtain ⟨fd, F⟩ := T.d_law_turns
  refine mkC (d := d_law_turns) F T.g__law_turns (F.bindsN (ps := ["_law_plan_here"]) fun kV doc pm an cdv ct us h => by
    match us, h with
    | [a], _ => rfl) sc_law_turns (by
    rintro ds r ⟨p, wp, rfl, rfl⟩
    rfl) ?_
  rintro cdv A outer s H E hr ds r ⟨p, wp, rfl, rfl⟩
  refine ⟨_, (pss_cons (ps_set (i := 1) sc_law_turns.nd rfl (by first | exact Or.inl rfl | exact Or.inr rfl) (pe_disp (pps_cons pe_int pe_bl pps_nil) rfl rfl (by simp) (by decide)))
      (pss_cons (ps_for PassesOwn.never rfl (pi_listK (K := K) (pe_dget (hu1 hr) (pv 0) pe_str (fun _ _ => rfl))) (pg_name (i := 2) sc_law_turns.nd rfl (by first | exact Or.inl rfl | exact Or.inr rfl)) (pss_cons (ps_dput (hu1 hr) (pv 1) (pe_ix (ix_tupK (K := K)) (pv 2) pe_int (fun _ _ => rfl)) pe_bl rfl)
      (pss_one (ps_if (pt_cmp (pc_notN (pe_ix (ix_tupK (K := K)) (pv 2) pe_int (fun _ _ => rfl)))) (pss_one (ps_dput (hu1 hr) (pv 1) (pe_add (pe_ix (ix_tupK (K := K)) (pv 2) pe_int (fun _ _ => rfl)) pe_int) pe_bl rfl)) pss_nil))))
      (pss_one (ps_ret (pe_callB cr_sorted (by rfl) T.f_sorted bo_sorted (pa_cons (pe_lock (pe_lc rfl sc_law_turns.nd (pi_keys (pv 1)) (blkOk_by (own := [("_law_day", 3)]) (N := N_law_turns) (sc := defScope s_law_turns) (by decide +kernel)) (fun _ _ _ _ _ => (pg_name (i := 3) sc_law_turns.nd rfl (by first | exact Or.inl rfl | exact Or.inr rfl))) (fun _ _ _ _ _ => pts_nil) (fun _ _ _ _ _ => (pe_callTy call_int1 (by rfl) T.f_int bo_int (pa_cons (pv 3) pa_nil))))) pa_nil)))))), .inl ?_⟩
  have hw := wp.ok.wr
  have hl := wp.ok.lr
  obtain ⟨nd, ln, hm⟩ := fold_rowK p.rw [0] (nd_one 0)
  refine st_seq (st_asgK (kds := kI [0]) (evk_disp (eps_cons (x := .inl 0) ev_int ev_bl eps_nil) (nd_one _) (by decide))) ?_
  refine st_seq (STs.one (out := .nx [.d (planD p), .k (kI (p.rw.foldl rowK [0])), .x, .x]) (sts_for p.rw rowD (fun i ρ => ρ = [.d (planD p), .k (kI ((p.rw.take i).foldl rowK [0])), .x, .x]) _ (it_list (ev_plan_rw (ev_var rfl))) ⟨_, rfl, Wk.refl _⟩ (fun i ρ q hq hρ => ⟨_, _, gt_name, ?_⟩) fun ρ hρ => by rw [hρ, List.take_length])) (st_ret ?_)
  · subst hρ
    have hlt : i < p.rw.length := (List.getElem?_eq_some_iff.mp hq).1
    obtain ⟨nd2, ln2, _⟩ := fold_rowK (p.rw.take i) [0] (nd_one 0)
    have l12 : ((p.rw.take i).foldl rowK [0]).length ≤ 25 := by
      rw [List.length_take] at ln2
      simp at ln2
      omega
    have etake : (p.rw.take (i + 1)).foldl rowK [0] = rowK ((p.rw.take i).foldl rowK [0]) q := by
      have e2 : p.rw[i] = q := by
        rw [List.getElem?_eq_getElem hlt] at hq
        exact Option.some.inj hq
      rw [List.take_succ_eq_append_getElem hlt, List.foldl_append, e2]
      rfl
    generalize (p.rw.take i).foldl rowK [0] = ks at l12 etake ⊢
    have l2 := addK_len ks q.s
    obtain ⟨qa, qb, qs, qt⟩ := q
    refine ST.s (out := .nx [.d (planD p), .k (kI (rowK ks ⟨qa, qb, qs, qt⟩)), .d (rowD ⟨qa, qb, qs, qt⟩), .x]) (st_seq (ρ1 := [.d (planD p), .k (kI (addK ks qs)), .d (rowD ⟨qa, qb, qs, qt⟩), .x]) (st_out (st_dput (kds := kI ks) (x := .inl qs) rfl ev_bl (ev_ixT (ev_var rfl) ev_int rfl) (by simp [kI]; omega)) (by rw [put_kI]; rfl)) ?_) (.inl ⟨_, _, rfl, .same (.same (.fog (.same .nil))), by rw [etake]⟩)
    cases qt with
    | none => exact st_if (b := false) (et_is (et_test (ev_notN (ev_ixT (ev_var rfl) ev_int rfl))) rfl) (fun h => nomatch h) fun _ => st_next
    | some t => exact st_if (b := true) (et_is (et_test (ev_notN (ev_ixT (ev_var rfl) ev_int rfl))) rfl) (fun _ => st_out (st_dput (kds := kI (addK ks qs)) (x := .inl (t + 1)) rfl ev_bl (ev_add (ev_ixT (ev_var rfl) ev_int rfl) ev_int) (by simp only [kI, List.length_map]; exact Nat.le_trans l2 (by omega))) (by rw [put_kI]; rfl)) (fun h => nomatch h)
  · refine (evn_sortI (xs := p.rw.foldl rowK [0]) (ys := turns p.rw) (ea_cons (lst_is (evn_lcK (vs := [3]) (kds := kI (p.rw.foldl rowK [0])) (fun _ => true) (fun x => keyD x.1) rfl (by simp [kI]; simp at ln; omega) fun x hx => ⟨_, _, gt_name, fun i hi => hi, et_yes, fun _ => ?_⟩).ev ?_) ea_nil) (by simp at ln; omega) fun zs hp hs => turns_sort hw hp hs).ev
    · obtain ⟨i, hi, e⟩ := List.mem_map.mp hx
      subst e
      exact ev_int1 (ea_cons (ev_var rfl) ea_nil)
    · rw [List.filter_eq_self.mpr (by simp)]
      unfold kI
      rw [List.map_map]
      rfl

abbrev N_law_fits : List Str := ["_law_plan_here", "_law_plain", "_law_day", "_law_found", "_law_at", "_law_row", "_law_one"]
theorem sc_law_fits : FnScope N_law_fits ["_law_plan_here", "_law_plain", "_law_day"] (defScope s_law_fits) := C8.fnScope_by (by decide +kernel)
def R_law_fits (ds : List Dat) (r : Dat) : Prop := ∃ (p : Plan) (b : Nat) (d : Int), WPlan p ∧ b < 4 ∧ ds = [planD p, ltD b, .int d] ∧ r = .lst ((cand p.rw p.dp b d).map ltD)
theorem p_law_fits (T : Tx K mg) (c_law_open : Ca pg w K mg base 1 "_law_open" R_law_open) : Ca pg w K mg base 2 "_law_fits" R_law_fits := by
  obtain ⟨fd, F⟩ := T.d_law_fits
  refine mkC (d := d_law_fits) F T.g__law_fits (F.bindsN (ps := ["_law_plan_here", "_law_plain", "_law_day"]) fun kV doc pm an cdv ct us h => by
    match us, h with
    | [a, b, c], _ => rfl) sc_law_fits (by
    rintro ds r ⟨p, b, d, wp, hb, rfl, rfl⟩
    rfl) ?_
  rintro cdv A outer s H E hr ds r ⟨p, b, d, wp, hb, rfl, rfl⟩
  refine ⟨_, (pss_cons (ps_par (i := 3) (j := 4) (by rfl) sc_law_fits.nd rfl rfl (by decide) rfl rfl (pa_cons (pe_lst (pa_cons (pv 1) pa_nil)) (pa_cons pe_int pa_nil)) (by rfl))
      (pss_cons (ps_while PassesOwn.never (PW.pt (pw_and (pt_cmp (pc_lt (pv 4) (pe_callB (call_lenK (K := K)) (by rfl) T.f_len PySem.boot_len (pa_cons (pv 3) pa_nil)))) (pw_and1 (PW.pt (pw_or (pt_cmpR op_eq (pv 4) pe_int (nomark _)) (pw_or1 (pt_val (pe_dget (hu1 hr) (pv 0) pe_str (fun _ _ => rfl))))))))) (pss_cons (ps_for PassesOwn.never rfl (pi_listK (K := K) (pe_dget (hu1 hr) (pv 0) pe_str (fun _ _ => rfl))) (pg_name (i := 5) sc_law_fits.nd rfl (by first | exact Or.inl rfl | exact Or.inr rfl)) (pss_one (ps_if (PW.pt (pw_and (pt_cmpR op_eq (pe_ix (ix_tupK (K := K)) (pv 5) pe_int (fun _ _ => rfl)) (pe_ix (ix_listK (K := K)) (pv 3) (pv 4) (fun _ _ => rfl)) (nomark _)) (pw_and (pt_val (C8.pe_c c_law_open hr (by decide) (by rfl) (pa_cons (pv 5) (pa_cons (pv 2) pa_nil)))) (pw_and1 (pt_cmpR (op_notIn_seqK (K := K)) (pe_ix (ix_tupK (K := K)) (pv 5) pe_int (fun _ _ => rfl)) (pv 3) (by rfl)))))) (pss_one (ps_expr (pe_bm PySem.F.plainAttrs_list PySem.F.slot_list_append PySem.F.type_list_append mt_append (pv 3) (pa_cons (pe_ix (ix_tupK (K := K)) (pv 5) pe_int (fun _ _ => rfl)) pa_nil)))) pss_nil)))
      (pss_one (ps_set (i := 4) sc_law_fits.nd rfl (by first | exact Or.inl rfl | exact Or.inr rfl) (pe_add (pv 4) pe_int)))))
      (pss_one (ps_ret (pe_op op_cat (pe_lst (pa_cons (pv 1) pa_nil)) (pe_callB cr_sortedS (by rfl) T.f_sorted bo_sorted (pa_cons (pe_lc rfl sc_law_fits.nd (pi_listK (K := K) (pe_slice (sl_listK (K := K)) (pv 3) (po_some pe_int) po_none)) (blkOk_by (own := [("_law_one", 6)]) (N := N_law_fits) (sc := defScope s_law_fits) (by decide +kernel)) (fun _ _ _ _ _ => (pg_name (i := 6) sc_law_fits.nd rfl (by first | exact Or.inl rfl | exact Or.inr rfl))) (fun _ _ _ _ _ => pts_nil) (fun _ _ _ _ _ => (pe_callTy SkE.call_str_str (by rfl) T.f_str bo_str (pa_cons (pv 6) pa_nil)))) pa_nil))))))), .inl ?_⟩
  have hw := wp.ok.wr
  refine st_seq (st_parN (ds := [ltD b]) (evn_lst (ea_cons (ev_var rfl) ea_nil)) ev_int (by decide)) ?_
  obtain ⟨n, found, h4, hnd, hlt, hst, hrun⟩ : ∃ (n : Nat) (found : Nat → List Nat), n ≤ 4 ∧ (∀ i, (found i).Nodup) ∧ (∀ i, ∀ y ∈ found i, y < 4) ∧ asc ((found n).drop 1) = stand p.rw p.dp b d ∧ found 0 = [b] ∧ (∀ i, i < n → ∃ x, (found i)[i]? = some x ∧ found (i + 1) = growL p.rw d (found i) x ∧ (i = 0 ∨ p.dp = true)) ∧ ((found n).length ≤ n ∨ (n ≠ 0 ∧ p.dp = false)) := by
    have G := growsL p.rw d hw
    have lt : ∀ i, ∀ y ∈ walk (growL p.rw d) [b] i, y < 4 := fun i => walk_all G (R := (· < 4)) (fun n hn => by rw [List.mem_singleton.mp hn]; exact hb) (fun x _ n hn => steps_lt hw hn) i
    cases e : p.dp with
    | true =>
      obtain ⟨n, h0, h1, h2, h3, _, _⟩ := lawDeep hw hb d
      refine ⟨n, walk (growL p.rw d) [b], h0, walk_nd G (nd_one b), lt, h3, rfl, fun i hi => ?_, .inl h2⟩
      have hi1 := h1 i hi
      exact ⟨_, List.getElem?_eq_getElem hi1, walk_step (List.getElem?_eq_getElem hi1), .inr rfl⟩
    | false =>
      obtain ⟨h3, _, _⟩ := lawFlat hw hb d
      refine ⟨1, walk (growL p.rw d) [b], by omega, walk_nd G (nd_one b), lt, ?_, rfl, fun i hi => ?_, .inr ⟨by omega, rfl⟩⟩
      · have e1 : walk (growL p.rw d) [b] 1 = growL p.rw d [b] b := walk_step (i := 0) rfl
        rw [e1]
        exact h3
      · have e0 : i = 0 := by omega
        subst e0
        exact ⟨b, rfl, walk_step (i := 0) rfl, .inl rfl⟩
  obtain ⟨h0, hstep, hstop⟩ := hrun
  have ll : ∀ i, (found i).length ≤ 4 := fun i => len_le (hnd i) (hlt i)
  have hpre : ∀ i, i ≤ n → ∃ g, found i = b :: g := fun i => by
    induction i with
    | zero => intro _; exact ⟨[], h0⟩
    | succ i ih =>
      intro hi
      obtain ⟨g, eg⟩ := ih (by omega)
      obtain ⟨x, _, e2, _⟩ := hstep i (by omega)
      obtain ⟨⟨g2, eg2⟩, _⟩ := growL_ok d x p.rw (found i)
      exact ⟨g ++ g2, by rw [e2, eg2, eg]; rfl⟩
  refine st_seq (st_while (fun i => [.d (planD p), .d (ltD b), .d (.int d), .l ((found i).map ltD), .d (.int (i : Nat)), .x, .x]) n ?_ (fun i hi => ⟨?_, ?_⟩) ?_) (st_ret ?_)
  · rw [h0]
    exact Wk.refl _
  · obtain ⟨x, hx, _, h5⟩ := hstep i hi
    have hil := (List.getElem?_eq_some_iff.mp hx).1
    refine et_is (et_and (et_test (ev_cmp (ev_var rfl) (ev_lenL (evl_var rfl)))) fun _ => et_or (et_test (ev_eqI (ev_var rfl) ev_int)) fun _ => et_test (ev_plan_dp (ev_var rfl))) ?_
    rw [List.length_map]
    refine Bool.and_eq_true_iff.mpr ⟨decide_eq_true (by omega), ?_⟩
    rcases h5 with h5 | h5 <;> simp [h5]
  · obtain ⟨x, hx, e2, _⟩ := hstep i hi
    rw [e2]
    have hl := wp.ok.lr
    have nd0 := hnd i
    have lt0 := hlt i
    generalize found i = f0 at hx nd0 lt0 ⊢
    refine st_seq (ρ1 := [.d (planD p), .d (ltD b), .d (.int d), .l ((growL p.rw d f0 x).map ltD), .d (.int (i : Nat)), .x, .x]) (STs.one (out := .nx [.d (planD p), .d (ltD b), .d (.int d), .l ((growL p.rw d f0 x).map ltD), .d (.int (i : Nat)), .x, .x]) (sts_for p.rw rowD (fun j ρ => ρ = [.d (planD p), .d (ltD b), .d (.int d), .l ((growL (p.rw.take j) d f0 x).map ltD), .d (.int (i : Nat)), .x, .x]) _ (it_list (ev_plan_rw (ev_var rfl))) ⟨_, rfl, Wk.refl _⟩ (fun j ρ q hq hρ => ⟨_, _, gt_name, ?_⟩) fun ρ hρ => by rw [hρ, List.take_length])) (st_out (st_asg (ev_add (ev_var rfl) ev_int)) rfl)
    subst hρ
    have hlj : j < p.rw.length := (List.getElem?_eq_some_iff.mp hq).1
    have etake : growL (p.rw.take (j + 1)) d f0 x = growL1 d x (growL (p.rw.take j) d f0 x) q := by
      have e2 : p.rw[j] = q := by
        rw [List.getElem?_eq_getElem hlj] at hq
        exact Option.some.inj hq
      unfold growL
      rw [List.take_succ_eq_append_getElem hlj, List.foldl_append, e2]
      rfl
    obtain ⟨⟨g, eg⟩, gn, gm⟩ := growL_ok d x (p.rw.take j) f0
    have gl : (growL (p.rw.take j) d f0 x).length ≤ 4 := len_le (gn nd0) fun n hn => by
      rcases (gm n).mp hn with z | ⟨r, hr2, _, _, e⟩
      · exact lt0 n z
      · exact e ▸ (hw r (List.mem_of_mem_take hr2)).a
    have gx : (growL (p.rw.take j) d f0 x)[i]? = some x := by
      rw [eg, List.getElem?_append_left (List.getElem?_eq_some_iff.mp hx).1, hx]
    rw [etake]
    generalize growL (p.rw.take j) d f0 x = F at gl gx ⊢
    have ix : atI (F.map ltD) (i : Nat) = some (ltD x) := L2.atI_nat (by rw [List.getElem?_map, gx]; rfl)
    refine ST.s (out := .nx [.d (planD p), .d (ltD b), .d (.int d), .l ((growL1 d x F q).map ltD), .d (.int (i : Nat)), .d (rowD q), .x]) (st_if (b := decide (q.b = x) && (opn q d && decide (q.a ∉ F))) (et_and (et_is (et_test (ev_eqS (ev_ixT (ev_var rfl) ev_int rfl) (ev_ixL (evl_var rfl) (ev_var rfl) ix))) (decide_eq_decide.mpr ⟨P_inj, fun e => by rw [e]⟩)) fun _ => et_and (et_B (ev_call (ds := [rowD q, .int d]) (ea_cons (ev_var rfl) (ea_cons (ev_var rfl) ea_nil)) ⟨q, d, rfl, rfl⟩)) fun _ => et_is (et_test (ev_niSL (xs := F.map Ga.P) (ev_ixT (ev_var rfl) ev_int rfl) (evl_is (evl_var rfl) (map_str F)))) ?_) (fun h => ?_) fun h => ?_) (.inl ⟨_, _, rfl, .same (.same (.same (.same (.same (.fog (.same .nil)))))), rfl⟩)
    · by_cases h : q.a ∈ F
      · rw [decide_eq_true (P_mem.mpr h), decide_eq_false (fun z => z h)]
        rfl
      · rw [decide_eq_false (fun z => h (P_mem.mp z)), decide_eq_true h]
        rfl
    · have e1 : growL1 d x F q = F ++ [q.a] := if_pos h
      rw [e1]
      refine st_out (st_app rfl (ev_ixT (ev_var rfl) ev_int rfl) (by rw [List.length_map]; omega)) ?_
      rw [List.map_append]
      rfl
    · have e1 : growL1 d x F q = F := if_neg (by rw [h]; exact Bool.false_ne_true)
      rw [e1]
      exact st_next
  · refine et_is (et_and (et_test (ev_cmp (ev_var rfl) (ev_lenL (evl_var rfl)))) fun _ => et_or (et_test (ev_eqI (ev_var rfl) ev_int)) fun _ => et_test (ev_plan_dp (ev_var rfl))) ?_
    rw [List.length_map]
    rcases hstop with h5 | ⟨h5, h6⟩
    · rw [decide_eq_false (by omega)]
      rfl
    · simp [h5, h6]
  · obtain ⟨g, eg⟩ := hpre n (Nat.le_refl n)
    have lg := ll n
    have ndn := hnd n
    have ltn := hlt n
    rw [eg] at hst lg ndn ltn ⊢
    have hst : asc g = stand p.rw p.dp b d := hst
    have g4 : g.length ≤ 4 := by
      rw [List.length_cons] at lg
      omega
    have gl : ∀ m ∈ g, m < 26 := fun m hm => Nat.lt_trans (ltn m (List.mem_cons_of_mem _ hm)) (by decide)
    have gn := (List.nodup_cons.mp ndn).2
    refine lst_is (evn_cat (ds := [ltD b]) (es := (asc g).map ltD) (evn_lst (ea_cons (ev_var rfl) ea_nil)).l (evl_is (evn_sortS (xs := g.map Ga.P) (ys := (asc g).map Ga.P) (ea_cons (lst_is (evn_lc (vs := [6]) g ltD (fun _ => true) ltD (it_listO (evl_is (evn_slL (lo := some 1) (hi := none) (evl_var rfl) (eo_some ev_int) eo_none).l ?_)) (by omega) fun y hy => ⟨_, _, gt_name, fun i hi => hi, et_yes, fun _ => ev_str1 (ea_cons (ev_var rfl) ea_nil)⟩).ev ?_) ea_nil) ?_ fun zs hp hs => asc_of ?_ hs (fun y => hp.mem_iff) gl).l ?_) ?_).ev ?_
    · show Dl.cutD ((b :: g).map ltD) (some ((1 : Nat) : Int)) none = g.map ltD
      unfold Dl.cutD
      rw [HT.sIx_nat, HT.sIx_none, List.map_cons, List.length_cons, Nat.min_eq_left (by omega), List.drop_succ_cons, List.drop_zero, List.take_of_length_le (by omega)]
    · rw [List.filter_eq_self.mpr (by simp), map_str]
    · rw [List.length_map]
      omega
    · exact hp.nodup_iff.mpr (List.pairwise_map.mpr (gn.imp fun h e => h (P_inj e)))
    · rw [map_str]
    · have := asc_len g
      rw [List.length_map]
      show 1 + _ ≤ _
      omega
    · rw [hst]
      rfl

end
end Gk

set_option maxHeartbeats 4000000
namespace Gk
open PySem PySem.Spec PyProof.Rows L2 Dl Ga
section
variable {pg : Program} {w : World} {K : PySem.W.Frag} {mg : Str → Option Value} {base : Heap}
local macro_rules | `(tactic| trivial) => `(tactic| first
  | with_reducible exact ev_int
  | with_reducible exact ev_str
  | with_reducible exact ev_bl
  | with_reducible exact ev_non
  | ((with_reducible apply ev_var) <;> rfl)
  | ((with_reducible apply evl_var) <;> rfl)
  | with_reducible exact eo_none
  | with_reducible apply eo_some
  | with_reducible apply ev_add
  | with_reducible apply ev_sub
  | with_reducible apply ev_cmp
  | with_reducible apply ev_chain rfl rfl
  | with_reducible apply ev_and
  | with_reducible apply ev_or
  | with_reducible apply ev_not
  | with_reducible apply ev_isN
  | with_reducible apply ev_notN
  | with_reducible apply ea_cons
  | with_reducible exact ea_nil
  | with_reducible apply et_B
  | with_reducible apply et_test
  | with_reducible apply et_not
  | with_reducible apply et_and
  | with_reducible apply et_or
  | with_reducible apply ev_ixT
  | with_reducible apply ev_tup
  | with_reducible apply ev_int1
  | with_reducible apply ev_str1
  | with_reducible apply isi_int_int
  | with_reducible apply isi_int_bool
  | with_reducible apply isi_str_str
  | with_reducible apply isi_tup_tup
  | with_reducible apply isi_lst_lst
  | with_reducible apply isi_dic_dic
  | with_reducible exact et_yes
  | intro _)
theorem occ_letter : ∀ q : Nat, q < 4 → Builtin.Str.occurrences ("abcdefgh" : Str) (Ga.P q) 0 ("abcdefgh" : Str).length 1 = [q]
  | 0, _ => by decide +kernel
  | 1, _ => by decide +kernel
  | 2, _ => by decide +kernel
  | 3, _ => by decide +kernel
  | n + 4, h => by omega
/-- "abcdefgh".index(x) -/
theorem ev_sindex {ρ : List Sl} {te : TE} {q : Nat} (hq : q < 4) (he : EV te ρ (ltD q)) : EV (tBM K "str" (fun x xs H Q => ∃ a b i rest, x = .str a ∧ xs = [.str b] ∧ Builtin.Str.occurrences a b 0 a.length 1 = i :: rest ∧ Q (.int (i : Nat)) H) (tC (.str "abcdefgh")) (tCons te tNil)) ρ (.int (q : Nat)) := fun B H σ S Q h =>
  ⟨rfl, he B H σ S _ fun v B1 H1 g1 r1 => by
    cases r1
    exact ⟨_, _, q, [], rfl, rfl, occ_letter q hq, h _ B1 H1 g1 (.int _)⟩⟩

abbrev N_law_rank : List Str := ["_law_rule_here", "_law_word", "_law_part", "_law_order"]
theorem sc_law_rank : FnScope N_law_rank ["_law_rule_here", "_law_word", "_law_part"] (defScope s_law_rank) := C8.fnScope_by (by decide +kernel)
def R_law_rank (ds : List Dat) (r : Dat) : Prop := ∃ (r0 : Rul) (v p : Nat), WO r0.os ∧ v < 26 ∧ p < 4 ∧ ds = [ruleD r0, ltD v, ltD p] ∧ r = .int (rk r0.os v p)
theorem p_law_rank (T : Tx K mg) : Ca pg w K mg base 1 "_law_rank" R_law_rank := by
  obtain ⟨fd, F⟩ := T.d_law_rank
  refine mkC (d := d_law_rank) F T.g__law_rank (F.bindsN (ps := ["_law_rule_here", "_law_word", "_law_part"]) fun kV doc pm an cdv ct us h => by
    match us, h with
    | [a, b, c], _ => rfl) sc_law_rank (by
    rintro ds r ⟨r0, v, p, ho, hv, hp, rfl, rfl⟩
    rfl) ?_
  rintro cdv A outer s H E hr ds r ⟨r0, v, p, ho, hv, hp, rfl, rfl⟩
  refine ⟨_, (pss_cons (ps_set (i := 3) sc_law_rank.nd rfl (by first | exact Or.inl rfl | exact Or.inr rfl) (pe_ifExp (pt_cmp (pc_din (hu1 hr) (pv 1) (pe_dget (hu1 hr) (pv 0) pe_str (fun _ _ => rfl)))) (pe_dget (hu1 hr) (pe_dget (hu1 hr) (pv 0) pe_str (fun _ _ => rfl)) (pv 1) (fun _ _ => rfl)) (pe_tup pa_nil)))
      (pss_cons (ps_if (pt_cmpR (op_in_seqK (K := K)) (pv 2) (pv 3) (by rfl)) (pss_one (ps_ret (Ot.pe_tidx (pv 3) (pa_cons (pv 2) pa_nil)))) pss_nil)
      (pss_one (ps_ret (pe_add pe_int (pe_bm PySem.F.plainAttrs_str PySem.F.slot_str_index PySem.F.type_str_index mt_sindex pe_str (pa_cons (pv 2) pa_nil))))))), .inl ?_⟩
  have lo := look_ord v r0.os
  cases e : r0.os.find? fun o => decide (o.1 = v) with
  | none =>
    have h1 : ordOf r0.os v = [] := by unfold ordOf; rw [e]
    have h2 : ordDat r0.os v = none := by unfold ordDat; rw [e]; rfl
    have h3 : rk r0.os v p = 10 + (p : Nat) := by unfold rk; rw [h1]; simp
    rw [h2] at lo
    rw [h3]
    refine st_seq (st_asg (d := .tup []) (ev_if (b := false) (et_is (et_test (ev_din (ev_var rfl) (ev_rule_os (ev_var rfl)))) (by rw [lo]; rfl)) (fun h => nomatch h) fun _ => ev_tup ea_nil)) ?_
    exact st_seqIf (b := false) (et_is (et_test (ev_inST (xs := []) (ev_var rfl) (ev_var rfl))) (by simp)) (fun h => nomatch h) fun _ => st_seqNext (st_ret (ev_add ev_int (ev_sindex hp (ev_var rfl))))
  | some o =>
    have h1 : ordOf r0.os v = o.2 := by unfold ordOf; rw [e]
    have h2 : ordDat r0.os v = some (.otp (o.2.map Ga.P)) := by unfold ordDat; rw [e]; rfl
    have nd := (ordOf_mem (w := v) ho).1
    rw [h1] at nd
    rw [h2] at lo
    refine st_seq (st_asg (d := .otp (o.2.map Ga.P)) (ev_if (b := true) (et_is (et_test (ev_din (ev_var rfl) (ev_rule_os (ev_var rfl)))) (by rw [lo]; rfl)) (fun _ => ev_dget (ev_rule_os (ev_var rfl)) (ev_var rfl) lo) fun h => nomatch h)) ?_
    refine st_seqIf (b := decide (Ga.P p ∈ o.2.map Ga.P)) (et_test (ev_inSO (ev_var rfl) (ev_var rfl))) (fun h => ?_) fun h => ?_
    · have hm : p ∈ o.2 := P_mem.mp (of_decide_eq_true h)
      have hi := List.idxOf_lt_length_iff.mpr hm
      have h3 : rk r0.os v p = (o.2.idxOf p : Nat) := by unfold rk; rw [h1, if_pos hm]
      rw [h3]
      refine st_seqRt (st_ret (Ot.ev_tidx (xs := o.2.map Ga.P) (z := Ga.P p) (j := o.2.idxOf p) (ev_var rfl) (ev_var rfl) ?_ ?_))
      · rw [List.getElem?_map, List.getElem?_eq_getElem hi, List.getElem_idxOf hi]
        rfl
      · intro m hm2 he
        rw [List.getElem?_map] at he
        have hml : m < o.2.length := by omega
        rw [List.getElem?_eq_getElem hml] at he
        have he : Ga.P o.2[m] = Ga.P p := Option.some.inj he
        have he := P_inj he
        exact List.pairwise_iff_getElem.mp nd m (o.2.idxOf p) hml hi hm2 (he.trans (List.getElem_idxOf hi).symm)
    · have hm : p ∉ o.2 := fun z => by
        rw [decide_eq_true (P_mem.mpr z)] at h
        cases h
      have h3 : rk r0.os v p = 10 + (p : Nat) := by unfold rk; rw [h1, if_neg hm]
      rw [h3]
      exact st_seqNext (st_ret (ev_add ev_int (ev_sindex hp (ev_var rfl))))

abbrev N_law_weight : List Str := ["_law_rule_here", "_law_place_here", "_law_unit", "_law_rank_here", "_law_ahead"]
theorem sc_law_weight : FnScope N_law_weight ["_law_rule_here", "_law_place_here", "_law_unit"] (defScope s_law_weight) := C8.fnScope_by (by decide +kernel)
def R_law_weight (ds : List Dat) (r : Dat) : Prop := ∃ (r0 : Rul) (x : Plc) (p : Nat) (d : Int), WO r0.os ∧ WP x ∧ p < 4 ∧ (-1 ≤ d ∧ d ≤ 9999) ∧ ds = [ruleD r0, plcD x, .tup [ltD p, .int d]] ∧ r = .int (wt r0 x p d)
theorem p_law_weight (T : Tx K mg) (c_law_rank : Ca pg w K mg base 1 "_law_rank" R_law_rank) : Ca pg w K mg base 2 "_law_weight" R_law_weight := by
  obtain ⟨fd, F⟩ := T.d_law_weight
  refine mkC (d := d_law_weight) F T.g__law_weight (F.bindsN (ps := ["_law_rule_here", "_law_place_here", "_law_unit"]) fun kV doc pm an cdv ct us h => by
    match us, h with
    | [a, b, c], _ => rfl) sc_law_weight (by
    rintro ds r ⟨r0, x, p, d, ho, hx, hp, hd, rfl, rfl⟩
    rfl) ?_
  rintro cdv A outer s H E hr ds r ⟨r0, x, p, d, ho, hx, hp, hd, rfl, rfl⟩
  refine ⟨_, (pss_cons (ps_set (i := 3) sc_law_weight.nd rfl (by first | exact Or.inl rfl | exact Or.inr rfl) (C8.pe_c c_law_rank hr (by decide) (by rfl) (pa_cons (pv 0) (pa_cons (pe_ix (ix_tupK (K := K)) (pv 1) pe_int (fun _ _ => rfl)) (pa_cons (pe_ix (ix_tupK (K := K)) (pv 2) pe_int (fun _ _ => rfl)) pa_nil)))))
      (pss_cons (ps_if (pt_cmpR op_eq (pe_dget (hu1 hr) (pv 0) pe_str (fun _ _ => rfl)) pe_str (nomark _)) (pss_one (ps_ret (pe_add (pe_mul (pe_ix (ix_tupK (K := K)) (pv 2) pe_int (fun _ _ => rfl)) pe_int) (pv 3)))) pss_nil)
      (pss_cons (ps_set (i := 4) sc_law_weight.nd rfl (by first | exact Or.inl rfl | exact Or.inr rfl) (pe_callTy call_int1 (by rfl) T.f_int bo_int (pa_cons (pe_and (pe_cmpR op_eq (pe_dget (hu1 hr) (pv 0) pe_str (fun _ _ => rfl)) pe_str (nomark _)) (pe_one (pe_cmpR op_ne (pe_ix (ix_tupK (K := K)) (pv 2) pe_int (fun _ _ => rfl)) (pe_ix (ix_tupK (K := K)) (pv 1) pe_int (fun _ _ => rfl)) (nomark _)))) pa_nil)))
      (pss_one (ps_ret (pe_add (pe_add (pe_mul (pv 4) (pe_op op_pow pe_int pe_int)) (pe_mul (pv 3) pe_int)) (pe_ix (ix_tupK (K := K)) (pv 2) pe_int (fun _ _ => rfl)))))))), .inl ?_⟩
  have rr := rk_rng (w := x.w) ho hp
  refine st_seq (st_asg (ev_call (d := .int (rk r0.os x.w p)) (ds := [ruleD r0, ltD x.w, ltD p]) (ea_cons (ev_var rfl) (ea_cons (ev_ixT (ev_var rfl) ev_int rfl) (ea_cons (ev_ixT (ev_var rfl) ev_int rfl) ea_nil))) ⟨r0, x.w, p, ho, hx.w, hp, rfl, rfl⟩)) ?_
  refine st_seqIf (b := decide (r0.kd = .eldest)) (et_is (et_test (ev_eqS (ev_rule_kd (ev_var rfl)) ev_str)) (kE _)) (fun h => ?_) fun h => st_seqNext ?_
  · have e : wt r0 x p d = d * 1000 + rk r0.os x.w p := by
      unfold wt
      rw [of_decide_eq_true h]
    rw [e]
    exact st_seqRt (st_ret (ev_add (ev_mul (ev_ixT (ev_var rfl) ev_int rfl) ev_int (by omega)) (ev_var rfl)))
  · have e : wt r0 x p d = (if (decide (r0.kd = .plain) && !decide (p = x.p)) = true then 1 else 0) * 100000000 + rk r0.os x.w p * 100000 + d := by
      unfold wt
      cases hk : r0.kd with
      | eldest =>
        rw [hk] at h
        cases h
      | row => rfl
      | plain =>
        by_cases hq : p = x.p <;> simp [hq]
    rw [e]
    have tp : ((10 : Int) ^ (8 : Int).toNat) = 100000000 := by decide
    generalize hb : (decide (r0.kd = .plain) && !decide (p = x.p)) = b
    refine st_seq (st_asg (d := .int (if b = true then 1 else 0)) (ev_intB (ea_cons (ev_is (ev_and (ev_is (ev_eqS (ev_rule_kd (ev_var rfl)) ev_str) (by rw [kP])) fun _ => ev_is (ev_neS (ev_ixT (ev_var rfl) ev_int rfl) (ev_ixT (ev_var rfl) ev_int rfl)) (by rw [decide_eq_decide.mpr ⟨P_inj, fun e => by rw [e]⟩])) (by rw [hb])) ea_nil))) ?_
    refine st_ret (ev_add (ev_add (ev_mul (ev_var rfl) (ev_is (ev_opI (f := fun i j => i ^ j.toNat) ev_int ev_int (C := CPow) ?_) (by rw [tp])) ?_) (ev_mul (ev_var rfl) ev_int (by omega))) (ev_ixT (ev_var rfl) ev_int rfl))
    · exact ⟨by decide, by decide, by decide⟩
    · cases b <;> decide

theorem ev_index0 {ρ : List Sl} {ta tb : TE} {d : Dat} {ds : List Dat} (ha : EV ta ρ (.lst (d :: ds))) (hb : EV tb ρ d) (h1 : shp d = true) (h2 : shp (.lst (d :: ds)) = true) (he : eqD d d = true) : EV (tBM K "list" (rIndexD K) ta (tCons tb tNil)) ρ (.int 0) := fun B H σ S Q q => ha B H σ S _ fun v B1 H1 g1 r1 => by
  cases r1 with
  | lst h3 r3 =>
    refine ⟨.inl ⟨rfl, _, SqL.of (g1.bh _ _ h3)⟩, hb B1 H1 σ (S.mono g1) _ fun u B2 H2 g2 r2 => ?_⟩
    have hB := g2.bb
    exact ⟨_, u, toPy d, toPys (d :: ds), 0, toPy d, rfl, rfl, rep_dp (shp_of h2).1 ((Rep.lst h3 r3).mono (g2.bb.trans g2.bh)), rep_dp (shp_of h1).1 (r2.mono g2.bh), (shp_of h2).2, (shp_of h1).2, rfl, he, (fun m _ hm => absurd hm (Nat.not_lt_zero m)), q _ B2 H2 (g1.trans g2) (.int _)⟩
/-- the better of two units -/
noncomputable def better (pl : Plan) (r0 : Rul) (x : Plc) (d : Int) (s : Option (Nat × Int)) (u : Nat × Int) : Option (Nat × Int) := if (decide (u.1 ∈ cand pl.rw pl.dp x.p d) && match s with
  | none => true
  | some v => decide (wt r0 x u.1 u.2 < wt r0 x v.1 v.2)) = true then some u else s
noncomputable def bestOf (pl : Plan) (r0 : Rul) (x : Plc) (d : Int) (us : List (Nat × Int)) : Option (Nat × Int) := us.foldl (better pl r0 x d) none
def bestD (r0 : Rul) (x : Plc) : Option (Nat × Int) → Dat
  | none => .non
  | some u => .tup [.int (wt r0 x u.1 u.2), useD u]
def WU (us : List (Nat × Int)) : Prop := ∀ u ∈ us, u.1 < 4 ∧ (-1 ≤ u.2 ∧ u.2 ≤ 9999)

abbrev N_law_choice : List Str := ["_law_plan_here", "_law_rule_here", "_law_place_here", "_law_day", "_law_units", "_law_best", "_law_unit", "_law_weight_here"]
theorem sc_law_choice : FnScope N_law_choice ["_law_plan_here", "_law_rule_here", "_law_place_here", "_law_day", "_law_units"] (defScope s_law_choice) := C8.fnScope_by (by decide +kernel)
def R_law_choice (ds : List Dat) (r : Dat) : Prop := ∃ (p : Plan) (r0 : Rul) (x : Plc) (d : Int) (us : List (Nat × Int)), WPlan p ∧ WO r0.os ∧ WP x ∧ WU us ∧ ds = [planD p, ruleD r0, plcD x, .int d, .lst (us.map useD)] ∧ r = ((bestOf p r0 x d us).map useD).getD .non
theorem p_law_choice (T : Tx K mg) (c_law_weight : Ca pg w K mg base 2 "_law_weight" R_law_weight) (c_law_fits : Ca pg w K mg base 2 "_law_fits" R_law_fits) : Ca pg w K mg base 3 "_law_choice" R_law_choice := by
  obtain ⟨fd, F⟩ := T.d_law_choice
  refine mkC (d := d_law_choice) F T.g__law_choice (F.bindsN (ps := ["_law_plan_here", "_law_rule_here", "_law_place_here", "_law_day", "_law_units"]) fun kV doc pm an cdv ct us h => by
    match us, h with
    | [a, b, c, d, e], _ => rfl) sc_law_choice (by
    rintro ds r ⟨p, r0, x, d, us, wp, ho, hx, hu, rfl, rfl⟩
    rfl) ?_
  rintro cdv A outer s H E hr ds r ⟨p, r0, x, d, us, wp, ho, hx, hu, rfl, rfl⟩
  refine ⟨_, (pss_cons (ps_set (i := 5) sc_law_choice.nd rfl (by first | exact Or.inl rfl | exact Or.inr rfl) pe_non)
      (pss_cons (ps_for PassesOwn.never rfl (pi_listK (K := K) (pv 4)) (pg_name (i := 6) sc_law_choice.nd rfl (by first | exact Or.inl rfl | exact Or.inr rfl)) (pss_cons (ps_set (i := 7) sc_law_choice.nd rfl (by first | exact Or.inl rfl | exact Or.inr rfl) (C8.pe_c c_law_weight hr (by decide) (by rfl) (pa_cons (pv 1) (pa_cons (pv 2) (pa_cons (pv 6) pa_nil)))))
      (pss_one (ps_if (PW.pt (pw_and (pt_cmpR (op_in_seqK (K := K)) (pe_ix (ix_tupK (K := K)) (pv 6) pe_int (fun _ _ => rfl)) (C8.pe_c c_law_fits hr (by decide) (by rfl) (pa_cons (pv 0) (pa_cons (pe_ix (ix_tupK (K := K)) (pv 2) pe_int (fun _ _ => rfl)) (pa_cons (pv 3) pa_nil)))) (by rfl)) (pw_and1 (PW.pt (pw_or (pt_cmp (pc_isN (pv 5))) (pw_or1 (pt_cmp (pc_lt (pv 7) (pe_ix (ix_tupK (K := K)) (pv 5) pe_int (fun _ _ => rfl)))))))))) (pss_one (ps_set (i := 5) sc_law_choice.nd rfl (by first | exact Or.inl rfl | exact Or.inr rfl) (pe_tup (pa_cons (pv 7) (pa_cons (pv 6) pa_nil))))) pss_nil))))
      (pss_one (ps_ret (pe_ifExp (pt_cmp (pc_isN (pv 5))) pe_non (pe_ix (ix_tupK (K := K)) (pv 5) pe_int (fun _ _ => rfl))))))), .inl ?_⟩
  refine st_seq (st_asg (d := .non) ev_non) ?_
  refine st_seq (st_out (o2 := .nx [.d (planD p), .d (ruleD r0), .d (plcD x), .d (.int d), .d (.lst (us.map useD)), .d (bestD r0 x (bestOf p r0 x d us)), .x, .x]) (st_for us useD (fun s : Option (Nat × Int) => [.d (planD p), .d (ruleD r0), .d (plcD x), .d (.int d), .d (.lst (us.map useD)), .d (bestD r0 x s), .x, .x]) (fun s u => .inl (better p r0 x d s u)) none (it_list (ev_var rfl)) (Wk.refl _) fun s u hu2 => ⟨_, _, gt_name, ?_⟩) ?_) (st_ret ?_)
  · obtain ⟨u1, u2⟩ := hu u hu2
    refine st_wk (ρ1 := [.d (planD p), .d (ruleD r0), .d (plcD x), .d (.int d), .d (.lst (us.map useD)), .d (bestD r0 x (better p r0 x d s u)), .d (useD u), .d (.int (wt r0 x u.1 u.2))]) ?_ (.same (.same (.same (.same (.same (.same (.fog (.fog .nil))))))))
    refine st_seq (st_asg (ev_call (d := .int (wt r0 x u.1 u.2)) (ds := [ruleD r0, plcD x, useD u]) (by repeat' trivial) ⟨r0, x, u.1, u.2, ho, hx, u1, u2, rfl, rfl⟩)) ?_
    have et1 : ∀ {ρ : List Sl}, ρ[0]? = some (.d (planD p)) → ρ[2]? = some (.d (plcD x)) → ρ[3]? = some (.d (.int d)) → ρ[6]? = some (.d (useD u)) → ∀ c, (c = decide (u.1 ∈ cand p.rw p.dp x.p d)) → EV (tOp (rIn K false) (tOp (rIxT K) (tVar 6) (tC (.int 0))) (tCall (spD R_law_fits) [] C8.E0 (tCons (tVar 0) (tCons (tOp (rIxT K) (tVar 2) (tC (.int 1))) (tCons (tVar 3) tNil))))) ρ (.bl c) := fun h0 h2 h3 h6 c hc => by
      refine ev_is (ev_inSL (xs := (cand p.rw p.dp x.p d).map Ga.P) (ev_ixT (ev_var h6) ev_int rfl) (evl_is (ev_call (d := .lst ((cand p.rw p.dp x.p d).map ltD)) (ds := [planD p, ltD x.p, .int d]) (ea_cons (ev_var h0) (ea_cons (ev_ixT (ev_var h2) ev_int rfl) (ea_cons (ev_var h3) ea_nil))) ⟨p, x.p, d, wp, hx.p, rfl, rfl⟩).l (map_str _))) ?_
      rw [hc, decide_eq_decide.mpr P_mem]
    cases s with
    | none =>
      refine st_if (b := decide (u.1 ∈ cand p.rw p.dp x.p d) && true) (et_is (et_and (et_test (et1 rfl rfl rfl rfl _ rfl)) fun _ => et_is (et_or (b := true) (c := true) (et_is (et_test (ev_isN (d := .non) (ev_var rfl))) rfl) fun h => nomatch h) rfl) rfl) (fun h => ?_) fun h => ?_
      · have e : better p r0 x d none u = some u := if_pos h
        rw [e]
        exact st_asg (ev_tup (ea_cons (ev_var rfl) (ea_cons (ev_var rfl) ea_nil)))
      · have e : better p r0 x d none u = none := if_neg (by rw [h]; exact Bool.false_ne_true)
        rw [e]
        exact st_next
    | some v =>
      refine st_if (b := decide (u.1 ∈ cand p.rw p.dp x.p d) && decide (wt r0 x u.1 u.2 < wt r0 x v.1 v.2)) (et_is (et_and (et_test (et1 rfl rfl rfl rfl _ rfl)) fun _ => et_is (et_or (b := false) (et_is (et_test (ev_isN (d := bestD r0 x (some v)) (ev_var rfl))) rfl) fun _ => et_test (ev_cmp (ev_var rfl) (ev_ixT (ev_var rfl) ev_int rfl))) rfl) rfl) (fun h => ?_) fun h => ?_
      · have e : better p r0 x d (some v) u = some u := if_pos h
        rw [e]
        exact st_asg (ev_tup (ea_cons (ev_var rfl) (ea_cons (ev_var rfl) ea_nil)))
      · have e : better p r0 x d (some v) u = some v := if_neg (by rw [h]; exact Bool.false_ne_true)
        rw [e]
        exact st_next
  · rw [foldX_all _ (better p r0 x d) us fun _ _ _ => rfl]
    rfl
  · cases bestOf p r0 x d us with
    | none => exact ev_if (b := true) (et_is (et_test (ev_isN (d := .non) (ev_var rfl))) rfl) (fun _ => ev_non) fun h => nomatch h
    | some u => exact ev_if (b := false) (et_is (et_test (ev_isN (d := bestD r0 x (some u)) (ev_var rfl))) rfl) (fun h => nomatch h) fun _ => ev_ixT (ev_var rfl) ev_int rfl

abbrev N_law_less : List Str := ["_law_units", "_law_unit", "_law_at"]
theorem sc_law_less : FnScope N_law_less ["_law_units", "_law_unit"] (defScope s_law_less) := C8.fnScope_by (by decide +kernel)
def R_law_less (ds : List Dat) (r : Dat) : Prop := ∃ (u : Nat × Int) (us : List (Nat × Int)), WU (u :: us) ∧ us.length ≤ 90 ∧ ds = [.lst ((u :: us).map useD), useD u] ∧ r = .lst (us.map useD)
theorem p_law_less (T : Tx K mg) : Ca pg w K mg base 1 "_law_less" R_law_less := by
  obtain ⟨fd, F⟩ := T.d_law_less
  refine mkC (d := d_law_less) F T.g__law_less (F.bindsN (ps := ["_law_units", "_law_unit"]) fun kV doc pm an cdv ct us h => by
    match us, h with
    | [a, b], _ => rfl) sc_law_less (by
    rintro ds r ⟨u, us, hu, hl, rfl, rfl⟩
    rfl) ?_
  rintro cdv A outer s H E hr ds r ⟨u, us, hu, hl, rfl, rfl⟩
  refine ⟨_, (pss_cons (ps_set (i := 2) sc_law_less.nd rfl (by first | exact Or.inl rfl | exact Or.inr rfl) (pe_bm PySem.F.plainAttrs_list PySem.F.slot_list_index PySem.F.type_list_index (mt_indexD (hu65 hr)) (pv 0) (pa_cons (pv 1) pa_nil)))
      (pss_one (ps_ret (pe_op op_cat (pe_slice (sl_listK (K := K)) (pv 0) po_none (po_some (pv 2))) (pe_slice (sl_listK (K := K)) (pv 0) (po_some (pe_add (pv 2) pe_int)) po_none))))), .inl ?_⟩
  have ok : ∀ v ∈ u :: us, Ok 1 (useD v) := fun v hv => ok_use (Nat.lt_trans (hu v hv).1 (by decide))
  refine st_seq (st_asg (ev_index0 (d := useD u) (ds := us.map useD) (ev_var rfl) (ev_var rfl) ((ok u List.mem_cons_self).shp (by omega)) ((ok_lst (n := 1) fun d hd => ?_).shp (by omega)) (by rw [eqD_use]; simp))) (st_ret ?_)
  · obtain ⟨v, hv, e⟩ := List.mem_map.mp (show d ∈ (u :: us).map useD from hd)
    exact e ▸ ok v hv
  · refine lst_is (evn_cat (ds := []) (es := us.map useD) (evl_is (evn_slL (lo := none) (hi := some ((0 : Nat) : Int)) (ev_var rfl).l eo_none (eo_some (ev_var rfl))).l ?_) (evl_is (evn_slL (lo := some ((1 : Nat) : Int)) (hi := none) (ev_var rfl).l (eo_some (ev_is (ev_add (i := 0) (j := 1) (ev_var rfl) ev_int) rfl)) eo_none).l ?_) ?_).ev rfl
    · rw [cut_to (Nat.zero_le _)]
      rfl
    · unfold Dl.cutD
      rw [HT.sIx_nat, HT.sIx_none, List.map_cons, List.length_cons, Nat.min_eq_left (by omega), List.drop_succ_cons, List.drop_zero, List.take_of_length_le (by omega)]
    · rw [List.length_map]
      show 0 + _ ≤ _
      omega

end
end Gk

set_option maxHeartbeats 4000000
namespace Gk
open PySem PySem.Spec PyProof.Rows L2 Dl Ga
section
variable {pg : Program} {w : World} {K : PySem.W.Frag} {mg : Str → Option Value} {base : Heap}
local macro_rules | `(tactic| trivial) => `(tactic| first
  | with_reducible exact ev_int
  | with_reducible exact ev_str
  | with_reducible exact ev_bl
  | with_reducible exact ev_non
  | ((with_reducible apply ev_var) <;> rfl)
  | ((with_reducible apply evl_var) <;> rfl)
  | with_reducible exact eo_none
  | with_reducible apply eo_some
  | with_reducible apply ev_add
  | with_reducible apply ev_sub
  | with_reducible apply ev_cmp
  | with_reducible apply ev_chain rfl rfl
  | with_reducible apply ev_and
  | with_reducible apply ev_or
  | with_reducible apply ev_not
  | with_reducible apply ev_isN
  | with_reducible apply ev_notN
  | with_reducible apply ea_cons
  | with_reducible exact ea_nil
  | with_reducible apply et_B
  | with_reducible apply et_test
  | with_reducible apply et_not
  | with_reducible apply et_and
  | with_reducible apply et_or
  | with_reducible apply ev_ixT
  | with_reducible apply ev_tup
  | with_reducible apply ev_int1
  | with_reducible apply ev_str1
  | with_reducible apply isi_int_int
  | with_reducible apply isi_int_bool
  | with_reducible apply isi_str_str
  | with_reducible apply isi_tup_tup
  | with_reducible apply isi_lst_lst
  | with_reducible apply isi_dic_dic
  | with_reducible exact et_yes
  | intro _)
theorem gt_unl {ρ : List Sl} {ds : List Dat} {is : List Nat} {g : TGs} {l : Nat} (hg : g = gNm is) (hl : is.length = ds.length) (hn : ds.length = l) : GT (gUnl K l g) ρ (.lst ds) (setz ρ is ds) is := fun B H σ v e r => by
  subst hg hn
  cases r with
  | lst h1 r1 =>
    obtain ⟨us, h2, h3, h4⟩ := gnm_run is _ ds B H σ ρ r1 hl
    exact ⟨us, h2, h3, fun Q q => ⟨_, _, rfl, SqL.of (e _ _ h1), r1.length, h4 Q q⟩⟩
theorem pg_unlK {X : Cx} {es : List Expr} {k : Nat} {t : TGs} {n : Nat} {pos : Pos} (hc : X.calm = true) (h : PGs X es t) (hn : (assignEach es X.env).length = n := by rfl) (hst : (assignEach es X.env).findIdx? (·.1) = none := by rfl) (hK : X.K = K := by rfl) : PG X (.Tuple es k pos) (gUnl K n t) := hK ▸ pg_unl hc h hn hst
def comeD (a : Nat) (e : Int) : Dat := .tup [.str "come", ltD a, .int e]
def askD (w : Nat) (d : Int) : Dat := .tup [.str "ask", ltD w, .int d]
/-- what an event does to the units -/
inductive Did (p : Plan) (r0 : Rul) (us : List (Nat × Int)) : Dat → Dat → List (Nat × Int) → Prop
  | come (a : Nat) (e : Int) : us.length ≤ 90 → Did p r0 us (comeD a e) (.bl true) (us ++ [(a, e)])
  | none (x : Plc) (d : Int) : x ∈ p.pl → WU us → bestOf p r0 x d us = none → Did p r0 us (askD x.w d) .non us
  | some (x : Plc) (d : Int) (u : Nat × Int) (t : List (Nat × Int)) : x ∈ p.pl → WU us → us = u :: t → t.length ≤ 90 → bestOf p r0 x d us = some u → Did p r0 us (askD x.w d) (ltD u.1) t

abbrev N_law_done : List Str := ["_law_plan_here", "_law_rule_here", "_law_units", "_law_event", "_law_unit"]
theorem sc_law_done : FnScope N_law_done ["_law_plan_here", "_law_rule_here", "_law_units", "_law_event"] (defScope s_law_done) := C8.fnScope_by (by decide +kernel)
def R_law_done (ds : List Dat) (r : Dat) : Prop := ∃ (p : Plan) (r0 : Rul) (us us2 : List (Nat × Int)) (ev an : Dat), WPlan p ∧ WO r0.os ∧ Did p r0 us ev an us2 ∧ ds = [planD p, ruleD r0, .lst (us.map useD), ev] ∧ r = .lst [an, .lst (us2.map useD)]
theorem p_law_done (T : Tx K mg) (c_law_place : Ca pg w K mg base 1 "_law_place" R_law_place) (c_law_choice : Ca pg w K mg base 3 "_law_choice" R_law_choice) (c_law_less : Ca pg w K mg base 1 "_law_less" R_law_less) : Ca pg w K mg base 4 "_law_done" R_law_done := by
  obtain ⟨fd, F⟩ := T.d_law_done
  refine mkC (d := d_law_done) F T.g__law_done (F.bindsN (ps := ["_law_plan_here", "_law_rule_here", "_law_units", "_law_event"]) fun kV doc pm an cdv ct us h => by
    match us, h with
    | [a, b, c, d], _ => rfl) sc_law_done (by
    rintro ds r ⟨p, r0, us, us2, ev, an, wp, ho, hd, rfl, rfl⟩
    rfl) ?_
  rintro cdv A outer s H E hr ds r ⟨p, r0, us, us2, ev, an, wp, ho, hd, rfl, rfl⟩
  refine ⟨_, (pss_cons (ps_if (pt_cmpR op_eq (pe_ix (ix_tupK (K := K)) (pv 3) pe_int (fun _ _ => rfl)) pe_str (nomark _)) (pss_one (ps_ret (pe_lst (pa_cons pe_bl (pa_cons (pe_op op_cat (pv 2) (pe_lst (pa_cons (pe_tup (pa_cons (pe_ix (ix_tupK (K := K)) (pv 3) pe_int (fun _ _ => rfl)) (pa_cons (pe_ix (ix_tupK (K := K)) (pv 3) pe_int (fun _ _ => rfl)) pa_nil))) pa_nil))) pa_nil))))) pss_nil)
      (pss_cons (ps_if (pt_cmpR op_eq (pe_ix (ix_tupK (K := K)) (pv 3) pe_int (fun _ _ => rfl)) pe_str (nomark _)) (pss_one ps_never) pss_nil)
      (pss_cons (ps_set (i := 4) sc_law_done.nd rfl (by first | exact Or.inl rfl | exact Or.inr rfl) (C8.pe_c c_law_choice hr (by decide) (by rfl) (pa_cons (pv 0) (pa_cons (pv 1) (pa_cons (C8.pe_c c_law_place hr (by decide) (by rfl) (pa_cons (pv 0) (pa_cons (pe_ix (ix_tupK (K := K)) (pv 3) pe_int (fun _ _ => rfl)) pa_nil))) (pa_cons (pe_ix (ix_tupK (K := K)) (pv 3) pe_int (fun _ _ => rfl)) (pa_cons (pv 2) pa_nil)))))))
      (pss_one (ps_ret (pe_ifExp (pt_cmp (pc_isN (pv 4))) (pe_lst (pa_cons pe_non (pa_cons (pv 2) pa_nil))) (pe_lst (pa_cons (pe_ix (ix_tupK (K := K)) (pv 4) pe_int (fun _ _ => rfl)) (pa_cons (C8.pe_c c_law_less hr (by decide) (by rfl) (pa_cons (pv 2) (pa_cons (pv 4) pa_nil))) pa_nil))))))))), .inl ?_⟩
  cases hd with
  | come a e hl =>
    refine st_seqIf (b := true) (et_is (et_test (ev_eqS (s := "come") (ev_ixT (ev_var rfl) ev_int rfl) ev_str)) rfl) (fun _ => st_seqRt (st_ret (evn_lst (ea_cons ev_bl (ea_cons (lst_is (evn_cat (ds := us.map useD) (es := [useD (a, e)]) (ev_var rfl).l (evn_lst (ea_cons (ev_tup (ea_cons (ev_ixT (ev_var rfl) ev_int rfl) (ea_cons (ev_ixT (ev_var rfl) ev_int rfl) ea_nil))) ea_nil)).l ?_).ev ?_) ea_nil))).ev)) fun h => nomatch h
    · rw [List.length_map]
      show _ + 1 ≤ _
      omega
    · rw [List.map_append]
      rfl
  | none x d hx hu hb =>
    refine st_seqIf (b := false) (et_is (et_test (ev_eqS (s := "ask") (z := "come") (ev_ixT (ev_var rfl) ev_int rfl) ev_str)) (by decide)) (fun h => nomatch h) fun _ => st_seqNext ?_
    refine st_seqIf (b := false) (et_is (et_test (ev_eqS (s := "ask") (z := "order") (ev_ixT (ev_var rfl) ev_int rfl) ev_str)) (by decide)) (fun h => nomatch h) fun _ => st_seqNext ?_
    refine st_seq (st_asg (d := .non) (ev_call (ds := [planD p, ruleD r0, plcD x, .int d, .lst (us.map useD)]) (ea_cons (ev_var rfl) (ea_cons (ev_var rfl) (ea_cons (ev_call (ds := [planD p, ltD x.w]) (ea_cons (ev_var rfl) (ea_cons (ev_ixT (ev_var rfl) ev_int rfl) ea_nil)) ⟨p, x, wp, hx, rfl, rfl⟩) (ea_cons (ev_ixT (ev_var rfl) ev_int rfl) (ea_cons (ev_var rfl) ea_nil))))) ⟨p, r0, x, d, us, wp, ho, wp.ok.wp x hx, hu, rfl, by rw [hb]; rfl⟩)) ?_
    exact st_ret (ev_if (b := true) (et_is (et_test (ev_isN (d := .non) (ev_var rfl))) rfl) (fun _ => (evn_lst (ea_cons ev_non (ea_cons (ev_var rfl) ea_nil))).ev) fun h => nomatch h)
  | some x d u t hx hu he hl hb =>
    subst he
    refine st_seqIf (b := false) (et_is (et_test (ev_eqS (s := "ask") (z := "come") (ev_ixT (ev_var rfl) ev_int rfl) ev_str)) (by decide)) (fun h => nomatch h) fun _ => st_seqNext ?_
    refine st_seqIf (b := false) (et_is (et_test (ev_eqS (s := "ask") (z := "order") (ev_ixT (ev_var rfl) ev_int rfl) ev_str)) (by decide)) (fun h => nomatch h) fun _ => st_seqNext ?_
    refine st_seq (st_asg (d := useD u) (ev_call (ds := [planD p, ruleD r0, plcD x, .int d, .lst ((u :: us2).map useD)]) (ea_cons (ev_var rfl) (ea_cons (ev_var rfl) (ea_cons (ev_call (ds := [planD p, ltD x.w]) (ea_cons (ev_var rfl) (ea_cons (ev_ixT (ev_var rfl) ev_int rfl) ea_nil)) ⟨p, x, wp, hx, rfl, rfl⟩) (ea_cons (ev_ixT (ev_var rfl) ev_int rfl) (ea_cons (ev_var rfl) ea_nil))))) ⟨p, r0, x, d, u :: us2, wp, ho, wp.ok.wp x hx, hu, rfl, by rw [hb]; rfl⟩)) ?_
    exact st_ret (ev_if (b := false) (et_is (et_test (ev_isN (d := useD u) (ev_var rfl))) rfl) (fun h => nomatch h) fun _ => (evn_lst (ea_cons (ev_ixT (ev_var rfl) ev_int rfl) (ea_cons (ev_call (ds := [.lst ((u :: us2).map useD), useD u]) (ea_cons (ev_var rfl) (ea_cons (ev_var rfl) ea_nil)) ⟨u, us2, hu, hl, rfl, rfl⟩) ea_nil))).ev)

/-- the play of faulty events -/
structure Play (p : Plan) (r0 : Rul) (x y : Plc) (a b : Nat) (e d u : Int) : Prop where
  wp : WPlan p
  wo : WO r0.os
  hx : x ∈ p.pl
  hy : y ∈ p.pl
  ha : a < 4
  hb : b < 4
  he : -1 ≤ e ∧ e ≤ 9999
  hd : -1 ≤ d ∧ d ≤ 9999
  c1 : bestOf p r0 x d [(a, e), (b, d)] = some (a, e)
  c2 : bestOf p r0 y u [(b, d)] = none
def playD (x y : Plc) (a b : Nat) (e d u : Int) : List Dat := [comeD a e, comeD b d, askD x.w d, askD y.w u]

abbrev N_law_played : List Str := ["_law_plan_here", "_law_rule_here", "_law_events", "_law_units", "_law_answers", "_law_event", "_law_answer"]
theorem sc_law_played : FnScope N_law_played ["_law_plan_here", "_law_rule_here", "_law_events"] (defScope s_law_played) := C8.fnScope_by (by decide +kernel)
def R_law_played (ds : List Dat) (r : Dat) : Prop := ∃ (p : Plan) (r0 : Rul) (x y : Plc) (a b : Nat) (e d u : Int), Play p r0 x y a b e d u ∧ ds = [planD p, ruleD r0, .lst (playD x y a b e d u)] ∧ r = .lst [.lst [.bl true, .bl true, ltD a, .non], .lst [useD (b, d)]]
theorem p_law_played (T : Tx K mg) (c_law_done : Ca pg w K mg base 4 "_law_done" R_law_done) : Ca pg w K mg base 5 "_law_played" R_law_played := by
  obtain ⟨fd, F⟩ := T.d_law_played
  refine mkC (d := d_law_played) F T.g__law_played (F.bindsN (ps := ["_law_plan_here", "_law_rule_here", "_law_events"]) fun kV doc pm an cdv ct us h => by
    match us, h with
    | [a, b, c], _ => rfl) sc_law_played (by
    rintro ds r ⟨p, r0, x, y, a, b, e, d, u, P, rfl, rfl⟩
    rfl) ?_
  rintro cdv A outer s H E hr ds r ⟨p, r0, x, y, a, b, e, d, u, P, rfl, rfl⟩
  refine ⟨_, (pss_cons (ps_par (i := 3) (j := 4) (by rfl) sc_law_played.nd rfl rfl (by decide) rfl rfl (pa_cons (pe_lst pa_nil) (pa_cons (pe_lst pa_nil) pa_nil)) (by rfl))
      (pss_cons (ps_for PassesOwn.never rfl (pi_listK (K := K) (pv 2)) (pg_name (i := 5) sc_law_played.nd rfl (by first | exact Or.inl rfl | exact Or.inr rfl)) (pss_cons (ps_asg (C8.pe_c c_law_done hr (by decide) (by rfl) (pa_cons (pv 0) (pa_cons (pv 1) (pa_cons (pv 3) (pa_cons (pv 5) pa_nil))))) (pg_unlK (K := K) (n := 2) rfl (pgs_cons (pg_name (i := 6) sc_law_played.nd rfl (by first | exact Or.inl rfl | exact Or.inr rfl)) (pgs_cons (pg_name (i := 3) sc_law_played.nd rfl (by first | exact Or.inl rfl | exact Or.inr rfl)) pgs_nil))))
      (pss_one (ps_expr (pe_bm PySem.F.plainAttrs_list PySem.F.slot_list_append PySem.F.type_list_append mt_append (pv 4) (pa_cons (pv 6) pa_nil))))))
      (pss_one (ps_ret (pe_lst (pa_cons (pv 4) (pa_cons (pv 3) pa_nil))))))), .inl ?_⟩
  have w2 : WU [(a, e), (b, d)] := fun v hv => by
    rcases List.mem_cons.mp hv with z | hv
    · subst z
      exact ⟨P.ha, P.he⟩
    · rw [List.mem_singleton.mp hv]
      exact ⟨P.hb, P.hd⟩
  have w1 : WU [(b, d)] := fun v hv => w2 v (List.mem_cons_of_mem _ hv)
  refine st_seq (st_parO (d := .lst []) (evn_lst ea_nil).ev (evn_lst ea_nil)) ?_
  have key : ∀ i, i < 4 → ∃ ev an, (playD x y a b e d u)[i]? = some ev ∧ Did p r0 ([[], [(a, e)], [(a, e), (b, d)], [(b, d)], [(b, d)]].getD i []) ev an ([[], [(a, e)], [(a, e), (b, d)], [(b, d)], [(b, d)]].getD (i + 1) []) ∧ [Dat.bl true, .bl true, ltD a, .non].take (i + 1) = [Dat.bl true, .bl true, ltD a, .non].take i ++ [an] := fun i hi => by
    match i, hi with
    | 0, _ => exact ⟨_, _, rfl, .come a e (Nat.zero_le _), rfl⟩
    | 1, _ => exact ⟨_, _, rfl, .come (us := [(a, e)]) b d (show 1 ≤ 90 by decide), rfl⟩
    | 2, _ => exact ⟨_, _, rfl, .some x d (a, e) [(b, d)] P.hx w2 rfl (show 1 ≤ 90 by decide) P.c1, rfl⟩
    | 3, _ => exact ⟨_, _, rfl, .none y u P.hy w1 P.c2, rfl⟩
  generalize hU : (fun i => ([[], [(a, e)], [(a, e), (b, d)], [(b, d)], [(b, d)]] : List (List (Nat × Int))).getD i []) = U
  have key2 : ∀ i, i < 4 → ∃ ev an, (playD x y a b e d u)[i]? = some ev ∧ Did p r0 (U i) ev an (U (i + 1)) ∧ [Dat.bl true, .bl true, ltD a, .non].take (i + 1) = [Dat.bl true, .bl true, ltD a, .non].take i ++ [an] := fun i hi => by
    rw [← hU]
    exact key i hi
  have e0 : U 0 = [] := by rw [← hU]; rfl
  have e4 : U 4 = [(b, d)] := by rw [← hU]; rfl
  clear key hU
  refine st_seq (STs.one (out := .nx [.d (planD p), .d (ruleD r0), .d (.lst (playD x y a b e d u)), .d (.lst [useD (b, d)]), .l [.bl true, .bl true, ltD a, .non], .x, .x]) (sts_for (playD x y a b e d u) id (fun i ρ => ρ = [.d (planD p), .d (ruleD r0), .d (.lst (playD x y a b e d u)), .d (.lst ((U i).map useD)), .l ([Dat.bl true, .bl true, ltD a, .non].take i), .x, .x]) _ (by rw [List.map_id]; exact it_list (ev_var rfl)) ⟨_, rfl, by rw [e0]; exact Wk.refl _⟩ (fun i ρ ev hev hρ => ⟨_, _, gt_name, ?_⟩) fun ρ hρ => ?_)) (st_frz (k := 4) rfl (st_ret ?_))
  · subst hρ
    have hi : i < 4 := (List.getElem?_eq_some_iff.mp hev).1
    obtain ⟨ev2, an, h1, h2, h3⟩ := key2 i hi
    rw [h1] at hev
    cases hev
    refine ST.s (out := .nx [.d (planD p), .d (ruleD r0), .d (.lst (playD x y a b e d u)), .d (.lst ((U (i + 1)).map useD)), .l ([Dat.bl true, .bl true, ltD a, .non].take (i + 1)), .d ev, .d an]) (st_seq (st_asgG (d := .lst [an, .lst ((U (i + 1)).map useD)]) (ev_call (ds := [planD p, ruleD r0, .lst ((U i).map useD), ev]) (ea_cons (ev_var rfl) (ea_cons (ev_var rfl) (ea_cons (ev_var rfl) (ea_cons (ev_var rfl) ea_nil)))) ⟨p, r0, U i, U (i + 1), ev, an, P.wp, P.wo, h2, rfl, rfl⟩) (gt_unl (is := [6, 3]) rfl rfl rfl)) (st_out (st_app rfl (ev_var rfl) ?_) ?_)) (.inl ⟨_, _, rfl, .same (.same (.same (.same (.same (.fog (.fog .nil)))))), rfl⟩)
    · rw [List.length_take]
      show min _ 4 ≤ _
      omega
    · rw [h3]
      rfl
  · rw [hρ]
    show _ = Out.nx _
    have e5 : U (playD x y a b e d u).length = [(b, d)] := e4
    rw [e5]
    rfl
  · exact (evn_lst (ea_cons (ev_var rfl) (ea_cons (ev_var rfl) ea_nil))).ev

abbrev N_law_needs_of : List Str := ["_law_plan_here", "_law_event", "_law_found", "_law_place_here"]
theorem sc_law_needs_of : FnScope N_law_needs_of ["_law_plan_here", "_law_event"] (defScope s_law_needs_of) := C8.fnScope_by (by decide +kernel)
def R_law_needs_of (ds : List Dat) (r : Dat) : Prop := ∃ (p : Plan) (x : Plc) (d : Int), WPlan p ∧ x ∈ p.pl ∧ ds = [planD p, askD x.w d] ∧ r = .lst [.tup [ltD x.p, .int d]]
theorem p_law_needs_of (T : Tx K mg) (c_law_place : Ca pg w K mg base 1 "_law_place" R_law_place) : Ca pg w K mg base 2 "_law_needs_of" R_law_needs_of := by
  obtain ⟨fd, F⟩ := T.d_law_needs_of
  refine mkC (d := d_law_needs_of) F T.g__law_needs_of (F.bindsN (ps := ["_law_plan_here", "_law_event"]) fun kV doc pm an cdv ct us h => by
    match us, h with
    | [a, b], _ => rfl) sc_law_needs_of (by
    rintro ds r ⟨p, x, d, wp, hx, rfl, rfl⟩
    rfl) ?_
  rintro cdv A outer s H E hr ds r ⟨p, x, d, wp, hx, rfl, rfl⟩
  refine ⟨_, (pss_cons (ps_if (pt_cmpR op_eq (pe_ix (ix_tupK (K := K)) (pv 1) pe_int (fun _ _ => rfl)) pe_str (nomark _)) (pss_one (ps_ret (pe_lst pa_nil))) pss_nil)
      (pss_cons (ps_if (pt_cmpR op_eq (pe_ix (ix_tupK (K := K)) (pv 1) pe_int (fun _ _ => rfl)) pe_str (nomark _)) (pss_one (ps_ret (pe_lst (pa_cons (pe_tup (pa_cons (pe_ix (ix_tupK (K := K)) (C8.pe_c c_law_place hr (by decide) (by rfl) (pa_cons (pv 0) (pa_cons (pe_ix (ix_tupK (K := K)) (pv 1) pe_int (fun _ _ => rfl)) pa_nil))) pe_int (fun _ _ => rfl)) (pa_cons (pe_ix (ix_tupK (K := K)) (pv 1) pe_int (fun _ _ => rfl)) pa_nil))) pa_nil)))) pss_nil)
      (pss_cons (ps_set (i := 2) sc_law_needs_of.nd rfl (by first | exact Or.inl rfl | exact Or.inr rfl) (pe_lst pa_nil))
      (pss_cons (ps_for PassesOwn.never rfl (pi_listK (K := K) (pe_dget (hu1 hr) (pv 0) pe_str (fun _ _ => rfl))) (pg_name (i := 3) sc_law_needs_of.nd rfl (by first | exact Or.inl rfl | exact Or.inr rfl)) (pss_one (ps_set (i := 2) sc_law_needs_of.nd rfl (by first | exact Or.inl rfl | exact Or.inr rfl) (pe_op op_cat (pv 2) (pe_op op_rep (pe_lst (pa_cons (pe_tup (pa_cons (pe_ix (ix_tupK (K := K)) (pv 3) pe_int (fun _ _ => rfl)) (pa_cons (pe_ix (ix_tupK (K := K)) (pv 1) pe_int (fun _ _ => rfl)) pa_nil))) pa_nil)) (pe_ix (ix_tupK (K := K)) (pv 3) pe_int (fun _ _ => rfl)))))))
      (pss_one (ps_ret (pv 2))))))), .inl ?_⟩
  refine st_seqIf (b := false) (et_is (et_test (ev_eqS (s := "ask") (z := "come") (ev_ixT (ev_var rfl) ev_int rfl) ev_str)) (by decide)) (fun h => nomatch h) fun _ => st_seqNext ?_
  refine st_seqIf (b := true) (et_is (et_test (ev_eqS (s := "ask") (z := "ask") (ev_ixT (ev_var rfl) ev_int rfl) ev_str)) (by decide)) (fun _ => st_seqRt (st_ret (evn_lst (ea_cons (ev_tup (ea_cons (ev_ixT (ev_call (d := plcD x) (ds := [planD p, ltD x.w]) (ea_cons (ev_var rfl) (ea_cons (ev_ixT (ev_var rfl) ev_int rfl) ea_nil)) ⟨p, x, wp, hx, rfl, rfl⟩) ev_int rfl) (ea_cons (ev_ixT (ev_var rfl) ev_int rfl) ea_nil))) ea_nil)).ev)) fun h => nomatch h

/-- what the play means -/
structure PlayF (p : Plan) (x y : Plc) (a b : Nat) (d u : Int) : Prop where
  wp : WPlan p
  hx : x ∈ p.pl
  hy : y ∈ p.pl
  ax : a ∈ cand p.rw p.dp x.p d
  bx : b ∈ cand p.rw p.dp x.p d
  ay : a ∈ cand p.rw p.dp y.p u
  bn : b ∉ cand p.rw p.dp y.p u
/-- who comes, among the first -/
noncomputable def inB (p : Plan) (z : Plc) (v : Int) (a b : Nat) : Nat → Bool
  | 0 => decide (a ∈ cand p.rw p.dp z.p v)
  | 1 => decide (b ∈ cand p.rw p.dp z.p v)
  | _ => false

abbrev N_law_units_for : List Str := ["_law_plan_here", "_law_events", "_law_index", "_law_found", "_law_plain", "_law_day", "_law_fits_here", "_law_at"]
theorem sc_law_units_for : FnScope N_law_units_for ["_law_plan_here", "_law_events", "_law_index"] (defScope s_law_units_for) := C8.fnScope_by (by decide +kernel)
def R_law_units_for (ds : List Dat) (r : Dat) : Prop := ∃ (p : Plan) (x y z : Plc) (a b : Nat) (e d u v : Int) (n : Nat), WPlan p ∧ z ∈ p.pl ∧ (playD x y a b e d u)[n]? = some (askD z.w v) ∧ n ≤ 3 ∧ ds = [planD p, .lst (playD x y a b e d u), .int (n : Nat)] ∧ r = .lst [.lst (((List.range n).filter (inB p z v a b)).map fun i => .int (i : Nat))]
theorem p_law_units_for (T : Tx K mg) (c_law_needs_of : Ca pg w K mg base 2 "_law_needs_of" R_law_needs_of) (c_law_fits : Ca pg w K mg base 2 "_law_fits" R_law_fits) : Ca pg w K mg base 3 "_law_units_for" R_law_units_for := by
  obtain ⟨fd, F⟩ := T.d_law_units_for
  refine mkC (d := d_law_units_for) F T.g__law_units_for (F.bindsN (ps := ["_law_plan_here", "_law_events", "_law_index"]) fun kV doc pm an cdv ct us h => by
    match us, h with
    | [a, b, c], _ => rfl) sc_law_units_for (by
    rintro ds r ⟨p, x, y, z, a, b, e, d, u, v, n, wp, hz, hn, hn3, rfl, rfl⟩
    rfl) ?_
  rintro cdv A outer s H E hr ds r ⟨p, x, y, z, a, b, e, d, u, v, n, wp, hz, hn, hn3, rfl, rfl⟩
  refine ⟨_, (pss_cons (ps_set (i := 3) sc_law_units_for.nd rfl (by first | exact Or.inl rfl | exact Or.inr rfl) (pe_lst pa_nil))
      (pss_cons (ps_for PassesOwn.never rfl (pi_listK (K := K) (C8.pe_c c_law_needs_of hr (by decide) (by rfl) (pa_cons (pv 0) (pa_cons (pe_ix (ix_listK (K := K)) (pv 1) (pv 2) (fun _ _ => rfl)) pa_nil)))) (pg_tupK (K := K) (n := 2) rfl (pgs_cons (pg_name (i := 4) sc_law_units_for.nd rfl (by first | exact Or.inl rfl | exact Or.inr rfl)) (pgs_cons (pg_name (i := 5) sc_law_units_for.nd rfl (by first | exact Or.inl rfl | exact Or.inr rfl)) pgs_nil))) (pss_cons (ps_set (i := 6) sc_law_units_for.nd rfl (by first | exact Or.inl rfl | exact Or.inr rfl) (C8.pe_c c_law_fits hr (by decide) (by rfl) (pa_cons (pv 0) (pa_cons (pv 4) (pa_cons (pv 5) pa_nil)))))
      (pss_one (ps_expr (pe_bm PySem.F.plainAttrs_list PySem.F.slot_list_append PySem.F.type_list_append mt_append (pv 3) (pa_cons (pe_lc rfl sc_law_units_for.nd (pi_range1 (by rfl) T.f_range (pa_cons (pv 2) pa_nil)) (blkOk_by (own := [("_law_at", 7)]) (N := N_law_units_for) (sc := defScope s_law_units_for) (by decide +kernel)) (fun _ _ _ _ _ => (pg_name (i := 7) sc_law_units_for.nd rfl (by first | exact Or.inl rfl | exact Or.inr rfl))) (fun _ _ _ _ _ => (pts_one (PW.pt (pw_and (pt_cmpR op_eq (pe_ix (ix_tupK (K := K)) (pe_ix (ix_listK (K := K)) (pv 1) (pv 7) (fun _ _ => rfl)) pe_int (fun _ _ => rfl)) pe_str (nomark _)) (pw_and1 (pt_cmpR (op_in_seqK (K := K)) (pe_ix (ix_tupK (K := K)) (pe_ix (ix_listK (K := K)) (pv 1) (pv 7) (fun _ _ => rfl)) pe_int (fun _ _ => rfl)) (pv 6) (by rfl))))))) (fun _ _ _ _ _ => (pv 7))) pa_nil))))))
      (pss_one (ps_ret (pv 3))))), .inl ?_⟩
  refine st_seq (st_asgN (evn_lst ea_nil)) ?_
  refine st_seq (STs.one (out := .nx [.d (planD p), .d (.lst (playD x y a b e d u)), .d (.int (n : Nat)), .l [.lst (((List.range n).filter (inB p z v a b)).map fun i => .int (i : Nat))], .x, .x, .x, .x]) (sts_for [()] (fun _ => Dat.tup [ltD z.p, .int v]) (fun i ρ => ρ = [.d (planD p), .d (.lst (playD x y a b e d u)), .d (.int (n : Nat)), .l ([Dat.lst (((List.range n).filter (inB p z v a b)).map fun i => .int (i : Nat))].take i), .x, .x, .x, .x]) _ (it_list (ev_call (ds := [planD p, askD z.w v]) (ea_cons (ev_var rfl) (ea_cons (ev_ixL (ev_var rfl).l (ev_var rfl) (L2.atI_nat hn)) ea_nil)) ⟨p, z, v, wp, hz, rfl, rfl⟩)) ⟨_, rfl, Wk.refl _⟩ (fun i ρ q hq hρ => ⟨_, _, gt_tup (is := [4, 5]) rfl rfl rfl, ?_⟩) fun ρ hρ => by rw [hρ]; rfl)) (st_retL rfl)
  subst hρ
  have hi : i = 0 := by
    have := (List.getElem?_eq_some_iff.mp hq).1
    simp at this
    exact this
  subst hi
  refine ST.s (out := .nx [.d (planD p), .d (.lst (playD x y a b e d u)), .d (.int (n : Nat)), .l [.lst (((List.range n).filter (inB p z v a b)).map fun i => .int (i : Nat))], .d (ltD z.p), .d (.int v), .d (.lst ((cand p.rw p.dp z.p v).map ltD)), .x]) (st_seq (st_asg (d := .lst ((cand p.rw p.dp z.p v).map ltD)) (ev_call (ds := [planD p, ltD z.p, .int v]) (ea_cons (ev_var rfl) (ea_cons (ev_var rfl) (ea_cons (ev_var rfl) ea_nil))) ⟨p, z.p, v, wp, (wp.ok.wp z hz).p, rfl, rfl⟩)) (st_out (st_app rfl (evn_lc (vs := [7]) (List.range n) (fun i => Dat.int (i : Nat)) (inB p z v a b) (fun i => .int (i : Nat)) (it_rng (n := ((n : Nat) : Int)) (ea_cons (ev_var rfl) ea_nil) (by omega)).o (by rw [List.length_range]; omega) fun j hj => ⟨_, _, gt_name, fun i hi => hi, ?_, fun _ => ev_var rfl⟩).ev (Nat.zero_le _)) rfl)) (.inl ⟨_, _, rfl, .same (.same (.same (.same (.fog (.fog (.fog (.fog .nil))))))), rfl⟩)
  have hj := List.mem_range.mp hj
  match j, hj with
  | 0, _ => exact et_is (et_and (et_is (et_test (ev_eqS (s := "come") (ev_ixT (ev_ixL (d := comeD a e) (ev_var rfl).l (ev_var rfl) (L2.atI_nat rfl)) ev_int rfl) ev_str)) rfl) fun _ => et_is (et_test (ev_inSL (xs := (cand p.rw p.dp z.p v).map Ga.P) (s := Ga.P a) (ev_ixT (ev_ixL (d := comeD a e) (ev_var rfl).l (ev_var rfl) (L2.atI_nat rfl)) ev_int rfl) (evl_is (ev_var rfl).l (map_str _)))) (decide_eq_decide.mpr P_mem)) rfl
  | 1, _ => exact et_is (et_and (et_is (et_test (ev_eqS (s := "come") (ev_ixT (ev_ixL (d := comeD b d) (ev_var rfl).l (ev_var rfl) (L2.atI_nat rfl)) ev_int rfl) ev_str)) rfl) fun _ => et_is (et_test (ev_inSL (xs := (cand p.rw p.dp z.p v).map Ga.P) (s := Ga.P b) (ev_ixT (ev_ixL (d := comeD b d) (ev_var rfl).l (ev_var rfl) (L2.atI_nat rfl)) ev_int rfl) (evl_is (ev_var rfl).l (map_str _)))) (decide_eq_decide.mpr P_mem)) rfl
  | 2, _ => exact et_is (et_and (b := false) (c := false) (et_is (et_test (ev_eqS (s := "ask") (z := "come") (ev_ixT (ev_ixL (d := askD x.w d) (ev_var rfl).l (ev_var rfl) (L2.atI_nat (by rfl))) ev_int rfl) ev_str)) (by decide)) fun h => nomatch h) rfl
  | k + 3, h => omega

end
end Gk

set_option maxHeartbeats 4000000
namespace Gk
open PySem PySem.Spec PyProof.Rows L2 Dl Ga
section
variable {pg : Program} {w : World} {K : PySem.W.Frag} {mg : Str → Option Value} {base : Heap}
local macro_rules | `(tactic| trivial) => `(tactic| first
  | with_reducible exact ev_int
  | with_reducible exact ev_str
  | with_reducible exact ev_bl
  | with_reducible exact ev_non
  | ((with_reducible apply ev_var) <;> rfl)
  | ((with_reducible apply evl_var) <;> rfl)
  | with_reducible exact eo_none
  | with_reducible apply eo_some
  | with_reducible apply ev_add
  | with_reducible apply ev_sub
  | with_reducible apply ev_cmp
  | with_reducible apply ev_chain rfl rfl
  | with_reducible apply ev_and
  | with_reducible apply ev_or
  | with_reducible apply ev_not
  | with_reducible apply ev_isN
  | with_reducible apply ev_notN
  | with_reducible apply ea_cons
  | with_reducible exact ea_nil
  | with_reducible apply et_B
  | with_reducible apply et_test
  | with_reducible apply et_not
  | with_reducible apply et_and
  | with_reducible apply et_or
  | with_reducible apply ev_ixT
  | with_reducible apply ev_tup
  | with_reducible apply ev_int1
  | with_reducible apply ev_str1
  | with_reducible apply isi_int_int
  | with_reducible apply isi_int_bool
  | with_reducible apply isi_str_str
  | with_reducible apply isi_tup_tup
  | with_reducible apply isi_lst_lst
  | with_reducible apply isi_dic_dic
  | with_reducible exact et_yes
  | intro _)
theorem spW_len {P : List Dat → List (Key × Dat) → Int → List Dat → List (Key × Dat) → List Dat → Prop} (vs : List V) (H : Hp) (Q : VK) (E : XK) (s : spW P vs H Q E) : vs.length = 4 := by
  obtain ⟨B, H0, v0, ph, i, ps, ks, ws, nd, kds, ds, kds', ds', e, _⟩ := s
  rw [e]
  rfl
theorem fnW {d : He.DefD} {N ps : List Str} {k : Nat} {P : List Dat → List (Key × Dat) → Int → List Dat → List (Key × Dat) → List Dat → Prop} {f : Addr} {fd : FuncData} (F : FunD K d.name d.qual d.params d.body d.scope [] [] f fd) (S : FnScope N ps d.scope) (hN : N.length = 5) (hp : ps.length = 4)
    (body : ∀ (cdv : Value) (A : Around) (outer : List Env) (s : Shared) (H : Hp) (E : XK), Room k (A.deeper (envOfC d.qual d.scope s.heap.objs.size f cdv)) → ∀ nd kds i ds kds' ds', P nd kds i ds kds' ds' →
      ∃ t, PSs (cxOf C8.CX0 pg w K mg base N d.qual d.scope f cdv A outer s H E).nox d.body t ∧ SX t [.d (.lst nd), .k kds, .d (.int i), .l ds, .x] [.d (.lst nd), .k kds', .d (.int i), .l ds', .x]) : FnOk pg w K mg base C8.CX0 (k + 1) f fd ps (spW P) :=
  F.ok S (fun vs H Q E s => (spW_len vs H Q E s).trans hp.symm) fun cdv A outer s H vs Q E hr hs => by
    obtain ⟨B, H0, v0, ph, i, ps, ks, ws, nd, kds, ds, kds', ds', rfl, eH, h1, h2, hne, e, r0, rk, rw0, hP, q⟩ := hs
    obtain ⟨t, p1, p2⟩ := body cdv A outer s H E hr nd kds i ds kds' ds' hP
    refine ⟨t, p1.nox, ?_⟩
    rw [eH]
    refine p2 B B H0 B _ _ _ (start_seW hN h1 h2 hne e r0 rk rw0) fun B2 H2 σ2 e2 S2 => ?_
    have es : L2.start N [v0, .ref ph, .int i, .ref ps] = ([some v0, some (V.ref ph), some (V.int i), some (V.ref ps), none] : List (Option V)) := by
      unfold L2.start
      simp [hN]
    have s1 : σ2[1]? = some (some (V.ref ph)) := by rw [e2 1 (by decide), es]; rfl
    have s3 : σ2[3]? = some (some (V.ref ps)) := by rw [e2 3 (by decide), es]; rfl
    obtain ⟨ov, a1, p, ks2, e4, a2, a3, a4⟩ := S2.r.at_ 1 (.k kds') rfl
    rw [s1] at a1
    cases a1
    cases e4
    obtain ⟨ov, b1, p', ws2, e5, b2, b3, b4⟩ := S2.r.at_ 3 (.l ds') rfl
    rw [s3] at b1
    cases b1
    cases e5
    exact q B2 H2 ks2 ws2 S2.g a2 b2 a3 a4 b3 b4
theorem sx_wk {t : TS} {ρ ρ1 ρ2 : List Sl} (h : SX t ρ ρ1) (w : Wk ρ1 ρ2) : SX t ρ ρ2 := fun Bm B0 H0 B H σ D S P => h Bm B0 H0 B H σ D S fun B2 H2 σ2 e S2 => P B2 H2 σ2 e (S2.wk w)
theorem ev_niIL {ρ : List Sl} {ta tb : TE} {i : Int} {xs : List Int} (ha : EV ta ρ (.int i)) (hb : EVL tb ρ (xs.map .int)) : EV (tOp (rIn K true) ta tb) ρ (.bl (!decide (i ∈ xs))) := fun B H σ S Q q =>
  ha B H σ S _ fun v B1 H1 g1 r1 => hb B1 H1 σ (S.mono g1) _ fun p vs B2 H2 g2 a2 r2 => by
    cases r1
    have e := r2.ints
    subst e
    refine ⟨p, _, rfl, .inl (SqL.of a2), rfl, flat_ints xs, ?_⟩
    show Q (.bl (!inV (.int i) (xs.map V.int))) H2
    rw [inV_ints]
    exact q _ B2 H2 (g1.trans g2) (.bl _)
theorem st_parOK {ρ : List Sl} {ta tb : TE} {d : Dat} {kds : List (Key × Dat)} {k m : Nat} (h1 : EV ta ρ d) (h2 : EVK tb ρ kds) : ST (tPar k m (tCons ta (tCons tb tNil))) ρ (.nx ((ρ.set k (.d d)).set m (.k kds))) := fun Bm B0 H0 B H σ D S P =>
  h1 B H σ S.r _ fun v B1 H1 g1 r1 => h2 B1 H1 σ (S.r.mono g1) _ fun p vs B2 H2 g2 hp n a2 r2 =>
    ⟨_, _, rfl, P B2 H2 _ (own_new (k := m) (s := Sl.k kds) ((S.mono g1).set (i := k) r1) g2 hp (show SlOk B2 H2 (some (.ref p)) (.k kds) from ⟨p, vs, rfl, n, a2, r2⟩))⟩
def ND : List Dat := [.lst [.int 0, .int 1], .lst [.int 0]]
inductive Way0 : List Dat → List (Key × Dat) → Int → List Dat → List (Key × Dat) → List Dat → Prop
  | a : Way0 ND [] 0 [] [(.inl 0, .int 0)] [.int 0]
  | b : Way0 ND [(.inl 0, .int 0)] 0 [.int 0] [(.inl 0, .int 0), (.inl 1, .int 0)] [.int 0, .int 1]
inductive Way : List Dat → List (Key × Dat) → Int → List Dat → List (Key × Dat) → List Dat → Prop
  | a : Way ND [] 0 [] [(.inl 0, .int 0)] [.int 0]
  | c : Way ND [(.inl 0, .int 0)] 1 [] [(.inl 0, .int 1), (.inl 1, .int 0)] [.int 0, .int 1]
abbrev spNo : Sp := fun _ _ _ _ => False

abbrev N_law_way_on : List Str := ["_law_needs", "_law_holders", "_law_at", "_law_seen", "_law_unit"]
theorem sc_law_way_on : FnScope N_law_way_on ["_law_needs", "_law_holders", "_law_at", "_law_seen"] (defScope s_law_way_on) := C8.fnScope_by (by decide +kernel)
theorem p_law_way_onN (T : Tx K mg) : C8.Cal pg w K mg base 1 "_law_way_on" spNo [] := by
  obtain ⟨fd, F⟩ := T.d_law_way_on
  exact ⟨_, fd, _, [], F.ok (k := 0) sc_law_way_on (fun vs H Q E s => s.elim) fun cdv A outer s H vs Q E hr hs => hs.elim, T.g__law_way_on, F.kp, (F.bindsN (ps := ["_law_needs", "_law_holders", "_law_at", "_law_seen"]) fun kV doc pm an cdv ct us h => by
    match us, h with
    | [a, b, c, d], _ => rfl), .nil⟩
theorem p_law_way_on0 (T : Tx K mg) : C8.Cal pg w K mg base 2 "_law_way_on" (spW Way0) [] := by
  have c_law_way_on : C8.Cal pg w K mg base 1 "_law_way_on" spNo [] := p_law_way_onN T
  obtain ⟨fd, F⟩ := T.d_law_way_on
  refine ⟨_, fd, _, [], fnW (d := d_law_way_on) F sc_law_way_on rfl rfl ?_, T.g__law_way_on, F.kp, (F.bindsN (ps := ["_law_needs", "_law_holders", "_law_at", "_law_seen"]) fun kV doc pm an cdv ct us h => by
    match us, h with
    | [a, b, c, d], _ => rfl), .nil⟩
  rintro cdv A outer s H E hr nd kds i ds kds' ds' hP
  refine ⟨_, (pss_cons (ps_for PassesOwn.never rfl (pi_listK (K := K) (pe_ix (ix_listK (K := K)) (pv 0) (pv 2) (fun _ _ => rfl))) (pg_name (i := 4) sc_law_way_on.nd rfl (by first | exact Or.inl rfl | exact Or.inr rfl)) (pss_one (ps_if (pt_cmpR (op_notIn_seqK (K := K)) (pv 4) (pv 3) (by rfl)) (pss_cons (ps_expr (pe_bm PySem.F.plainAttrs_list PySem.F.slot_list_append PySem.F.type_list_append mt_append (pv 3) (pa_cons (pv 4) pa_nil)))
      (pss_one (ps_if (PW.pt (pw_or (pt_cmp (pc_dnotin (hu1 hr) (pv 4) (pv 1))) (pw_or1 (pt_val (C8.pe_c c_law_way_on hr (by decide) (by rfl) (pa_cons (pv 0) (pa_cons (pv 1) (pa_cons (pe_dget (hu1 hr) (pv 1) (pv 4) (fun _ _ => rfl)) (pa_cons (pv 3) pa_nil))))))))) (pss_cons (ps_dput (hu1 hr) (pv 1) (pv 4) (pv 2) rfl)
      (pss_one (ps_ret pe_bl))) pss_nil))) pss_nil)))
      (pss_one (ps_ret pe_bl))), ?_⟩
  cases hP with
  | a =>
    refine sx_wk ?_ (.same (.same (.same (.same (.fog (a := .d (.int 0)) .nil)))))
    refine sx_for (n := 0) (x := .int 0) (xs := [.int 0, .int 1]) rfl (it_list (ev_ixL (ev_var rfl).l (ev_var rfl) rfl)) (fun y => .same (.same (.same (.same (.fog .nil))))) (fun i y hi _ => absurd hi (Nat.not_lt_zero _)) ?_
    exact sx_if (et_is (et_test (ev_niIL (i := 0) (xs := []) (ev_var rfl) (evl_var rfl))) (by decide)) (sx_seq (sk_app rfl (ev_var rfl) (by decide)) (sx_if (et_is (et_or (b := true) (c := true) (et_is (et_B (ev_kni (x := .inl 0) rfl (ev_var rfl))) rfl) fun h => nomatch h) rfl) (sx_seq (sk_dput (x := .inl 0) rfl (ev_var rfl) (ev_var rfl) (by decide)) sx_ret)))
  | b =>
    refine sx_wk ?_ (.same (.same (.same (.same (.fog (a := .d (.int 1)) .nil)))))
    refine sx_for (n := 1) (x := .int 1) (xs := [.int 0, .int 1]) rfl (it_list (ev_ixL (ev_var rfl).l (ev_var rfl) rfl)) (fun y => .same (.same (.same (.same (.fog .nil))))) (fun i y hi hy => ?_) ?_
    · have e : i = 0 := by omega
      subst e
      cases hy
      exact sk_if (et_is (et_test (ev_niIL (i := 0) (xs := [0]) (ev_var rfl) (evl_var rfl))) (by decide)) sk_next
    · exact sx_if (et_is (et_test (ev_niIL (i := 1) (xs := [0]) (ev_var rfl) (evl_var rfl))) (by decide)) (sx_seq (sk_app rfl (ev_var rfl) (by decide)) (sx_if (et_is (et_or (b := true) (c := true) (et_is (et_B (ev_kni (x := .inl 1) rfl (ev_var rfl))) (by decide)) fun h => nomatch h) rfl) (sx_seq (sk_dput (x := .inl 1) rfl (ev_var rfl) (ev_var rfl) (by decide)) sx_ret)))
theorem p_law_way_on (T : Tx K mg) : C8.Cal pg w K mg base 3 "_law_way_on" (spW Way) [] := by
  have c0 : C8.Cal pg w K mg base 2 "_law_way_on" (spW Way0) [] := p_law_way_on0 T
  have cN : C8.Cal pg w K mg base 1 "_law_way_on" spNo [] := p_law_way_onN T
  obtain ⟨fd, F⟩ := T.d_law_way_on
  refine ⟨_, fd, _, [], fnW (d := d_law_way_on) F sc_law_way_on rfl rfl ?_, T.g__law_way_on, F.kp, (F.bindsN (ps := ["_law_needs", "_law_holders", "_law_at", "_law_seen"]) fun kV doc pm an cdv ct us h => by
    match us, h with
    | [a, b, c, d], _ => rfl), .nil⟩
  rintro cdv A outer s H E hr nd kds i ds kds' ds' hP
  cases hP with
  | a =>
    refine ⟨_, (pss_cons (ps_for PassesOwn.never rfl (pi_listK (K := K) (pe_ix (ix_listK (K := K)) (pv 0) (pv 2) (fun _ _ => rfl))) (pg_name (i := 4) sc_law_way_on.nd rfl (by first | exact Or.inl rfl | exact Or.inr rfl)) (pss_one (ps_if (pt_cmpR (op_notIn_seqK (K := K)) (pv 4) (pv 3) (by rfl)) (pss_cons (ps_expr (pe_bm PySem.F.plainAttrs_list PySem.F.slot_list_append PySem.F.type_list_append mt_append (pv 3) (pa_cons (pv 4) pa_nil)))
      (pss_one (ps_if (PW.pt (pw_or (pt_cmp (pc_dnotin (hu1 hr) (pv 4) (pv 1))) (pw_or1 (pt_val (C8.pe_c cN hr (by decide) (by rfl) (pa_cons (pv 0) (pa_cons (pv 1) (pa_cons (pe_dget (hu1 hr) (pv 1) (pv 4) (fun _ _ => rfl)) (pa_cons (pv 3) pa_nil))))))))) (pss_cons (ps_dput (hu1 hr) (pv 1) (pv 4) (pv 2) rfl)
      (pss_one (ps_ret pe_bl))) pss_nil))) pss_nil)))
      (pss_one (ps_ret pe_bl))), ?_⟩
    refine sx_wk ?_ (.same (.same (.same (.same (.fog (a := .d (.int 0)) .nil)))))
    refine sx_for (n := 0) (x := .int 0) (xs := [.int 0, .int 1]) rfl (it_list (ev_ixL (ev_var rfl).l (ev_var rfl) rfl)) (fun y => .same (.same (.same (.same (.fog .nil))))) (fun i y hi _ => absurd hi (Nat.not_lt_zero _)) ?_
    exact sx_if (et_is (et_test (ev_niIL (i := 0) (xs := []) (ev_var rfl) (evl_var rfl))) (by decide)) (sx_seq (sk_app rfl (ev_var rfl) (by decide)) (sx_if (et_is (et_or (b := true) (c := true) (et_is (et_B (ev_kni (x := .inl 0) rfl (ev_var rfl))) rfl) fun h => nomatch h) rfl) (sx_seq (sk_dput (x := .inl 0) rfl (ev_var rfl) (ev_var rfl) (by decide)) sx_ret)))
  | c =>
    refine ⟨_, (pss_cons (ps_for PassesOwn.never rfl (pi_listK (K := K) (pe_ix (ix_listK (K := K)) (pv 0) (pv 2) (fun _ _ => rfl))) (pg_name (i := 4) sc_law_way_on.nd rfl (by first | exact Or.inl rfl | exact Or.inr rfl)) (pss_one (ps_if (pt_cmpR (op_notIn_seqK (K := K)) (pv 4) (pv 3) (by rfl)) (pss_cons (ps_expr (pe_bm PySem.F.plainAttrs_list PySem.F.slot_list_append PySem.F.type_list_append mt_append (pv 3) (pa_cons (pv 4) pa_nil)))
      (pss_one (ps_if (PW.pt (pw_or (pt_cmp (pc_dnotin (hu1 hr) (pv 4) (pv 1))) (pw_or1 (pt_val (C8.pe_c c0 hr (by decide) (by rfl) (pa_cons (pv 0) (pa_cons (pv 1) (pa_cons (pe_dget (hu1 hr) (pv 1) (pv 4) (fun _ _ => rfl)) (pa_cons (pv 3) pa_nil))))))))) (pss_cons (ps_dput (hu1 hr) (pv 1) (pv 4) (pv 2) rfl)
      (pss_one (ps_ret pe_bl))) pss_nil))) pss_nil)))
      (pss_one (ps_ret pe_bl))), ?_⟩
    refine sx_wk ?_ (.same (.same (.same (.same (.fog (a := .d (.int 0)) .nil)))))
    refine sx_for (n := 0) (x := .int 0) (xs := [.int 0]) rfl (it_list (ev_ixL (ev_var rfl).l (ev_var rfl) rfl)) (fun y => .same (.same (.same (.same (.fog .nil))))) (fun i y hi _ => absurd hi (Nat.not_lt_zero _)) ?_
    exact sx_if (et_is (et_test (ev_niIL (i := 0) (xs := []) (ev_var rfl) (evl_var rfl))) (by decide)) (sx_seq (sk_app rfl (ev_var rfl) (by decide)) (sx_ifx (etx_or (et_is (et_B (ev_kni (x := .inl 0) rfl (ev_var rfl))) (by decide)) (etx_way (k := 1) (m := 3) rfl rfl (by decide) (ev_var rfl) (ev_kget (x := .inl 0) rfl (ev_var rfl) rfl) Way0.b)) (sx_seq (sk_dput (x := .inl 0) rfl (ev_var rfl) (ev_var rfl) (by decide)) sx_ret)))

abbrev N_law_all_served : List Str := ["_law_plan_here", "_law_events", "_law_served", "_law_needs", "_law_holders", "_law_index", "_law_at"]
theorem sc_law_all_served : FnScope N_law_all_served ["_law_plan_here", "_law_events", "_law_served"] (defScope s_law_all_served) := C8.fnScope_by (by decide +kernel)
def R_law_all_served (ds : List Dat) (r : Dat) : Prop := ∃ (p : Plan) (x y : Plc) (a b : Nat) (e d u : Int), PlayF p x y a b d u ∧ ds = [planD p, .lst (playD x y a b e d u), .lst [.int 2, .int 3]] ∧ r = .bl true
theorem p_law_all_served (T : Tx K mg) (c_law_units_for : Ca pg w K mg base 3 "_law_units_for" R_law_units_for) (c_law_way_on : C8.Cal pg w K mg base 3 "_law_way_on" (spW Way) []) : Ca pg w K mg base 4 "_law_all_served" R_law_all_served := by
  obtain ⟨fd, F⟩ := T.d_law_all_served
  refine mkC (d := d_law_all_served) F T.g__law_all_served (F.bindsN (ps := ["_law_plan_here", "_law_events", "_law_served"]) fun kV doc pm an cdv ct us h => by
    match us, h with
    | [a, b, c], _ => rfl) sc_law_all_served (by
    rintro ds r ⟨p, x, y, a, b, e, d, u, P, rfl, rfl⟩
    rfl) ?_
  rintro cdv A outer s H E hr ds r ⟨p, x, y, a, b, e, d, u, P, rfl, rfl⟩
  refine ⟨_, (pss_cons (ps_par (i := 3) (j := 4) (by rfl) sc_law_all_served.nd rfl rfl (by decide) rfl rfl (pa_cons (pe_lst pa_nil) (pa_cons pe_dnewK pa_nil)) (by rfl))
      (pss_cons (ps_for PassesOwn.never rfl (pi_listK (K := K) (pv 2)) (pg_name (i := 5) sc_law_all_served.nd rfl (by first | exact Or.inl rfl | exact Or.inr rfl)) (pss_one (ps_set (i := 3) sc_law_all_served.nd rfl (by first | exact Or.inl rfl | exact Or.inr rfl) (pe_op op_cat (pv 3) (C8.pe_c c_law_units_for hr (by decide) (by rfl) (pa_cons (pv 0) (pa_cons (pv 1) (pa_cons (pv 5) pa_nil))))))))
      (pss_cons (ps_for PassesOwn.never rfl (pi_range1 (by rfl) T.f_range (pa_cons (pe_callB (call_lenK (K := K)) (by rfl) T.f_len PySem.boot_len (pa_cons (pv 3) pa_nil)) pa_nil)) (pg_name (i := 6) sc_law_all_served.nd rfl (by first | exact Or.inl rfl | exact Or.inr rfl)) (pss_one (ps_if (pt_not (pt_val (C8.pe_c c_law_way_on hr (by decide) (by rfl) (pa_cons (pv 3) (pa_cons (pv 4) (pa_cons (pv 6) (pa_cons (pe_lst pa_nil) pa_nil))))))) (pss_one (ps_ret pe_bl)) pss_nil)))
      (pss_one (ps_ret pe_bl))))), .inl ?_⟩
  have key : ∀ i, i < 2 → ∃ (j : Nat) (z : Plc) (v : Int), [Dat.int 2, .int 3][i]? = some (.int (j : Nat)) ∧ z ∈ p.pl ∧ (playD x y a b e d u)[j]? = some (askD z.w v) ∧ j ≤ 3 ∧ ND.take (i + 1) = ND.take i ++ [.lst (((List.range j).filter (inB p z v a b)).map fun i => .int (i : Nat))] := fun i hi => by
    match i, hi with
    | 0, _ =>
      refine ⟨2, x, d, rfl, P.hx, rfl, by decide, ?_⟩
      have e0 : inB p x d a b 0 = true := decide_eq_true P.ax
      have e1 : inB p x d a b 1 = true := decide_eq_true P.bx
      have er : (List.range 2).filter (inB p x d a b) = [0, 1] := by
        show [0, 1].filter (inB p x d a b) = _
        simp [List.filter, e0, e1]
      rw [er]
      rfl
    | 1, _ =>
      refine ⟨3, y, u, rfl, P.hy, rfl, by decide, ?_⟩
      have e0 : inB p y u a b 0 = true := decide_eq_true P.ay
      have e1 : inB p y u a b 1 = false := decide_eq_false P.bn
      have e2 : inB p y u a b 2 = false := rfl
      have er : (List.range 3).filter (inB p y u a b) = [0] := by
        show [0, 1, 2].filter (inB p y u a b) = _
        simp [List.filter, e0, e1, e2]
      rw [er]
      rfl
  refine st_seq (st_parOK (d := .lst []) (evn_lst ea_nil).ev evk_new) ?_
  refine st_seq (STs.one (out := .nx [.d (planD p), .d (.lst (playD x y a b e d u)), .d (.lst [.int 2, .int 3]), .d (.lst ND), .k [], .x, .x]) (sts_for [Dat.int 2, .int 3] id (fun i ρ => ρ = [.d (planD p), .d (.lst (playD x y a b e d u)), .d (.lst [.int 2, .int 3]), .d (.lst (ND.take i)), .k [], .x, .x]) _ (it_list (ev_var rfl)) ⟨_, rfl, Wk.refl _⟩ (fun i ρ q hq hρ => ⟨_, _, gt_name, ?_⟩) fun ρ hρ => by rw [hρ]; rfl)) ?_
  · subst hρ
    have hi : i < 2 := (List.getElem?_eq_some_iff.mp hq).1
    obtain ⟨j, z, v, h1, h2, h3, h4, h5⟩ := key i hi
    rw [h1] at hq
    cases hq
    refine ST.s (out := .nx [.d (planD p), .d (.lst (playD x y a b e d u)), .d (.lst [.int 2, .int 3]), .d (.lst (ND.take (i + 1))), .k [], .d (.int (j : Nat)), .x]) (st_out (st_asg (evn_cat (ev_var rfl).l (ev_call (ds := [planD p, .lst (playD x y a b e d u), .int (j : Nat)]) (ea_cons (ev_var rfl) (ea_cons (ev_var rfl) (ea_cons (ev_var rfl) ea_nil))) ⟨p, x, y, z, a, b, e, d, u, v, j, P.wp, h2, h3, h4, rfl, rfl⟩).l ?_).ev) (by rw [← h5]; rfl)) (.inl ⟨_, _, rfl, .same (.same (.same (.same (.same (.fog (.same .nil)))))), rfl⟩)
    rw [List.length_take]
    show min i 2 + 1 ≤ _
    omega
  · have key2 : ∀ i, i < 2 → ∃ k1 k2 ds', Way ND k1 (i : Nat) [] k2 ds' ∧ k1 = [[], [((.inl 0 : Key), Dat.int 0)], [(.inl 0, .int 1), (.inl 1, .int 0)]].getD i [] ∧ k2 = [[], [((.inl 0 : Key), Dat.int 0)], [(.inl 0, .int 1), (.inl 1, .int 0)]].getD (i + 1) [] := fun i hi => by
      match i, hi with
      | 0, _ => exact ⟨_, _, _, .a, rfl, rfl⟩
      | 1, _ => exact ⟨_, _, _, .c, rfl, rfl⟩
    refine st_seq (STs.one (out := .nx [.d (planD p), .d (.lst (playD x y a b e d u)), .d (.lst [.int 2, .int 3]), .d (.lst ND), .k [(.inl 0, .int 1), (.inl 1, .int 0)], .x, .x]) (sts_for (List.range 2) (fun i => Dat.int (i : Nat)) (fun i ρ => ρ = [.d (planD p), .d (.lst (playD x y a b e d u)), .d (.lst [.int 2, .int 3]), .d (.lst ND), .k ([[], [((.inl 0 : Key), Dat.int 0)], [(.inl 0, .int 1), (.inl 1, .int 0)]].getD i []), .x, .x]) _ (it_rng (n := 2) (ea_cons (ev_is (ev_lenL (ds := ND) (ev_var rfl).l) rfl) ea_nil) (by decide)) ⟨_, rfl, Wk.refl _⟩ (fun i ρ q hq hρ => ⟨_, _, gt_name, ?_⟩) fun ρ hρ => by rw [hρ]; rfl)) (st_ret ev_bl)
    subst hρ
    have hi : i < 2 := by
      have := (List.getElem?_eq_some_iff.mp hq).1
      simpa using this
    have hq2 : i = q := by
      rw [List.getElem?_range hi] at hq
      exact Option.some.inj hq
    subst hq2
    obtain ⟨k1, k2, ds', w1, w2, w3⟩ := key2 i hi
    rw [← w2, ← w3]
    exact ST.s (out := .nx [.d (planD p), .d (.lst (playD x y a b e d u)), .d (.lst [.int 2, .int 3]), .d (.lst ND), .k k2, .x, .d (.int (i : Nat))]) (st_ifx (b := !true) (etx_not (etx_way0 (k := 4) rfl (ev_var rfl) (ev_var rfl) w1)) (fun h => nomatch h) fun _ => st_next) (.inl ⟨_, _, rfl, .same (.same (.same (.same (.same (.same (.fog .nil)))))), rfl⟩)

abbrev N_law_first_wrong : List Str := ["_law_plan_here", "_law_events", "_law_answers", "_law_taken", "_law_index", "_law_event"]
theorem sc_law_first_wrong : FnScope N_law_first_wrong ["_law_plan_here", "_law_events", "_law_answers"] (defScope s_law_first_wrong) := C8.fnScope_by (by decide +kernel)
def R_law_first_wrong (ds : List Dat) (r : Dat) : Prop := ∃ (p : Plan) (x y : Plc) (a b : Nat) (e d u : Int), PlayF p x y a b d u ∧ ds = [planD p, .lst (playD x y a b e d u), .lst [.bl true, .bl true, ltD a, .non]] ∧ r = .int 3
theorem p_law_first_wrong (T : Tx K mg) (c_law_all_served : Ca pg w K mg base 4 "_law_all_served" R_law_all_served) : Ca pg w K mg base 5 "_law_first_wrong" R_law_first_wrong := by
  obtain ⟨fd, F⟩ := T.d_law_first_wrong
  refine mkC (d := d_law_first_wrong) F T.g__law_first_wrong (F.bindsN (ps := ["_law_plan_here", "_law_events", "_law_answers"]) fun kV doc pm an cdv ct us h => by
    match us, h with
    | [a, b, c], _ => rfl) sc_law_first_wrong (by
    rintro ds r ⟨p, x, y, a, b, e, d, u, P, rfl, rfl⟩
    rfl) ?_
  rintro cdv A outer s H E hr ds r ⟨p, x, y, a, b, e, d, u, P, rfl, rfl⟩
  refine ⟨_, (pss_cons (ps_set (i := 3) sc_law_first_wrong.nd rfl (by first | exact Or.inl rfl | exact Or.inr rfl) (pe_lst pa_nil))
      (pss_cons (ps_for PassesOwn.never rfl (pi_enum (by rfl) T.f_enumerate (pa_cons (pv 1) pa_nil)) (pg_tupK (K := K) (n := 2) rfl (pgs_cons (pg_name (i := 4) sc_law_first_wrong.nd rfl (by first | exact Or.inl rfl | exact Or.inr rfl)) (pgs_cons (pg_name (i := 5) sc_law_first_wrong.nd rfl (by first | exact Or.inl rfl | exact Or.inr rfl)) pgs_nil))) (pss_one (ps_if (PW.pt (pw_and (pt_cmpR op_ne (pe_ix (ix_tupK (K := K)) (pv 5) pe_int (fun _ _ => rfl)) pe_str (nomark _)) (pw_and1 (pt_cmp (pc_notN (pe_ix (ix_listK (K := K)) (pv 2) (pv 4) (fun _ _ => rfl))))))) (pss_one (ps_expr (pe_bm PySem.F.plainAttrs_list PySem.F.slot_list_append PySem.F.type_list_append mt_append (pv 3) (pa_cons (pv 4) pa_nil)))) (pss_one (ps_if (PW.pt (pw_and (pt_cmpR op_ne (pe_ix (ix_tupK (K := K)) (pv 5) pe_int (fun _ _ => rfl)) pe_str (nomark _)) (pw_and1 (pt_val (C8.pe_c c_law_all_served hr (by decide) (by rfl) (pa_cons (pv 0) (pa_cons (pv 1) (pa_cons (pe_op op_cat (pv 3) (pe_lst (pa_cons (pv 4) pa_nil))) pa_nil)))))))) (pss_one (ps_ret (pv 4))) pss_nil)))))
      (pss_one (ps_ret pe_non)))), .inl ?_⟩
  refine st_seq (st_asgN (evn_lst ea_nil)) ?_
  refine st_seqRt (STs.one (out := .rt (.int 3)) (sts_for (enumD (playD x y a b e d u)) id (fun i ρ => i < 4 ∧ ρ = [.d (planD p), .d (.lst (playD x y a b e d u)), .d (.lst [.bl true, .bl true, ltD a, .non]), .l (if i ≤ 2 then [] else [.int 2]), .x, .x]) _ (by rw [List.map_id]; exact it_enum (ea_cons (ev_var rfl) ea_nil)) ⟨_, ⟨by decide, rfl⟩, Wk.refl _⟩ (fun i ρ q hq hρ => ?_) fun ρ hρ => absurd hρ.1 (by show ¬ 4 < 4; decide)))
  obtain ⟨hi, hρ⟩ := hρ
  subst hρ
  have hq2 : ∀ ev, (playD x y a b e d u)[i]? = some ev → q = .tup [.int (i : Nat), ev] := fun ev h => by
    have := enumD_get h
    rw [this] at hq
    exact (Option.some.inj hq).symm
  match i, hi with
  | 0, _ =>
    rw [hq2 _ rfl]
    refine ⟨_, _, gt_tup (is := [4, 5]) rfl rfl rfl, ?_⟩
    refine ST.s (out := .nx [.d (planD p), .d (.lst (playD x y a b e d u)), .d (.lst [.bl true, .bl true, ltD a, .non]), .l [], .d (.int 0), .d (comeD a e)]) (st_if (b := false) (et_is (et_and (b := false) (c := false) (et_is (et_test (ev_neS (s := "come") (z := "come") (ev_ixT (ev_var rfl) ev_int rfl) ev_str)) (by decide)) fun h => nomatch h) rfl) (fun h => nomatch h) fun _ => st_if (b := false) (et_is (et_and (b := false) (c := false) (et_is (et_test (ev_neS (s := "come") (z := "come") (ev_ixT (ev_var rfl) ev_int rfl) ev_str)) (by decide)) fun h => nomatch h) rfl) (fun h => nomatch h) fun _ => st_next) (.inl ⟨_, _, rfl, .same (.same (.same (.same (.fog (.fog .nil))))), by decide, rfl⟩)
  | 1, _ =>
    rw [hq2 _ rfl]
    refine ⟨_, _, gt_tup (is := [4, 5]) rfl rfl rfl, ?_⟩
    refine ST.s (out := .nx [.d (planD p), .d (.lst (playD x y a b e d u)), .d (.lst [.bl true, .bl true, ltD a, .non]), .l [], .d (.int 1), .d (comeD b d)]) (st_if (b := false) (et_is (et_and (b := false) (c := false) (et_is (et_test (ev_neS (s := "come") (z := "come") (ev_ixT (ev_var rfl) ev_int rfl) ev_str)) (by decide)) fun h => nomatch h) rfl) (fun h => nomatch h) fun _ => st_if (b := false) (et_is (et_and (b := false) (c := false) (et_is (et_test (ev_neS (s := "come") (z := "come") (ev_ixT (ev_var rfl) ev_int rfl) ev_str)) (by decide)) fun h => nomatch h) rfl) (fun h => nomatch h) fun _ => st_next) (.inl ⟨_, _, rfl, .same (.same (.same (.same (.fog (.fog .nil))))), by decide, rfl⟩)
  | 2, _ =>
    rw [hq2 _ rfl]
    refine ⟨_, _, gt_tup (is := [4, 5]) rfl rfl rfl, ?_⟩
    exact ST.s (out := .nx [.d (planD p), .d (.lst (playD x y a b e d u)), .d (.lst [.bl true, .bl true, ltD a, .non]), .l [.int 2], .d (.int 2), .d (askD x.w d)]) (st_if (b := true) (et_is (et_and (b := true) (c := true) (et_is (et_test (ev_neS (s := "ask") (z := "come") (ev_ixT (ev_var rfl) ev_int rfl) ev_str)) (by decide)) fun _ => et_is (et_B (ev_notN (d := ltD a) (ev_ixL (ev_var rfl).l (ev_var rfl) rfl))) rfl) rfl) (fun _ => st_app (ds := []) rfl (ev_var rfl) (Nat.zero_le _)) fun h => nomatch h) (.inl ⟨_, _, rfl, .same (.same (.same (.same (.fog (.fog .nil))))), by decide, rfl⟩)
  | 3, _ =>
    rw [hq2 _ rfl]
    refine ⟨_, _, gt_tup (is := [4, 5]) rfl rfl rfl, ?_⟩
    refine ST.s (out := .rt (.int 3)) (st_if (b := false) (et_is (et_and (b := true) (c := false) (et_is (et_test (ev_neS (s := "ask") (z := "come") (ev_ixT (ev_var rfl) ev_int rfl) ev_str)) (by decide)) fun _ => et_is (et_B (ev_notN (d := .non) (ev_ixL (ev_var rfl).l (ev_var rfl) rfl))) rfl) rfl) (fun h => nomatch h) fun _ => st_if (b := true) (et_is (et_and (b := true) (c := true) (et_is (et_test (ev_neS (s := "ask") (z := "come") (ev_ixT (ev_var rfl) ev_int rfl) ev_str)) (by decide)) fun _ => et_B (ev_call (ds := [planD p, .lst (playD x y a b e d u), .lst [.int 2, .int 3]]) (ea_cons (ev_var rfl) (ea_cons (ev_var rfl) (ea_cons (evn_cat (ds := [.int 2]) (es := [.int 3]) (evl_var rfl) (evn_lst (ea_cons (ev_var rfl) ea_nil)).l (by decide)).ev ea_nil))) ⟨p, x, y, a, b, e, d, u, P, rfl, rfl⟩)) rfl) (fun _ => st_ret (ev_var rfl)) fun h => nomatch h) (.inr ⟨_, rfl, rfl⟩)
  | n + 4, h => omega

end
end Gk

set_option maxHeartbeats 4000000
namespace Gk
open PySem PySem.Spec PyProof.Rows L2 Dl Ga
section
variable {pg : Program} {w : World} {K : PySem.W.Frag} {mg : Str → Option Value} {base : Heap}
local macro_rules | `(tactic| trivial) => `(tactic| first
  | with_reducible exact ev_int
  | with_reducible exact ev_str
  | with_reducible exact ev_bl
  | with_reducible exact ev_non
  | ((with_reducible apply ev_var) <;> rfl)
  | ((with_reducible apply evl_var) <;> rfl)
  | with_reducible exact eo_none
  | with_reducible apply eo_some
  | with_reducible apply ev_add
  | with_reducible apply ev_sub
  | with_reducible apply ev_cmp
  | with_reducible apply ev_chain rfl rfl
  | with_reducible apply ev_and
  | with_reducible apply ev_or
  | with_reducible apply ev_not
  | with_reducible apply ev_isN
  | with_reducible apply ev_notN
  | with_reducible apply ea_cons
  | with_reducible exact ea_nil
  | with_reducible apply et_B
  | with_reducible apply et_test
  | with_reducible apply et_not
  | with_reducible apply et_and
  | with_reducible apply et_or
  | with_reducible apply ev_ixT
  | with_reducible apply ev_tup
  | with_reducible apply ev_int1
  | with_reducible apply ev_str1
  | with_reducible apply isi_int_int
  | with_reducible apply isi_int_bool
  | with_reducible apply isi_str_str
  | with_reducible apply isi_tup_tup
  | with_reducible apply isi_lst_lst
  | with_reducible apply isi_dic_dic
  | with_reducible exact et_yes
  | intro _)
theorem turns_few {rs : List Ga.Row} (h : ∀ q ∈ rs, WR q) : (turns rs).length ≤ 7 := by
  have r := fun x hx => turns_rng (d := x) h hx
  have lt := turns_lt rs
  generalize turns rs = l at r lt
  have : (l.map Int.toNat).length ≤ 7 := len_le (List.pairwise_map.mpr (lt.imp_of_mem fun {x y} hx hy hxy e => by
    have := r x hx
    have := r y hy
    omega)) fun n hn => by
    obtain ⟨x, hx, e⟩ := List.mem_map.mp hn
    have := r x hx
    omega
  rwa [List.length_map] at this
theorem froms_lt (rs : List Ga.Row) (d : Int) : (froms rs d).Pairwise (· < ·) := by
  unfold froms
  rw [List.pairwise_cons]
  exact ⟨fun x hx => by simpa using (List.mem_filter.mp hx).2, (turns_lt rs).filter _⟩

abbrev N_law_uses : List Str := ["_law_plan_here", "_law_part", "_law_day", "_law_found", "_law_later", "_law_one", "_law_place_here"]
theorem sc_law_uses : FnScope N_law_uses ["_law_plan_here", "_law_part", "_law_day"] (defScope s_law_uses) := C8.fnScope_by (by decide +kernel)
def R_law_uses (ds : List Dat) (r : Dat) : Prop := ∃ (p : Plan) (q : Nat) (d : Int), WPlan p ∧ q < 4 ∧ ds = [planD p, ltD q, .int d] ∧ r = .lst ((uses p.pl p.rw p.dp q d).map useD)
theorem p_law_uses (T : Tx K mg) (c_law_turns : Ca pg w K mg base 1 "_law_turns" R_law_turns) (c_law_fits : Ca pg w K mg base 2 "_law_fits" R_law_fits) : Ca pg w K mg base 3 "_law_uses" R_law_uses := by
  obtain ⟨fd, F⟩ := T.d_law_uses
  refine mkC (d := d_law_uses) F T.g__law_uses (F.bindsN (ps := ["_law_plan_here", "_law_part", "_law_day"]) fun kV doc pm an cdv ct us h => by
    match us, h with
    | [a, b, c], _ => rfl) sc_law_uses (by
    rintro ds r ⟨p, q, d, wp, hq, rfl, rfl⟩
    rfl) ?_
  rintro cdv A outer s H E hr ds r ⟨p, q, d, wp, hq, rfl, rfl⟩
  refine ⟨_, (pss_cons (ps_set (i := 3) sc_law_uses.nd rfl (by first | exact Or.inl rfl | exact Or.inr rfl) (pe_lst pa_nil))
      (pss_cons (ps_for PassesOwn.never rfl (pi_listK (K := K) (pe_callB (cr_sortedSet rfl) (by rfl) T.f_sorted bo_sorted (pa_cons (pe_callTy (Ts.cr_setL rfl) (by rfl) T.f_set bo_set (pa_cons (pe_op op_cat (pe_lst (pa_cons (pv 2) pa_nil)) (pe_lc rfl sc_law_uses.nd (pi_listK (K := K) (C8.pe_c c_law_turns hr (by decide) (by rfl) (pa_cons (pv 0) pa_nil))) (blkOk_by (own := [("_law_one", 5)]) (N := N_law_uses) (sc := defScope s_law_uses) (by decide +kernel)) (fun _ _ _ _ _ => (pg_name (i := 5) sc_law_uses.nd rfl (by first | exact Or.inl rfl | exact Or.inr rfl))) (fun _ _ _ _ _ => (pts_one (pt_cmp (pc_gt (pv 5) (pv 2))))) (fun _ _ _ _ _ => (pv 5)))) pa_nil)) pa_nil))) (pg_name (i := 4) sc_law_uses.nd rfl (by first | exact Or.inl rfl | exact Or.inr rfl)) (pss_one (ps_for PassesOwn.never rfl (pi_listK (K := K) (pe_dget (hu1 hr) (pv 0) pe_str (fun _ _ => rfl))) (pg_name (i := 6) sc_law_uses.nd rfl (by first | exact Or.inl rfl | exact Or.inr rfl)) (pss_one (ps_if (pt_cmpR (op_in_seqK (K := K)) (pv 1) (C8.pe_c c_law_fits hr (by decide) (by rfl) (pa_cons (pv 0) (pa_cons (pe_ix (ix_tupK (K := K)) (pv 6) pe_int (fun _ _ => rfl)) (pa_cons (pv 4) pa_nil)))) (by rfl)) (pss_one (ps_expr (pe_bm PySem.F.plainAttrs_list PySem.F.slot_list_append PySem.F.type_list_append mt_append (pv 3) (pa_cons (pe_tup (pa_cons (pe_ix (ix_tupK (K := K)) (pv 6) pe_int (fun _ _ => rfl)) (pa_cons (pv 4) pa_nil))) pa_nil)))) pss_nil)))))
      (pss_one (ps_ret (pv 3))))), .inl ?_⟩
  have tl := turns_few wp.ok.wr
  have fl0 := List.length_filter_le (fun x => decide (x > d)) (turns p.rw)
  have fl : (froms p.rw d).length ≤ 8 := by
    unfold froms
    rw [List.length_cons]
    omega
  have pl3 := wp.ok.ln
  refine st_seq (st_asgN (evn_lst ea_nil)) ?_
  refine st_seq (STs.one (out := .nx [.d (planD p), .d (ltD q), .d (.int d), .l ((uses p.pl p.rw p.dp q d).map useD), .x, .x, .x]) (sts_for (froms p.rw d) Dat.int (fun i ρ => ρ = [.d (planD p), .d (ltD q), .d (.int d), .l ((((froms p.rw d).take i).flatMap fun x => usesAt p.pl p.rw p.dp q x).map useD), .x, .x, .x]) _ (it_list (evn_sortSetI (ns := froms p.rw d) (evl_is (evn_cat (ds := [.int d]) (es := ((turns p.rw).filter fun x => decide (x > d)).map .int) (evn_lst (ea_cons (ev_var rfl) ea_nil)).l (evn_lc (vs := [5]) (turns p.rw) Dat.int (fun x => decide (x > d)) Dat.int (it_list (ev_call (ds := [planD p]) (ea_cons (ev_var rfl) ea_nil) ⟨p, wp, rfl, rfl⟩)).o (by omega) fun x hx => ⟨_, _, gt_name, fun i hi => hi, et_B (ev_cmp (ev_var rfl) (ev_var rfl)), fun _ => ev_var rfl⟩).l ?_).l rfl) (by omega) fun zs h1 h2 => incr_int h1 (froms_lt _ _) h2).ev) ⟨_, rfl, Wk.refl _⟩ (fun i ρ x hx hρ => ⟨_, _, gt_name, ?_⟩) fun ρ hρ => ?_)) (st_retL rfl)
  · rw [List.length_map]
    show 1 + _ ≤ _
    omega
  · subst hρ
    have hlt : i < (froms p.rw d).length := (List.getElem?_eq_some_iff.mp hx).1
    have etake : ((froms p.rw d).take (i + 1)).flatMap (fun x => usesAt p.pl p.rw p.dp q x) = ((froms p.rw d).take i).flatMap (fun x => usesAt p.pl p.rw p.dp q x) ++ usesAt p.pl p.rw p.dp q x := by
      have e2 : (froms p.rw d)[i] = x := by
        rw [List.getElem?_eq_getElem hlt] at hx
        exact Option.some.inj hx
      rw [List.take_succ_eq_append_getElem hlt, List.flatMap_append, e2]
      simp
    have ul := uses_len (n := 3) p.rw p.dp q pl3 ((froms p.rw d).take i)
    rw [List.length_take] at ul
    have ul2 : (((froms p.rw d).take i).flatMap fun x => usesAt p.pl p.rw p.dp q x).length ≤ 200 := by omega
    rw [etake]
    generalize ((froms p.rw d).take i).flatMap (fun x => usesAt p.pl p.rw p.dp q x) = U at ul2 ⊢
    refine STs.mono (O1 := (· = .nx [.d (planD p), .d (ltD q), .d (.int d), .l ((U ++ usesAt p.pl p.rw p.dp q x).map useD), .d (.int x), .x, .x])) (sts_for p.pl plcD (fun j ρ => ρ = [.d (planD p), .d (ltD q), .d (.int d), .l ((U ++ usesAt (p.pl.take j) p.rw p.dp q x).map useD), .d (.int x), .x, .x]) _ (it_list (ev_plan_pl (ev_var rfl))) ⟨_, rfl, ?_⟩ (fun j ρ y hy hρ => ⟨_, _, gt_name, ?_⟩) fun ρ hρ => ?_) fun o ho => ?_
    · have e0 : usesAt (p.pl.take 0) p.rw p.dp q x = [] := rfl
      rw [e0, List.append_nil]
      exact Wk.refl _
    · subst hρ
      have hlj : j < p.pl.length := (List.getElem?_eq_some_iff.mp hy).1
      have hym := List.mem_of_getElem? hy
      have ey : p.pl[j] = y := by
        rw [List.getElem?_eq_getElem hlj] at hy
        exact Option.some.inj hy
      have hul := usesAt_len (p.pl.take j) p.rw p.dp q x
      rw [List.length_take] at hul
      have es : usesAt (p.pl.take (j + 1)) p.rw p.dp q x = usesAt (p.pl.take j) p.rw p.dp q x ++ if q ∈ cand p.rw p.dp y.p x then [(y.w, x)] else [] := by
        unfold usesAt
        rw [List.take_succ_eq_append_getElem hlj, ey, List.filter_append, List.map_append]
        congr 1
        by_cases h : q ∈ cand p.rw p.dp y.p x <;> simp [h]
      refine ST.s (out := .nx [.d (planD p), .d (ltD q), .d (.int d), .l ((U ++ usesAt (p.pl.take (j + 1)) p.rw p.dp q x).map useD), .d (.int x), .x, .d (plcD y)]) ?_ (.inl ⟨_, _, rfl, .same (.same (.same (.same (.same (.same (.fog .nil)))))), rfl⟩)
      refine st_if (b := decide (Ga.P q ∈ (cand p.rw p.dp y.p x).map Ga.P)) (et_test (ev_inSL (xs := (cand p.rw p.dp y.p x).map Ga.P) (ev_var rfl) (evl_is (ev_call (d := .lst ((cand p.rw p.dp y.p x).map ltD)) (ds := [planD p, ltD y.p, .int x]) (ea_cons (ev_var rfl) (ea_cons (ev_ixT (ev_var rfl) ev_int rfl) (ea_cons (ev_var rfl) ea_nil))) ⟨p, y.p, x, wp, (wp.ok.wp y hym).p, rfl, rfl⟩).l (map_str _)))) (fun h => ?_) fun h => ?_
      · have hm : q ∈ cand p.rw p.dp y.p x := P_mem.mp (of_decide_eq_true h)
        rw [es, if_pos hm]
        refine st_out (st_app rfl (ev_tup (ea_cons (ev_ixT (ev_var rfl) ev_int rfl) (ea_cons (ev_var rfl) ea_nil))) ?_) ?_
        · rw [List.length_map, List.length_append]
          omega
        · have em : (U ++ usesAt (p.pl.take j) p.rw p.dp q x ++ [(y.w, x)]).map useD = (U ++ usesAt (p.pl.take j) p.rw p.dp q x).map useD ++ [useD (y.w, x)] := by
            rw [List.map_append]
            rfl
          rw [← List.append_assoc, em]
          rfl
      · have hm : q ∉ cand p.rw p.dp y.p x := fun z => by
          rw [decide_eq_true (P_mem.mpr z)] at h
          cases h
        rw [es, if_neg hm, List.append_nil]
        exact st_next
    · rw [hρ, List.take_length]
    · subst ho
      exact .inl ⟨_, _, rfl, .same (.same (.same (.same (.fog (.same (.same .nil)))))), rfl⟩
  · rw [hρ, List.take_length]
    rfl

abbrev N_law_spare : List Str := ["_law_plan_here", "_law_one", "_law_other", "_law_day", "_law_known", "_law_use"]
theorem sc_law_spare : FnScope N_law_spare ["_law_plan_here", "_law_one", "_law_other", "_law_day"] (defScope s_law_spare) := C8.fnScope_by (by decide +kernel)
def R_law_spare (ds : List Dat) (r : Dat) : Prop := ∃ (p : Plan) (a b : Nat) (d : Int), WPlan p ∧ a < 4 ∧ b < 4 ∧ ds = [planD p, ltD a, ltD b, .int d] ∧ r = .lst ((spare p.pl p.rw p.dp a b d).map useD)
theorem p_law_spare (T : Tx K mg) (c_law_uses : Ca pg w K mg base 3 "_law_uses" R_law_uses) : Ca pg w K mg base 4 "_law_spare" R_law_spare := by
  obtain ⟨fd, F⟩ := T.d_law_spare
  refine mkC (d := d_law_spare) F T.g__law_spare (F.bindsN (ps := ["_law_plan_here", "_law_one", "_law_other", "_law_day"]) fun kV doc pm an cdv ct us h => by
    match us, h with
    | [a, b, c, d], _ => rfl) sc_law_spare (by
    rintro ds r ⟨p, a, b, d, wp, ha, hb, rfl, rfl⟩
    rfl) ?_
  rintro cdv A outer s H E hr ds r ⟨p, a, b, d, wp, ha, hb, rfl, rfl⟩
  refine ⟨_, (pss_cons (ps_set (i := 4) sc_law_spare.nd rfl (by first | exact Or.inl rfl | exact Or.inr rfl) (C8.pe_c c_law_uses hr (by decide) (by rfl) (pa_cons (pv 0) (pa_cons (pv 2) (pa_cons (pv 3) pa_nil)))))
      (pss_one (ps_ret (pe_lc rfl sc_law_spare.nd (pi_listK (K := K) (C8.pe_c c_law_uses hr (by decide) (by rfl) (pa_cons (pv 0) (pa_cons (pv 1) (pa_cons (pv 3) pa_nil))))) (blkOk_by (own := [("_law_use", 5)]) (N := N_law_spare) (sc := defScope s_law_spare) (by decide +kernel)) (fun _ _ _ _ _ => (pg_name (i := 5) sc_law_spare.nd rfl (by first | exact Or.inl rfl | exact Or.inr rfl))) (fun _ _ _ _ _ => (pts_one (pt_cmpR (op_notInDK (K := K) (hu65 hr)) (pv 5) (pv 4) (by rfl)))) (fun _ _ _ _ _ => (pv 5)))))), .inl ?_⟩
  have w26 : ∀ m, ∀ u ∈ uses p.pl p.rw p.dp m d, u.1 < 26 := fun m u hu => by
    obtain ⟨_, y, hy, e, _⟩ := mem_uses.mp hu
    exact e ▸ (wp.ok.wp y hy).w
  have tl := turns_few wp.ok.wr
  have fl0 := List.length_filter_le (fun x => decide (x > d)) (turns p.rw)
  have ul := uses_len (n := 3) p.rw p.dp a wp.ok.ln (froms p.rw d)
  have ul2 : (uses p.pl p.rw p.dp a d).length ≤ 24 := by
    have fl : (froms p.rw d).length ≤ 8 := by
      unfold froms
      rw [List.length_cons]
      omega
    exact Nat.le_trans ul (by omega)
  refine st_seq (st_asg (ev_call (d := .lst ((uses p.pl p.rw p.dp b d).map useD)) (ds := [planD p, ltD b, .int d]) (ea_cons (ev_var rfl) (ea_cons (ev_var rfl) (ea_cons (ev_var rfl) ea_nil))) ⟨p, b, d, wp, hb, rfl, rfl⟩)) (st_ret (lst_is (evn_lc (vs := [5]) (uses p.pl p.rw p.dp a d) useD (fun u => !((uses p.pl p.rw p.dp b d).map useD).any fun z => eqD z (useD u)) useD (it_list (ev_call (ds := [planD p, ltD a, .int d]) (ea_cons (ev_var rfl) (ea_cons (ev_var rfl) (ea_cons (ev_var rfl) ea_nil))) ⟨p, a, d, wp, ha, rfl, rfl⟩)).o (by omega) fun u hu => ⟨_, _, gt_name, fun i hi => hi, et_test (ev_niD (ev_var rfl) (ev_var rfl).l ((ok_use (w26 a u hu)).shp (by omega)) ((ok_lst (n := 1) ?_).shp (by omega))), fun _ => ev_var rfl⟩).ev ?_))
  · intro x hx
    obtain ⟨z, hz, e⟩ := List.mem_map.mp hx
    subst e
    exact ok_use (w26 b z hz)
  · unfold spare
    simp only [any_use]

abbrev N_law_may_prefer : List Str := ["_law_plan_here", "_law_rule_here", "_law_place_here", "_law_one", "_law_other", "_law_day", "_law_fits_here"]
theorem sc_law_may_prefer : FnScope N_law_may_prefer ["_law_plan_here", "_law_rule_here", "_law_place_here", "_law_one", "_law_other", "_law_day"] (defScope s_law_may_prefer) := C8.fnScope_by (by decide +kernel)
def R_law_may_prefer (ds : List Dat) (r : Dat) : Prop := ∃ (p : Plan) (r0 : Rul) (x : Plc) (a b : Nat) (d : Int), WPlan p ∧ WO r0.os ∧ WP x ∧ a < 4 ∧ b < 4 ∧ ds = [planD p, ruleD r0, plcD x, ltD a, ltD b, .int d] ∧ r = .bl (mayPref p.rw p.dp r0 x a b d)
theorem p_law_may_prefer (T : Tx K mg) (c_law_fits : Ca pg w K mg base 2 "_law_fits" R_law_fits) (c_law_weight : Ca pg w K mg base 2 "_law_weight" R_law_weight) : Ca pg w K mg base 3 "_law_may_prefer" R_law_may_prefer := by
  obtain ⟨fd, F⟩ := T.d_law_may_prefer
  refine mkC (d := d_law_may_prefer) F T.g__law_may_prefer (F.bindsN (ps := ["_law_plan_here", "_law_rule_here", "_law_place_here", "_law_one", "_law_other", "_law_day"]) fun kV doc pm an cdv ct us h => by
    match us, h with
    | [a, b, c, d, e, f], _ => rfl) sc_law_may_prefer (by
    rintro ds r ⟨p, r0, x, a, b, d, wp, ho, hx, ha, hb, rfl, rfl⟩
    rfl) ?_
  rintro cdv A outer s H E hr ds r ⟨p, r0, x, a, b, d, wp, ho, hx, ha, hb, rfl, rfl⟩
  refine ⟨_, (pss_cons (ps_set (i := 6) sc_law_may_prefer.nd rfl (by first | exact Or.inl rfl | exact Or.inr rfl) (C8.pe_c c_law_fits hr (by decide) (by rfl) (pa_cons (pv 0) (pa_cons (pe_ix (ix_tupK (K := K)) (pv 2) pe_int (fun _ _ => rfl)) (pa_cons (pv 5) pa_nil)))))
      (pss_cons (ps_if (PW.pt (pw_or (pt_cmpR op_eq (pv 3) (pv 4) (nomark _)) (pw_or (pt_cmpR (op_notIn_seqK (K := K)) (pv 3) (pv 6) (by rfl)) (pw_or1 (pt_cmpR (op_notIn_seqK (K := K)) (pv 4) (pv 6) (by rfl)))))) (pss_one (ps_ret pe_bl)) pss_nil)
      (pss_cons (ps_if (PW.pt (pw_and (pt_cmpR op_eq (pe_dget (hu1 hr) (pv 1) pe_str (fun _ _ => rfl)) pe_str (nomark _)) (pw_and1 (pt_cmp (pc_gt (pv 5) pe_int))))) (pss_one (ps_ret pe_bl)) pss_nil)
      (pss_one (ps_ret (pe_cmp (pc_lt (C8.pe_c c_law_weight hr (by decide) (by rfl) (pa_cons (pv 1) (pa_cons (pv 2) (pa_cons (pe_tup (pa_cons (pv 3) (pa_cons pe_int pa_nil))) pa_nil)))) (C8.pe_c c_law_weight hr (by decide) (by rfl) (pa_cons (pv 1) (pa_cons (pv 2) (pa_cons (pe_tup (pa_cons (pv 4) (pa_cons pe_int pa_nil))) pa_nil))))))))))), .inl ?_⟩
  refine st_seq (st_asg (ev_call (d := .lst ((cand p.rw p.dp x.p d).map ltD)) (ds := [planD p, ltD x.p, .int d]) (ea_cons (ev_var rfl) (ea_cons (ev_ixT (ev_var rfl) ev_int rfl) (ea_cons (ev_var rfl) ea_nil))) ⟨p, x.p, d, wp, hx.p, rfl, rfl⟩)) ?_
  have nm : ∀ c, (!decide (Ga.P c ∈ (cand p.rw p.dp x.p d).map Ga.P)) = !decide (c ∈ cand p.rw p.dp x.p d) := fun c => by rw [decide_eq_decide.mpr P_mem]
  refine st_seqIf (b := decide (a = b) || (!decide (a ∈ cand p.rw p.dp x.p d) || !decide (b ∈ cand p.rw p.dp x.p d))) (et_or (et_is (et_test (ev_eqS (ev_var rfl) (ev_var rfl))) (decide_eq_decide.mpr ⟨P_inj, fun e => by rw [e]⟩)) fun _ => et_or (et_is (et_test (ev_niSL (xs := (cand p.rw p.dp x.p d).map Ga.P) (ev_var rfl) (evl_is (ev_var rfl).l (map_str _)))) (nm a)) fun _ => et_is (et_test (ev_niSL (xs := (cand p.rw p.dp x.p d).map Ga.P) (ev_var rfl) (evl_is (ev_var rfl).l (map_str _)))) (nm b)) (fun h => ?_) fun h => st_seqNext ?_
  · have e : mayPref p.rw p.dp r0 x a b d = false := if_pos (by simpa using h)
    rw [e]
    exact st_seqRt (st_ret ev_bl)
  · have e : mayPref p.rw p.dp r0 x a b d = if r0.kd = .eldest ∧ d > 0 then true else pref r0 x a 0 b 0 := if_neg (fun z => by
      have : (decide (a = b) || (!decide (a ∈ cand p.rw p.dp x.p d) || !decide (b ∈ cand p.rw p.dp x.p d))) = true := by simpa using z
      rw [this] at h
      cases h)
    rw [e]
    refine st_seqIf (b := decide (r0.kd = .eldest) && decide (d > 0)) (et_and (et_is (et_test (ev_eqS (ev_rule_kd (ev_var rfl)) ev_str)) (kE _)) fun _ => et_B (ev_cmp (ev_var rfl) ev_int)) (fun h => ?_) fun h => st_seqNext ?_
    · rw [if_pos (by simpa using h)]
      exact st_seqRt (st_ret ev_bl)
    · rw [if_neg (by simpa using h)]
      exact st_ret (ev_cmp (ev_call (d := .int (wt r0 x a 0)) (ds := [ruleD r0, plcD x, .tup [ltD a, .int 0]]) (ea_cons (ev_var rfl) (ea_cons (ev_var rfl) (ea_cons (ev_tup (ea_cons (ev_var rfl) (ea_cons ev_int ea_nil))) ea_nil))) ⟨r0, x, a, 0, ho, hx, ha, by decide, rfl, rfl⟩) (ev_call (d := .int (wt r0 x b 0)) (ds := [ruleD r0, plcD x, .tup [ltD b, .int 0]]) (ea_cons (ev_var rfl) (ea_cons (ev_var rfl) (ea_cons (ev_tup (ea_cons (ev_var rfl) (ea_cons ev_int ea_nil))) ea_nil))) ⟨r0, x, b, 0, ho, hx, hb, by decide, rfl, rfl⟩))

abbrev N_law_days : List Str := ["_law_plan_here"]
theorem sc_law_days : FnScope N_law_days ["_law_plan_here"] (defScope s_law_days) := C8.fnScope_by (by decide +kernel)
def R_law_days (ds : List Dat) (r : Dat) : Prop := ∃ (p : Plan), WPlan p ∧ ds = [planD p] ∧ r = .lst ((days p.rw).map .int)
theorem p_law_days (T : Tx K mg) (c_law_turns : Ca pg w K mg base 1 "_law_turns" R_law_turns) : Ca pg w K mg base 2 "_law_days" R_law_days := by
  obtain ⟨fd, F⟩ := T.d_law_days
  refine mkC (d := d_law_days) F T.g__law_days (F.bindsN (ps := ["_law_plan_here"]) fun kV doc pm an cdv ct us h => by
    match us, h with
    | [a], _ => rfl) sc_law_days (by
    rintro ds r ⟨p, wp, rfl, rfl⟩
    rfl) ?_
  rintro cdv A outer s H E hr ds r ⟨p, wp, rfl, rfl⟩
  refine ⟨_, (pss_one (ps_ret (pe_callB (cr_sortedSet rfl) (by rfl) T.f_sorted bo_sorted (pa_cons (pe_callTy (Ts.cr_setL rfl) (by rfl) T.f_set bo_set (pa_cons (pe_op op_cat (C8.pe_c c_law_turns hr (by decide) (by rfl) (pa_cons (pv 0) pa_nil)) (pe_lst (pa_cons pe_int pa_nil))) pa_nil)) pa_nil)))), .inl ?_⟩
  have tl := turns_few wp.ok.wr
  refine st_ret (evn_sortSetI (ns := turns p.rw ++ [1]) (evl_is (evn_cat (ds := (turns p.rw).map .int) (es := [.int 1]) (ev_call (ds := [planD p]) (ea_cons (ev_var rfl) ea_nil) ⟨p, wp, rfl, rfl⟩).l (evn_lst (ea_cons ev_int ea_nil)).l ?_).l ?_) ?_ fun zs h1 h2 => incr_int h1 (ascI_lt _) fun k => ?_).ev
  · rw [List.length_map]
    show _ + 1 ≤ _
    omega
  · rw [List.map_append]
    rfl
  · rw [List.length_append]
    show _ + 1 < _
    omega
  · rw [h2]
    show _ ↔ k ∈ days p.rw
    rw [mem_days wp.ok.wr]
    simp

def anyF (b : Bool) : Option Dat := if b = true then some (.bl true) else none
theorem find_any {α : Type} (c : α → Bool) : ∀ l : List α, (l.findSome? fun a => anyF (c a)) = anyF (l.any c)
  | [] => rfl
  | a :: l => by
    rw [List.findSome?_cons, find_any c l, List.any_cons]
    cases c a <;> rfl

abbrev N_law_wrong_at : List Str := ["_law_plan_here", "_law_rule_here", "_law_place_here", "_law_day", "_law_one", "_law_other", "_law_may"]
theorem sc_law_wrong_at : FnScope N_law_wrong_at ["_law_plan_here", "_law_rule_here"] (defScope s_law_wrong_at) := C8.fnScope_by (by decide +kernel)
def R_law_wrong_at (ds : List Dat) (r : Dat) : Prop := ∃ (p : Plan) (r0 : Rul), WPlan p ∧ WO r0.os ∧ ds = [planD p, ruleD r0] ∧ r = .bl (wrongAt p.pl p.rw p.dp r0)
theorem p_law_wrong_at (T : Tx K mg) (c_law_days : Ca pg w K mg base 2 "_law_days" R_law_days) (c_law_fits : Ca pg w K mg base 2 "_law_fits" R_law_fits) (c_law_may_prefer : Ca pg w K mg base 3 "_law_may_prefer" R_law_may_prefer) (c_law_spare : Ca pg w K mg base 4 "_law_spare" R_law_spare) : Ca pg w K mg base 5 "_law_wrong_at" R_law_wrong_at := by
  obtain ⟨fd, F⟩ := T.d_law_wrong_at
  refine mkC (d := d_law_wrong_at) F T.g__law_wrong_at (F.bindsN (ps := ["_law_plan_here", "_law_rule_here"]) fun kV doc pm an cdv ct us h => by
    match us, h with
    | [a, b], _ => rfl) sc_law_wrong_at (by
    rintro ds r ⟨p, r0, wp, ho, rfl, rfl⟩
    rfl) ?_
  rintro cdv A outer s H E hr ds r ⟨p, r0, wp, ho, rfl, rfl⟩
  refine ⟨_, (pss_cons (ps_for PassesOwn.never rfl (pi_listK (K := K) (pe_dget (hu1 hr) (pv 0) pe_str (fun _ _ => rfl))) (pg_name (i := 2) sc_law_wrong_at.nd rfl (by first | exact Or.inl rfl | exact Or.inr rfl)) (pss_one (ps_for PassesOwn.never rfl (pi_listK (K := K) (C8.pe_c c_law_days hr (by decide) (by rfl) (pa_cons (pv 0) pa_nil))) (pg_name (i := 3) sc_law_wrong_at.nd rfl (by first | exact Or.inl rfl | exact Or.inr rfl)) (pss_one (ps_for PassesOwn.never rfl (pi_listK (K := K) (C8.pe_c c_law_fits hr (by decide) (by rfl) (pa_cons (pv 0) (pa_cons (pe_ix (ix_tupK (K := K)) (pv 2) pe_int (fun _ _ => rfl)) (pa_cons (pv 3) pa_nil))))) (pg_name (i := 4) sc_law_wrong_at.nd rfl (by first | exact Or.inl rfl | exact Or.inr rfl)) (pss_one (ps_for PassesOwn.never rfl (pi_listK (K := K) (C8.pe_c c_law_fits hr (by decide) (by rfl) (pa_cons (pv 0) (pa_cons (pe_ix (ix_tupK (K := K)) (pv 2) pe_int (fun _ _ => rfl)) (pa_cons (pv 3) pa_nil))))) (pg_name (i := 5) sc_law_wrong_at.nd rfl (by first | exact Or.inl rfl | exact Or.inr rfl)) (pss_cons (ps_set (i := 6) sc_law_wrong_at.nd rfl (by first | exact Or.inl rfl | exact Or.inr rfl) (C8.pe_c c_law_may_prefer hr (by decide) (by rfl) (pa_cons (pv 0) (pa_cons (pv 1) (pa_cons (pv 2) (pa_cons (pv 4) (pa_cons (pv 5) (pa_cons (pv 3) pa_nil))))))))
      (pss_one (ps_if (PW.pt (pw_and (pt_val (pv 6)) (pw_and1 (pt_cmpR ((op_neDK (K := K) (hu64 hr))) (C8.pe_c c_law_spare hr (by decide) (by rfl) (pa_cons (pv 0) (pa_cons (pv 4) (pa_cons (pv 5) (pa_cons (pv 3) pa_nil))))) (pe_lst pa_nil) (nomark _))))) (pss_one (ps_ret pe_bl)) pss_nil))))))))))
      (pss_one (ps_ret pe_bl))), .inl ?_⟩
  have key : ∀ {t : TS} {ρ0 : List Sl}, ST t (sl0 [planD p, ruleD r0] N_law_wrong_at) (match p.pl.findSome? fun x => anyF ((days p.rw).any fun d => (cand p.rw p.dp x.p d).any fun a => (cand p.rw p.dp x.p d).any fun b => mayPref p.rw p.dp r0 x a b d && !(spare p.pl p.rw p.dp a b d).isEmpty) with
      | some d => .rt d
      | none => .nx ρ0) → ST (tSeq t (tRet (tC (.bl false)))) (sl0 [planD p, ruleD r0] N_law_wrong_at) (.rt (.bl (wrongAt p.pl p.rw p.dp r0))) := fun {t ρ0} h => by
    rw [find_any] at h
    unfold wrongAt
    cases e : (p.pl.any fun x => (days p.rw).any fun d => (cand p.rw p.dp x.p d).any fun a => (cand p.rw p.dp x.p d).any fun b => mayPref p.rw p.dp r0 x a b d && !(spare p.pl p.rw p.dp a b d).isEmpty) with
    | true =>
      rw [e] at h
      exact st_seqRt h
    | false =>
      rw [e] at h
      exact st_seq h (st_ret ev_bl)
  refine key (ρ0 := [.d (planD p), .d (ruleD r0), .x, .x, .x, .x, .x]) (st_find p.pl plcD _ (it_list (ev_plan_pl (ev_var rfl))) (Wk.refl _) fun x hx => ⟨_, _, gt_name, ?_⟩)
  have wx := wp.ok.wp x hx
  have wk1 : ∀ {t : TS} {o : Option Dat} {ρ : List Sl}, ST t ρ (match o with
      | some d => .rt d
      | none => .nx [.d (planD p), .d (ruleD r0), .d (plcD x), .x, .x, .x, .x]) → ST t ρ (match o with
      | some d => .rt d
      | none => .nx [.d (planD p), .d (ruleD r0), .x, .x, .x, .x, .x]) := fun {t o ρ} h => by
    cases o with
    | some d => exact h
    | none => exact st_wk h (.same (.same (.fog (.same (.same (.same (.same .nil)))))))
  rw [← find_any]
  refine wk1 (st_find (days p.rw) Dat.int _ (it_list (ev_call (ds := [planD p]) (ea_cons (ev_var rfl) ea_nil) ⟨p, wp, rfl, rfl⟩)) (Wk.refl _) fun d hd => ⟨_, _, gt_name, ?_⟩)
  have cl := fun a (h : a ∈ cand p.rw p.dp x.p d) => cand_lt wp.ok.wr wx.p h
  have wk2 : ∀ {t : TS} {o : Option Dat} {ρ : List Sl}, ST t ρ (match o with
      | some d => .rt d
      | none => .nx [.d (planD p), .d (ruleD r0), .d (plcD x), .d (.int d), .x, .x, .x]) → ST t ρ (match o with
      | some d => .rt d
      | none => .nx [.d (planD p), .d (ruleD r0), .d (plcD x), .x, .x, .x, .x]) := fun {t o ρ} h => by
    cases o with
    | some d => exact h
    | none => exact st_wk h (.same (.same (.same (.fog (.same (.same (.same .nil)))))))
  rw [← find_any]
  refine wk2 (st_find (cand p.rw p.dp x.p d) ltD _ (it_list (ev_call (ds := [planD p, ltD x.p, .int d]) (ea_cons (ev_var rfl) (ea_cons (ev_ixT (ev_var rfl) ev_int rfl) (ea_cons (ev_var rfl) ea_nil))) ⟨p, x.p, d, wp, wx.p, rfl, rfl⟩)) (Wk.refl _) fun a ha => ⟨_, _, gt_name, ?_⟩)
  have wk3 : ∀ {t : TS} {o : Option Dat} {ρ : List Sl}, ST t ρ (match o with
      | some d => .rt d
      | none => .nx [.d (planD p), .d (ruleD r0), .d (plcD x), .d (.int d), .d (ltD a), .x, .x]) → ST t ρ (match o with
      | some d => .rt d
      | none => .nx [.d (planD p), .d (ruleD r0), .d (plcD x), .d (.int d), .x, .x, .x]) := fun {t o ρ} h => by
    cases o with
    | some d => exact h
    | none => exact st_wk h (.same (.same (.same (.same (.fog (.same (.same .nil)))))))
  rw [← find_any]
  refine wk3 (st_find (cand p.rw p.dp x.p d) ltD _ (it_list (ev_call (ds := [planD p, ltD x.p, .int d]) (ea_cons (ev_var rfl) (ea_cons (ev_ixT (ev_var rfl) ev_int rfl) (ea_cons (ev_var rfl) ea_nil))) ⟨p, x.p, d, wp, wx.p, rfl, rfl⟩)) (Wk.refl _) fun b hb => ⟨_, _, gt_name, ?_⟩)
  refine st_seq (st_asg (ev_call (d := .bl (mayPref p.rw p.dp r0 x a b d)) (ds := [planD p, ruleD r0, plcD x, ltD a, ltD b, .int d]) (by repeat' trivial) ⟨p, r0, x, a, b, d, wp, ho, wx, cl a ha, cl b hb, rfl, rfl⟩)) ?_
  have sp : ET (tTest (tOp (rNeD K) (tCall (spD R_law_spare) [] C8.E0 (tCons (tVar 0) (tCons (tVar 4) (tCons (tVar 5) (tCons (tVar 3) tNil))))) (tLst tNil))) [.d (planD p), .d (ruleD r0), .d (plcD x), .d (.int d), .d (ltD a), .d (ltD b), .d (.bl (mayPref p.rw p.dp r0 x a b d))] (!(spare p.pl p.rw p.dp a b d).isEmpty) := by
    refine et_is (et_test (ev_neD (ds := (spare p.pl p.rw p.dp a b d).map useD) (es := []) (ev_call (ds := [planD p, ltD a, ltD b, .int d]) (by repeat' trivial) ⟨p, a, b, d, wp, cl a ha, cl b hb, rfl, rfl⟩).l (evn_lst ea_nil).l ((ok_lst (n := 1) fun z hz => ?_).shp (by omega)) ((ok_lst (n := 1) fun z hz => (List.not_mem_nil hz).elim).shp (by omega)))) ?_
    · obtain ⟨u, hu, e⟩ := List.mem_map.mp hz
      subst e
      obtain ⟨_, y, hy, e, _⟩ := mem_uses.mp (List.mem_filter.mp hu).1
      exact ok_use (e ▸ (wp.ok.wp y hy).w)
    · cases spare p.pl p.rw p.dp a b d with
      | nil =>
        show (!PyData.eqv (.list (toPys [])) (.list (toPys []))) = _
        rw [PyData.eqv, eqv_nil]
        rfl
      | cons u us =>
        show (!PyData.eqv (.list (toPys (useD u :: us.map useD))) (.list (toPys []))) = _
        rw [PyData.eqv]
        rfl
  refine st_if (et_and (et_B (ev_var rfl)) fun _ => sp) (fun h => ?_) fun h => ?_
  · rw [h]
    exact st_ret ev_bl
  · rw [h]
    exact st_wk st_next (.same (.same (.same (.same (.same (.fog (.fog .nil)))))))

end
end Gk

set_option maxHeartbeats 4000000
namespace Gk
open PySem PySem.Spec PyProof.Rows L2 Dl Ga
section
variable {pg : Program} {w : World} {K : PySem.W.Frag} {mg : Str → Option Value} {base : Heap}
local macro_rules | `(tactic| trivial) => `(tactic| first
  | with_reducible exact ev_int
  | with_reducible exact ev_str
  | with_reducible exact ev_bl
  | with_reducible exact ev_non
  | ((with_reducible apply ev_var) <;> rfl)
  | ((with_reducible apply evl_var) <;> rfl)
  | with_reducible exact eo_none
  | with_reducible apply eo_some
  | with_reducible apply ev_add
  | with_reducible apply ev_sub
  | with_reducible apply ev_cmp
  | with_reducible apply ev_chain rfl rfl
  | with_reducible apply ev_and
  | with_reducible apply ev_or
  | with_reducible apply ev_not
  | with_reducible apply ev_isN
  | with_reducible apply ev_notN
  | with_reducible apply ea_cons
  | with_reducible exact ea_nil
  | with_reducible apply et_B
  | with_reducible apply et_test
  | with_reducible apply et_not
  | with_reducible apply et_and
  | with_reducible apply et_or
  | with_reducible apply ev_ixT
  | with_reducible apply ev_tup
  | with_reducible apply ev_int1
  | with_reducible apply ev_str1
  | with_reducible apply isi_int_int
  | with_reducible apply isi_int_bool
  | with_reducible apply isi_str_str
  | with_reducible apply isi_tup_tup
  | with_reducible apply isi_lst_lst
  | with_reducible apply isi_dic_dic
  | with_reducible exact et_yes
  | intro _)
abbrev N_law_fault_right : List Str := ["_law_plan_here", "_law_rule_here", "_law_found", "_law_word", "_law_day", "_law_one", "_law_other", "_law_later", "_law_use", "_law_place_here", "_law_fits_here", "_law_later_fits"]
theorem sc_law_fault_right : FnScope N_law_fault_right ["_law_plan_here", "_law_rule_here", "_law_found"] (defScope s_law_fault_right) := C8.fnScope_by (by decide +kernel)
def R_law_fault_right (ds : List Dat) (r : Dat) : Prop := ∃ (p : Plan) (r0 : Rul) (f : Flt), WPlan p ∧ WO r0.os ∧ fault p.pl p.rw p.dp r0 = some f ∧ ds = [planD p, ruleD r0, fltD f] ∧ r = .bl true
theorem p_law_fault_right (T : Tx K mg) (c_law_place : Ca pg w K mg base 1 "_law_place" R_law_place) (c_law_fits : Ca pg w K mg base 2 "_law_fits" R_law_fits) (c_law_may_prefer : Ca pg w K mg base 3 "_law_may_prefer" R_law_may_prefer) : Ca pg w K mg base 4 "_law_fault_right" R_law_fault_right := by
  obtain ⟨fd, F⟩ := T.d_law_fault_right
  refine mkC (d := d_law_fault_right) F T.g__law_fault_right (F.bindsN (ps := ["_law_plan_here", "_law_rule_here", "_law_found"]) fun kV doc pm an cdv ct us h => by
    match us, h with
    | [a, b, c], _ => rfl) sc_law_fault_right (by
    rintro ds r ⟨p, r0, f, wp, ho, e, rfl, rfl⟩
    rfl) ?_
  rintro cdv A outer s H E hr ds r ⟨p, r0, f, wp, ho, e, rfl, rfl⟩
  refine ⟨_, (pss_cons (ps_asg (pv 2) (pg_tupK (K := K) (n := 6) rfl (pgs_cons (pg_name (i := 3) sc_law_fault_right.nd rfl (by first | exact Or.inl rfl | exact Or.inr rfl)) (pgs_cons (pg_name (i := 4) sc_law_fault_right.nd rfl (by first | exact Or.inl rfl | exact Or.inr rfl)) (pgs_cons (pg_name (i := 5) sc_law_fault_right.nd rfl (by first | exact Or.inl rfl | exact Or.inr rfl)) (pgs_cons (pg_name (i := 6) sc_law_fault_right.nd rfl (by first | exact Or.inl rfl | exact Or.inr rfl)) (pgs_cons (pg_name (i := 7) sc_law_fault_right.nd rfl (by first | exact Or.inl rfl | exact Or.inr rfl)) (pgs_cons (pg_name (i := 8) sc_law_fault_right.nd rfl (by first | exact Or.inl rfl | exact Or.inr rfl)) pgs_nil))))))))
      (pss_cons (ps_set (i := 9) sc_law_fault_right.nd rfl (by first | exact Or.inl rfl | exact Or.inr rfl) (C8.pe_c c_law_place hr (by decide) (by rfl) (pa_cons (pv 0) (pa_cons (pv 3) pa_nil))))
      (pss_cons (ps_set (i := 10) sc_law_fault_right.nd rfl (by first | exact Or.inl rfl | exact Or.inr rfl) (C8.pe_c c_law_fits hr (by decide) (by rfl) (pa_cons (pv 0) (pa_cons (pe_ix (ix_tupK (K := K)) (pv 9) pe_int (fun _ _ => rfl)) (pa_cons (pv 4) pa_nil)))))
      (pss_cons (ps_if (PW.pt (pw_or (pt_cmpR op_eq (pv 5) (pv 6) (nomark _)) (pw_or (pt_cmpR (op_notIn_seqK (K := K)) (pv 5) (pv 10) (by rfl)) (pw_or (pt_cmpR (op_notIn_seqK (K := K)) (pv 6) (pv 10) (by rfl)) (pw_or1 (pt_cmp (pc_lt (pv 8) (pv 4)))))))) (pss_one (ps_ret pe_bl)) pss_nil)
      (pss_cons (ps_if (pt_cmpR op_eq (pe_dget (hu1 hr) (pv 1) pe_str (fun _ _ => rfl)) pe_str (nomark _)) (pss_one (ps_if (PW.pt (pw_and (pt_cmpR op_eq (pv 4) pe_int (nomark _)) (pw_and1 (pt_not (pt_val (C8.pe_c c_law_may_prefer hr (by decide) (by rfl) (pa_cons (pv 0) (pa_cons (pv 1) (pa_cons (pv 9) (pa_cons (pv 5) (pa_cons (pv 6) (pa_cons pe_int pa_nil)))))))))))) (pss_one (ps_ret pe_bl)) pss_nil)) (pss_one (ps_if (pt_not (pt_val (C8.pe_c c_law_may_prefer hr (by decide) (by rfl) (pa_cons (pv 0) (pa_cons (pv 1) (pa_cons (pv 9) (pa_cons (pv 5) (pa_cons (pv 6) (pa_cons (pv 4) pa_nil))))))))) (pss_one (ps_ret pe_bl)) pss_nil)))
      (pss_cons (ps_set (i := 11) sc_law_fault_right.nd rfl (by first | exact Or.inl rfl | exact Or.inr rfl) (C8.pe_c c_law_fits hr (by decide) (by rfl) (pa_cons (pv 0) (pa_cons (pe_ix (ix_tupK (K := K)) (C8.pe_c c_law_place hr (by decide) (by rfl) (pa_cons (pv 0) (pa_cons (pv 7) pa_nil))) pe_int (fun _ _ => rfl)) (pa_cons (pv 8) pa_nil)))))
      (pss_one (ps_ret (pe_and (pe_cmpR (op_in_seqK (K := K)) (pv 5) (pv 11) (by rfl)) (pe_one (pe_cmpR (op_notIn_seqK (K := K)) (pv 6) (pv 11) (by rfl)))))))))))), .inl ?_⟩
  obtain ⟨⟨x, hx, hw, n1, m1, m2, hpr⟩, hd, hle, _, _, y, hy, hyw, m3, m4⟩ := fault_is wp.ok.nd wp.ok.wr e
  obtain ⟨fw, d, a, b, fl, u⟩ := f
  simp only at hw n1 m1 m2 hpr hd hle hyw m3 m4
  subst hw hyw
  have wx := wp.ok.wp x hx
  have wy := wp.ok.wp y hy
  have ha := cand_lt wp.ok.wr wx.p m1
  have hb := cand_lt wp.ok.wr wx.p m2
  have nm : ∀ c, (!decide (Ga.P c ∈ (cand p.rw p.dp x.p d).map Ga.P)) = !decide (c ∈ cand p.rw p.dp x.p d) := fun c => by rw [decide_eq_decide.mpr P_mem]
  have d0 : 0 ≤ d := by
    rcases hd with h | h
    · have := turns_rng wp.ok.wr h
      omega
    · omega
  refine st_seq (st_asgG (d := .tup [ltD x.w, .int d, ltD a, ltD b, ltD y.w, .int u]) (ev_var rfl) (gt_tup (is := [3, 4, 5, 6, 7, 8]) rfl rfl rfl)) ?_
  refine st_seq (st_asg (ev_call (d := plcD x) (ds := [planD p, ltD x.w]) (by repeat' trivial) ⟨p, x, wp, hx, rfl, rfl⟩)) ?_
  refine st_seq (st_asg (ev_call (d := .lst ((cand p.rw p.dp x.p d).map ltD)) (ds := [planD p, ltD x.p, .int d]) (ea_cons (ev_var rfl) (ea_cons (ev_ixT (ev_var rfl) ev_int rfl) (ea_cons (ev_var rfl) ea_nil))) ⟨p, x.p, d, wp, wx.p, rfl, rfl⟩)) ?_
  refine st_seqIf (b := false) (et_is (b := decide (a = b) || (!decide (a ∈ cand p.rw p.dp x.p d) || (!decide (b ∈ cand p.rw p.dp x.p d) || decide (u < d)))) (et_or (et_is (et_test (ev_eqS (ev_var rfl) (ev_var rfl))) (decide_eq_decide.mpr ⟨P_inj, fun e => by rw [e]⟩)) fun _ => et_or (et_is (et_test (ev_niSL (xs := (cand p.rw p.dp x.p d).map Ga.P) (ev_var rfl) (evl_is (ev_var rfl).l (map_str _)))) (nm a)) fun _ => et_or (et_is (et_test (ev_niSL (xs := (cand p.rw p.dp x.p d).map Ga.P) (ev_var rfl) (evl_is (ev_var rfl).l (map_str _)))) (nm b)) fun _ => et_B (ev_cmp (ev_var rfl) (ev_var rfl))) (by simp [n1, m1, m2]; omega)) (fun h => nomatch h) fun _ => st_seqNext ?_
  have mayc : ∀ dd : Int, dd = d → (mayPref p.rw p.dp r0 x a b dd) = true := fun dd e => by
    subst e
    refine may_iff.mpr ⟨n1, m1, m2, ?_⟩
    rcases hpr with h | h
    · rw [pref_same] at h
      exact .inr h
    · exact .inl h
  have fin : ∀ {ρ : List Sl}, ρ[0]? = some (.d (planD p)) → ρ[5]? = some (.d (ltD a)) → ρ[6]? = some (.d (ltD b)) → ρ[7]? = some (.d (ltD y.w)) → ρ[8]? = some (.d (.int u)) → ρ.length = 12 →
      ST (tSeq (tAsg (tCall (spD R_law_fits) [] C8.E0 (tCons (tVar 0) (tCons (tOp (rIxT K) (tCall (spD R_law_place) [] C8.E0 (tCons (tVar 0) (tCons (tVar 7) tNil))) (tC (.int 1))) (tCons (tVar 8) tNil)))) (gName 11)) (tRet (tAndV (tOp (rIn K false) (tVar 5) (tVar 11)) (tOp (rIn K true) (tVar 6) (tVar 11))))) ρ (.rt (.bl true)) := fun {ρ} h0 h5 h6 h7 h8 hl => by
    have g : ∀ k s, k ≠ 11 → ρ[k]? = some s → (ρ.set 11 (.d (.lst ((cand p.rw p.dp y.p u).map ltD))))[k]? = some s := fun k s hk h => by rw [List.getElem?_set_ne (Ne.symm hk)]; exact h
    have g11 : (ρ.set 11 (.d (.lst ((cand p.rw p.dp y.p u).map ltD))))[11]? = some (.d (.lst ((cand p.rw p.dp y.p u).map ltD))) := List.getElem?_set_self (by omega)
    refine st_seq (st_asg (ev_call (d := .lst ((cand p.rw p.dp y.p u).map ltD)) (ds := [planD p, ltD y.p, .int u]) (ea_cons (ev_var h0) (ea_cons (ev_ixT (ev_call (d := plcD y) (ds := [planD p, ltD y.w]) (ea_cons (ev_var h0) (ea_cons (ev_var h7) ea_nil)) ⟨p, y, wp, hy, rfl, rfl⟩) ev_int rfl) (ea_cons (ev_var h8) ea_nil))) ⟨p, y.p, u, wp, wy.p, rfl, rfl⟩)) (st_ret (ev_is (ev_and (b := true) (c := true) (ev_is (ev_inSL (xs := (cand p.rw p.dp y.p u).map Ga.P) (ev_var (g 5 _ (by decide) h5)) (evl_is (ev_var g11).l (map_str _))) ?_) fun _ => ev_is (ev_niSL (xs := (cand p.rw p.dp y.p u).map Ga.P) (ev_var (g 6 _ (by decide) h6)) (evl_is (ev_var g11).l (map_str _))) ?_) rfl))
    · rw [decide_eq_true (P_mem.mpr m3)]
    · rw [decide_eq_false (fun z => m4 (P_mem.mp z))]
      rfl
  refine st_seqIf (b := decide (r0.kd = .eldest)) (et_is (et_test (ev_eqS (ev_rule_kd (ev_var rfl)) ev_str)) (kE _)) (fun h => ?_) fun h => ?_
  · refine st_seq (st_if (b := false) (et_is (et_and (b := decide (d = 0)) (c := false) (et_test (ev_eqI (ev_var rfl) ev_int)) fun z => et_is (et_not (et_B (ev_call (d := .bl true) (ds := [planD p, ruleD r0, plcD x, ltD a, ltD b, .int 0]) (by repeat' trivial) ⟨p, r0, x, a, b, 0, wp, ho, wx, ha, hb, rfl, by rw [mayc 0 (of_decide_eq_true z).symm]⟩))) rfl) (by simp)) (fun h => nomatch h) fun _ => st_next) (fin rfl rfl rfl rfl rfl rfl)
  · refine st_seq (st_if (b := false) (et_is (et_not (et_B (ev_call (d := .bl true) (ds := [planD p, ruleD r0, plcD x, ltD a, ltD b, .int d]) (by repeat' trivial) ⟨p, r0, x, a, b, d, wp, ho, wx, ha, hb, rfl, by rw [mayc d rfl]⟩))) rfl) (fun h => nomatch h) fun _ => st_next) (fin rfl rfl rfl rfl rfl rfl)

/-- the play that faulty events are -/
theorem plays {p : Plan} {r0 : Rul} {f : Flt} (wp : WPlan p) (ho : WO r0.os) (e : fault p.pl p.rw p.dp r0 = some f) {x : Plc} (hx : x ∈ p.pl) (hw : x.w = f.1) : ∃ y, y ∈ p.pl ∧ y.w = f.2.2.2.2.1 ∧
    Play p r0 x y f.2.2.1 f.2.2.2.1 (if pref r0 x f.2.2.1 f.2.1 f.2.2.2.1 f.2.1 = true then f.2.1 else f.2.1 - 1) f.2.1 f.2.2.2.2.2 ∧ PlayF p x y f.2.2.1 f.2.2.2.1 f.2.1 f.2.2.2.2.2 ∧ f.2.1 ≤ f.2.2.2.2.2 := by
  obtain ⟨⟨x2, hx2, hw2, n1, m1, m2, hpr⟩, hd, hle, _, _, y, hy, hyw, m3, m4⟩ := fault_is wp.ok.nd wp.ok.wr e
  have exx : x = x2 := same_w wp.ok.nd hx hx2 (hw.trans hw2.symm)
  subst exx
  obtain ⟨fw, d, a, b, fl, u⟩ := f
  simp only at hw n1 m1 m2 hpr hd hle hyw m3 m4 ⊢
  have wx := wp.ok.wp x hx
  have ha := cand_lt wp.ok.wr wx.p m1
  have hb := cand_lt wp.ok.wr wx.p m2
  have d0 : 0 ≤ d ∧ d ≤ 9 := by
    rcases hd with h | h
    · have := turns_rng wp.ok.wr h
      omega
    · omega
  refine ⟨y, hy, hyw, ⟨wp, ho, hx, hy, ha, hb, ?_, by omega, ?_, ?_⟩, ⟨wp, hx, hy, m1, m2, m3, m4⟩, hle⟩
  · split <;> omega
  · have hlt : wt r0 x a (if pref r0 x a d b d = true then d else d - 1) < wt r0 x b d := by
      split
      · next h => exact of_decide_eq_true h
      · next h =>
        rcases hpr with z | ⟨k, _⟩
        · exact absurd z h
        · exact of_decide_eq_true (pref_elder k ho ha hb)
    generalize (if pref r0 x a d b d = true then d else d - 1) = e1 at hlt ⊢
    have s1 : better p r0 x d none (a, e1) = some (a, e1) := if_pos (by simp [m1])
    have s2 : better p r0 x d (some (a, e1)) (b, d) = some (a, e1) := if_neg (by
      have : ¬ wt r0 x b d < wt r0 x a e1 := by omega
      simp [this])
    unfold bestOf
    rw [List.foldl_cons, List.foldl_cons, List.foldl_nil, s1, s2]
  · have s1 : better p r0 y u none (b, d) = none := if_neg (by simp [m4])
    unfold bestOf
    rw [List.foldl_cons, List.foldl_nil, s1]

def headD : Dat → Dat
  | .tup (x :: _) => x
  | d => d
theorem shp_words : shp (.lst [.str "come", .str "come", .str "ask", .str "ask"]) = true := (ok_lst (n := 1) fun z hz => by
  simp only [List.mem_cons, List.not_mem_nil, or_false] at hz
  rcases hz with rfl | rfl | rfl | rfl
  all_goals exact ok_str (by decide +kernel)).shp (by omega)
theorem eqv_words : eqD (.lst [.str "come", .str "come", .str "ask", .str "ask"]) (.lst [.str "come", .str "come", .str "ask", .str "ask"]) = true := by
  show PyData.eqv (.list [.str "come", .str "come", .str "ask", .str "ask"]) (.list [.str "come", .str "come", .str "ask", .str "ask"]) = true
  simp [PyData.eqv, PyData.eqvAll]
theorem eqv_none : eqD (.lst []) (.lst []) = true := by
  show PyData.eqv (.list []) (.list []) = true
  simp [PyData.eqv, PyData.eqvAll]
theorem shp_none : shp (.lst []) = true := (ok_lst (n := 1) fun z hz => (List.not_mem_nil hz).elim).shp (by omega)

abbrev N_law_events_right : List Str := ["_law_plan_here", "_law_rule_here", "_law_events", "_law_event", "_law_at", "_law_answers"]
theorem sc_law_events_right : FnScope N_law_events_right ["_law_plan_here", "_law_rule_here", "_law_events"] (defScope s_law_events_right) := C8.fnScope_by (by decide +kernel)
def R_law_events_right (ds : List Dat) (r : Dat) : Prop := ∃ (p : Plan) (r0 : Rul) (x y : Plc) (a b : Nat) (e d u : Int), Play p r0 x y a b e d u ∧ PlayF p x y a b d u ∧ e ≤ d ∧ d ≤ u ∧ ds = [planD p, ruleD r0, .lst (playD x y a b e d u)] ∧ r = .bl true
theorem p_law_events_right (T : Tx K mg) (c_law_played : Ca pg w K mg base 5 "_law_played" R_law_played) (c_law_first_wrong : Ca pg w K mg base 5 "_law_first_wrong" R_law_first_wrong) : Ca pg w K mg base 6 "_law_events_right" R_law_events_right := by
  obtain ⟨fd, F⟩ := T.d_law_events_right
  refine mkC (d := d_law_events_right) F T.g__law_events_right (F.bindsN (ps := ["_law_plan_here", "_law_rule_here", "_law_events"]) fun kV doc pm an cdv ct us h => by
    match us, h with
    | [a, b, c], _ => rfl) sc_law_events_right (by
    rintro ds r ⟨p, r0, x, y, a, b, e, d, u, P, F0, h1, h2, rfl, rfl⟩
    rfl) ?_
  rintro cdv A outer s H E hr ds r ⟨p, r0, x, y, a, b, e, d, u, P, F0, h1, h2, rfl, rfl⟩
  refine ⟨_, (pss_cons (ps_if (PW.pt (pw_or (pt_not (pt_val (pe_callB (call_isiK2 (K := K)) (by rfl) T.f_isinstance bo_isi (pa_cons (pv 2) (pa_cons (pe_ty "list" (by rfl) T.f_list bo_list) pa_nil))))) (pw_or1 (pt_cmpR ((op_neDK (K := K) (hu64 hr))) (pe_lc rfl sc_law_events_right.nd (pi_listK (K := K) (pv 2)) (blkOk_by (own := [("_law_event", 3)]) (N := N_law_events_right) (sc := defScope s_law_events_right) (by decide +kernel)) (fun _ _ _ _ _ => (pg_name (i := 3) sc_law_events_right.nd rfl (by first | exact Or.inl rfl | exact Or.inr rfl))) (fun _ _ _ _ _ => pts_nil) (fun _ _ _ _ _ => (pe_ix (ix_tupK (K := K)) (pv 3) pe_int (fun _ _ => rfl)))) (pe_lst (pa_cons pe_str (pa_cons pe_str (pa_cons pe_str (pa_cons pe_str pa_nil))))) (nomark _))))) (pss_one (ps_ret pe_bl)) pss_nil)
      (pss_cons (ps_if (pt_cmpR ((op_neDK (K := K) (hu64 hr))) (pe_lc rfl sc_law_events_right.nd (pi_range1 (by rfl) T.f_range (pa_cons pe_int pa_nil)) (blkOk_by (own := [("_law_at", 4)]) (N := N_law_events_right) (sc := defScope s_law_events_right) (by decide +kernel)) (fun _ _ _ _ _ => (pg_name (i := 4) sc_law_events_right.nd rfl (by first | exact Or.inl rfl | exact Or.inr rfl))) (fun _ _ _ _ _ => (pts_one (pt_cmp (pc_lt (pe_ix (ix_tupK (K := K)) (pe_ix (ix_listK (K := K)) (pv 2) (pe_add (pv 4) pe_int) (fun _ _ => rfl)) pe_int (fun _ _ => rfl)) (pe_ix (ix_tupK (K := K)) (pe_ix (ix_listK (K := K)) (pv 2) (pv 4) (fun _ _ => rfl)) pe_int (fun _ _ => rfl)))))) (fun _ _ _ _ _ => (pv 4))) (pe_lst pa_nil) (nomark _)) (pss_one (ps_ret pe_bl)) pss_nil)
      (pss_cons (ps_set (i := 5) sc_law_events_right.nd rfl (by first | exact Or.inl rfl | exact Or.inr rfl) (pe_ix (ix_listK (K := K)) (C8.pe_c c_law_played hr (by decide) (by rfl) (pa_cons (pv 0) (pa_cons (pv 1) (pa_cons (pv 2) pa_nil)))) pe_int (fun _ _ => rfl)))
      (pss_one (ps_ret (pe_and (pe_cmp (pc_notN (pe_ix (ix_listK (K := K)) (pv 5) pe_int (fun _ _ => rfl)))) (pe_one (pe_cmpR op_eq (C8.pe_c c_law_first_wrong hr (by decide) (by rfl) (pa_cons (pv 0) (pa_cons (pv 2) (pa_cons (pv 5) pa_nil)))) pe_int (nomark _))))))))), .inl ?_⟩
  refine st_seqIf (b := false) (et_is (et_or (b := false) (et_is (et_not (et_B (isi_lst_lst (ev_var rfl)))) rfl) fun _ => et_test (ev_neD (ds := [.str "come", .str "come", .str "ask", .str "ask"]) (es := [.str "come", .str "come", .str "ask", .str "ask"]) (evn_is (evn_lc (vs := [3]) (playD x y a b e d u) id (fun _ => true) headD (it_list (lst_is (ev_var rfl) (List.map_id _).symm)).o (show 4 ≤ 90000 by decide) fun q hq => ⟨_, _, gt_name, fun i hi => hi, et_yes, fun _ => ?_⟩) rfl).l (evn_lst (ea_cons ev_str (ea_cons ev_str (ea_cons ev_str (ea_cons ev_str ea_nil))))).l shp_words shp_words)) (by rw [eqv_words]; rfl)) (fun h => nomatch h) fun _ => st_seqNext ?_
  · unfold playD at hq
    simp only [List.mem_cons, List.not_mem_nil, or_false] at hq
    rcases hq with rfl | rfl | rfl | rfl
    all_goals exact ev_ixT (ev_var rfl) ev_int rfl
  · refine st_seqIf (b := false) (et_is (et_test (ev_neD (ds := []) (es := []) (evn_is (evn_lc (vs := [4]) (List.range 3) (fun i => Dat.int (i : Nat)) (fun _ => false) (fun i => Dat.int (i : Nat)) (it_rng (n := 3) (ea_cons ev_int ea_nil) (by decide)).o (by decide) fun i hi => ⟨_, _, gt_name, fun i hi => hi, ?_, fun h => nomatch h⟩) rfl).l (evn_lst ea_nil).l shp_none shp_none)) (by rw [eqv_none]; rfl)) (fun h => nomatch h) fun _ => st_seqNext ?_
    · have hi := List.mem_range.mp hi
      match i, hi with
      | 0, _ => exact et_is (et_B (ev_cmp (i := d) (j := e) (ev_ixT (ev_ixL (d := comeD b d) (ev_var rfl).l (ev_is (ev_add (ev_var rfl) ev_int) rfl) rfl) ev_int rfl) (ev_ixT (ev_ixL (d := comeD a e) (ev_var rfl).l (ev_var rfl) rfl) ev_int rfl))) (decide_eq_false (by omega))
      | 1, _ => exact et_is (et_B (ev_cmp (i := d) (j := d) (ev_ixT (ev_ixL (d := askD x.w d) (ev_var rfl).l (ev_is (ev_add (ev_var rfl) ev_int) rfl) rfl) ev_int rfl) (ev_ixT (ev_ixL (d := comeD b d) (ev_var rfl).l (ev_var rfl) rfl) ev_int rfl))) (decide_eq_false (by omega))
      | 2, _ => exact et_is (et_B (ev_cmp (i := u) (j := d) (ev_ixT (ev_ixL (d := askD y.w u) (ev_var rfl).l (ev_is (ev_add (ev_var rfl) ev_int) rfl) rfl) ev_int rfl) (ev_ixT (ev_ixL (d := askD x.w d) (ev_var rfl).l (ev_var rfl) rfl) ev_int rfl))) (decide_eq_false (by omega))
      | n + 3, h => omega
    · refine st_seq (st_asg (d := .lst [.bl true, .bl true, ltD a, .non]) (ev_ixL (ev_call (ds := [planD p, ruleD r0, .lst (playD x y a b e d u)]) (ea_cons (ev_var rfl) (ea_cons (ev_var rfl) (ea_cons (ev_var rfl) ea_nil))) ⟨p, r0, x, y, a, b, e, d, u, P, rfl, rfl⟩).l ev_int rfl)) (st_ret (ev_is (ev_and (b := true) (c := true) (ev_is (ev_notN (d := ltD a) (ev_ixL (ev_var rfl).l ev_int rfl)) rfl) fun _ => ev_is (ev_eqI (i := 3) (j := 3) (ev_call (ds := [planD p, .lst (playD x y a b e d u), .lst [.bl true, .bl true, ltD a, .non]]) (ea_cons (ev_var rfl) (ea_cons (ev_var rfl) (ea_cons (ev_var rfl) ea_nil))) ⟨p, x, y, a, b, e, d, u, F0, rfl, rfl⟩) ev_int) rfl) rfl))

end
end Gk

set_option maxHeartbeats 4000000
namespace Gk
open PySem PySem.Spec PyProof.Rows L2 Dl Ga
section
variable {pg : Program} {w : World} {K : PySem.W.Frag} {mg : Str → Option Value} {base : Heap}
local macro_rules | `(tactic| trivial) => `(tactic| first
  | with_reducible exact ev_int
  | with_reducible exact ev_str
  | with_reducible exact ev_bl
  | with_reducible exact ev_non
  | ((with_reducible apply ev_var) <;> rfl)
  | ((with_reducible apply evl_var) <;> rfl)
  | with_reducible exact eo_none
  | with_reducible apply eo_some
  | with_reducible apply ev_add
  | with_reducible apply ev_sub
  | with_reducible apply ev_cmp
  | with_reducible apply ev_chain rfl rfl
  | with_reducible apply ev_and
  | with_reducible apply ev_or
  | with_reducible apply ev_not
  | with_reducible apply ev_isN
  | with_reducible apply ev_notN
  | with_reducible apply ea_cons
  | with_reducible exact ea_nil
  | with_reducible apply et_B
  | with_reducible apply et_test
  | with_reducible apply et_not
  | with_reducible apply et_and
  | with_reducible apply et_or
  | with_reducible apply ev_ixT
  | with_reducible apply ev_tup
  | with_reducible apply ev_int1
  | with_reducible apply ev_str1
  | with_reducible apply isi_int_int
  | with_reducible apply isi_int_bool
  | with_reducible apply isi_str_str
  | with_reducible apply isi_tup_tup
  | with_reducible apply isi_lst_lst
  | with_reducible apply isi_dic_dic
  | with_reducible exact et_yes
  | intro _)
abbrev N_law_list : List Str := ["_law_plan_here"]
theorem sc_law_list : FnScope N_law_list ["_law_plan_here"] (defScope s_law_list) := C8.fnScope_by (by decide +kernel)
def R_law_list (K : PySem.W.Frag) (ds : List Dat) (r : Dat) : Prop := ∃ p : Plan, WPlan p ∧ ds = [planD p] ∧ r = listD K p.pl
theorem p_law_list (T : Tx K mg) (k_PartsList : C8.Mak pg w K mg base 3 "PartsList" (He.ga K "PartsList") (spI (He.ga K "PartsList") R_PartsList_init) []) : Ca pg w K mg base 5 "_law_list" (R_law_list K) := by
  obtain ⟨fd, F⟩ := T.d_law_list
  refine mkC (d := d_law_list) F T.g__law_list (F.bindsN (ps := ["_law_plan_here"]) fun kV doc pm an cdv ct us h => by
    match us, h with
    | [a], _ => rfl) sc_law_list (by
    rintro ds r ⟨p, wp, rfl, rfl⟩
    rfl) ?_
  rintro cdv A outer s H E hr ds r ⟨p, wp, rfl, rfl⟩
  refine ⟨_, (pss_one (ps_ret (C8.pe_mk k_PartsList hr (by decide) (by rfl) (pa_cons (pe_dget (hu1 hr) (pv 0) pe_str (fun _ _ => rfl)) pa_nil)))), .inl ?_⟩
  exact st_ret (ev_make (ds := [.lst (p.pl.map plcD)]) (ea_cons (ev_plan_pl (ev_var rfl)) ea_nil) ⟨p.pl, ⟨wp.ok.wp, wp.ok.nd, wp.ne, wp.ok.ln⟩, rfl, rfl⟩)

abbrev N_law_book : List Str := ["_law_plan_here"]
theorem sc_law_book : FnScope N_law_book ["_law_plan_here"] (defScope s_law_book) := C8.fnScope_by (by decide +kernel)
def R_law_book (K : PySem.W.Frag) (ds : List Dat) (r : Dat) : Prop := ∃ p : Plan, WPlan p ∧ ds = [planD p] ∧ r = bookD K (bookRows p.rw) p.dp
theorem p_law_book (T : Tx K mg) (k_Allowances : MakA pg w K mg base 4 "Allowances" (He.ga K "Allowances") 1 ["through"] (spI (He.ga K "Allowances") R_Allowances_init)) : Ca pg w K mg base 6 "_law_book" (R_law_book K) := by
  obtain ⟨fd, F⟩ := T.d_law_book
  refine mkC (d := d_law_book) F T.g__law_book (F.bindsN (ps := ["_law_plan_here"]) fun kV doc pm an cdv ct us h => by
    match us, h with
    | [a], _ => rfl) sc_law_book (by
    rintro ds r ⟨p, wp, rfl, rfl⟩
    rfl) ?_
  rintro cdv A outer s H E hr ds r ⟨p, wp, rfl, rfl⟩
  refine ⟨_, (pss_one (ps_ret (pe_ma k_Allowances hr (by decide) (by rfl) (pa_cons (pe_dget (hu1 hr) (pv 0) pe_str (fun _ _ => rfl)) pa_nil) (pk_cons (pe_dget (hu1 hr) (pv 0) pe_str (fun _ _ => rfl)) pk_nil)))), .inl ?_⟩
  exact st_ret (ev_makeK (ds := [.lst (p.rw.map rowD)]) (es := [.bl p.dp]) (ea_cons (ev_plan_rw (ev_var rfl)) ea_nil) (ea_cons (ev_plan_dp (ev_var rfl)) ea_nil) rfl rfl (fun _ _ _ => rfl) ⟨p.rw, p.dp, wp.ok.wr, wp.nd, wp.ok.lr, rfl, rfl⟩)

abbrev N_law_made_rule : List Str := ["_law_rule_here"]
theorem sc_law_made_rule : FnScope N_law_made_rule ["_law_rule_here"] (defScope s_law_made_rule) := C8.fnScope_by (by decide +kernel)
def R_law_made_rule (K : PySem.W.Frag) (ds : List Dat) (r : Dat) : Prop := ∃ r0 : Rul, WO r0.os ∧ ds = [ruleD r0] ∧ r = ruleI K r0
theorem p_law_made_rule (T : Tx K mg) (k_Rule : C8.Mak pg w K mg base 4 "Rule" (He.ga K "Rule") (spI (He.ga K "Rule") R_Rule_init) []) : Ca pg w K mg base 6 "_law_made_rule" (R_law_made_rule K) := by
  obtain ⟨fd, F⟩ := T.d_law_made_rule
  refine mkC (d := d_law_made_rule) F T.g__law_made_rule (F.bindsN (ps := ["_law_rule_here"]) fun kV doc pm an cdv ct us h => by
    match us, h with
    | [a], _ => rfl) sc_law_made_rule (by
    rintro ds r ⟨r0, ho, rfl, rfl⟩
    rfl) ?_
  rintro cdv A outer s H E hr ds r ⟨r0, ho, rfl, rfl⟩
  refine ⟨_, (pss_one (ps_ret (C8.pe_mk k_Rule hr (by decide) (by rfl) (pa_cons (pe_dget (hu1 hr) (pv 0) pe_str (fun _ _ => rfl)) (pa_cons (pe_callTy call_dictD (by rfl) T.f_dict bo_dict (pa_cons (pe_dget (hu1 hr) (pv 0) pe_str (fun _ _ => rfl)) pa_nil)) pa_nil))))), .inl ?_⟩
  exact st_ret (ev_make (ds := [.str (kindS r0.kd), .dic (ordD r0.os)]) (ea_cons (ev_rule_kd (ev_var rfl)) (ea_cons (ev_dictD (ea_cons (ev_rule_os (ev_var rfl)) ea_nil)) ea_nil)) ⟨r0, ho, rfl, rfl⟩)

end
end Gk

set_option maxHeartbeats 4000000
namespace Gk
open PySem PySem.Spec PyProof.Rows L2 Dl Ga
section
variable {pg : Program} {w : World} {K : PySem.W.Frag} {mg : Str → Option Value} {base : Heap}
local macro_rules | `(tactic| trivial) => `(tactic| first
  | with_reducible exact ev_int
  | with_reducible exact ev_str
  | with_reducible exact ev_bl
  | with_reducible exact ev_non
  | ((with_reducible apply ev_var) <;> rfl)
  | ((with_reducible apply evl_var) <;> rfl)
  | with_reducible exact eo_none
  | with_reducible apply eo_some
  | with_reducible apply ev_add
  | with_reducible apply ev_sub
  | with_reducible apply ev_cmp
  | with_reducible apply ev_chain rfl rfl
  | with_reducible apply ev_and
  | with_reducible apply ev_or
  | with_reducible apply ev_not
  | with_reducible apply ev_isN
  | with_reducible apply ev_notN
  | with_reducible apply ea_cons
  | with_reducible exact ea_nil
  | with_reducible apply et_B
  | with_reducible apply et_test
  | with_reducible apply et_not
  | with_reducible apply et_and
  | with_reducible apply et_or
  | with_reducible apply ev_ixT
  | with_reducible apply ev_tup
  | with_reducible apply ev_int1
  | with_reducible apply ev_str1
  | with_reducible apply isi_int_int
  | with_reducible apply isi_int_bool
  | with_reducible apply isi_str_str
  | with_reducible apply isi_tup_tup
  | with_reducible apply isi_lst_lst
  | with_reducible apply isi_dic_dic
  | with_reducible exact et_yes
  | intro _)
theorem draw_ret {many i : Int} (hm : 0 < many) (hi : 0 ≤ i) : EVr (tIf (tB (tLt (tVar 2) (tCB (rLenQ K) (tCons (tOp rPool (tVar 0) (tC (.int 0))) tNil)))) (tOp (rI (fun _ j => 0 < j) fun i j => .int (i % j)) (tCB rInt1 (tCons (tOp (rIxL K) (tOp rPool (tVar 0) (tC (.int 0))) (tVar 2)) tNil)) (tVar 1)) (tC (.int 0))) [.d .pl, .d (.int many), .d (.int i)] (fun d => ∃ j, d = .int j ∧ 0 ≤ j ∧ j < many) := fun B H σ S Q q => by
  obtain ⟨k, rfl⟩ := Int.eq_ofNat_of_zero_le hi
  obtain ⟨o0, s0, v0, rfl, r0⟩ := S.at_ 0 _ rfl
  obtain ⟨o1, s1, v1, rfl, r1⟩ := S.at_ 1 _ rfl
  obtain ⟨o2, s2, v2, rfl, r2⟩ := S.at_ 2 _ rfl
  cases r1
  cases r2
  cases r0 with
  | pl hp hq =>
    rename_i p q' ns
    have hpH := S.bh _ _ hp
    have hqH := S.bh _ _ hq
    have p0 : ∀ Q : VK, Q (.ref q') H → tOp rPool (tVar 0) (tC (.int 0)) σ H Q := fun Q k => ⟨_, s0, p, q', rfl, hpH, .inl ⟨rfl, k⟩⟩
    refine ⟨_, s2, p0 _ ⟨q', ns.map V.int, rfl, .inl (SqL.of hqH), ⟨(k : Nat), _, rfl, rfl, _, rfl, ?_⟩⟩⟩
    by_cases h : (k : Int) < ((ns.map V.int).length : Int)
    · show ite (decide ((k : Int) < ((ns.map V.int).length : Int)) = true) _ _
      rw [if_pos (decide_eq_true h)]
      refine p0 _ ⟨_, s2, ?_⟩
      have hk : k < ns.length := by
        rw [List.length_map] at h
        omega
      have e : atI (ns.map V.int) (k : Nat) = some (.int ns[k]) := L2.atI_nat (by rw [List.getElem?_map, List.getElem?_eq_getElem hk]; rfl)
      refine ⟨q', ns.map V.int, k, _, rfl, rfl, SqL.of hqH, e, .inl ⟨_, rfl, ⟨_, s1, ⟨_, many, rfl, rfl, hm, ?_⟩⟩⟩⟩
      exact q _ ⟨_, rfl, Int.emod_nonneg _ (by omega), Int.emod_lt_of_pos _ hm⟩ _ B H (Go.refl S.bh) (.int _)
    · show ite (decide ((k : Int) < ((ns.map V.int).length : Int)) = true) _ _
      rw [if_neg (by rw [decide_eq_false h]; exact Bool.false_ne_true)]
      exact (q _ ⟨0, rfl, Int.le_refl _, hm⟩ _ B H (Go.refl S.bh) (.int _))
theorem ev_pool1 {ρ : List Sl} {k : Nat} (hk : ρ[k]? = some (.d .pl)) : EVr (tOp rPool (tVar k) (tC (.int 1))) ρ (fun d => ∃ i, d = .int i ∧ 0 ≤ i) := fun B H σ S Q q => by
  obtain ⟨o0, s0, v0, rfl, r0⟩ := S.at_ k _ hk
  cases r0 with
  | pl hp hq =>
    rename_i p q' ns
    exact ⟨_, s0, p, q', rfl, S.bh _ _ hp, .inr ⟨rfl, fun i hi => q _ ⟨i, rfl, hi⟩ _ B H (Go.refl S.bh) (.int _)⟩⟩
theorem st_pool {ρ : List Sl} {k : Nat} {te : TE} {i : Int} (hk : ρ[k]? = some (.d .pl)) (h : EV te ρ (.int i)) (hi : 0 ≤ i) : ST (tAsg te (gSub (tVar k) (tC (.int 1)) rPoolSet)) ρ (.nx ρ) := fun Bm B0 H0 B H σ D S P => by
  obtain ⟨o0, s0, v0, rfl, r0⟩ := S.r.at_ k _ hk
  cases r0 with
  | pl hp hq =>
    rename_i p q' ns
    refine h B H σ S.r _ fun v B1 H1 g1 r1 => ?_
    cases r1
    exact ⟨_, s0, p, q', i, rfl, rfl, rfl, hi, g1.hh _ _ (S.r.bh _ _ hp), P B1 H1 σ (S.mono g1)⟩

abbrev N_law_draw : List Str := ["_law_pool_here", "_law_many", "_law_at"]
theorem sc_law_draw : FnScope N_law_draw ["_law_pool_here", "_law_many"] (defScope s_law_draw) := C8.fnScope_by (by decide +kernel)
def R_law_draw (ds : List Dat) (r : Dat) : Prop := ∃ (many i : Int), 0 < many ∧ ds = [.pl, .int many] ∧ r = .int i ∧ 0 ≤ i ∧ i < many
theorem p_law_draw (T : Tx K mg) : CaR pg w K mg base 1 "_law_draw" R_law_draw := by
  obtain ⟨fd, F⟩ := T.d_law_draw
  refine mkR (d := d_law_draw) F T.g__law_draw (F.bindsN (ps := ["_law_pool_here", "_law_many"]) fun kV doc pm an cdv ct us h => by
    match us, h with
    | [a, b], _ => rfl) sc_law_draw (by
    rintro ds r ⟨many, i0, hm, rfl, rfl, hi0⟩
    rfl) ?_
  rintro cdv A outer s H E hr ds r ⟨many, i0, hm, rfl, rfl, hi0⟩
  refine ⟨_, (pss_cons (ps_set (i := 2) sc_law_draw.nd rfl (by first | exact Or.inl rfl | exact Or.inr rfl) (pe_ix ix_pool (pv 0) pe_int (fun _ _ => rfl)))
      (pss_cons (ps_asg (pe_add (pv 2) pe_int) (pg_sub (pv 0) pe_int set_pool))
      (pss_one (ps_ret (pe_ifExp (pt_cmp (pc_lt (pv 2) (pe_callB (call_lenK (K := K)) (by rfl) T.f_len PySem.boot_len (pa_cons (pe_ix ix_pool (pv 0) pe_int (fun _ _ => rfl)) pa_nil)))) (pe_op op_mod (pe_callTy call_int1 (by rfl) T.f_int bo_int (pa_cons (pe_ix (ix_listK (K := K)) (pe_ix ix_pool (pv 0) pe_int (fun _ _ => rfl)) (pv 2) (fun _ _ => rfl)) pa_nil)) (pv 1)) pe_int))))), ?_⟩
  refine sts_asg (ev_pool1 rfl) fun d hd => ?_
  obtain ⟨i, rfl, hi⟩ := hd
  refine sts_seq (st_pool rfl (ev_add (ev_var rfl) ev_int) (by omega)) ((sts_ret (draw_ret hm hi)).mono fun o ho => ?_)
  obtain ⟨d, ⟨j, rfl, h1, h2⟩, rfl⟩ := ho
  exact ⟨_, ⟨many, j, hm, rfl, rfl, h1, h2⟩, rfl⟩

theorem EA.r {ρ : List Sl} {t : TA} {es : List Dat} (h : EA t ρ es) : EAr t ρ (fun z => z = es) := fun B H σ R Q q => h B H σ R Q fun vs B2 H2 g r => q es rfl vs B2 H2 g r
theorem evr_draw {ρ : List Sl} {t : TA} {E : XK} {n : Int} (h : EA t ρ [.pl, .int n]) (hn : 0 < n) : EVr (tCall (spR R_law_draw) [] E t) ρ (fun d => ∃ i, d = .int i ∧ 0 ≤ i ∧ i < n) := (evr_call (EA.r h) fun ds e => by
  subst e
  exact ⟨.int 0, n, 0, hn, rfl, rfl, Int.le_refl _, hn⟩).mono fun d ⟨ds, e, many, i, hm, e2, e3, h1⟩ => by
  subst e
  cases e2
  exact ⟨i, e3, h1⟩
/-- xs[i], i any place of xs -/
theorem evr_ixL {ρ : List Sl} {ta tb : TE} {xs : List Dat} (ha : EVL ta ρ xs) (hb : EVr tb ρ (fun d => ∃ i, d = .int i ∧ 0 ≤ i ∧ i < (xs.length : Int))) : EVr (tOp (rIxL K) ta tb) ρ (fun d => d ∈ xs) := fun B H σ R Q q =>
  ha B H σ R _ fun p vs B1 H1 g1 h1 r1 => hb B1 H1 σ (R.mono g1) _ fun d hd u B2 H2 g2 r2 => by
    obtain ⟨i, rfl, h0, h2⟩ := hd
    obtain ⟨k, rfl⟩ := Int.eq_ofNat_of_zero_le h0
    cases r2
    have hk : k < xs.length := by omega
    obtain ⟨w, h3, h4⟩ := atI_rep (n := (k : Int)) r1 (L2.atI_nat (List.getElem?_eq_getElem hk))
    exact ⟨_, _, _, w, rfl, rfl, SqL.of (g2.hh _ _ h1), h3, q _ (List.getElem_mem hk) w B2 H2 (g1.trans g2) (h4.mono g2.bb)⟩
/-- for k in range(n), n told only by a bound -/
theorem sts_forR {ρ : List Sl} {te : TE} {k : Nat} {t : TS} (N : Nat) (hN : N ≤ 1000) (Iv : Nat → List Sl → Prop) (O : Out → Prop) (h : EVr te ρ (fun d => ∃ i, d = .int i ∧ 0 ≤ i ∧ i < (N : Int))) (h0 : ∃ ρ0, Iv 0 ρ0 ∧ Wk ρ ρ0)
    (hb : ∀ i ρ, i < N → Iv i ρ → STs t (ρ.set k (.d (.int (i : Nat)))) (fun o => ∃ ρ2 ρ3, o = .nx ρ2 ∧ Wk ρ2 ρ3 ∧ Iv (i + 1) ρ3)) (hd : ∀ i ρ, i < N → Iv i ρ → O (.nx ρ)) : STs (tFor (iRng1 (tCons te tNil)) (gName k) t) ρ O := fun Bm B0 H0 B H σ D R P => h B H σ R.r _ fun d hd' v B1 H1 g1 r1 => by
  obtain ⟨n, rfl, n0, n1⟩ := hd'
  cases r1
  have z : STs (tFor (iRng1 (tCons (tC (.int n)) tNil)) (gName k) t) ρ O := sts_for (List.range n.toNat) (fun i => Dat.int (i : Nat)) Iv O (it_rng (ea_cons ev_int ea_nil) ⟨n0, by omega⟩) h0 (fun i ρ x hx hi => by
    have hlt := (List.getElem?_eq_some_iff.mp hx).1
    rw [List.length_range] at hlt
    rw [List.getElem?_range hlt] at hx
    cases hx
    exact ⟨_, _, gt_name, (hb i ρ (by omega) hi).mono fun o ho => .inl ho⟩) fun ρ hi => hd _ ρ (by rw [List.length_range]; omega) hi
  exact z Bm B0 H0 B1 H1 σ D (R.mono g1) P

abbrev N_law_pick : List Str := ["_law_pool_here", "_law_some"]
theorem sc_law_pick : FnScope N_law_pick ["_law_pool_here", "_law_some"] (defScope s_law_pick) := C8.fnScope_by (by decide +kernel)
def R_law_pick (ds : List Dat) (r : Dat) : Prop := ∃ xs : List Dat, ds = [.pl, .lst xs] ∧ r ∈ xs
theorem p_law_pick (T : Tx K mg) (c_law_draw : CaR pg w K mg base 1 "_law_draw" R_law_draw) : CaR pg w K mg base 2 "_law_pick" R_law_pick := by
  obtain ⟨fd, F⟩ := T.d_law_pick
  refine mkR (d := d_law_pick) F T.g__law_pick (F.bindsN (ps := ["_law_pool_here", "_law_some"]) fun kV doc pm an cdv ct us h => by
    match us, h with
    | [a, b], _ => rfl) sc_law_pick (by
    rintro ds r ⟨xs, rfl, hr0⟩
    rfl) ?_
  rintro cdv A outer s H E hr ds r ⟨xs, rfl, hr0⟩
  refine ⟨_, (pss_one (ps_ret (pe_ix (ix_listK (K := K)) (pv 1) (C8.pe_c c_law_draw hr (by decide) (by rfl) (pa_cons (pv 0) (pa_cons (pe_callB (call_lenK (K := K)) (by rfl) T.f_len PySem.boot_len (pa_cons (pv 1) pa_nil)) pa_nil))) (fun _ _ => rfl)))), ?_⟩
  refine (sts_ret (evr_ixL (ev_var rfl).l (evr_draw (ea_cons (ev_var rfl) (ea_cons (ev_lenL (ev_var rfl).l) ea_nil)) ?_))).mono fun o ho => ?_
  · have := List.length_pos_of_mem hr0
    omega
  · obtain ⟨d, hd, rfl⟩ := ho
    exact ⟨d, ⟨xs, rfl, hd⟩, rfl⟩

theorem evr_pick {ρ : List Sl} {t : TA} {E : XK} {xs : List Dat} (h : EA t ρ [.pl, .lst xs]) (hn : xs ≠ []) : EVr (tCall (spR R_law_pick) [] E t) ρ (fun d => d ∈ xs) := (evr_call (EA.r h) fun ds e => by
  subst e
  obtain ⟨x, hx⟩ := List.exists_mem_of_ne_nil xs hn
  exact ⟨x, xs, rfl, hx⟩).mono fun d ⟨ds, e, xs', e2, hm⟩ => by
  subst e
  cases e2
  exact hm
abbrev ltsD (k : Nat) : List Dat := (List.range k).map ltD
theorem ltsD_ne {k : Nat} (h : 2 ≤ k) : ltsD k ≠ [] := fun z => by
  have := congrArg List.length z
  simp at this
  omega
theorem mem_lts {k : Nat} {d : Dat} (h : d ∈ ltsD k) : ∃ n, n < k ∧ d = ltD n := by
  obtain ⟨n, hn, rfl⟩ := List.mem_map.mp h
  exact ⟨n, List.mem_range.mp hn, rfl⟩
def rowsAt (k i : Nat) (ρ : List Sl) : Prop := ∃ rs : List Ga.Row, (∀ q ∈ rs, WR q) ∧ rs.Nodup ∧ rs.length ≤ i ∧ ρ = [.d .pl, .d (.lst (ltsD k)), .l (rs.map rowD), .x, .x, .x, .x, .x]

theorem ET.r {ρ : List Sl} {tt : TT} {b : Bool} (h : ET tt ρ b) : ETr tt ρ (fun c => c = b) := fun B H σ R Q q => h B H σ R Q fun B2 H2 g => q b rfl B2 H2 g
theorem etr_of {ρ : List Sl} {tt : TT} {b : Bool} (h : ET tt ρ b) : ETr tt ρ (fun _ => True) := fun B H σ R Q q => h B H σ R Q fun B2 H2 g => q b trivial B2 H2 g
theorem sts_seqS {ρ : List Sl} {t u : TS} {O1 O : Out → Prop} (h : STs t ρ O1) (h2 : ∀ o, O1 o → ∃ ρ1, o = .nx ρ1 ∧ STs u ρ1 O) : STs (tSeq t u) ρ O := fun Bm B0 H0 B H σ D R P => h Bm B0 H0 B H σ { D with nx := u D } R fun o ho => by
  obtain ⟨ρ1, rfl, h3⟩ := h2 o ho
  exact fun B' H' σ' S' => h3 Bm B0 H0 B' H' σ' D S' P
/-- [..][i], the list any of its kind -/
theorem evr_ixR {ρ : List Sl} {ta tb : TE} {T : List Dat → Prop} {n : Nat} (ha : EVNr ta ρ T) (hb : EVr tb ρ (fun d => ∃ i, d = .int i ∧ 0 ≤ i ∧ i < (n : Int))) (hn : ∀ ds, T ds → ds.length = n) : EVr (tOp (rIxL K) ta tb) ρ (fun d => ∃ ds, T ds ∧ d ∈ ds) := fun B H σ R Q q =>
  ha B H σ R _ fun ds hds p vs B1 H1 g1 hp n1 h1 r1 => hb B1 H1 σ (R.mono g1) _ fun d hd u B2 H2 g2 r2 => by
    obtain ⟨i, rfl, h0, h2⟩ := hd
    obtain ⟨k, rfl⟩ := Int.eq_ofNat_of_zero_le h0
    cases r2
    have hk : k < ds.length := by rw [hn ds hds]; omega
    obtain ⟨w, h3, h4⟩ := atI_rep (n := (k : Int)) r1 (L2.atI_nat (List.getElem?_eq_getElem hk))
    exact ⟨_, _, _, w, rfl, rfl, SqL.of (g2.hh _ _ h1), h3, q _ ⟨ds, hds, List.getElem_mem hk⟩ w B2 H2 (g1.trans g2) (h4.mono g2.bb)⟩
/-- xs[..: i] -/
theorem evr_sl {ρ : List Sl} {te : TE} {tlo thi : TO} {lo : Option Int} {S : List Dat → Prop} {T : Int → Prop} (h : EVr te ρ (fun d => ∃ ds, d = .lst ds ∧ S ds)) (h1 : EO tlo ρ lo) (h2 : EOr thi ρ T) : EVr (tSl (rSlL K) te tlo thi) ρ (fun d => ∃ ds i, d = .lst (cutD ds lo (some i)) ∧ S ds ∧ T i) := fun B H σ R Q q => h B H σ R _ fun d hd v B1 H1 g1 r1 => by
  obtain ⟨ds, rfl, hs⟩ := hd
  cases r1 with
  | lst a1 r1 =>
    rename_i p vs
    exact h1 B1 H1 σ (R.mono g1) _ fun B2 H2 g2 => h2 B2 H2 σ (R.mono (g1.trans g2)) _ fun i hi B3 H3 g3 =>
      ⟨p, vs, rfl, SqL.of (g3.hh _ _ (g2.hh _ _ (g1.bh _ _ a1))), fun t ht => q _ ⟨ds, i, rfl, hs, hi⟩ _ _ _ (((g1.trans g2).trans g3).trans (Go.new g3.bh ht)) (.lst upd_same (((r1.mono (g2.trans g3).bb).cut lo (some i)).mono (Evl.Ex.new (free_of g3.bh ht))))⟩
theorem cut_from {ds : List Dat} {i : Nat} (h : i ≤ ds.length) : Dl.cutD ds (some (i : Int)) none = ds.drop i := by
  unfold Dl.cutD
  rw [HT.sIx_nat, HT.sIx_none, Nat.min_eq_left h, List.take_of_length_le (by rw [List.length_drop]; omega)]
theorem evr_eqI {ρ : List Sl} {ta tb : TE} {T1 T2 : Int → Prop} (ha : EVr ta ρ (fun d => ∃ i, d = .int i ∧ T1 i)) (hb : EVr tb ρ (fun d => ∃ i, d = .int i ∧ T2 i)) : EVr (tOp rEq ta tb) ρ (fun d => ∃ b, d = .bl b) := fun B H σ R Q q =>
  ha B H σ R _ fun d hd v B1 H1 g1 r1 => hb B1 H1 σ (R.mono g1) _ fun e he u B2 H2 g2 r2 => by
    obtain ⟨i, rfl, hi⟩ := hd
    obtain ⟨j, rfl, hj⟩ := he
    cases r1
    cases r2
    refine ⟨rfl, ?_⟩
    have e : decide (V.int i = V.int j) = decide (i = j) := by simp
    rw [e]
    exact q _ ⟨_, rfl⟩ _ B2 H2 (g1.trans g2) (.bl _)
theorem evr_intB {ρ : List Sl} {ta : TE} (h : EVr ta ρ (fun d => ∃ b, d = .bl b)) : EVr (tCB rInt1 (tCons ta tNil)) ρ (fun d => ∃ i, d = .int i ∧ 0 ≤ i ∧ i ≤ 1) := fun B H σ R Q q =>
  h B H σ R _ fun d hd v B1 H1 g1 r1 => by
    obtain ⟨b, rfl⟩ := hd
    cases r1
    exact .inr ⟨b, rfl, q _ ⟨_, rfl, by cases b <;> decide⟩ _ B1 H1 g1 (.int _)⟩
theorem ev_ofI {ρ : List Sl} {te : TE} {i : Int} (h : EV te ρ (.int i)) : EVr te ρ (fun d => ∃ j, d = .int j ∧ j = i) := EV.r h ⟨i, rfl, rfl⟩
/-- {k: e, ..}, data of their kinds -/
def EPr (trs : List (TE × TE)) (ρ : List Sl) (S : List (Key × Dat) → Prop) : Prop := ∀ (B H : Hp) (σ : L2.St), SR B H σ ρ → ∀ Q : List (V × V) → Hp → Prop, (∀ kds, S kds → ∀ kvs B2 H2, Go B H B2 H2 → RepKs B2 kvs kds → Q (kvs.map fun z => (kV z.1, z.2)) H2) → tPairs trs σ H Q
theorem epr_nil {ρ : List Sl} : EPr [] ρ (fun z => z = []) := fun B H σ S Q q => q [] rfl [] B H (Go.refl S.bh) trivial

theorem epr_cons {ρ : List Sl} {tk tv : TE} {trs : List (TE × TE)} {x : Key} {S : Dat → Prop} {U : List (Key × Dat) → Prop} (hk : EV tk ρ (keyD x)) (hv : EVr tv ρ S) (hr : EPr trs ρ U) : EPr ((tk, tv) :: trs) ρ (fun z => ∃ d r, z = (x, d) :: r ∧ S d ∧ U r) := fun B H σ R Q q =>
  hk B H σ R _ fun y B1 H1 g1 r1 => hv B1 H1 σ (R.mono g1) _ fun d hd v B2 H2 g2 r2 => hr B2 H2 σ (R.mono (g1.trans g2)) _ fun kds hkd kvs B3 H3 g3 r3 => by
    have e := key_of r1
    subst e
    exact q ((x, d) :: kds) ⟨d, kds, rfl, hd, hkd⟩ ((x, v) :: kvs) B3 H3 ((g1.trans g2).trans g3) ⟨rfl, r2.mono g3.bb, r3⟩
theorem evr_disp {ρ : List Sl} {trs : List (TE × TE)} {U : List (Str × Dat) → Prop} (h : EPr trs ρ (fun z => ∃ kvs : List (Str × Dat), z = kvs.map (fun p => (.inr p.1, p.2)) ∧ U kvs)) (hn : ∀ kvs, U kvs → (kvs.map (·.1)).Nodup ∧ kvs.length ≤ 15) : EVr (tDisp trs) ρ (fun d => ∃ kvs, d = .dic kvs ∧ U kvs) := fun B H σ S Q q => fun p hp => by
  have g0 : Go B H B (upd H p (.dK [])) := Go.own S.bh hp
  refine h B _ σ (S.mono g0) _ fun kds hkd kvs B2 H2 g2 r2 => ?_
  obtain ⟨ss, rfl, hu⟩ := hkd
  have hp2 : H2 p = some (.dK []) := g2.hh _ _ upd_same
  have n2 : B2 p = none := g2.no _ _ upd_same (free_of S.bh hp)
  have nd : (kvs.map (·.1)).Nodup := by
    rw [repks_keys r2, List.map_map]
    have z := (hn ss hu).1
    have e : ss.map ((fun x : Key × Dat => x.1) ∘ fun p => (Sum.inr p.1, p.2)) = (ss.map (·.1)).map .inr := by
      rw [List.map_map]
      rfl
    rw [e]
    exact List.pairwise_map.mpr (z.imp fun h e => h (Sum.inr.inj e))
  have em : mergeK [] kvs = kvs := (merge_app nd (by simp)).trans rfl
  have g3 : Go B H B2 (upd H2 p (.dK kvs)) := ⟨Evl.Ex.mut (g0.trans g2).hh hp, (g0.trans g2).bb, Evl.Ex.mut g2.bh n2, (g0.trans g2).no⟩
  refine ⟨hp2, kvs, rfl, by rw [repks_len r2, List.length_map]; exact (hn ss hu).2, ?_⟩
  rw [em]
  exact q _ ⟨ss, rfl, hu⟩ (.ref p) _ _ (g3.keep hp n2 upd_same) (.dic upd_same ((repks_str r2).mono (Evl.Ex.new n2)))
theorem EPr.mono {ρ : List Sl} {trs : List (TE × TE)} {U U2 : List (Key × Dat) → Prop} (h : EPr trs ρ U) (hu : ∀ z, U z → U2 z) : EPr trs ρ U2 := fun B H σ R Q q => h B H σ R Q fun kds hk => q kds (hu _ hk)

abbrev N_law_rows_drawn : List Str := ["_law_pool_here", "_law_letters", "_law_rows", "_law_turn", "_law_one", "_law_other", "_law_since", "_law_till"]
theorem sc_law_rows_drawn : FnScope N_law_rows_drawn ["_law_pool_here", "_law_letters"] (defScope s_law_rows_drawn) := C8.fnScope_by (by decide +kernel)
def R_law_rows_drawn (ds : List Dat) (r : Dat) : Prop := ∃ (k : Nat) (rs : List Ga.Row), 2 ≤ k ∧ k ≤ 4 ∧ ds = [.pl, .lst (ltsD k)] ∧ r = .lst (rs.map rowD) ∧ (∀ q ∈ rs, WR q) ∧ rs.Nodup ∧ rs.length ≤ 6
theorem p_law_rows_drawn (T : Tx K mg) (c_law_draw : CaR pg w K mg base 1 "_law_draw" R_law_draw) (c_law_pick : CaR pg w K mg base 2 "_law_pick" R_law_pick) : CaR pg w K mg base 3 "_law_rows_drawn" R_law_rows_drawn := by
  obtain ⟨fd, F⟩ := T.d_law_rows_drawn
  refine mkR (d := d_law_rows_drawn) F T.g__law_rows_drawn (F.bindsN (ps := ["_law_pool_here", "_law_letters"]) fun kV doc pm an cdv ct us h => by
    match us, h with
    | [a, b], _ => rfl) sc_law_rows_drawn (by
    rintro ds r ⟨k, rs0, hk2, hk4, rfl, rfl, hrs0⟩
    rfl) ?_
  rintro cdv A outer s H E hr ds r ⟨k, rs0, hk2, hk4, rfl, rfl, hrs0⟩
  refine ⟨_, (pss_cons (ps_set (i := 2) sc_law_rows_drawn.nd rfl (by first | exact Or.inl rfl | exact Or.inr rfl) (pe_lst pa_nil))
      (pss_cons (ps_for PassesOwn.never rfl (pi_range1 (by rfl) T.f_range (pa_cons (C8.pe_c c_law_draw hr (by decide) (by rfl) (pa_cons (pv 0) (pa_cons pe_int pa_nil))) pa_nil)) (pg_name (i := 3) sc_law_rows_drawn.nd rfl (by first | exact Or.inl rfl | exact Or.inr rfl)) (pss_cons (ps_par3 (i := 4) (j := 5) (l := 6) (by rfl) sc_law_rows_drawn.nd rfl rfl rfl (by decide) (by decide) (by decide) rfl rfl rfl (pa_cons (C8.pe_c c_law_pick hr (by decide) (by rfl) (pa_cons (pv 0) (pa_cons (pv 1) pa_nil))) (pa_cons (C8.pe_c c_law_pick hr (by decide) (by rfl) (pa_cons (pv 0) (pa_cons (pv 1) pa_nil))) (pa_cons (C8.pe_c c_law_draw hr (by decide) (by rfl) (pa_cons (pv 0) (pa_cons pe_int pa_nil))) pa_nil))) (by rfl))
      (pss_cons (ps_set (i := 7) sc_law_rows_drawn.nd rfl (by first | exact Or.inl rfl | exact Or.inr rfl) (pe_ix (ix_listK (K := K)) (pe_lst (pa_cons pe_non (pa_cons (pe_add (pv 6) (C8.pe_c c_law_draw hr (by decide) (by rfl) (pa_cons (pv 0) (pa_cons pe_int pa_nil)))) pa_nil))) (C8.pe_c c_law_draw hr (by decide) (by rfl) (pa_cons (pv 0) (pa_cons pe_int pa_nil))) (fun _ _ => rfl)))
      (pss_one (ps_if (PW.pt (pw_and (pt_cmpR op_ne (pv 4) (pv 5) (nomark _)) (pw_and1 (pt_cmpR (op_notInDK (K := K) (hu65 hr)) (pe_tup (pa_cons (pv 4) (pa_cons (pv 5) (pa_cons (pv 6) (pa_cons (pv 7) pa_nil))))) (pv 2) (by rfl))))) (pss_one (ps_expr (pe_bm PySem.F.plainAttrs_list PySem.F.slot_list_append PySem.F.type_list_append mt_append (pv 2) (pa_cons (pe_tup (pa_cons (pv 4) (pa_cons (pv 5) (pa_cons (pv 6) (pa_cons (pv 7) pa_nil))))) pa_nil)))) pss_nil)))))
      (pss_one (ps_ret (pv 2))))), ?_⟩
  refine sts_seq (st_asgN (k := 2) (evn_lst (ds := []) ea_nil)) ?_
  refine sts_seqS (O1 := fun o => ∃ i ρ, i < 7 ∧ rowsAt k i ρ ∧ o = .nx ρ) (sts_forR (k := 3) 7 (by decide) (rowsAt k) _ (evr_draw (ea_cons (ev_var rfl) (ea_cons ev_int ea_nil)) (by decide)) ⟨_, ⟨[], (fun _ h => nomatch h), List.nodup_nil, Nat.zero_le _, rfl⟩, Wk.refl _⟩ ?_ fun i ρ hi h => ⟨i, ρ, hi, h, rfl⟩) ?_
  · rintro i ρ hi ⟨rs, hw, hn, hl, rfl⟩
    refine sts_par3 (ear_cons (evr_pick (ea_cons (ev_var rfl) (ea_cons (ev_var rfl) ea_nil)) (ltsD_ne hk2)) (ear_cons (evr_pick (ea_cons (ev_var rfl) (ea_cons (ev_var rfl) ea_nil)) (ltsD_ne hk2)) (ear_cons (evr_draw (ea_cons (ev_var rfl) (ea_cons ev_int ea_nil)) (by decide)) ear_nil))) fun ds hds => ?_
    obtain ⟨d1, r1, rfl, h1, d2, r2, rfl, h2, d3, r3, rfl, ⟨s, rfl, s0, s4⟩, rfl⟩ := hds
    obtain ⟨a, ha, rfl⟩ := mem_lts h1
    obtain ⟨b, hb, rfl⟩ := mem_lts h2
    refine ⟨_, _, _, rfl, ?_⟩
    refine sts_asg (evr_ixR (n := 2) (evnr_lst (ear_cons (EV.r (S := fun d => d = .non) ev_non rfl) (ear_cons (evr_add (ev_ofI (i := s) (ev_var rfl)) (evr_draw (n := 3) (ea_cons (ev_var rfl) (ea_cons ev_int ea_nil)) (by decide))) ear_nil)) fun ds hds => ?_) (evr_draw (ea_cons (ev_var rfl) (ea_cons ev_int ea_nil)) (by decide)) fun ds hds => ?_) fun d hd => ?_
    · obtain ⟨_, _, rfl, _, _, _, rfl, _, rfl⟩ := hds
      show 2 ≤ 100000
      decide
    · obtain ⟨_, _, rfl, _, _, _, rfl, _, rfl⟩ := hds
      rfl
    have ht : ∃ t : Option Int, d = optD t ∧ ∀ t', t = some t' → s ≤ t' ∧ t' ≤ 5 := by
      obtain ⟨_, ⟨e1, _, rfl, rfl, e2, _, rfl, ⟨i1, j1, rfl, rfl, hj0, hj3⟩, rfl⟩, hm⟩ := hd
      rcases List.mem_cons.mp hm with rfl | hm
      · exact ⟨none, rfl, fun _ z => nomatch z⟩
      · rw [List.mem_singleton] at hm
        subst hm
        exact ⟨some _, rfl, fun t' z => by cases z; omega⟩
    obtain ⟨t, rfl, ht⟩ := ht
    have wq : a ≠ b → WR ⟨a, b, s, t⟩ := fun h => ⟨by show a < 4; omega, by show b < 4; omega, h, by show 0 ≤ s ∧ s ≤ 3; omega, ht⟩
    refine sts_if (T := fun c => c = (!decide (Ga.P a = Ga.P b) && !((rs.map rowD).any fun z => eqD z (rowD ⟨a, b, s, t⟩)))) (ET.r (et_and (et_B (ev_neS (ev_var rfl) (ev_var rfl))) fun h => et_B (ev_niD (d := rowD ⟨a, b, s, t⟩) (ds := rs.map rowD) (ev_tup (by repeat' trivial)) (evl_var rfl) ((ok_row (wq fun z => ?_)).shp (by omega)) ((ok_lst (n := 1) fun d hd => ?_).shp (by omega))))) (fun h => ?_) fun h => ?_
    · subst z
      simp at h
    · obtain ⟨z, hz, e⟩ := List.mem_map.mp hd
      exact e ▸ ok_row (hw z hz)
    · have h := h.symm
      rw [Bool.and_eq_true] at h
      have hne : a ≠ b := fun z => by
        subst z
        simp at h
      have hni : (⟨a, b, s, t⟩ : Ga.Row) ∉ rs := fun z => by
        have h2 := h.2
        rw [List.any_map] at h2
        have h3 : (rs.any ((fun z => eqD z (rowD ⟨a, b, s, t⟩)) ∘ rowD)) = true := List.any_eq_true.mpr ⟨_, z, by rw [Function.comp_apply, eqD_row]; exact decide_eq_true rfl⟩
        rw [h3] at h2
        cases h2
      refine (st_app (k := 2) (ds := rs.map rowD) (d := rowD ⟨a, b, s, t⟩) rfl (ev_tup (by repeat' trivial)) (by rw [List.length_map]; omega)).s ⟨_, [.d .pl, .d (.lst (ltsD k)), .l (rs.map rowD ++ [rowD ⟨a, b, s, t⟩]), .x, .x, .x, .x, .x], rfl, .same (.same (.same (.fog (.fog (.fog (.fog (.fog .nil))))))), rs ++ [⟨a, b, s, t⟩], fun q hq => ?_, ?_, ?_, ?_⟩
      · rcases List.mem_append.mp hq with hq | hq
        · exact hw q hq
        · rw [List.mem_singleton.mp hq]
          exact wq hne
      · exact List.nodup_append.mpr ⟨hn, (List.nodup_cons.mpr ⟨(fun h => nomatch h), List.nodup_nil⟩), fun x hx y hy z => hni (by rw [List.mem_singleton.mp hy] at z; exact z ▸ hx)⟩
      · rw [List.length_append]
        exact Nat.succ_le_succ hl
      · rw [List.map_append]
        rfl
    · exact sts_next ⟨_, _, rfl, .same (.same (.same (.fog (.fog (.fog (.fog (.fog .nil))))))), rs, hw, hn, Nat.le_succ_of_le hl, rfl⟩
  · rintro o ⟨i, ρ, hi, ⟨rs, hw, hn, hl, rfl⟩, rfl⟩
    exact ⟨_, rfl, (st_retL rfl).s ⟨_, ⟨k, rs, hk2, hk4, rfl, rfl, hw, hn, by omega⟩, rfl⟩⟩

theorem evr_rows {ρ : List Sl} {t : TA} {E : XK} {k : Nat} (h : EA t ρ [.pl, .lst (ltsD k)]) (h2 : 2 ≤ k) (h4 : k ≤ 4) : EVr (tCall (spR R_law_rows_drawn) [] E t) ρ (fun d => ∃ rs : List Ga.Row, d = .lst (rs.map rowD) ∧ (∀ q ∈ rs, WR q) ∧ rs.Nodup ∧ rs.length ≤ 6) := (evr_call (EA.r h) fun ds e => by
  subst e
  exact ⟨_, k, [], h2, h4, rfl, rfl, (fun _ h => nomatch h), List.nodup_nil, Nat.zero_le _⟩).mono fun d ⟨ds, e, k', rs, _, _, e2, e3, h3⟩ => by
  exact ⟨rs, e3, h3⟩
theorem let_cut {j : Int} (h0 : 0 ≤ j) (h3 : j < 3) : ∃ k : Nat, 2 ≤ k ∧ k ≤ 4 ∧ cutD [.str "a", .str "b", .str "c", .str "d"] none (some (2 + j)) = ltsD k := by
  have : j = 0 ∨ j = 1 ∨ j = 2 := by omega
  rcases this with rfl | rfl | rfl
  · exact ⟨2, by decide, by decide, rfl⟩
  · exact ⟨3, by decide, by decide, rfl⟩
  · exact ⟨4, by decide, by decide, rfl⟩
abbrev wdsD (m : Nat) : List Dat := (List.range m).map fun i => ltD (23 + i)
theorem wds_cut {j : Int} (h0 : 0 ≤ j) (h3 : j < 3) : ∃ m : Nat, 1 ≤ m ∧ m ≤ 3 ∧ cutD [.str "x", .str "y", .str "z"] none (some (1 + j)) = wdsD m := by
  have : j = 0 ∨ j = 1 ∨ j = 2 := by omega
  rcases this with rfl | rfl | rfl
  · exact ⟨1, by decide, by decide, rfl⟩
  · exact ⟨2, by decide, by decide, rfl⟩
  · exact ⟨3, by decide, by decide, rfl⟩
/-- the places that the plan draws -/
theorem pls_of (T : Nat → Dat → Prop) (hT : ∀ i d, T i d → ∃ p n, p < 4 ∧ (1 ≤ n ∧ n ≤ 2) ∧ d = plcD ⟨23 + i, p, n⟩) (m : Nat) (ds : List Dat) (hl : ds.length = (List.range m).length) (h : ∀ (i : Nat) x, (List.range m)[i]? = some x → ∃ d, ds[i]? = some d ∧ T x d) :
    ∃ pl : List Plc, ds = pl.map plcD ∧ pl.map (·.w) = (List.range m).map (fun i => 23 + i) ∧ ∀ x ∈ pl, x.p < 4 ∧ 1 ≤ x.n ∧ x.n ≤ 2 := by
  induction m generalizing ds with
  | zero =>
    have : ds = [] := List.length_eq_zero_iff.mp hl
    subst this
    exact ⟨[], rfl, rfl, fun _ h => nomatch h⟩
  | succ m ih =>
    rw [List.length_range] at hl
    have e : ds = ds.take m ++ [ds[m]'(by omega)] := by
      rw [← List.take_succ_eq_append_getElem (by omega), List.take_of_length_le (by omega)]
    obtain ⟨pl, h1, h2, h3⟩ := ih (ds.take m) (by rw [List.length_take, List.length_range]; omega) fun i x hx => by
      have hi := (List.getElem?_eq_some_iff.mp hx).1
      rw [List.length_range] at hi
      rw [List.getElem?_range hi] at hx
      obtain ⟨d, h4, h5⟩ := h i x (by rw [List.getElem?_range (by omega)]; exact hx)
      exact ⟨d, by rw [List.getElem?_take_of_lt hi]; exact h4, h5⟩
    obtain ⟨d, h4, h5⟩ := h m m (List.getElem?_range (by omega))
    have e2 : ds[m]'(by omega) = d := by
      rw [List.getElem?_eq_getElem (by omega)] at h4
      exact Option.some.inj h4
    obtain ⟨p, n, hp, hn, e3⟩ := hT m d h5
    refine ⟨pl ++ [⟨23 + m, p, n⟩], ?_, ?_, fun x hx => ?_⟩
    · rw [e, e2, h1, e3, List.map_append]
      rfl
    · rw [List.map_append, h2, List.range_succ, List.map_append]
      rfl
    · rcases List.mem_append.mp hx with hx | hx
      · exact h3 x hx
      · rw [List.mem_singleton.mp hx]
        exact ⟨hp, hn⟩

abbrev N_law_plan : List Str := ["_law_pool_here", "_law_most_so", "_law_letters", "_law_words", "_law_places", "_law_word", "_law_rows"]
theorem sc_law_plan : FnScope N_law_plan ["_law_pool_here", "_law_most_so"] (defScope s_law_plan) := C8.fnScope_by (by decide +kernel)
def R_law_plan (ds : List Dat) (r : Dat) : Prop := ∃ p : Plan, WPlan p ∧ p.rw.length ≤ 6 ∧ ds = [.pl, .int 3] ∧ r = planD p
theorem p_law_plan (T : Tx K mg) (c_law_draw : CaR pg w K mg base 1 "_law_draw" R_law_draw) (c_law_pick : CaR pg w K mg base 2 "_law_pick" R_law_pick) (c_law_rows_drawn : CaR pg w K mg base 3 "_law_rows_drawn" R_law_rows_drawn) : CaR pg w K mg base 4 "_law_plan" R_law_plan := by
  obtain ⟨fd, F⟩ := T.d_law_plan
  refine mkR (d := d_law_plan) F T.g__law_plan (F.bindsN (ps := ["_law_pool_here", "_law_most_so"]) fun kV doc pm an cdv ct us h => by
    match us, h with
    | [a, b], _ => rfl) sc_law_plan (by
    rintro ds r ⟨p0, wp0, hl0, rfl, rfl⟩
    rfl) ?_
  rintro cdv A outer s H E hr ds r ⟨p0, wp0, hl0, rfl, rfl⟩
  refine ⟨_, (pss_cons (ps_set (i := 2) sc_law_plan.nd rfl (by first | exact Or.inl rfl | exact Or.inr rfl) (pe_slice (sl_listK (K := K)) (pe_lst (pa_cons pe_str (pa_cons pe_str (pa_cons pe_str (pa_cons pe_str pa_nil))))) po_none (po_some (pe_add pe_int (C8.pe_c c_law_draw hr (by decide) (by rfl) (pa_cons (pv 0) (pa_cons pe_int pa_nil)))))))
      (pss_cons (ps_set (i := 3) sc_law_plan.nd rfl (by first | exact Or.inl rfl | exact Or.inr rfl) (pe_slice (sl_listK (K := K)) (pe_lst (pa_cons pe_str (pa_cons pe_str (pa_cons pe_str pa_nil)))) po_none (po_some (pe_add pe_int (C8.pe_c c_law_draw hr (by decide) (by rfl) (pa_cons (pv 0) (pa_cons (pv 1) pa_nil)))))))
      (pss_cons (ps_setLc (i := 4) rfl sc_law_plan.nd rfl rfl (sw_true rfl rfl rfl (by decide +kernel)) (pi_listK (K := K) (pv 3)) (blkOk_by (own := [("_law_word", 5)]) (N := N_law_plan) (sc := defScope s_law_plan) (by decide +kernel)) (fun _ _ _ _ _ => (pg_name (i := 5) sc_law_plan.nd rfl (by first | exact Or.inl rfl | exact Or.inr rfl))) (fun _ _ _ _ _ => pts_nil) (fun _ _ _ _ _ => (pe_tup (pa_cons (pv 5) (pa_cons (C8.pe_c c_law_pick hr (by decide) (by rfl) (pa_cons (pv 0) (pa_cons (pv 2) pa_nil))) (pa_cons (pe_add pe_int (pe_callTy call_int1 (by rfl) T.f_int bo_int (pa_cons (pe_cmpR op_eq (C8.pe_c c_law_draw hr (by decide) (by rfl) (pa_cons (pv 0) (pa_cons pe_int pa_nil))) pe_int (nomark _)) pa_nil))) (pa_cons pe_non pa_nil)))))))
      (pss_cons (ps_set (i := 6) sc_law_plan.nd rfl (by first | exact Or.inl rfl | exact Or.inr rfl) (C8.pe_c c_law_rows_drawn hr (by decide) (by rfl) (pa_cons (pv 0) (pa_cons (pv 2) pa_nil))))
      (pss_one (ps_ret (pe_disp (pps_cons pe_str (pv 4) (pps_cons pe_str (pv 6) (pps_cons pe_str (pe_cmpR op_eq (C8.pe_c c_law_draw hr (by decide) (by rfl) (pa_cons (pv 0) (pa_cons pe_int pa_nil))) pe_int (nomark _)) (pps_cons pe_str (pv 2) pps_nil)))) rfl rfl (by simp) (by decide)))))))), ?_⟩
  refine sts_asg (evr_sl (lo := none) (S := fun z => z = [.str "a", .str "b", .str "c", .str "d"]) (EV.r (evn_lst (by repeat' trivial)).ev ⟨_, rfl, rfl⟩) eo_none (eor_some (T := fun i => ∃ j, i = 2 + j ∧ 0 ≤ j ∧ j < 3) ((evr_add (ev_ofI (i := 2) ev_int) (evr_draw (n := 3) (ea_cons (ev_var rfl) (ea_cons ev_int ea_nil)) (by decide))).mono ?_))) fun d hd => ?_
  · rintro d ⟨i, j, rfl, rfl, h⟩
    exact ⟨_, rfl, j, rfl, h⟩
  obtain ⟨_, _, rfl, rfl, j, rfl, hj0, hj3⟩ := hd
  obtain ⟨k, hk2, hk4, ek⟩ := let_cut hj0 hj3
  rw [ek]
  refine sts_asg (evr_sl (lo := none) (S := fun z => z = [.str "x", .str "y", .str "z"]) (EV.r (evn_lst (by repeat' trivial)).ev ⟨_, rfl, rfl⟩) eo_none (eor_some (T := fun i => ∃ j, i = 1 + j ∧ 0 ≤ j ∧ j < 3) ((evr_add (ev_ofI (i := 1) ev_int) (evr_draw (n := 3) (ea_cons (ev_var rfl) (ea_cons (ev_var rfl) ea_nil)) (by decide))).mono ?_))) fun d hd => ?_
  · rintro d ⟨i, j, rfl, rfl, h⟩
    exact ⟨_, rfl, j, rfl, h⟩
  obtain ⟨_, _, rfl, rfl, j2, rfl, hi0, hi3⟩ := hd
  obtain ⟨m, hm1, hm3, em⟩ := wds_cut hi0 hi3
  rw [em]
  refine sts_asg (EVNr.ev (evnr_lc (vs := [5]) (List.range m) (fun i => ltD (23 + i)) (fun i d => ∃ p n, p < 4 ∧ (1 ≤ n ∧ n ≤ 2) ∧ d = plcD ⟨23 + i, p, n⟩) (it_list (ev_var rfl)).o (by rw [List.length_range]; omega) fun i hi => ⟨_, _, gt_name, fun i hi => hi, et_yes, (evr_tup (ear_cons (EV.r (S := fun d => d = ltD (23 + i)) (ev_var rfl) rfl) (ear_cons (evr_pick (ea_cons (ev_var rfl) (ea_cons (ev_var rfl) ea_nil)) (ltsD_ne hk2)) (ear_cons (evr_add (ev_ofI (i := 1) ev_int) (evr_intB (evr_eqI (evr_draw (n := 4) (ea_cons (ev_var rfl) (ea_cons ev_int ea_nil)) (by decide)) (ev_ofI (i := 0) ev_int)))) (ear_cons (EV.r (S := fun d => d = .non) ev_non rfl) ear_nil)))) ?_).mono ?_⟩)) fun d hd => ?_
  · rintro _ ⟨_, _, rfl, _, _, _, rfl, _, _, _, rfl, _, _, _, rfl, _, rfl⟩
    show 4 ≤ 100000
    decide
  · rintro _ ⟨_, rfl, _, _, rfl, rfl, _, _, rfl, h1, _, _, rfl, ⟨_, n, rfl, rfl, hn0, hn1⟩, _, _, rfl, rfl, rfl⟩
    obtain ⟨p, hp, rfl⟩ := mem_lts h1
    exact ⟨p, 1 + n, by omega, by omega, rfl⟩
  obtain ⟨_, rfl, hl, hd⟩ := hd
  obtain ⟨pl, rfl, hw, hp⟩ := pls_of _ (fun _ _ h => h) m _ hl hd
  refine sts_asg (evr_rows (k := k) (ea_cons (ev_var rfl) (ea_cons (ev_var rfl) ea_nil)) hk2 hk4) fun d hd => ?_
  obtain ⟨rs, rfl, hrw, hrn, hrl⟩ := hd
  refine (sts_ret (evr_disp (U := fun z : List (Str × Dat) => ∃ b : Bool, z = ([("places", .lst (pl.map plcD)), ("rows", .lst (rs.map rowD)), ("deep", .bl b), ("letters", .lst (ltsD k))] : List (Str × Dat))) ((epr_cons (x := .inr "places") ev_str (EV.r (S := fun d => d = .lst (pl.map plcD)) (ev_var rfl) rfl) (epr_cons (x := .inr "rows") ev_str (EV.r (S := fun d => d = .lst (rs.map rowD)) (ev_var rfl) rfl) (epr_cons (x := .inr "deep") ev_str (evr_eqI (evr_draw (n := 3) (ea_cons (ev_var rfl) (ea_cons ev_int ea_nil)) (by decide)) (ev_ofI (i := 0) ev_int)) (epr_cons (x := .inr "letters") ev_str (EV.r (S := fun d => d = .lst (ltsD k)) (ev_var rfl) rfl) epr_nil)))).mono ?_) ?_)).mono fun o ho => ?_
  · rintro _ ⟨_, _, rfl, rfl, _, _, rfl, rfl, _, _, rfl, ⟨b, rfl⟩, _, _, rfl, rfl, rfl⟩
    exact ⟨_, rfl, b, rfl⟩
  · rintro _ ⟨b, rfl⟩
    exact ⟨show (["places", "rows", "deep", "letters"] : List Str).Nodup by decide, show 4 ≤ 15 by decide⟩
  · obtain ⟨_, ⟨_, rfl, b, rfl⟩, rfl⟩ := ho
    have hlen : pl.length = m := by
      have := congrArg List.length hw
      simpa using this
    refine ⟨_, ⟨⟨pl, rs, b, k⟩, ⟨⟨fun x hx => ⟨?_, (hp x hx).1, (hp x hx).2⟩, ?_, ?_, hrw, ?_⟩, ?_, hrn, hk2, hk4⟩, hrl, rfl, rfl⟩, rfl⟩
    · have : x.w ∈ (List.range m).map (fun i => 23 + i) := hw ▸ List.mem_map.mpr ⟨x, hx, rfl⟩
      obtain ⟨i, hi, e⟩ := List.mem_map.mp this
      have := List.mem_range.mp hi
      omega
    · show (pl.map (·.w)).Nodup
      rw [hw]
      exact List.pairwise_map.mpr (List.nodup_range.imp fun h e => h (by omega))
    · show pl.length ≤ 3
      omega
    · show rs.length ≤ 12
      omega
    · show pl ≠ []
      intro z
      rw [z] at hlen
      simp at hlen
      omega

theorem evr_plan {ρ : List Sl} {t : TA} {E : XK} (h : EA t ρ [.pl, .int 3]) : EVr (tCall (spR R_law_plan) [] E t) ρ (fun d => ∃ p : Plan, d = planD p ∧ WPlan p ∧ p.rw.length ≤ 6) := (evr_call (EA.r h) fun ds e => by
  subst e
  refine ⟨_, ⟨[⟨23, 0, 1⟩], [], false, 2⟩, ⟨⟨fun x hx => ?_, (List.nodup_cons.mpr ⟨(fun h => nomatch h), List.nodup_nil⟩), by decide, (fun _ h => nomatch h), by decide⟩, (fun z => nomatch z), List.nodup_nil, by decide, by decide⟩, Nat.zero_le _, rfl, rfl⟩
  rw [List.mem_singleton.mp hx]
  exact ⟨by decide, by decide, by decide⟩).mono fun d ⟨ds, e, p, wp, hl, e2, e3⟩ => ⟨p, e3, wp, hl⟩
theorem evr_cmp {ρ : List Sl} {ta tb : TE} {p : Int → Int → Bool} {T1 T2 : Int → Prop} (ha : EVr ta ρ (fun d => ∃ i, d = .int i ∧ T1 i)) (hb : EVr tb ρ (fun d => ∃ i, d = .int i ∧ T2 i)) : EVr (tCmp p ta tb) ρ (fun d => ∃ b, d = .bl b) := fun B H σ R Q q =>
  ha B H σ R _ fun d hd v B1 H1 g1 r1 => hb B1 H1 σ (R.mono g1) _ fun e he u B2 H2 g2 r2 => by
    obtain ⟨i, rfl, hi⟩ := hd
    obtain ⟨j, rfl, hj⟩ := he
    cases r1
    cases r2
    exact ⟨i, j, rfl, rfl, q _ ⟨_, rfl⟩ _ B2 H2 (g1.trans g2) (.bl _)⟩
theorem etr_any {ρ : List Sl} {te : TE} (h : EVr te ρ (fun d => ∃ b, d = .bl b)) : ETr (tB te) ρ (fun _ => True) := etr_B (h.mono fun d ⟨b, e⟩ => ⟨b, e, trivial⟩)
theorem sts_dput {ρ : List Sl} {tv ty : TE} {k : Nat} {S : Dat → Prop} {kds : List (Key × Dat)} {x : Key} (hk : ρ[k]? = some (.k kds)) (hv : EVr tv ρ S) (hy : EV ty ρ (keyD x)) (hz : kds.length ≤ 90000) : STs (sDPut (tVar k) ty tv) ρ (fun o => ∃ d, S d ∧ o = .nx (ρ.set k (.k (putD kds x d)))) := fun Bm B0 H0 B H σ D R P => by
  obtain ⟨ov, h1, p, ks, rfl, n, h2, r⟩ := R.r.at_ k _ hk
  refine hv B H σ R.r _ fun d hd v B1 H1 g1 r1 => ⟨_, h1, hy B1 H1 σ (R.r.mono g1) _ fun y B2 H2 g2 r2 => ?_⟩
  have e := key_of r2
  subst e
  have h3 := g2.hh _ _ (g1.hh _ _ h2)
  exact ⟨p, _, rfl, DPut.k h3 (Evl.sz_lt (by rw [repks_len r]; omega)), P _ ⟨d, hd, rfl⟩ B2 _ _ ((R.mono (g1.trans g2)).write hk rfl h1 rfl fun n1 => ⟨p, _, rfl, n1, upd_same, repks_put x (r1.mono g2.bb) (r.mono (g1.trans g2).bb)⟩)⟩
theorem evr_tupF {ρ : List Sl} {ta : TE} {S : List Str → Prop} (h : EVr ta ρ (fun d => ∃ xs : List Str, d = .lst (xs.map .str) ∧ S xs)) : EVr (tCB (Ot.rTupF K) (tCons ta tNil)) ρ (fun d => ∃ xs, d = .otp xs ∧ S xs) := fun B H σ R Q q => h B H σ R _ fun d hd v B1 H1 g1 r1 => by
  obtain ⟨xs, rfl, hs⟩ := hd
  cases r1 with
  | lst h1 r1 =>
    have z := r1.strs
    subst z
    exact ⟨_, xs, rfl, SqL.of (g1.bh _ _ h1), fun l o hn ho => q _ ⟨xs, rfl, hs⟩ _ _ _ (g1.trans (Go.new g1.bh hn)) (.otp upd_same ho)⟩
abbrev kos (os : List (Nat × List Nat)) : List (Key × Dat) := (ordD os).map fun p => (.inr p.1, p.2)
theorem kos_put {os : List (Nat × List Nat)} {w : Nat} {l : List Nat} (h : w ∉ os.map (·.1)) : putD (kos os) (.inr (Ga.P w)) (.otp (l.map Ga.P)) = kos (os ++ [(w, l)]) := by
  unfold putD
  rw [if_neg]
  · unfold kos ordD
    rw [List.map_append, List.map_append]
    rfl
  · intro z
    obtain ⟨y, hy, e⟩ := List.any_eq_true.mp z
    obtain ⟨y2, hy2, rfl⟩ := List.mem_map.mp hy
    obtain ⟨o, ho, rfl⟩ := List.mem_map.mp hy2
    have e := of_decide_eq_true e
    exact h (List.mem_map.mpr ⟨o, ho, P_inj (Sum.inr.inj e)⟩)
def OneO (o : Nat × List Nat) : Prop := o.1 < 26 ∧ o.2.Nodup ∧ (∀ n ∈ o.2, n < 4) ∧ o.2.length ≤ 4
def ordAt (p : Plan) (i : Nat) (ρ : List Sl) : Prop := ∃ os : List (Nat × List Nat), (∀ o ∈ os, OneO o ∧ o.1 ∈ (p.pl.take i).map (·.w)) ∧ (os.map (·.1)).Nodup ∧ os.length ≤ i ∧ ρ = [.d .pl, .d (planD p), .k (kos os), .x, .x, .x, .x]
theorem ltD_strs (l : List Nat) : l.map ltD = (l.map Ga.P).map .str := by
  rw [List.map_map]
  rfl

abbrev N_law_orders : List Str := ["_law_pool_here", "_law_plan_here", "_law_found", "_law_place_here", "_law_at", "_law_many", "_law_turned"]
theorem sc_law_orders : FnScope N_law_orders ["_law_pool_here", "_law_plan_here"] (defScope s_law_orders) := C8.fnScope_by (by decide +kernel)
def R_law_orders (ds : List Dat) (r : Dat) : Prop := ∃ (p : Plan) (os : List (Nat × List Nat)), WPlan p ∧ WO os ∧ ds = [.pl, planD p] ∧ r = .dic (ordD os)
theorem p_law_orders (T : Tx K mg) (c_law_draw : CaR pg w K mg base 1 "_law_draw" R_law_draw) : CaR pg w K mg base 2 "_law_orders" R_law_orders := by
  obtain ⟨fd, F⟩ := T.d_law_orders
  refine mkR (d := d_law_orders) F T.g__law_orders (F.bindsN (ps := ["_law_pool_here", "_law_plan_here"]) fun kV doc pm an cdv ct us h => by
    match us, h with
    | [a, b], _ => rfl) sc_law_orders (by
    rintro ds r ⟨p, os0, wp, ho0, rfl, rfl⟩
    rfl) ?_
  rintro cdv A outer s H E hr ds r ⟨p, os0, wp, ho0, rfl, rfl⟩
  refine ⟨_, (pss_cons (ps_set (i := 2) sc_law_orders.nd rfl (by first | exact Or.inl rfl | exact Or.inr rfl) pe_dnewK)
      (pss_cons (ps_for PassesOwn.never rfl (pi_listK (K := K) (pe_dget (hu1 hr) (pv 1) pe_str (fun _ _ => rfl))) (pg_name (i := 3) sc_law_orders.nd rfl (by first | exact Or.inl rfl | exact Or.inr rfl)) (pss_cons (ps_par (i := 4) (j := 5) (by rfl) sc_law_orders.nd rfl rfl (by decide) rfl rfl (pa_cons (C8.pe_c c_law_draw hr (by decide) (by rfl) (pa_cons (pv 0) (pa_cons (pe_callB (call_lenK (K := K)) (by rfl) T.f_len PySem.boot_len (pa_cons (pe_dget (hu1 hr) (pv 1) pe_str (fun _ _ => rfl)) pa_nil)) pa_nil))) (pa_cons (C8.pe_c c_law_draw hr (by decide) (by rfl) (pa_cons (pv 0) (pa_cons (pe_add (pe_callB (call_lenK (K := K)) (by rfl) T.f_len PySem.boot_len (pa_cons (pe_dget (hu1 hr) (pv 1) pe_str (fun _ _ => rfl)) pa_nil)) pe_int) pa_nil))) pa_nil)) (by rfl))
      (pss_cons (ps_set (i := 6) sc_law_orders.nd rfl (by first | exact Or.inl rfl | exact Or.inr rfl) (pe_op op_cat (pe_slice (sl_listK (K := K)) (pe_dget (hu1 hr) (pv 1) pe_str (fun _ _ => rfl)) (po_some (pv 4)) po_none) (pe_slice (sl_listK (K := K)) (pe_dget (hu1 hr) (pv 1) pe_str (fun _ _ => rfl)) po_none (po_some (pv 4)))))
      (pss_one (ps_if (pt_cmp (pc_gt (C8.pe_c c_law_draw hr (by decide) (by rfl) (pa_cons (pv 0) (pa_cons pe_int pa_nil))) pe_int)) (pss_one (ps_dput (hu1 hr) (pv 2) (pe_ix (ix_tupK (K := K)) (pv 3) pe_int (fun _ _ => rfl)) (pe_callTy Ot.call_tupF (by rfl) T.f_tuple bo_tuple (pa_cons (pe_slice (sl_listK (K := K)) (pe_ifExp (pt_cmpR op_eq (C8.pe_c c_law_draw hr (by decide) (by rfl) (pa_cons (pv 0) (pa_cons pe_int pa_nil))) pe_int (nomark _)) (pv 6) (pe_revL (pv 6))) po_none (po_some (pv 5))) pa_nil)) rfl)) pss_nil)))))
      (pss_one (ps_ret (pv 2))))), ?_⟩
  refine sts_seq (st_asgK (k := 2) evk_new) ?_
  have klen : (((List.range p.k).map ltD).length : Int) = (p.k : Int) := by rw [List.length_map, List.length_range]
  have hk := wp.k
  refine sts_seqS (O1 := fun o => ∃ ρ, ordAt p p.pl.length ρ ∧ o = .nx ρ) (sts_for p.pl plcD (ordAt p) _ (it_list (ev_plan_pl (ev_var rfl))) ⟨_, ⟨[], (fun _ h => nomatch h), List.nodup_nil, Nat.zero_le _, rfl⟩, Wk.refl _⟩ ?_ fun ρ h => ⟨ρ, h, rfl⟩) ?_
  · rintro i ρ x hx ⟨os, ho, hn, hl, rfl⟩
    refine ⟨_, _, gt_name, ?_⟩
    have hxm : x ∈ p.pl := List.mem_of_getElem? hx
    have wx := wp.ok.wp x hxm
    have hi := (List.getElem?_eq_some_iff.mp hx).1
    have hpl := wp.ok.ln
    have hnew : x.w ∉ os.map (·.1) := fun z => by
      obtain ⟨o, ho1, e⟩ := List.mem_map.mp z
      have h1 := (ho o ho1).2
      rw [e] at h1
      have nd := wp.ok.nd
      have e2 : p.pl.map (·.w) = (p.pl.take i).map (·.w) ++ x.w :: (p.pl.drop (i + 1)).map (·.w) := by
        rw [← List.map_cons, ← List.map_append, ← (List.getElem?_eq_some_iff.mp hx).2, ← List.drop_eq_getElem_cons hi, List.take_append_drop]
      rw [e2] at nd
      exact (List.nodup_append.mp nd).2.2 _ h1 _ List.mem_cons_self rfl
    have take1 : (p.pl.take (i + 1)).map (·.w) = (p.pl.take i).map (·.w) ++ [x.w] := by
      rw [List.take_succ_eq_append_getElem hi, List.map_append, (List.getElem?_eq_some_iff.mp hx).2]
      rfl
    refine sts_par (ear_cons (evr_draw (n := (p.k : Int)) (ea_cons (ev_var rfl) (ea_cons (ev_is (ev_lenL (ev_plan_k (ev_var rfl)).l) (congrArg Dat.int klen)) ea_nil)) (by omega)) (ear_cons (evr_draw (n := (p.k : Int) + 1) (ea_cons (ev_var rfl) (ea_cons (ev_add (ev_is (ev_lenL (ev_plan_k (ev_var rfl)).l) (congrArg Dat.int klen)) ev_int) ea_nil)) (by omega)) ear_nil)) fun ds hds => ?_
    obtain ⟨_, _, rfl, ⟨a, rfl, ha0, ha1⟩, _, _, rfl, ⟨j, rfl, hj0, hj1⟩, rfl⟩ := hds
    obtain ⟨a, rfl⟩ := Int.eq_ofNat_of_zero_le ha0
    obtain ⟨j, rfl⟩ := Int.eq_ofNat_of_zero_le hj0
    refine ⟨_, _, rfl, ?_⟩
    have hd0 : ∃ l : List Nat, l = (List.range p.k).drop a ++ (List.range p.k).take a := ⟨_, rfl⟩
    obtain ⟨l, hld⟩ := hd0
    have lp : l.Perm (List.range p.k) := by
      rw [hld]
      exact List.perm_append_comm.trans (by rw [List.take_append_drop])
    have lnd : l.Nodup := lp.nodup_iff.mpr List.nodup_range
    have ll : l.length = p.k := by rw [lp.length_eq, List.length_range]
    have lm : ∀ n ∈ l, n < 4 := fun n hn => by
      have := List.mem_range.mp (lp.mem_iff.mp hn)
      omega
    refine sts_seq (st_asg (d := .lst (l.map ltD)) (ev_is (evn_cat (evl_is (evn_slL (lo := some ((a : Nat) : Int)) (hi := none) (ev_plan_k (ev_var rfl)).l (eo_some (ev_var rfl)) eo_none).l (cut_from (by rw [List.length_map, List.length_range]; omega))) (evl_is (evn_slL (lo := none) (hi := some ((a : Nat) : Int)) (ev_plan_k (ev_var rfl)).l eo_none (eo_some (ev_var rfl))).l (cut_to (by rw [List.length_map, List.length_range]; omega))) ?_).ev ?_)) ?_
    · rw [List.length_drop, List.length_take, List.length_map, List.length_range]
      omega
    · rw [hld, List.map_append, List.map_drop, List.map_take]
    refine sts_if (T := fun _ => True) (etr_any (evr_cmp (evr_draw (n := 3) (ea_cons (ev_var rfl) (ea_cons ev_int ea_nil)) (by decide)) (ev_ofI (i := 0) ev_int))) (fun _ => ?_) fun _ => ?_
    · refine (sts_dput (k := 2) (kds := kos os) (x := .inr (Ga.P x.w)) (S := fun d => ∃ l2 : List Nat, d = .otp (l2.map Ga.P) ∧ OneO (x.w, l2)) rfl ((evr_tupF (S := fun xs => ∃ l2 : List Nat, xs = l2.map Ga.P ∧ OneO (x.w, l2)) ((evr_sl (lo := none) (S := fun ds => ∃ l1 : List Nat, ds = l1.map ltD ∧ l1.Nodup ∧ (∀ n ∈ l1, n < 4) ∧ l1.length = p.k) (T := fun i => i = (j : Nat)) (evr_if (T := fun _ => True) (etr_any (evr_eqI (evr_draw (n := 2) (ea_cons (ev_var rfl) (ea_cons ev_int ea_nil)) (by decide)) (ev_ofI (i := 0) ev_int))) (fun _ => EV.r (ev_var rfl) ⟨_, rfl, l, rfl, lnd, lm, ll⟩) fun _ => EV.r (evn_rev (ev_var rfl).l).ev ⟨_, rfl, l.reverse, List.map_reverse.symm, (List.reverse_perm l).nodup_iff.mpr lnd, (fun n hn => lm n (List.mem_reverse.mp hn)), by rw [List.length_reverse, ll]⟩) eo_none (eor_some (ev_ofI (ev_var rfl)))).mono ?_)).mono ?_) (ev_ixT (ev_var rfl) ev_int rfl) ?_).mono ?_
      · rintro _ ⟨_, _, rfl, ⟨l1, rfl, n1, m1, k1⟩, rfl⟩
        refine ⟨_, ?_, l1.take j, rfl, wx.w, n1.sublist (List.take_sublist ..), fun n hn => m1 n (List.mem_of_mem_take hn), by rw [List.length_take]; omega⟩
        rw [cut_to (by rw [List.length_map, k1]; omega), ← List.map_take, ltD_strs]
      · rintro _ ⟨_, rfl, l2, rfl, h2⟩
        exact ⟨l2, rfl, h2⟩
      · show ((ordD os).map _).length ≤ _
        rw [List.length_map]
        show (os.map _).length ≤ _
        rw [List.length_map]
        omega
      · rintro _ ⟨_, ⟨l2, rfl, h2⟩, rfl⟩
        refine .inl ⟨_, [.d .pl, .d (planD p), .k (putD (kos os) (.inr (Ga.P x.w)) (.otp (l2.map Ga.P))), .x, .x, .x, .x], rfl, .same (.same (.same (.fog (.fog (.fog (.fog .nil)))))), os ++ [(x.w, l2)], fun o hm => ?_, ?_, ?_, ?_⟩
        · rw [take1]
          rcases List.mem_append.mp hm with hm | hm
          · exact ⟨(ho o hm).1, List.mem_append_left _ (ho o hm).2⟩
          · rw [List.mem_singleton.mp hm]
            exact ⟨h2, List.mem_append_right _ (List.mem_singleton.mpr rfl)⟩
        · rw [List.map_append]
          exact List.nodup_append.mpr ⟨hn, (List.nodup_cons.mpr ⟨(fun h => nomatch h), List.nodup_nil⟩), fun y hy z hz e => hnew (by
            have e2 : y = x.w := e.trans (List.mem_singleton.mp hz)
            exact e2 ▸ hy)⟩
        · rw [List.length_append]
          exact Nat.succ_le_succ hl
        · rw [kos_put hnew]
    · refine sts_next (.inl ⟨_, [.d .pl, .d (planD p), .k (kos os), .x, .x, .x, .x], rfl, .same (.same (.same (.fog (.fog (.fog (.fog .nil)))))), os, fun o hm => ?_, hn, Nat.le_succ_of_le hl, rfl⟩)
      rw [take1]
      exact ⟨(ho o hm).1, List.mem_append_left _ (ho o hm).2⟩
  · rintro o ⟨ρ, ⟨os, ho, hn, hl, rfl⟩, rfl⟩
    have := wp.ok.ln
    exact ⟨_, rfl, (st_retK (kvs := ordD os) rfl).s ⟨_, ⟨p, os, wp, ⟨fun o hm => (ho o hm).1, hn, by omega⟩, rfl, rfl⟩, rfl⟩⟩

theorem evr_orders {ρ : List Sl} {t : TA} {E : XK} {p : Plan} (wp : WPlan p) (h : EA t ρ [.pl, planD p]) : EVr (tCall (spR R_law_orders) [] E t) ρ (fun d => ∃ os, d = .dic (ordD os) ∧ WO os) := (evr_call (EA.r h) fun ds e => by
  subst e
  exact ⟨_, p, [], wp, ⟨(fun _ h => nomatch h), List.nodup_nil, Nat.zero_le _⟩, rfl, rfl⟩).mono fun d ⟨ds, e, p', os, _, ho, e2, e3⟩ => ⟨os, e3, ho⟩

abbrev N_law_rule : List Str := ["_law_pool_here", "_law_plan_here"]
theorem sc_law_rule : FnScope N_law_rule ["_law_pool_here", "_law_plan_here"] (defScope s_law_rule) := C8.fnScope_by (by decide +kernel)
def R_law_rule (ds : List Dat) (r : Dat) : Prop := ∃ (p : Plan) (r0 : Rul), WPlan p ∧ WO r0.os ∧ ds = [.pl, planD p] ∧ r = ruleD r0
theorem p_law_rule (T : Tx K mg) (c_law_pick : CaR pg w K mg base 2 "_law_pick" R_law_pick) (c_law_orders : CaR pg w K mg base 2 "_law_orders" R_law_orders) : CaR pg w K mg base 3 "_law_rule" R_law_rule := by
  obtain ⟨fd, F⟩ := T.d_law_rule
  refine mkR (d := d_law_rule) F T.g__law_rule (F.bindsN (ps := ["_law_pool_here", "_law_plan_here"]) fun kV doc pm an cdv ct us h => by
    match us, h with
    | [a, b], _ => rfl) sc_law_rule (by
    rintro ds r ⟨p, r0, wp, ho0, rfl, rfl⟩
    rfl) ?_
  rintro cdv A outer s H E hr ds r ⟨p, r0, wp, ho0, rfl, rfl⟩
  refine ⟨_, (pss_one (ps_ret (pe_disp (pps_cons pe_str (C8.pe_c c_law_pick hr (by decide) (by rfl) (pa_cons (pv 0) (pa_cons (pe_lst (pa_cons pe_str (pa_cons pe_str (pa_cons pe_str pa_nil)))) pa_nil))) (pps_cons pe_str (C8.pe_c c_law_orders hr (by decide) (by rfl) (pa_cons (pv 0) (pa_cons (pv 1) pa_nil))) pps_nil)) rfl rfl (by simp) (by decide)))), ?_⟩
  refine (sts_ret (evr_disp (U := fun z : List (Str × Dat) => ∃ r0 : Rul, z = ([("kind", .str (kindS r0.kd)), ("orders", .dic (ordD r0.os))] : List (Str × Dat)) ∧ WO r0.os) ((epr_cons (x := .inr "kind") ev_str (evr_pick (xs := [.str "row", .str "plain", .str "eldest"]) (ea_cons (ev_var rfl) (ea_cons (evn_lst (by repeat' trivial)).ev ea_nil)) (fun z => nomatch z)) (epr_cons (x := .inr "orders") ev_str (evr_orders wp (ea_cons (ev_var rfl) (ea_cons (ev_var rfl) ea_nil))) epr_nil)).mono ?_) ?_)).mono fun o ho => ?_
  · rintro _ ⟨d, _, rfl, hd, _, _, rfl, ⟨os, rfl, ho⟩, rfl⟩
    have : ∃ kd : Ga.Kind, d = .str (kindS kd) := by
      rcases List.mem_cons.mp hd with rfl | hd
      · exact ⟨.row, rfl⟩
      · rcases List.mem_cons.mp hd with rfl | hd
        · exact ⟨.plain, rfl⟩
        · rw [List.mem_singleton.mp hd]
          exact ⟨.eldest, rfl⟩
    obtain ⟨kd, rfl⟩ := this
    exact ⟨_, rfl, ⟨kd, os⟩, rfl, ho⟩
  · rintro _ ⟨r0, rfl, _⟩
    exact ⟨show (["kind", "orders"] : List Str).Nodup by decide, show 2 ≤ 15 by decide⟩
  · obtain ⟨_, ⟨_, rfl, r1, rfl, hr1⟩, rfl⟩ := ho
    exact ⟨_, ⟨p, r1, wp, hr1, rfl, rfl⟩, rfl⟩

theorem evr_rule {ρ : List Sl} {t : TA} {E : XK} {p : Plan} (wp : WPlan p) (h : EA t ρ [.pl, planD p]) : EVr (tCall (spR R_law_rule) [] E t) ρ (fun d => ∃ r0 : Rul, d = ruleD r0 ∧ WO r0.os) := (evr_call (EA.r h) fun ds e => by
  subst e
  exact ⟨_, p, ⟨.row, []⟩, wp, ⟨(fun _ h => nomatch h), List.nodup_nil, Nat.zero_le _⟩, rfl, rfl⟩).mono fun d ⟨ds, e, p', r0, _, ho, e2, e3⟩ => ⟨r0, e3, ho⟩
theorem ev_pool {ρ : List Sl} {k : Nat} {ns : List Int} (hk : ρ[k]? = some (.d (.lst (ns.map .int)))) : EV (tPool (tLst (tCons (tVar k) (tCons (tC (.int 0)) tNil)))) ρ .pl := fun B H σ S Q q => evn_lst (ea_cons (ev_var hk) (ea_cons ev_int ea_nil)) (show 2 ≤ 100000 by decide) B H σ S _ fun p vs B1 H1 g1 hp n1 h1 r1 => by
  cases r1 with
  | cons a r1 =>
    cases r1 with
    | cons b r1 =>
      cases r1
      cases b
      cases a with
      | lst ha ra =>
        have e := ra.ints
        subst e
        rename_i q'
        refine ⟨p, q', 0, rfl, h1, by omega, q _ (upd B1 p (PoolO p q')) _ ⟨Evl.Ex.mut g1.hh hp, Evl.Ex.mut g1.bb (free_of S.bh hp), fun a u hu => ?_, fun a u h n => ?_⟩ (.pl upd_same (Evl.Ex.new n1 _ _ ha))⟩
        · by_cases ea : a = p
          · subst ea
            rw [upd_same] at hu ⊢
            exact hu
          · rw [upd_ne ea] at hu ⊢
            exact g1.bh _ _ hu
        · rw [upd_ne fun ea => by rw [ea, hp] at h; cases h]
          exact g1.no _ _ h n
theorem ev_neg {ρ : List Sl} {te : TE} {i : Int} (h : EV te ρ (.int i)) : EV (tUn (rU fun i => .int (-i)) te) ρ (.int (-i)) := fun B H σ S Q q => h B H σ S _ fun v B1 H1 g1 r1 => by
  cases r1
  exact ⟨i, rfl, q _ B1 H1 g1 (.int _)⟩
theorem ev_pow {ρ : List Sl} {ta tb : TE} {i j : Int} (ha : EV ta ρ (.int i)) (hb : EV tb ρ (.int j)) (hc : CPow i j) : EV (tOp (rI CPow fun i j => .int (i ^ j.toNat)) ta tb) ρ (.int (i ^ j.toNat)) := ev_opI (f := fun i j => i ^ j.toNat) ha hb hc
theorem ev_mod {ρ : List Sl} {ta tb : TE} {i j : Int} (ha : EV ta ρ (.int i)) (hb : EV tb ρ (.int j)) (hc : 0 < j) : EV (tOp (rI (fun _ j => 0 < j) fun i j => .int (i % j)) ta tb) ρ (.int (i % j)) := ev_opI (f := fun i j => i % j) ha hb hc
theorem ev_div {ρ : List Sl} {ta tb : TE} {i j : Int} (ha : EV ta ρ (.int i)) (hb : EV tb ρ (.int j)) (hc : CDiv i j) : EV (tOp (rI CDiv fun i j => .int (i / j)) ta tb) ρ (.int (i / j)) := ev_opI (f := fun i j => i / j) ha hb hc
theorem ints_app (ns : List Int) (i : Int) : ns.map Dat.int ++ [.int i] = (ns ++ [i]).map Dat.int := by
  rw [List.map_append]
  rfl
def poolAt (c s W : Int) (i : Nat) (ρ : List Sl) : Prop := ∃ (ns : List Int) (l : Int), ns.length ≤ i ∧ ρ = [.d (.int c), .d (.int s), .d (.int 200), .d (.int W), .l (ns.map .int), .d (.int l), .x, .x]

abbrev N_law_pool : List Str := ["_law_cell", "_law_salt", "_law_many", "_law_whole", "_law_digits", "_law_left", "_law_k", "_law_one"]
theorem sc_law_pool : FnScope N_law_pool ["_law_cell", "_law_salt", "_law_many"] (defScope s_law_pool) := C8.fnScope_by (by decide +kernel)
def R_law_pool (ds : List Dat) (r : Dat) : Prop := ∃ c s : Int, 0 ≤ s ∧ s ≤ 9999 ∧ ds = [.int c, .int s, .int 200] ∧ r = .pl
theorem p_law_pool (T : Tx K mg) : Ca pg w K mg base 1 "_law_pool" R_law_pool := by
  obtain ⟨fd, F⟩ := T.d_law_pool
  refine mkC (d := d_law_pool) F T.g__law_pool (F.bindsN (ps := ["_law_cell", "_law_salt", "_law_many"]) fun kV doc pm an cdv ct us h => by
    match us, h with
    | [a, b, c], _ => rfl) sc_law_pool (by
    rintro ds r ⟨c, s, hs0, hs1, rfl, rfl⟩
    rfl) ?_
  rintro cdv A outer s H E hr ds r ⟨c, s, hs0, hs1, rfl, rfl⟩
  refine ⟨_, (pss_cons (ps_par (i := 3) (j := 4) (by rfl) sc_law_pool.nd rfl rfl (by decide) rfl rfl (pa_cons (pe_callB (call_max2 rfl) (by rfl) T.f_max bo_max (pa_cons (pe_callTy call_int1 (by rfl) T.f_int bo_int (pa_cons (pv 0) pa_nil)) (pa_cons (pe_callTy call_int1 (by rfl) T.f_int bo_int (pa_cons (pe_sub (pe_un un_neg pe_int) (pv 0)) pa_nil)) pa_nil))) (pa_cons (pe_lst pa_nil) pa_nil)) (by rfl))
      (pss_cons (ps_set (i := 5) sc_law_pool.nd rfl (by first | exact Or.inl rfl | exact Or.inr rfl) (pv 3))
      (pss_cons (ps_for PassesOwn.never rfl (pi_range1 (by rfl) T.f_range (pa_cons (pv 2) pa_nil)) (pg_name (i := 6) sc_law_pool.nd rfl (by first | exact Or.inl rfl | exact Or.inr rfl)) (pss_one (ps_if (PW.pt (pw_and (pt_cmp (pc_ge (pv 3) (pe_op op_pow pe_int pe_int))) (pw_and1 (pt_cmp (pc_gt (pv 5) pe_int))))) (pss_cons (ps_expr (pe_bm PySem.F.plainAttrs_list PySem.F.slot_list_append PySem.F.type_list_append mt_append (pv 4) (pa_cons (pe_op op_mod (pe_callTy call_int1 (by rfl) T.f_int bo_int (pa_cons (pv 5) pa_nil)) pe_int) pa_nil)))
      (pss_one (ps_set (i := 5) sc_law_pool.nd rfl (by first | exact Or.inl rfl | exact Or.inr rfl) (pe_op op_fdiv (pv 5) pe_int)))) (pss_cons (ps_set (i := 7) sc_law_pool.nd rfl (by first | exact Or.inl rfl | exact Or.inr rfl) (pe_op op_pow (pe_add (pe_add (pe_op op_mod (pe_callTy call_int1 (by rfl) T.f_int bo_int (pa_cons (pv 3) pa_nil)) pe_int) (pe_mul pe_int (pv 1))) pe_int) pe_int))
      (pss_cons (ps_set (i := 7) sc_law_pool.nd rfl (by first | exact Or.inl rfl | exact Or.inr rfl) (pe_mul (pe_add (pe_op op_mod (pe_callTy call_int1 (by rfl) T.f_int bo_int (pa_cons (pv 7) pa_nil)) pe_int) (pe_mul pe_int (pe_add (pv 6) pe_int))) (pe_add (pv 6) pe_int)))
      (pss_cons (ps_set (i := 7) sc_law_pool.nd rfl (by first | exact Or.inl rfl | exact Or.inr rfl) (pe_op op_mod (pe_callTy call_int1 (by rfl) T.f_int bo_int (pa_cons (pv 7) pa_nil)) pe_int))
      (pss_cons (ps_set (i := 7) sc_law_pool.nd rfl (by first | exact Or.inl rfl | exact Or.inr rfl) (pe_mul (pe_op op_mod (pe_callTy call_int1 (by rfl) T.f_int bo_int (pa_cons (pe_op op_pow (pv 7) pe_int) pa_nil)) pe_int) pe_int))
      (pss_one (ps_expr (pe_bm PySem.F.plainAttrs_list PySem.F.slot_list_append PySem.F.type_list_append mt_append (pv 4) (pa_cons (pe_op op_mod (pe_callTy call_int1 (by rfl) T.f_int bo_int (pa_cons (pe_op op_fdiv (pe_op op_mod (pe_callTy call_int1 (by rfl) T.f_int bo_int (pa_cons (pv 7) pa_nil)) pe_int) pe_int) pa_nil)) pe_int) pa_nil)))))))))))
      (pss_one (ps_ret (pe_pool (pe_lst (pa_cons (pv 4) (pa_cons pe_int pa_nil))))))))), .inl ?_⟩
  refine st_seq (st_parO (k := 3) (m := 4) (ev_max2 (ea_cons (ev_int1 (ea_cons (ev_var rfl) ea_nil)) (ea_cons (ev_int1 (ea_cons (ev_sub (ev_neg ev_int) (ev_var rfl)) ea_nil)) ea_nil))) (evn_lst (ds := []) ea_nil)) ?_
  have hW : ∃ W : Int, W = (if (-1 - c) > c then (-1 - c) else c) ∧ 0 ≤ W := ⟨_, rfl, by split <;> omega⟩
  obtain ⟨W, eW, hW⟩ := hW
  show ST _ [.d (.int c), .d (.int s), .d (.int 200), .d (.int (if (-1 - c) > c then (-1 - c) else c)), .l [], .x, .x, .x] _
  rw [← eW]
  refine st_seq (st_asg (k := 5) (ev_var rfl)) (STs.one (sts_seqS (O1 := fun o => ∃ ρ, poolAt c s W 200 ρ ∧ o = .nx ρ) (sts_for (List.range 200) (fun i => Dat.int (i : Nat)) (poolAt c s W) _ (it_rng (n := 200) (ea_cons (ev_var rfl) ea_nil) (by decide)) ⟨_, ⟨[], W, Nat.zero_le _, rfl⟩, Wk.refl _⟩ ?_ fun ρ h => ⟨ρ, by simpa using h, rfl⟩) ?_))
  · rintro i ρ x hx ⟨ns, l, hl, rfl⟩
    have hi := (List.getElem?_eq_some_iff.mp hx).1
    rw [List.length_range] at hi
    rw [List.getElem?_range hi] at hx
    cases hx
    refine ⟨_, _, gt_name, ?_⟩
    refine sts_if (T := fun _ => True) (etr_of (et_and (et_B (ev_cmp (ev_var rfl) (ev_pow ev_int ev_int ⟨by decide, by decide, by decide⟩))) fun _ => et_B (ev_cmp (ev_var rfl) ev_int))) (fun _ => ?_) fun _ => ?_
    · refine sts_seq (st_app (k := 4) (ds := ns.map .int) rfl (ev_mod (ev_int1 (ea_cons (ev_var rfl) ea_nil)) ev_int (by decide)) (by rw [List.length_map]; omega)) ((st_asg (k := 5) (ev_div (ev_var rfl) ev_int ⟨by decide, by decide⟩)).s (.inl ⟨_, [.d (.int c), .d (.int s), .d (.int 200), .d (.int W), .l (ns.map Dat.int ++ [Dat.int (l % 420)]), .d (.int (l / 420)), .x, .x], rfl, .same (.same (.same (.same (.same (.same (.fog (.fog .nil))))))), ns ++ [l % 420], l / 420, ?_, ?_⟩))
      · rw [List.length_append]
        exact Nat.succ_le_succ hl
      · rw [ints_app]
    · refine sts_asg (EV.r (S := fun d => ∃ j, d = .int j) (ev_pow (ev_add (ev_add (ev_mod (ev_int1 (ea_cons (ev_var rfl) ea_nil)) ev_int (by decide)) (ev_mul ev_int (ev_var rfl) (by decide))) ev_int) ev_int ⟨by decide, by decide, ?_⟩) ⟨_, rfl⟩) fun d hd => ?_
      · have h1 := Int.emod_nonneg W (show (2147483629 : Int) ≠ 0 by decide)
        have h2 := Int.emod_lt_of_pos W (show (0 : Int) < 2147483629 by decide)
        omega
      obtain ⟨o1, rfl⟩ := hd
      refine sts_asg (EV.r (S := fun d => ∃ j, d = .int j) (ev_mul (ev_add (ev_mod (ev_int1 (ea_cons (ev_var rfl) ea_nil)) ev_int (by decide)) (ev_mul ev_int (ev_add (ev_var rfl) ev_int) (by decide))) (ev_add (ev_var rfl) ev_int) ?_) ⟨_, rfl⟩) fun d hd => ?_
      · have h1 := Int.emod_nonneg o1 (show (2147483647 : Int) ≠ 0 by decide)
        have h2 := Int.emod_lt_of_pos o1 (show (0 : Int) < 2147483647 by decide)
        omega
      obtain ⟨o2, rfl⟩ := hd
      refine sts_asg (EV.r (S := fun d => ∃ j, d = .int j ∧ 0 ≤ j ∧ j < 2147483629) (ev_mod (ev_int1 (ea_cons (ev_var rfl) ea_nil)) ev_int (by decide)) ⟨_, rfl, Int.emod_nonneg _ (by decide), Int.emod_lt_of_pos _ (by decide)⟩) fun d hd => ?_
      obtain ⟨o3, rfl, h30, h31⟩ := hd
      refine sts_asg (EV.r (S := fun d => ∃ j, d = .int j) (ev_mul (ev_mod (ev_int1 (ea_cons (ev_pow (ev_var rfl) ev_int ⟨by decide, by decide, by omega⟩) ea_nil)) ev_int (by decide)) ev_int ?_) ⟨_, rfl⟩) fun d hd => ?_
      · have h1 := Int.emod_nonneg (o3 ^ (5 : Int).toNat) (show (2147483647 : Int) ≠ 0 by decide)
        have h2 := Int.emod_lt_of_pos (o3 ^ (5 : Int).toNat) (show (0 : Int) < 2147483647 by decide)
        omega
      obtain ⟨o4, rfl⟩ := hd
      refine (st_app (k := 4) (ds := ns.map .int) rfl (ev_mod (ev_int1 (ea_cons (ev_div (ev_mod (ev_int1 (ea_cons (ev_var rfl) ea_nil)) ev_int (by decide)) ev_int ⟨by decide, by decide⟩) ea_nil)) ev_int (by decide)) (by rw [List.length_map]; omega)).s (.inl ⟨_, [.d (.int c), .d (.int s), .d (.int 200), .d (.int W), .l (ns.map Dat.int ++ [Dat.int (o4 % 2147483629 / 16 % 420)]), .d (.int l), .x, .x], rfl, .same (.same (.same (.same (.same (.same (.fog (.fog .nil))))))), ns ++ [o4 % 2147483629 / 16 % 420], l, ?_, ?_⟩)
      · rw [List.length_append]
        exact Nat.succ_le_succ hl
      · rw [ints_app]
  · rintro o ⟨ρ, ⟨ns, l, hl, rfl⟩, rfl⟩
    exact ⟨_, rfl, sts_frz (k := 4) rfl ((st_ret (ev_pool rfl)).s rfl)⟩

end
end Gk

set_option maxHeartbeats 4000000
namespace Gk
open PySem PySem.Spec PyProof.Rows L2 Dl Ga
section
variable {pg : Program} {w : World} {K : PySem.W.Frag} {mg : Str → Option Value} {base : Heap}
local macro_rules | `(tactic| trivial) => `(tactic| first
  | with_reducible exact ev_int
  | with_reducible exact ev_str
  | with_reducible exact ev_bl
  | with_reducible exact ev_non
  | ((with_reducible apply ev_var) <;> rfl)
  | ((with_reducible apply evl_var) <;> rfl)
  | with_reducible exact eo_none
  | with_reducible apply eo_some
  | with_reducible apply ev_add
  | with_reducible apply ev_sub
  | with_reducible apply ev_cmp
  | with_reducible apply ev_chain rfl rfl
  | with_reducible apply ev_and
  | with_reducible apply ev_or
  | with_reducible apply ev_not
  | with_reducible apply ev_isN
  | with_reducible apply ev_notN
  | with_reducible apply ea_cons
  | with_reducible exact ea_nil
  | with_reducible apply et_B
  | with_reducible apply et_test
  | with_reducible apply et_not
  | with_reducible apply et_and
  | with_reducible apply et_or
  | with_reducible apply ev_ixT
  | with_reducible apply ev_tup
  | with_reducible apply ev_int1
  | with_reducible apply ev_str1
  | with_reducible apply isi_int_int
  | with_reducible apply isi_int_bool
  | with_reducible apply isi_str_str
  | with_reducible apply isi_tup_tup
  | with_reducible apply isi_lst_lst
  | with_reducible apply isi_dic_dic
  | with_reducible exact et_yes
  | intro _)
theorem fault_congr {pl : List Plc} {rs rs' : List Ga.Row} {dp : Bool} {r : Rul} (h : ∀ q ∈ rs, WR q) (hm : ∀ q, q ∈ rs ↔ q ∈ rs') : fault pl rs dp r = fault pl rs' dp r := by
  have e1 := turns_congr h hm
  have e2 : ∀ b d, cand rs dp b d = cand rs' dp b d := fun b d => cand_congr fun q => by rw [hm q]
  have e3 : ∀ p d, uses pl rs dp p d = uses pl rs' dp p d := fun p d => by
    unfold uses froms
    rw [e1]
    simp only [e2]
  have e4 : ∀ a b d, newUse pl rs dp a b d = newUse pl rs' dp a b d := fun a b d => by
    unfold newUse
    rw [e3 a d]
    simp only [e3]
  have e5 : ∀ x a b d, dayOf rs r x a b d = dayOf rs' r x a b d := fun x a b d => by
    unfold dayOf
    rw [e1]
  have e6 : ∀ d x z, flt1 pl rs dp r d x z = flt1 pl rs' dp r d x z := fun d x z => by
    unfold flt1
    rw [e5]
    simp only [e4]
  unfold fault
  rw [e1]
  simp only [e2, e6]
theorem okp_book {pl : List Plc} {rs : List Ga.Row} (h : Okp pl rs) : Okp pl (bookRows rs) := ⟨h.wp, h.nd, h.ln, fun q hq => h.wr q ((mem_bookRows h.wr).mp hq), Nat.le_trans (bookRows_len rs) h.lr⟩
theorem ev_eqD {ρ : List Sl} {ta tb : TE} {ds es : List Dat} (ha : EVL ta ρ ds) (hb : EVL tb ρ es) (h1 : shp (.lst ds) = true) (h2 : shp (.lst es) = true) : EV (tOp (rEqD K) ta tb) ρ (.bl (eqD (.lst ds) (.lst es))) := fun B H σ S Q q =>
  ha B H σ S _ fun p vs B1 H1 g1 a1 r1 => hb B1 H1 σ (S.mono g1) _ fun p' vs' B2 H2 g2 a2 r2 => by
    obtain ⟨p1, s1⟩ := shp_of h1
    obtain ⟨p2, s2⟩ := shp_of h2
    exact ⟨_, _, .lst (SqL.of (g2.hh _ _ a1)) (reps_dp (ds := ds) p1 ((r1.mono g2.bb).mono g2.bh)), .lst (SqL.of a2) (reps_dp (ds := es) p2 (r2.mono g2.bh)), s1, s2, q _ B2 H2 (g1.trans g2) (.bl _)⟩
theorem reps_rep {H : Hp} {vs : List V} {ds : List Dat} (r : Reps H vs ds) : ∀ n : Nat, Reps H (List.replicate n vs).flatten (List.replicate n ds).flatten
  | 0 => .nil
  | n + 1 => by
    rw [List.replicate_succ, List.replicate_succ, List.flatten_cons, List.flatten_cons]
    exact r.append (reps_rep r n)
theorem evn_rep {ρ : List Sl} {ta tb : TE} {ds : List Dat} {n : Nat} (ha : EVL ta ρ ds) (hb : EV tb ρ (.int (n : Nat))) (hn : n ≤ 1000) (hl : ds.length * n ≤ 100000) : EVN (tOp rRep ta tb) ρ (List.replicate n ds).flatten := fun B H σ S Q q =>
  ha B H σ S _ fun p vs B1 H1 g1 a1 r1 => hb B1 H1 σ (S.mono g1) _ fun u B2 H2 g2 r2 => by
    cases r2
    exact ⟨p, (n : Int), vs, rfl, rfl, g2.hh _ _ a1, by omega, by omega, by rw [r1.length, Int.toNat_natCast]; exact sl_of hl, fun w hw => by
      rw [Int.toNat_natCast]
      exact q _ _ _ _ ((g1.trans g2).trans (Go.own g2.bh hw)) (Evl.fresh_back (g1.trans g2).hh hw) (free_of g2.bh hw) upd_same (reps_rep (r1.mono g2.bb) n)⟩
theorem eq_nil (xs : List Int) : eqD (.lst (xs.map .int)) (.lst []) = decide (xs = []) := by
  cases xs with
  | nil => rfl
  | cons x xs => rfl
theorem cut_take {ds : List Dat} (n : Nat) : Dl.cutD ds none (some (n : Int)) = ds.take n := by
  unfold Dl.cutD
  rw [HT.sIx_nat, HT.sIx_none, List.drop_zero, Nat.sub_zero, List.take_eq_take_iff]
  omega
/-- the cells that the law walks over -/
def cells (xs : List Int) : List Int := xs.take 3 ++ if xs = [] then [7] else []
theorem cells_len (xs : List Int) : (cells xs).length ≤ 4 := by
  unfold cells
  rw [List.length_append, List.length_take]
  split
  · show _ + 1 ≤ 4
    omega
  · show _ + 0 ≤ 4
    omega
theorem sq_mono {H H2 : Hp} {a : Addr} {xs : List V} (h : SqL K H a xs) (e : Evl.Ex H H2) : SqL K H2 a xs := by
  rcases h with h | h
  · rcases h with h | ⟨o, h⟩
    · exact .inl (.inl (e _ _ h))
    · exact .inl (.inr ⟨o, e _ _ h⟩)
  · exact .inr h
theorem dp_ints {H : Hp} : ∀ xs : List Int, DpAll K H (xs.map V.int) (toPys (xs.map Dat.int))
  | [] => .nil
  | x :: xs => .cons (.int x) (dp_ints xs)
theorem reps_ints {B : Hp} (xs : List Int) : Reps B (xs.map V.int) (xs.map Dat.int) := Reps.of_ints xs
/-- script[:3] + [7] * int(script == []), the script a list that is told by its address -/
theorem cells_at {ρ : List Sl} {xs : List Int} {B H : Hp} {σ : L2.St} {a : Addr} (S : SR B H σ ρ) (h0 : σ[0]? = some (some (.ref a))) (hs : SqL K H a (xs.map V.int)) (Q : VK) (q : ∀ p vs B2 H2, Go B H B2 H2 → H2 p = some (.lst vs) → B2 p = some (.lst vs) → Reps B2 vs ((cells xs).map .int) → Q (.ref p) H2) :
    (tOp rCat (tSl (rSlL K) (tVar 0) tNoPart (tPart (tC (.int 3)))) (tOp rRep (tLst (tCons (tC (.int 7)) tNil)) (tCB rInt1 (tCons (tOp (rEqD K) (tVar 0) (tLst tNil)) tNil)))) σ H Q := by
  refine ⟨_, h0, 3, rfl, a, _, rfl, hs, fun p hp => ?_⟩
  have g1 : Go B H B (upd H p (.lst (cutV (xs.map V.int) none (some 3)))) := Go.own S.bh hp
  refine evn_lst (ds := [.int 7]) (ea_cons ev_int ea_nil) (show 1 ≤ 100000 by decide) B _ σ (S.mono g1) _ fun p2 vs2 B2 H2 g2 hp2 n2 h2 r2 => ?_
  have hs2 : SqL K H2 a (xs.map V.int) := sq_mono hs (g1.trans g2).hh
  refine ⟨_, h0, evn_lst (ds := []) ea_nil (show 0 ≤ 100000 by decide) B2 H2 σ (S.mono (g1.trans g2)) _ fun p3 vs3 B3 H3 g3 hp3 n3 h3 r3 => ?_⟩
  cases r3
  have ok : shp (.lst (xs.map .int)) = true := (ok_lst (n := 1) fun d hd => by
    obtain ⟨i, _, e⟩ := List.mem_map.mp hd
    exact e ▸ ok_int).shp (by omega)
  refine ⟨_, _, .lst (sq_mono hs2 g3.hh) (dp_ints xs), .lst (SqL.of h3) .nil, (shp_of ok).2, by decide, ?_⟩
  have eb : PyData.eqv (.list (toPys (xs.map Dat.int))) (.list []) = decide (xs = []) := eq_nil xs
  rw [eb]
  refine .inr ⟨_, rfl, ?_⟩
  have gg := (g1.trans g2).trans g3
  have en : (if decide (xs = []) = true then (1 : Int) else 0) = ((if xs = [] then 1 else 0 : Nat) : Nat) := by
    by_cases e : xs = []
    · rw [decide_eq_true e, if_pos rfl, if_pos e]
      rfl
    · rw [decide_eq_false e, if_neg Bool.false_ne_true, if_neg e]
      rfl
  rw [en]
  have hn : (if xs = [] then 1 else 0 : Nat) ≤ 1 := by split <;> decide
  have hl2 := r2.length
  refine ⟨p2, _, vs2, rfl, rfl, g3.hh _ _ h2, by omega, by omega, by rw [hl2, Int.toNat_natCast]; exact sl_of (by rw [List.length_cons, List.length_nil]; omega), fun p4 hp4 => ?_⟩
  rw [Int.toNat_natCast]
  have g4 := gg.trans (Go.own (o := .lst (List.replicate (if xs = [] then 1 else 0 : Nat) vs2).flatten) gg.bh hp4)
  have r4 : Reps B3 (cutV (xs.map V.int) none (some ((3 : Nat) : Int)) ++ (List.replicate (if xs = [] then 1 else 0 : Nat) vs2).flatten) ((cells xs).map .int) := by
    have e : (cells xs).map Dat.int = cutD (xs.map Dat.int) none (some ((3 : Nat) : Int)) ++ (List.replicate (if xs = [] then 1 else 0 : Nat) [Dat.int 7]).flatten := by
      rw [cut_take]
      unfold cells
      rw [List.map_append, List.map_take]
      by_cases e : xs = []
      · rw [if_pos e, if_pos e]
        rfl
      · rw [if_neg e, if_neg e]
        rfl
    rw [e]
    exact ((reps_ints xs).cut none (some ((3 : Nat) : Int))).append (reps_rep (r2.mono g3.bb) _)
  have hH4 : upd H3 p4 (.lst (List.replicate (if xs = [] then 1 else 0 : Nat) vs2).flatten) p = some (.lst (cutV (xs.map V.int) none (some 3))) := by
    rw [upd_ne]
    · exact (g2.trans g3).hh _ _ upd_same
    · intro e
      have := (g2.trans g3).hh _ _ (upd_same (H := H) (a := p) (o := .lst (cutV (xs.map V.int) none (some 3))))
      rw [e, hp4] at this
      cases this
  refine ⟨p, p4, _, _, rfl, rfl, hH4, upd_same, ?_, fun p5 hp5 => ?_⟩
  · have hz : (cutV (xs.map V.int) none (some 3)).length + (List.replicate (if xs = [] then 1 else 0 : Nat) vs2).flatten.length = ((cells xs).map Dat.int).length := by
      rw [← List.length_append]
      exact r4.length
    have := cells_len xs
    have : ((cells xs).map Dat.int).length = (cells xs).length := List.length_map ..
    exact sl_of (by omega)
  · have n5 := free_of g4.bh hp5
    exact q p5 _ _ _ (g4.trans (Go.new g4.bh hp5)) upd_same upd_same (r4.mono (Evl.Ex.new n5))
theorem wp_enum {B1 : Hp} {p : Addr} {vs : List V} {ds : List Dat} (h1 : B1 p = some (.lst vs)) (r : Reps B1 vs ds) : Wp (Ite K p) B1 (enumD ds) := by
  have hl : (enumD ds).length = vs.length := by simp [enumD, r.length]
  refine ⟨fun B H e1 e2 => ⟨vs, SqL.of (e2 _ _ (e1 _ _ h1)), by rw [hl]; exact Nat.le_refl _⟩, fun i B H hi e1 e2 => ⟨vs, vs[i]'(by rw [← hl]; exact hi), SqL.of (e2 _ _ (e1 _ _ h1)), by
    have : i < vs.length := by rw [← hl]; exact hi
    simp [this]⟩, fun i B H x H' hi e1 e2 y => ?_⟩
  obtain ⟨T, z, rfl, hT, e, hz⟩ := y
  subst e
  obtain ⟨d, h3, h4⟩ := r.get (hz vs (SqL.of (e2 _ _ (e1 _ _ h1))))
  have hn := Evl.Ex.new (o := HO.tup [V.int (i : Nat), z]) (free_of e2 hT)
  exact ⟨_, _, enumD_get h3, Go.new e2 hT, .tup upd_same (.cons (.int _) (.cons ((h4.mono e1).mono hn) .nil))⟩
/-- for, what is walked told at this heap -/
theorem for_at {α : Type} {wi : TI} {g : TG} {t : TS} {ρ : List Sl} {Bm B0 H0 B H : Hp} {σ : L2.St} {D : Ends} (R : SE Bm B0 H0 B H σ ρ) (xs : List α) (f : α → Dat) (Iv : Nat → List Sl → Prop) (O : Out → Prop) (h : ∀ R2 : It → Hp → Prop, (∀ J B1 H1, Go B H B1 H1 → Wp J B1 (xs.map f) → R2 J H1) → wi σ H R2) (h0 : ∃ ρ0, Iv 0 ρ0 ∧ Wk ρ ρ0)
    (hb : ∀ i ρ x, xs[i]? = some x → Iv i ρ → ∃ ρ' ix, GT g ρ (f x) ρ' ix ∧ STs t ρ' (fun o => (∃ ρ2 ρ3, o = .nx ρ2 ∧ Wk ρ2 ρ3 ∧ Iv (i + 1) ρ3) ∨ ∃ d, o = .rt d ∧ O (.rt d))) (hd : ∀ ρ, Iv xs.length ρ → O (.nx ρ)) (P : ∀ o, O o → Post D Bm B0 H0 o) : tFor wi g t D σ H := h _ fun J B1 H1 g1 w => by
  obtain ⟨ρ0, i0, w0⟩ := h0
  have S1 : SE B1 B0 H0 B1 H1 σ ρ0 := ((R.mono g1).wk w0).low (Evl.Ex.refl B1)
  have hm : Evl.Ex Bm B1 := R.m.trans g1.bb
  have hlen : (xs.map f).length = xs.length := List.length_map ..
  refine ⟨fun i m σ' H' => m = xs.length - i ∧ i ≤ xs.length ∧ ∃ r B', Iv i r ∧ SE B1 B0 H0 B' H' σ' r, ⟨xs.length, by simp, Nat.zero_le _, ρ0, B1, i0, S1⟩, ?_⟩
  rintro i m σ' H' ⟨rfl, hi, r, B', hv, S'⟩
  by_cases hlt : i < xs.length
  · refine .inr ⟨w.go i B' H' (by rw [hlen]; exact hlt) S'.m S'.r.bh, fun σ2 H2 => i + 1 ≤ xs.length ∧ ∃ r B', Iv (i + 1) r ∧ SE B1 B0 H0 B' H2 σ2 r, fun σ2 H2 q => ⟨xs.length - (i + 1), by omega, rfl, q⟩, fun x H2 y => ?_⟩
    obtain ⟨d', B2, h1, g2, r2⟩ := w.yld i B' H' x H2 (by rw [hlen]; exact hlt) S'.m S'.r.bh y
    have hx : xs[i]? = some xs[i] := List.getElem?_eq_getElem hlt
    rw [List.getElem?_map, hx] at h1
    have hd' : f xs[i] = d' := Option.some.inj h1
    subst hd'
    obtain ⟨ρ', ix, hg, hs⟩ := hb i r xs[i] hx hv
    obtain ⟨us, e1, e2, e3⟩ := hg B2 H2 σ' x g2.bh r2
    subst e1
    refine e3 _ ?_
    have S2 : SE B1 B0 H0 B2 H2 (setv σ' us) (sets r us) := (S'.mono g2).sets fun u hu => (e2 u hu).1
    refine hs B1 B0 H0 B2 H2 _ _ S2 fun o ho => ?_
    rcases ho with ⟨ρ2, ρ3, rfl, hw, i3⟩ | ⟨d, rfl, hd'⟩
    · exact fun B3 H3 σ3 S3 => ⟨hlt, ρ3, B3, i3, S3.wk hw⟩
    · exact fun v B3 H3 g3 m3 r3 => P _ hd' v B3 H3 g3 (hm.trans m3) r3
  · have e : i = xs.length := by omega
    subst e
    have e2 := w.stop B' H' S'.m S'.r.bh
    rw [hlen] at e2
    exact .inl ⟨e2, P _ (hd r hv) B' H' σ' (S'.low (hm.trans S'.m))⟩
/-- what the program tells of a rule, and the law's own look -/
theorem told {p : Plan} {r0 : Rul} (wp : WPlan p) (ho : WO r0.os) : (fault p.pl (bookRows p.rw) p.dp r0 = none ∧ wrongAt p.pl p.rw p.dp r0 = false) ∨ ∃ f x, fault p.pl (bookRows p.rw) p.dp r0 = some f ∧ fault p.pl p.rw p.dp r0 = some f ∧ wrongAt p.pl p.rw p.dp r0 = true ∧ x ∈ p.pl ∧ x.w = f.1 := by
  have e1 : fault p.pl p.rw p.dp r0 = fault p.pl (bookRows p.rw) p.dp r0 := fault_congr wp.ok.wr fun q => (mem_bookRows wp.ok.wr).symm
  have e2 := fault_wrong (pl := p.pl) (rs := p.rw) (dp := p.dp) (r := r0) wp.ok.nd wp.ok.wr
  cases e : fault p.pl p.rw p.dp r0 with
  | none =>
    rw [e] at e2
    exact .inl ⟨e1 ▸ e, e2.symm⟩
  | some f =>
    rw [e] at e2
    obtain ⟨⟨x, hx, hw, _⟩, _⟩ := fault_is wp.ok.nd wp.ok.wr e
    exact .inr ⟨f, x, e1 ▸ e, rfl, e2.symm, hx, hw⟩

abbrev N_law : List Str := ["_law_script", "_law_k", "_law_cell", "_law_pool_here", "_law_plan_here", "_law_parts", "_law_book_here", "_law_turn", "_law_rule_here", "_law_made", "_law_due", "_law_found", "_law_events"]
theorem sc_law : FnScope N_law ["_law_script"] (defScope s_law) := C8.fnScope_by (by decide +kernel)
def spLaw (K : PySem.W.Frag) : Sp := fun vs H Q _ => ∃ (a : Addr) (xs : List Int), vs = [.ref a] ∧ SqL K H a (xs.map V.int) ∧ ∀ H2, Q (.bl true) H2
theorem p_law (T : Tx K mg) (c_fault : Ca pg w K mg base 7 "fault" (R_fault K)) (c_faulty_events : Ca pg w K mg base 8 "faulty_events" (R_faulty_events K)) (c_is_right : Ca pg w K mg base 8 "is_right" (R_is_right K)) (c_law_pool : Ca pg w K mg base 1 "_law_pool" R_law_pool) (c_law_plan : CaR pg w K mg base 4 "_law_plan" R_law_plan) (c_law_list : Ca pg w K mg base 5 "_law_list" (R_law_list K)) (c_law_book : Ca pg w K mg base 6 "_law_book" (R_law_book K)) (c_law_rule : CaR pg w K mg base 3 "_law_rule" R_law_rule) (c_law_made_rule : Ca pg w K mg base 6 "_law_made_rule" (R_law_made_rule K)) (c_law_wrong_at : Ca pg w K mg base 5 "_law_wrong_at" R_law_wrong_at) (c_law_fault_right : Ca pg w K mg base 4 "_law_fault_right" R_law_fault_right) (c_law_events_right : Ca pg w K mg base 6 "_law_events_right" R_law_events_right) : ∀ fd, FunD K d_law.name d_law.qual d_law.params d_law.body d_law.scope [] [] (He.ga K "law") fd → FnOk pg w K mg base C8.CX0 9 (He.ga K "law") fd ["_law_script"] (spLaw K) := by
  intro fd F
  refine F.ok sc_law (fun vs H Q E h => ?_) fun cdv A outer s H vs Q E hr hs => ?_
  · obtain ⟨a, ns, rfl, _⟩ := h
    rfl
  obtain ⟨a, xs, rfl, hS, hQ⟩ := hs
  refine ⟨_, PSs.nox (pss_cons (ps_for PassesOwn.never rfl (pi_enum (by rfl) T.f_enumerate (pa_cons (pe_op op_cat (pe_slice (sl_listK (K := K)) (pv 0) po_none (po_some pe_int)) (pe_op op_rep (pe_lst (pa_cons pe_int pa_nil)) (pe_callTy call_int1 (by rfl) T.f_int bo_int (pa_cons (pe_cmpR ((op_eqDK (K := K) (hu64 hr))) (pv 0) (pe_lst pa_nil) (nomark _)) pa_nil)))) pa_nil)) (pg_tupK (K := K) (n := 2) rfl (pgs_cons (pg_name (i := 1) sc_law.nd rfl (by first | exact Or.inl rfl | exact Or.inr rfl)) (pgs_cons (pg_name (i := 2) sc_law.nd rfl (by first | exact Or.inl rfl | exact Or.inr rfl)) pgs_nil))) (pss_cons (ps_set (i := 3) sc_law.nd rfl (by first | exact Or.inl rfl | exact Or.inr rfl) (C8.pe_c c_law_pool hr (by decide) (by rfl) (pa_cons (pv 2) (pa_cons (pe_add pe_int (pv 1)) (pa_cons pe_int pa_nil)))))
        (pss_cons (ps_set (i := 4) sc_law.nd rfl (by first | exact Or.inl rfl | exact Or.inr rfl) (C8.pe_c c_law_plan hr (by decide) (by rfl) (pa_cons (pv 3) (pa_cons pe_int pa_nil))))
        (pss_cons (ps_par (i := 5) (j := 6) (by rfl) sc_law.nd rfl rfl (by decide) rfl rfl (pa_cons (C8.pe_c c_law_list hr (by decide) (by rfl) (pa_cons (pv 4) pa_nil)) (pa_cons (C8.pe_c c_law_book hr (by decide) (by rfl) (pa_cons (pv 4) pa_nil)) pa_nil)) (by rfl))
        (pss_one (ps_for PassesOwn.never rfl (pi_range1 (by rfl) T.f_range (pa_cons pe_int pa_nil)) (pg_name (i := 7) sc_law.nd rfl (by first | exact Or.inl rfl | exact Or.inr rfl)) (pss_cons (ps_set (i := 8) sc_law.nd rfl (by first | exact Or.inl rfl | exact Or.inr rfl) (C8.pe_c c_law_rule hr (by decide) (by rfl) (pa_cons (pv 3) (pa_cons (pv 4) pa_nil))))
        (pss_cons (ps_par (i := 9) (j := 10) (by rfl) sc_law.nd rfl rfl (by decide) rfl rfl (pa_cons (C8.pe_c c_law_made_rule hr (by decide) (by rfl) (pa_cons (pv 8) pa_nil)) (pa_cons (C8.pe_c c_law_wrong_at hr (by decide) (by rfl) (pa_cons (pv 4) (pa_cons (pv 8) pa_nil))) pa_nil)) (by rfl))
        (pss_cons (ps_par (i := 11) (j := 12) (by rfl) sc_law.nd rfl rfl (by decide) rfl rfl (pa_cons (C8.pe_c c_fault hr (by decide) (by rfl) (pa_cons (pv 5) (pa_cons (pv 6) (pa_cons (pv 9) pa_nil)))) (pa_cons (C8.pe_c c_faulty_events hr (by decide) (by rfl) (pa_cons (pv 5) (pa_cons (pv 6) (pa_cons (pv 9) pa_nil)))) pa_nil)) (by rfl))
        (pss_cons (ps_if (PW.pt (pw_or (pt_cmpR op_ne (pe_cmp (pc_notN (pv 11))) (pv 10) (nomark _)) (pw_or (pt_cmpR op_ne (pe_cmp (pc_notN (pv 12))) (pv 10) (nomark _)) (pw_or1 (pt_cmpR op_ne (C8.pe_c c_is_right hr (by decide) (by rfl) (pa_cons (pv 5) (pa_cons (pv 6) (pa_cons (pv 9) pa_nil)))) (pe_not (pv 10)) (nomark _)))))) (pss_one (ps_ret pe_bl)) pss_nil)
        (pss_cons (ps_if (PW.pt (pw_and (pt_val (pv 10)) (pw_and1 (pt_not (pt_val (C8.pe_c c_law_fault_right hr (by decide) (by rfl) (pa_cons (pv 4) (pa_cons (pv 8) (pa_cons (pv 11) pa_nil))))))))) (pss_one (ps_ret pe_bl)) pss_nil)
        (pss_one (ps_if (PW.pt (pw_and (pt_val (pv 10)) (pw_and1 (pt_not (pt_val (C8.pe_c c_law_events_right hr (by decide) (by rfl) (pa_cons (pv 4) (pa_cons (pv 8) (pa_cons (pv 12) pa_nil))))))))) (pss_one (ps_ret pe_bl)) pss_nil)))))))))))))
        (pss_one (ps_ret pe_bl))), ?_⟩
  have S0 := start_se (N := N_law) (vs := [.non]) (ds := [.non]) (B := fun _ => none) (H := H) (.cons .non .nil) (fun _ _ h => nomatch h) (by decide)
  have S1 := SE.unset S0 0 (some (.ref a))
  have S : SE (fun _ => none) (fun _ => none) H (fun _ => none) H (L2.start N_law [.ref a]) [.x, .x, .x, .x, .x, .x, .x, .x, .x, .x, .x, .x, .x] := S1
  refine for_at S (((cells xs).map Dat.int).zipIdx) (fun p => Dat.tup [.int (p.2 : Nat), p.1]) (fun _ ρ => ρ = [.x, .x, .x, .x, .x, .x, .x, .x, .x, .x, .x, .x, .x]) (fun o => o = .nx [.x, .x, .x, .x, .x, .x, .x, .x, .x, .x, .x, .x, .x]) (fun R2 q => cells_at S.r rfl hS _ fun p vs B2 H2 g2 h2 hb2 r2 => ⟨p, vs, rfl, SqL.of h2, q _ B2 H2 g2 (wp_enum hb2 r2)⟩) ⟨_, rfl, Wk.refl _⟩ ?_ (fun ρ h => by rw [h]) ?_
  · rintro i ρ y hy rfl
    have hym := List.mem_zipIdx (List.mem_of_getElem? hy)
    obtain ⟨c, hc⟩ : ∃ c : Int, y.1 = .int c := by
      have := hym.2.2
      rw [List.getElem_map] at this
      exact ⟨_, this⟩
    have hi : y.2 < 4 := by
      have h1 := hym.2.1
      rw [List.length_map] at h1
      have := cells_len xs
      omega
    refine ⟨_, _, gt_tup (is := [1, 2]) rfl rfl rfl, ?_⟩
    rw [hc]
    refine sts_seq (st_asg (k := 3) (ev_call (ds := [.int c, .int (3800 + (y.2 : Nat)), .int 200]) (ea_cons (ev_var rfl) (ea_cons (ev_add ev_int (ev_var rfl)) (ea_cons ev_int ea_nil))) ⟨c, _, by omega, by omega, rfl, rfl⟩)) ?_
    refine sts_asg (k := 4) (evr_plan (ea_cons (ev_var rfl) (ea_cons ev_int ea_nil))) fun d hd => ?_
    obtain ⟨p, rfl, wp, hpl⟩ := hd
    refine sts_seq (st_par (k := 5) (m := 6) (d := listD K p.pl) (e := bookD K (bookRows p.rw) p.dp) (ea_cons (ev_call (ds := [planD p]) (ea_cons (ev_var rfl) ea_nil) ⟨p, wp, rfl, rfl⟩) (ea_cons (ev_call (ds := [planD p]) (ea_cons (ev_var rfl) ea_nil) ⟨p, wp, rfl, rfl⟩) ea_nil))) ?_
    refine sts_for (List.range 4) (fun i => Dat.int (i : Nat)) (fun _ ρ => ρ = [.x, .d (.int (y.2 : Nat)), .d (.int c), .d .pl, .d (planD p), .d (listD K p.pl), .d (bookD K (bookRows p.rw) p.dp), .x, .x, .x, .x, .x, .x]) _ (it_rng (n := 4) (ea_cons ev_int ea_nil) (by decide)) ⟨_, rfl, Wk.refl _⟩ ?_ fun ρ h => .inl ⟨_, [.x, .x, .x, .x, .x, .x, .x, .x, .x, .x, .x, .x, .x], rfl, h ▸ .same (.fog (.fog (.fog (.fog (.fog (.fog (.fog (.fog (.fog (.fog (.fog (.fog .nil)))))))))))), rfl⟩
    rintro j ρ z hz rfl
    refine ⟨_, _, gt_name, ?_⟩
    refine sts_asg (k := 8) (evr_rule wp (ea_cons (ev_var rfl) (ea_cons (ev_var rfl) ea_nil))) fun d hd => ?_
    obtain ⟨r0, rfl, ho⟩ := hd
    have okb := okp_book wp.ok
    refine sts_seq (st_par (k := 9) (m := 10) (d := ruleI K r0) (e := .bl (wrongAt p.pl p.rw p.dp r0)) (ea_cons (ev_call (ds := [ruleD r0]) (ea_cons (ev_var rfl) ea_nil) ⟨r0, ho, rfl, rfl⟩) (ea_cons (ev_call (ds := [planD p, ruleD r0]) (ea_cons (ev_var rfl) (ea_cons (ev_var rfl) ea_nil)) ⟨p, r0, wp, ho, rfl, rfl⟩) ea_nil))) ?_
    rcases told wp ho with ⟨hf, hw⟩ | ⟨f, x, hf, hf2, hw, hx, hxw⟩
    · rw [hw]
      refine sts_seq (st_par (k := 11) (m := 12) (d := .non) (e := .non) (ea_cons (ev_call (ds := [listD K p.pl, bookD K (bookRows p.rw) p.dp, ruleI K r0]) (ea_cons (ev_var rfl) (ea_cons (ev_var rfl) (ea_cons (ev_var rfl) ea_nil))) ⟨p.pl, bookRows p.rw, p.dp, r0, okb, ho, rfl, by rw [hf]; rfl⟩) (ea_cons (ev_call (ds := [listD K p.pl, bookD K (bookRows p.rw) p.dp, ruleI K r0]) (ea_cons (ev_var rfl) (ea_cons (ev_var rfl) (ea_cons (ev_var rfl) ea_nil))) ⟨p.pl, bookRows p.rw, p.dp, r0, okb, ho, rfl, .inl ⟨hf, rfl⟩⟩) ea_nil))) ?_
      have ir : EV _ _ (.bl true) := ev_is (ev_call (P := R_is_right K) (E := C8.E0) (t := tCons (tVar 5) (tCons (tVar 6) (tCons (tVar 9) tNil))) (ρ := [.x, .d (.int (y.2 : Nat)), .d (.int c), .d .pl, .d (planD p), .d (listD K p.pl), .d (bookD K (bookRows p.rw) p.dp), .d (.int (z : Nat)), .d (ruleD r0), .d (ruleI K r0), .d (.bl false), .d .non, .d .non]) (ds := [listD K p.pl, bookD K (bookRows p.rw) p.dp, ruleI K r0]) (ea_cons (ev_var rfl) (ea_cons (ev_var rfl) (ea_cons (ev_var rfl) ea_nil))) ⟨p.pl, bookRows p.rw, p.dp, r0, okb, ho, rfl, rfl⟩) (by rw [hf]; rfl)
      refine sts_seqIf (T := fun b => b = false) (ET.r (et_is (et_or (et_B (ev_neB (b := false) (c := false) (ev_notN (d := .non) (ev_var rfl)) (ev_var rfl))) fun _ => et_or (et_B (ev_neB (b := false) (c := false) (ev_notN (d := .non) (ev_var rfl)) (ev_var rfl))) fun _ => et_B (ev_neB (b := true) (c := true) ir (ev_not (b := false) (ev_var rfl)))) (by decide))) (fun h => nomatch h) fun _ => sts_seq st_next ?_
      refine sts_seqIf (T := fun b => b = false) (ET.r (et_is (et_and (b := false) (c := false) (et_B (ev_var rfl)) (fun h => nomatch h)) (by decide))) (fun h => nomatch h) fun _ => sts_seq st_next ?_
      refine sts_if (T := fun b => b = false) (ET.r (et_is (et_and (b := false) (c := false) (et_B (ev_var rfl)) (fun h => nomatch h)) (by decide))) (fun h => nomatch h) fun _ => ?_
      exact sts_next (.inl ⟨_, _, rfl, .same (.same (.same (.same (.same (.same (.same (.fog (.fog (.fog (.fog (.fog (.fog .nil)))))))))))), rfl⟩)
    · rw [hw]
      obtain ⟨q, hq, hqw, hp1, hp2, hdu⟩ := plays wp ho hf2 hx hxw
      generalize he : (if pref r0 x f.2.2.1 f.2.1 f.2.2.2.1 f.2.1 = true then f.2.1 else f.2.1 - 1) = e at hp1
      have hed : e ≤ f.2.1 := by
        rw [← he]
        split <;> omega
      refine sts_seq (st_par (k := 11) (m := 12) (d := fltD f) (e := evsD f e) (ea_cons (ev_call (ds := [listD K p.pl, bookD K (bookRows p.rw) p.dp, ruleI K r0]) (ea_cons (ev_var rfl) (ea_cons (ev_var rfl) (ea_cons (ev_var rfl) ea_nil))) ⟨p.pl, bookRows p.rw, p.dp, r0, okb, ho, rfl, by rw [hf]; rfl⟩) (ea_cons (ev_call (ds := [listD K p.pl, bookD K (bookRows p.rw) p.dp, ruleI K r0]) (ea_cons (ev_var rfl) (ea_cons (ev_var rfl) (ea_cons (ev_var rfl) ea_nil))) ⟨p.pl, bookRows p.rw, p.dp, r0, okb, ho, rfl, .inr ⟨f, x, hf, hx, hxw, by rw [he]⟩⟩) ea_nil))) ?_
      have ir : EV _ _ (.bl false) := ev_is (ev_call (P := R_is_right K) (E := C8.E0) (t := tCons (tVar 5) (tCons (tVar 6) (tCons (tVar 9) tNil))) (ρ := [.x, .d (.int (y.2 : Nat)), .d (.int c), .d .pl, .d (planD p), .d (listD K p.pl), .d (bookD K (bookRows p.rw) p.dp), .d (.int (z : Nat)), .d (ruleD r0), .d (ruleI K r0), .d (.bl true), .d (fltD f), .d (evsD f e)]) (ds := [listD K p.pl, bookD K (bookRows p.rw) p.dp, ruleI K r0]) (ea_cons (ev_var rfl) (ea_cons (ev_var rfl) (ea_cons (ev_var rfl) ea_nil))) ⟨p.pl, bookRows p.rw, p.dp, r0, okb, ho, rfl, rfl⟩) (by rw [hf]; rfl)
      have ev : evsD f e = .lst (playD x q f.2.2.1 f.2.2.2.1 e f.2.1 f.2.2.2.2.2) := by
        unfold evsD playD
        rw [← hxw, ← hqw]
        rfl
      refine sts_seqIf (T := fun b => b = false) (ET.r (et_is (et_or (et_B (ev_neB (b := true) (c := true) (ev_notN (d := fltD f) (ev_var rfl)) (ev_var rfl))) fun _ => et_or (et_B (ev_neB (b := true) (c := true) (ev_notN (d := evsD f e) (ev_var rfl)) (ev_var rfl))) fun _ => et_B (ev_neB (b := false) (c := false) ir (ev_not (b := true) (ev_var rfl)))) (by decide))) (fun h => nomatch h) fun _ => sts_seq st_next ?_
      refine sts_seqIf (T := fun b => b = false) (ET.r (et_is (et_and (b := true) (c := false) (et_B (ev_var rfl)) (fun _ => et_is (et_not (b := true) (et_B (ev_call (ds := [planD p, ruleD r0, fltD f]) (ea_cons (ev_var rfl) (ea_cons (ev_var rfl) (ea_cons (ev_var rfl) ea_nil))) ⟨p, r0, f, wp, ho, hf2, rfl, rfl⟩))) rfl)) (by decide))) (fun h => nomatch h) fun _ => sts_seq st_next ?_
      refine sts_if (T := fun b => b = false) (ET.r (et_is (et_and (b := true) (c := false) (et_B (ev_var rfl)) (fun _ => et_is (et_not (b := true) (et_B (ev_call (ds := [planD p, ruleD r0, evsD f e]) (ea_cons (ev_var rfl) (ea_cons (ev_var rfl) (ea_cons (ev_var rfl) ea_nil))) ⟨p, r0, x, q, f.2.2.1, f.2.2.2.1, e, f.2.1, f.2.2.2.2.2, hp1, hp2, hed, hdu, by rw [ev], rfl⟩))) rfl)) (by decide))) (fun h => nomatch h) fun _ => ?_
      exact sts_next (.inl ⟨_, _, rfl, .same (.same (.same (.same (.same (.same (.same (.fog (.fog (.fog (.fog (.fog (.fog .nil)))))))))))), rfl⟩)
  · rintro o rfl
    intro B3 H3 σ3 S3
    exact hQ H3
  

end
end Gk

set_option maxHeartbeats 4000000
namespace Gk
open PySem PySem.Spec PyProof.Rows L2 Dl Ga
section
variable {pg : Program} {w : World} {K : PySem.W.Frag} {mg : Str → Option Value} {base : Heap}
local macro_rules | `(tactic| trivial) => `(tactic| first
  | with_reducible exact ev_int
  | with_reducible exact ev_str
  | with_reducible exact ev_bl
  | with_reducible exact ev_non
  | ((with_reducible apply ev_var) <;> rfl)
  | ((with_reducible apply evl_var) <;> rfl)
  | with_reducible exact eo_none
  | with_reducible apply eo_some
  | with_reducible apply ev_add
  | with_reducible apply ev_sub
  | with_reducible apply ev_cmp
  | with_reducible apply ev_chain rfl rfl
  | with_reducible apply ev_and
  | with_reducible apply ev_or
  | with_reducible apply ev_not
  | with_reducible apply ev_isN
  | with_reducible apply ev_notN
  | with_reducible apply ea_cons
  | with_reducible exact ea_nil
  | with_reducible apply et_B
  | with_reducible apply et_test
  | with_reducible apply et_not
  | with_reducible apply et_and
  | with_reducible apply et_or
  | with_reducible apply ev_ixT
  | with_reducible apply ev_tup
  | with_reducible apply ev_int1
  | with_reducible apply ev_str1
  | with_reducible apply isi_int_int
  | with_reducible apply isi_int_bool
  | with_reducible apply isi_str_str
  | with_reducible apply isi_tup_tup
  | with_reducible apply isi_lst_lst
  | with_reducible apply isi_dic_dic
  | with_reducible exact et_yes
  | intro _)
theorem law_def (T : Tx K mg) : ∀ fd, FunD K d_law.name d_law.qual d_law.params d_law.body d_law.scope [] [] (He.ga K "law") fd → FnOk pg w K mg base C8.CX0 9 (He.ga K "law") fd ["_law_script"] (spLaw K) := by
  have m_places : C8.Met pg w K mg base 1 (He.ga K "PartsList") "places" (spD (R_PartsList_places K)) [] := p_PartsList_places T
  have c_check_shares : Ca pg w K mg base 2 "check_shares" (R_check_shares K) := p_check_shares T m_places
  have m_dates : C8.Met pg w K mg base 1 (He.ga K "Allowances") "dates" (spD (R_Allowances_dates K)) [] := p_Allowances_dates T
  have c_is_integer : Ca pg w K mg base 1 "is_integer" R_is_integer := p_is_integer T
  have c_is_date : Ca pg w K mg base 2 "is_date" R_is_date := p_is_date T c_is_integer
  have c_check_date : Ca pg w K mg base 3 "check_date" R_check_date := p_check_date T c_is_date
  have c_ascending : C8.Cal pg w K mg base 1 "ascending" (spN R_ascending) [] := p_ascending T
  have c_is_open : Ca pg w K mg base 1 "is_open" R_is_open := p_is_open T
  have m_steps : C8.Met pg w K mg base 2 (He.ga K "Allowances") "steps" (spN (R_Allowances_steps K)) [] := p_Allowances_steps T c_is_open c_ascending
  have o_Book : CaO pg w K mg base 4 (He.ga K "Allowances") (R_Allowances_call K) := p_Allowances_call T c_check_date c_ascending m_steps
  have c_pairs_of : Ca pg w K mg base 1 "pairs_of" R_pairs_of := p_pairs_of T
  have c_is_word : Ca pg w K mg base 1 "is_word" R_is_word := p_is_word T
  have m_order : C8.Met pg w K mg base 2 (He.ga K "Rule") "order" (spD (R_Rule_order K)) [] := p_Rule_order T c_is_word
  have m_rank : C8.Met pg w K mg base 3 (He.ga K "Rule") "rank" (spD (R_Rule_rank K)) [] := p_Rule_rank T m_order
  have m_measure : C8.Met pg w K mg base 4 (He.ga K "Rule") "measure" (spD (R_Rule_measure K)) [] := p_Rule_measure T m_rank
  have o_Rule : CaO pg w K mg base 5 (He.ga K "Rule") (R_Rule_call K) := p_Rule_call T m_measure
  have c_later_day : Ca pg w K mg base 2 "later_day" (R_later_day K) := p_later_day T m_dates
  have c_date_of_preferring : Ca pg w K mg base 6 "date_of_preferring" (R_date_of_preferring K) := p_date_of_preferring T o_Rule c_later_day
  have c_dates_from : Ca pg w K mg base 2 "dates_from" (R_dates_from K) := p_dates_from T m_dates
  have c_uses_from : Ca pg w K mg base 5 "uses_from" (R_uses_from K) := p_uses_from T c_check_shares c_check_date c_dates_from m_places o_Book
  have c_new_use : Ca pg w K mg base 6 "new_use" (R_new_use K) := p_new_use T c_uses_from
  have c_fault : Ca pg w K mg base 7 "fault" (R_fault K) := p_fault T c_check_shares m_dates m_places o_Book c_pairs_of c_date_of_preferring c_new_use
  have g_Parts : CaG pg w K mg base 2 (He.ga K "PartsList") (R_PartsList_getitem K) := p_PartsList_getitem T c_is_word
  have c_faulty_events : Ca pg w K mg base 8 "faulty_events" (R_faulty_events K) := p_faulty_events T c_fault o_Rule g_Parts
  have c_is_right : Ca pg w K mg base 8 "is_right" (R_is_right K) := p_is_right T c_fault
  have c_law_pool : Ca pg w K mg base 1 "_law_pool" R_law_pool := p_law_pool T
  have c_law_draw : CaR pg w K mg base 1 "_law_draw" R_law_draw := p_law_draw T
  have c_law_pick : CaR pg w K mg base 2 "_law_pick" R_law_pick := p_law_pick T c_law_draw
  have c_law_rows_drawn : CaR pg w K mg base 3 "_law_rows_drawn" R_law_rows_drawn := p_law_rows_drawn T c_law_draw c_law_pick
  have c_law_plan : CaR pg w K mg base 4 "_law_plan" R_law_plan := p_law_plan T c_law_draw c_law_pick c_law_rows_drawn
  have c_is_place : Ca pg w K mg base 2 "is_place" R_is_place := p_is_place T c_is_word c_is_integer
  have k_PartsList : C8.Mak pg w K mg base 3 "PartsList" (He.ga K "PartsList") (spI (He.ga K "PartsList") R_PartsList_init) [] := p_PartsList_init T c_is_place
  have c_law_list : Ca pg w K mg base 5 "_law_list" (R_law_list K) := p_law_list T k_PartsList
  have c_is_allowance : Ca pg w K mg base 3 "is_allowance" R_is_allowance := p_is_allowance T c_is_word c_is_date
  have c_text_of : Ca pg w K mg base 1 "text_of" R_text_of := p_text_of T
  have k_Allowances : MakA pg w K mg base 4 "Allowances" (He.ga K "Allowances") 1 ["through"] (spI (He.ga K "Allowances") R_Allowances_init) := p_Allowances_init T c_is_allowance c_text_of
  have c_law_book : Ca pg w K mg base 6 "_law_book" (R_law_book K) := p_law_book T k_Allowances
  have c_law_orders : CaR pg w K mg base 2 "_law_orders" R_law_orders := p_law_orders T c_law_draw
  have c_law_rule : CaR pg w K mg base 3 "_law_rule" R_law_rule := p_law_rule T c_law_pick c_law_orders
  have c_is_order : Ca pg w K mg base 2 "is_order" R_is_order := p_is_order T c_is_word
  have c_checked_orders : Ca pg w K mg base 3 "checked_orders" R_checked_orders := p_checked_orders T c_is_word c_is_order
  have k_Rule : C8.Mak pg w K mg base 4 "Rule" (He.ga K "Rule") (spI (He.ga K "Rule") R_Rule_init) [] := p_Rule_init T c_checked_orders
  have c_law_made_rule : Ca pg w K mg base 6 "_law_made_rule" (R_law_made_rule K) := p_law_made_rule T k_Rule
  have c_law_turns : Ca pg w K mg base 1 "_law_turns" R_law_turns := p_law_turns T
  have c_law_days : Ca pg w K mg base 2 "_law_days" R_law_days := p_law_days T c_law_turns
  have c_law_open : Ca pg w K mg base 1 "_law_open" R_law_open := p_law_open T
  have c_law_fits : Ca pg w K mg base 2 "_law_fits" R_law_fits := p_law_fits T c_law_open
  have c_law_rank : Ca pg w K mg base 1 "_law_rank" R_law_rank := p_law_rank T
  have c_law_weight : Ca pg w K mg base 2 "_law_weight" R_law_weight := p_law_weight T c_law_rank
  have c_law_may_prefer : Ca pg w K mg base 3 "_law_may_prefer" R_law_may_prefer := p_law_may_prefer T c_law_fits c_law_weight
  have c_law_uses : Ca pg w K mg base 3 "_law_uses" R_law_uses := p_law_uses T c_law_turns c_law_fits
  have c_law_spare : Ca pg w K mg base 4 "_law_spare" R_law_spare := p_law_spare T c_law_uses
  have c_law_wrong_at : Ca pg w K mg base 5 "_law_wrong_at" R_law_wrong_at := p_law_wrong_at T c_law_days c_law_fits c_law_may_prefer c_law_spare
  have c_law_place : Ca pg w K mg base 1 "_law_place" R_law_place := p_law_place T
  have c_law_fault_right : Ca pg w K mg base 4 "_law_fault_right" R_law_fault_right := p_law_fault_right T c_law_place c_law_fits c_law_may_prefer
  have c_law_choice : Ca pg w K mg base 3 "_law_choice" R_law_choice := p_law_choice T c_law_weight c_law_fits
  have c_law_less : Ca pg w K mg base 1 "_law_less" R_law_less := p_law_less T
  have c_law_done : Ca pg w K mg base 4 "_law_done" R_law_done := p_law_done T c_law_place c_law_choice c_law_less
  have c_law_played : Ca pg w K mg base 5 "_law_played" R_law_played := p_law_played T c_law_done
  have c_law_needs_of : Ca pg w K mg base 2 "_law_needs_of" R_law_needs_of := p_law_needs_of T c_law_place
  have c_law_units_for : Ca pg w K mg base 3 "_law_units_for" R_law_units_for := p_law_units_for T c_law_needs_of c_law_fits
  have c_law_way_on : C8.Cal pg w K mg base 3 "_law_way_on" (spW Way) [] := p_law_way_on T
  have c_law_all_served : Ca pg w K mg base 4 "_law_all_served" R_law_all_served := p_law_all_served T c_law_units_for c_law_way_on
  have c_law_first_wrong : Ca pg w K mg base 5 "_law_first_wrong" R_law_first_wrong := p_law_first_wrong T c_law_all_served
  have c_law_events_right : Ca pg w K mg base 6 "_law_events_right" R_law_events_right := p_law_events_right T c_law_played c_law_first_wrong
  have c_law : ∀ fd, FunD K d_law.name d_law.qual d_law.params d_law.body d_law.scope [] [] (He.ga K "law") fd → FnOk pg w K mg base C8.CX0 9 (He.ga K "law") fd ["_law_script"] (spLaw K) := p_law T c_fault c_faulty_events c_is_right c_law_pool c_law_plan c_law_list c_law_book c_law_rule c_law_made_rule c_law_wrong_at c_law_fault_right c_law_events_right
  exact c_law

end
end Gk

set_option maxHeartbeats 0
/-! the law's end -/
namespace Gk
open PySem PySem.Spec PyProof.Rows L2
theorem facts {w : World} {h : Heap} {mg : Str → Option Value} (Y : hk.says w h) (G : h.Ns mainGlobals mg) : ∃ (K : PySem.W.Frag) (fd : FuncData), K.In h ∧ mg ("law" : Str) = some (.ref (He.ga K "law")) ∧ (∀ (s : Shared) (v : Value), BindsTo s fd ⟨[v], []⟩ [("_law_script", v)]) ∧
    ∀ base : Heap, FnOk R.prog w K mg base C8.CX0 9 (He.ga K "law") fd ["_law_script"] (spLaw K) := by
  obtain ⟨K, KX, c, e, k⟩ := Y
  have T := Tx.of KX G c e k
  obtain ⟨fd, F⟩ := T.d_law
  have b := FunD.bindsA (ps := ["_law_script"]) F fun _ _ _ _ _ _ us hl => match us, hl with | [_], _ => rfl
  exact ⟨K, fd, KX, T.g_law, fun s v => b s [v] rfl, fun base => law_def (pg := R.prog) (w := w) (base := base) T fd F⟩
end Gk
open PySem PySem.W PySem.Calls PyProof.Rows
theorem PySem.Challenge.cw_standinparts_k38_whole_rules_judged_holds : PySem.Challenge.rw_standinparts_k38_whole_rules_judged.Holds := by
  w_on; o_law
  refine HandSHeadRun.head_any (r := OpenLaw.row PySem.Challenge.rw_standinparts_k38_whole_rules_judged) (q := view (OpenLaw.row PySem.Challenge.rw_standinparts_k38_whole_rules_judged).prog [86]) (H := Gk.hk) (ob := Gk.ob) (M := 8000) (loose := Gk.names) (d := HandSHeadRun.topDef (OpenLaw.row PySem.Challenge.rw_standinparts_k38_whole_rules_judged).prog 86) (kwd := []) Gk.ob_eq
    (by kernel_rfl) (fun s => by kernel_rfl) Gk.run (by kernel_rfl) (by kernel_rfl) (by kernel_rfl) (by rfl) (by first | assumption | decide +kernel) (by decide +kernel) ⟨rfl, rfl, rfl, rfl, rfl, by decide +kernel⟩ ?hw ?hc
  case hw => w_witness2
  case hc =>
    refine L2.walk_ofE (l := PySem.Challenge.rw_standinparts_k38_whole_rules_judged) (n := 63) (k := 9) (x := "_law_script") (CX := C8.CX0) rfl (by decide) (by kernel_rfl) ⟨rfl, by decide, by decide⟩ ?F (fun _ _ _ _ z => z)
    intro w mg fa h Y G hmg0
    obtain ⟨K, fd, KX, hg, hb, hF⟩ := Gk.facts Y G
    have hmg : mg ("law" : PySem.Str) = some (.ref fa) := by
      have e : (HandSHeadRun.topDef (OpenLaw.row PySem.Challenge.rw_standinparts_k38_whole_rules_judged).prog 86).name = ("law" : PySem.Str) := by kernel_rfl
      rw [← e]
      exact hmg0
    have ea : fa = He.ga K "law" := by
      have z := hmg.symm.trans hg
      cases z
      rfl
    subst ea
    exact ⟨K, fd, Gk.spLaw K, KX, hb, fun H a ns hl _ hS => ⟨a, ns, rfl, hS, fun _ => rfl⟩, fun base _ _ => hF base⟩

