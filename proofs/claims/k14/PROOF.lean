import PyProof.Rows.All
import Wide.All
import OpenK.AllK
import Wide.FinOn
import HandS.ForMost
import HandS.IsInst
import HandS.DictComp
import HandS.Flow
import HandS.Walk
import HandS.More
import HandS.Style
import HandS.FStr
import HandS.Text
import KE.GoesEnum
import KE.KDictZip
import PyProof.ListNew
import HandS.GenList
import HandS.TupAny
import OpenK.XSeg
import HandS.Deep
import PyProof.NeKinds
import PyProof.RulesMatch
import HandS.Strs
import HandS.Conv
import KE.KDictWalk
import HandS.Star
import HandS.Small
import PyProof.Rows.CountFlat
import KE.DataFind
import HandS.DeepEq
import KE.KEqNest
import KE.KDictCopyH
import KE.KeyNested
import PyProof.Rows.RuleB_pow
import PyProof.DictTruth
import PySem.Challenge.RW_schemacheck_k14_companions_odd_keys_and
set_option Elab.async false
set_option linter.all false
set_option maxRecDepth 100000
set_option maxHeartbeats 4000000
/-! Schemacheck: data as trees over the abstract heap. -/
namespace SC
open PySem L2

/-! ### pairs -/
theorem pd_len {A B : Type} {F : A → B → Prop} {xs : List A} {ys : List B} (h : Paired F xs ys) : xs.length = ys.length := by
  induction h with
  | nil => rfl
  | cons _ _ ih => simp [ih]
theorem pd_imp {A B : Type} {F G : A → B → Prop} {xs : List A} {ys : List B} (h : Paired F xs ys) (f : ∀ a b, a ∈ xs → b ∈ ys → F a b → G a b) : Paired G xs ys := by
  induction h with
  | nil => exact .nil
  | cons r _ ih => exact .cons (f _ _ (by simp) (by simp) r) (ih fun a b ha hb q => f a b (by simp [ha]) (by simp [hb]) q)
theorem pd_app {A B : Type} {F : A → B → Prop} {xs zs : List A} {ys ws : List B} (h : Paired F xs ys) (g : Paired F zs ws) : Paired F (xs ++ zs) (ys ++ ws) := by
  induction h with
  | nil => exact g
  | cons r _ ih => exact .cons r ih
theorem pd_get {A B : Type} {F : A → B → Prop} {xs : List A} {ys : List B} (h : Paired F xs ys) : ∀ {i : Nat} {x : A}, xs[i]? = some x → ∃ y, ys[i]? = some y ∧ F x y := by
  induction h with
  | nil => intro i x e; simp at e
  | cons r _ ih =>
    intro i x e
    cases i with
    | zero => simp at e; subst e; exact ⟨_, rfl, r⟩
    | succ i => simp at e; obtain ⟨y, h1, h2⟩ := ih e; exact ⟨y, by simpa using h1, h2⟩
theorem pd_memR {A B : Type} {F : A → B → Prop} {xs : List A} {ys : List B} (h : Paired F xs ys) : ∀ {y : B}, y ∈ ys → ∃ x, x ∈ xs ∧ F x y := by
  induction h with
  | nil => intro y e; simp at e
  | cons r _ ih =>
    intro y e
    rcases List.mem_cons.mp e with rfl | e
    · exact ⟨_, by simp, r⟩
    · obtain ⟨x, h1, h2⟩ := ih e; exact ⟨x, by simp [h1], h2⟩
theorem pd_eq {A B : Type} {F G : A → B → Prop} {xs : List A} {ys zs : List B} (h : Paired F xs ys) (g : Paired G xs zs) (f : ∀ a b c, b ∈ ys → c ∈ zs → F a b → G a c → b = c) : ys = zs := by
  induction h generalizing zs with
  | nil => cases g; rfl
  | cons r _ ih =>
    cases g with
    | cons r2 g2 =>
      rw [f _ _ _ (by simp) (by simp) r r2, ih g2 fun a b c hb hc => f a b c (by simp [hb]) (by simp [hc])]

/-! ### a value stands for a datum, at most n deep -/
def kD : Key → PyData
  | .inl i => .int i
  | .inr x => .str x
theorem kD_inj {a b : Key} (h : kD a = kD b) : a = b := by
  cases a <;> cases b <;> simp [kD] at h <;> simp [h]
def Rp (H : Hp) : Nat → V → PyData → Prop
  | 0, _, _ => False
  | _ + 1, v, .none => v = .non
  | _ + 1, v, .bool b => v = .bl b
  | _ + 1, v, .int i => v = .int i
  | _ + 1, v, .str x => v = .str x
  | n + 1, v, .list ds => ∃ a xs, v = .ref a ∧ H a = some (.lst xs) ∧ xs.length ≤ 10000 ∧ Paired (Rp H n) xs ds
  | n + 1, v, .tuple ds => ∃ a xs, v = .ref a ∧ H a = some (.tup xs) ∧ xs.length ≤ 10000 ∧ Paired (Rp H n) xs ds
  | n + 1, v, .dict es => ∃ a kvs, v = .ref a ∧ Rd H a (.dK kvs) ∧ kvs.length ≤ 10000 ∧ (kvs.map (·.1)).Nodup ∧ Paired (fun (p : Key × V) (q : PyData × PyData) => q.1 = kD p.1 ∧ Rp H n p.2 q.2) kvs es
theorem rd_same {H H' : Hp} {a : Addr} {u : HO} (e : Same H H') (h : Rd H a u) : Rd H' a u := by
  rcases h with h | ⟨o, h⟩
  · exact .inl (e _ _ h)
  · exact .inr ⟨o, e _ _ h⟩
/-- all is as it was, but dicts may be locked -/
def LSame (H H' : Hp) : Prop := ∀ b o, H b = some o → H' b = some o ∨ ∃ kvs od, o = .dK kvs ∧ H' b = some (.frz od (.dK kvs))
theorem LSame.of {H H' : Hp} (h : Same H H') : LSame H H' := fun b o e => .inl (h b o e)
theorem LSame.refl (H : Hp) : LSame H H := fun b o e => .inl e
theorem LSame.trans {H H1 H2 : Hp} (a : LSame H H1) (b : LSame H1 H2) : LSame H H2 := fun c o e => by
  rcases a c o e with h | ⟨kvs, od, h1, h2⟩
  · exact b c o h
  · rcases b c _ h2 with h | ⟨_, _, h3, _⟩
    · exact .inr ⟨kvs, od, h1, h⟩
    · cases h3
theorem LSame.lst {H H' : Hp} {a : Addr} {xs : List V} (h : LSame H H') (e : H a = some (.lst xs)) : H' a = some (.lst xs) := by
  rcases h a _ e with q | ⟨_, _, q, _⟩
  · exact q
  · cases q
theorem LSame.tup {H H' : Hp} {a : Addr} {xs : List V} (h : LSame H H') (e : H a = some (.tup xs)) : H' a = some (.tup xs) := by
  rcases h a _ e with q | ⟨_, _, q, _⟩
  · exact q
  · cases q
theorem LSame.rdk {H H' : Hp} {a : Addr} {kvs : List (Key × V)} (h : LSame H H') (e : Rd H a (.dK kvs)) : Rd H' a (.dK kvs) := by
  rcases e with e | ⟨od, e⟩
  · rcases h a _ e with q | ⟨k2, od, q, q2⟩
    · exact .inl q
    · cases q; exact .inr ⟨od, q2⟩
  · rcases h a _ e with q | ⟨_, _, q, _⟩
    · exact .inr ⟨od, q⟩
    · cases q
theorem Rp.imp {H H' : Hp} : ∀ {n : Nat} {v : V} {d : PyData}, Same H H' → Rp H n v d → Rp H' n v d
  | 0, _, _, _, h => h
  | n + 1, v, .none, _, h => h
  | n + 1, v, .bool _, _, h => h
  | n + 1, v, .int _, _, h => h
  | n + 1, v, .str _, _, h => h
  | n + 1, v, .list ds, e, ⟨a, xs, h1, h2, hb, h3⟩ => ⟨a, xs, h1, e _ _ h2, hb, pd_imp h3 fun _ _ _ _ q => Rp.imp e q⟩
  | n + 1, v, .tuple ds, e, ⟨a, xs, h1, h2, hb, h3⟩ => ⟨a, xs, h1, e _ _ h2, hb, pd_imp h3 fun _ _ _ _ q => Rp.imp e q⟩
  | n + 1, v, .dict es, e, ⟨a, xs, h1, h2, hb, hn, h3⟩ => ⟨a, xs, h1, rd_same e h2, hb, hn, pd_imp h3 fun _ _ _ _ q => ⟨q.1, Rp.imp e q.2⟩⟩
theorem Rp.up1 {H : Hp} : ∀ {n : Nat} {v : V} {d : PyData}, Rp H n v d → Rp H (n + 1) v d
  | 0, _, _, h => h.elim
  | n + 1, v, .none, h => h
  | n + 1, v, .bool _, h => h
  | n + 1, v, .int _, h => h
  | n + 1, v, .str _, h => h
  | n + 1, v, .list ds, ⟨a, xs, h1, h2, hb, h3⟩ => ⟨a, xs, h1, h2, hb, pd_imp h3 fun _ _ _ _ q => Rp.up1 q⟩
  | n + 1, v, .tuple ds, ⟨a, xs, h1, h2, hb, h3⟩ => ⟨a, xs, h1, h2, hb, pd_imp h3 fun _ _ _ _ q => Rp.up1 q⟩
  | n + 1, v, .dict es, ⟨a, xs, h1, h2, hb, hn, h3⟩ => ⟨a, xs, h1, h2, hb, hn, pd_imp h3 fun _ _ _ _ q => ⟨q.1, Rp.up1 q.2⟩⟩
theorem Rp.up {H : Hp} {n m : Nat} {v : V} {d : PyData} (h : Rp H n v d) (hl : n ≤ m) : Rp H m v d := by
  induction hl with
  | refl => exact h
  | step _ ih => exact ih.up1
theorem Rp.pos {H : Hp} {n : Nat} {v : V} {d : PyData} (h : Rp H n v d) : 0 < n := by
  cases n with
  | zero => exact h.elim
  | succ n => omega
theorem Rp.lk {H H' : Hp} : ∀ {n : Nat} {v : V} {d : PyData}, LSame H H' → Rp H n v d → Rp H' n v d
  | 0, _, _, _, h => h
  | n + 1, v, .none, _, h => h
  | n + 1, v, .bool _, _, h => h
  | n + 1, v, .int _, _, h => h
  | n + 1, v, .str _, _, h => h
  | n + 1, v, .list ds, e, ⟨a, xs, h1, h2, hb, h3⟩ => ⟨a, xs, h1, e.lst h2, hb, pd_imp h3 fun _ _ _ _ q => Rp.lk e q⟩
  | n + 1, v, .tuple ds, e, ⟨a, xs, h1, h2, hb, h3⟩ => ⟨a, xs, h1, e.tup h2, hb, pd_imp h3 fun _ _ _ _ q => Rp.lk e q⟩
  | n + 1, v, .dict es, e, ⟨a, xs, h1, h2, hb, hn, h3⟩ => ⟨a, xs, h1, e.rdk h2, hb, hn, pd_imp h3 fun _ _ _ _ q => ⟨q.1, Rp.lk e q.2⟩⟩
/-- a value stands for one datum alone -/
theorem rd_one {H : Hp} {a : Addr} {x y : List (Key × V)} (h : Rd H a (.dK x)) (g : Rd H a (.dK y)) : x = y := by
  rcases h with h | ⟨o, h⟩ <;> rcases g with g | ⟨u, g⟩ <;> rw [h] at g <;> cases g <;> rfl
theorem Rp.one {H : Hp} : ∀ {n m : Nat} {v : V} {d e : PyData}, Rp H n v d → Rp H m v e → d = e
  | 0, _, _, _, _, h, _ => h.elim
  | _, 0, _, _, _, _, h => h.elim
  | n + 1, m + 1, v, .none, e, h, g => by
    cases h
    cases e <;> simp [Rp] at g <;> rfl
  | n + 1, m + 1, v, .bool b, e, h, g => by
    cases h
    cases e <;> simp [Rp] at g
    subst g; rfl
  | n + 1, m + 1, v, .int b, e, h, g => by
    cases h
    cases e <;> simp [Rp] at g
    subst g; rfl
  | n + 1, m + 1, v, .str b, e, h, g => by
    cases h
    cases e <;> simp [Rp] at g
    subst g; rfl
  | n + 1, m + 1, v, .list ds, e, ⟨a, xs, h1, h2, hb, h3⟩, g => by
    subst h1
    cases e <;> simp [Rp] at g
    · obtain ⟨ys, g2, gb, g3⟩ := g
      rw [h2] at g2; cases g2
      rw [pd_eq h3 g3 fun _ _ _ _ _ p q => Rp.one p q]
    · rw [h2] at g; simp at g
    · obtain ⟨ys, g2, _⟩ := g
      rcases g2 with g2 | ⟨_, g2⟩ <;> rw [h2] at g2 <;> cases g2
  | n + 1, m + 1, v, .tuple ds, e, ⟨a, xs, h1, h2, hb, h3⟩, g => by
    subst h1
    cases e <;> simp [Rp] at g
    · rw [h2] at g; simp at g
    · obtain ⟨ys, g2, gb, g3⟩ := g
      rw [h2] at g2; cases g2
      rw [pd_eq h3 g3 fun _ _ _ _ _ p q => Rp.one p q]
    · obtain ⟨ys, g2, _⟩ := g
      rcases g2 with g2 | ⟨_, g2⟩ <;> rw [h2] at g2 <;> cases g2
  | n + 1, m + 1, v, .dict es, e, ⟨a, xs, h1, h2, hb, hn, h3⟩, g => by
    subst h1
    cases e <;> simp [Rp] at g
    · obtain ⟨ys, g2, _⟩ := g
      rcases h2 with h2 | ⟨_, h2⟩ <;> rw [h2] at g2 <;> cases g2
    · obtain ⟨ys, g2, _⟩ := g
      rcases h2 with h2 | ⟨_, h2⟩ <;> rw [h2] at g2 <;> cases g2
    · obtain ⟨ys, g2, gb, gn, g3⟩ := g
      cases rd_one h2 g2
      rw [pd_eq h3 g3 fun x b c _ _ p q => by
        obtain ⟨b1, b2⟩ := b
        obtain ⟨c1, c2⟩ := c
        obtain ⟨p1, p2⟩ := p
        obtain ⟨q1, q2⟩ := q
        simp at p1 q1 p2 q2
        rw [p1, q1, Rp.one p2 q2]]
/-- without the place a -/
def del (H : Hp) (a : Addr) : Hp := fun b => if b = a then none else H b
theorem del_ne {H : Hp} {a b : Addr} (h : b ≠ a) : del H a b = H b := if_neg h
theorem del_at {H : Hp} {a : Addr} : del H a a = none := if_pos rfl
theorem del_sub (H : Hp) (a : Addr) : Same (del H a) H := fun b o e => by
  by_cases hb : b = a
  · subst hb; rw [del_at] at e; cases e
  · rw [del_ne hb] at e; exact e
theorem rd_del {H : Hp} {a b : Addr} {u : HO} (hb : b ≠ a) (h : Rd H b u) : Rd (del H a) b u := by
  rcases h with h | ⟨o, h⟩
  · exact .inl (by rw [del_ne hb]; exact h)
  · exact .inr ⟨o, by rw [del_ne hb]; exact h⟩
/-- a smaller datum does not hold a greater one -/
theorem Rp.del {H : Hp} {a : Addr} {m : Nat} {D : PyData} (hD : Rp H m (.ref a) D) : ∀ {n : Nat} {v : V} {d : PyData}, sizeOf d < sizeOf D → Rp H n v d → Rp (del H a) n v d
  | 0, _, _, _, h => h
  | n + 1, v, .none, _, h => h
  | n + 1, v, .bool _, _, h => h
  | n + 1, v, .int _, _, h => h
  | n + 1, v, .str _, _, h => h
  | n + 1, v, .list ds, hs, h => by
    obtain ⟨b, xs, h1, h2, hl, h3⟩ := id h
    have hb : b ≠ a := by
      rintro rfl
      subst h1
      rw [Rp.one h hD] at hs
      exact absurd hs (Nat.lt_irrefl _)
    refine ⟨b, xs, h1, by rw [del_ne hb]; exact h2, hl, pd_imp h3 fun x d _ hd q => Rp.del hD ?_ q⟩
    have := List.sizeOf_lt_of_mem hd
    simp at hs
    omega
  | n + 1, v, .tuple ds, hs, h => by
    obtain ⟨b, xs, h1, h2, hl, h3⟩ := id h
    have hb : b ≠ a := by
      rintro rfl
      subst h1
      rw [Rp.one h hD] at hs
      exact absurd hs (Nat.lt_irrefl _)
    refine ⟨b, xs, h1, by rw [del_ne hb]; exact h2, hl, pd_imp h3 fun x d _ hd q => Rp.del hD ?_ q⟩
    have := List.sizeOf_lt_of_mem hd
    simp at hs
    omega
  | n + 1, v, .dict es, hs, h => by
    obtain ⟨b, xs, h1, h2, hl, hn, h3⟩ := id h
    have hb : b ≠ a := by
      rintro rfl
      subst h1
      rw [Rp.one h hD] at hs
      exact absurd hs (Nat.lt_irrefl _)
    refine ⟨b, xs, h1, rd_del hb h2, hl, hn, pd_imp h3 fun x d _ hd q => ⟨q.1, Rp.del hD ?_ q.2⟩⟩
    have h4 := List.sizeOf_lt_of_mem hd
    obtain ⟨d1, d2⟩ := d
    simp at hs h4
    show sizeOf d2 < _
    omega
/-- nothing is locked -/
def NoFrz (G : Hp) : Prop := ∀ a o u, G a ≠ some (.frz o u)
theorem NoFrz.rd {G : Hp} {a : Addr} {u : HO} (h : NoFrz G) (r : Rd G a u) : G a = some u := by
  rcases r with r | ⟨o, r⟩
  · exact r
  · exact absurd r (h a o u)
theorem NoFrz.del {G : Hp} (h : NoFrz G) (a : Addr) : NoFrz (del G a) := fun b o u e => h b o u (del_sub G a b _ e)
theorem size_kv {es : List (PyData × PyData)} {q : PyData × PyData} (h : q ∈ es) : sizeOf q.2 < sizeOf (PyData.dict es) := by
  have h4 := List.sizeOf_lt_of_mem h
  obtain ⟨d1, d2⟩ := q
  simp at h4
  show sizeOf d2 < _
  simp
  omega
theorem size_item {ds : List PyData} {d : PyData} (h : d ∈ ds) : sizeOf d < sizeOf (PyData.list ds) := by
  have h4 := List.sizeOf_lt_of_mem h
  simp
  omega

/-! ### heaps: all as before, but for some places -/
def Keep (S : List Addr) (H H' : Hp) : Prop := ∀ b o, H b = some o → b ∉ S → H' b = some o
theorem Keep.refl (S : List Addr) (H : Hp) : Keep S H H := fun _ _ h _ => h
theorem Keep.trans {S : List Addr} {H H1 H2 : Hp} (a : Keep S H H1) (b : Keep S H1 H2) : Keep S H H2 := fun c o h n => b c o (a c o h n) n
theorem Keep.sub {S T : List Addr} {H H' : Hp} (a : Keep S H H') (h : ∀ b ∈ S, b ∈ T) : Keep T H H' := fun c o e n => a c o e fun z => n (h c z)
theorem Keep.of {S : List Addr} {H H' : Hp} (a : Same H H') : Keep S H H' := fun c o e _ => a c o e
theorem Keep.same {H H' : Hp} (a : Keep [] H H') : Same H H' := fun c o e => a c o e (by simp)
theorem Keep.new {S : List Addr} {H H' : Hp} {p : Addr} {o : HO} (a : Keep S H H') (h : H' p = none) : Keep S H (upd H' p o) := fun c u e n => by
  rw [upd_ne (ne_of_none (a c u e n) h)]
  exact a c u e n
theorem Keep.mut {S : List Addr} {H H' : Hp} {p : Addr} {o : HO} (a : Keep S H H') (h : p ∈ S) : Keep S H (upd H' p o) := fun c u e n => by
  have hc : c ≠ p := fun z => n (by rw [z]; exact h)
  rw [upd_ne hc]
  exact a c u e n
theorem Keep.fresh {S : List Addr} {H H' : Hp} {p : Addr} {o : HO} (a : Keep S H H') (h : H p = none) : Keep S H (upd H' p o) := fun c u e n => by
  rw [upd_ne (ne_of_none e h)]
  exact a c u e n
theorem Keep.free {S : List Addr} {H H' : Hp} {p : Addr} (a : Keep S H H') (h : H' p = none) (n : p ∉ S) : H p = none := by
  cases e : H p with
  | none => rfl
  | some o =>
    rw [a p o e n] at h
    cases h
theorem same_new {H : Hp} {p : Addr} (h : H p = none) (o : HO) : Same H (upd H p o) := fun b u q => by rw [upd_ne (ne_of_none q h)]; exact q
theorem same_mut {H H' : Hp} {p : Addr} {o : HO} (a : Same H H') (h : H p = none) : Same H (upd H' p o) := fun c u e => by
  rw [upd_ne (ne_of_none e h)]
  exact a c u e
/-- what is new in H' -/
def news (H H' : Hp) : Hp := fun a => match H a with
  | some _ => none
  | none => H' a
theorem news_sub (H H' : Hp) : Same (news H H') H' := fun b o e => by
  unfold news at e
  split at e
  · cases e
  · exact e
theorem news_no {H H' : Hp} {a : Addr} {o : HO} (h : H a = some o) : news H H' a = none := by
  unfold news; rw [h]
theorem news_at {H H' : Hp} {a : Addr} (h : H a = none) : news H H' a = H' a := by
  unfold news; rw [h]
/-- a later heap that keeps all that H1 has outside S, S known in H -/
theorem news_mono {S : List Addr} {H H1 H2 : Hp} (k : Keep S H1 H2) (hs : ∀ a ∈ S, H a ≠ none) : Same (news H H1) (news H H2) := fun b o e => by
  unfold news at e ⊢
  split at e
  · cases e
  · rename_i hb
    exact k b o e fun z => hs b z hb
/-- newer than H1 is newer than H -/
theorem news_more {S : List Addr} {H H1 H2 : Hp} (k : Keep S H H1) (hs : ∀ a ∈ S, H1 a ≠ none) : Same (news H1 H2) (news H H2) := fun b o e => by
  unfold news at e ⊢
  split at e
  · cases e
  · rename_i hb
    split
    · rename_i u hu
      by_cases hz : b ∈ S
      · exact absurd hb (hs b hz)
      · rw [k b _ hu hz] at hb; cases hb
    · exact e

/-- a turn of a loop that makes new data and stores at D -/
theorem grow {S : List Addr} {Hx H1 H4 : Hp} {D : Addr} {o : HO} (k1 : Keep S Hx H1) (k2 : Keep S H1 H4) (hx : ∀ a ∈ S, Hx a ≠ none) (h1 : ∀ a ∈ S, H1 a ≠ none) (hD : D ∈ S) :
    Same (news Hx H1) (news Hx (upd H4 D o)) ∧ Same (news H1 H4) (news Hx (upd H4 D o)) :=
  ⟨news_mono (k2.mut hD) hx, (news_more k1 h1).trans (news_mono (S := S) ((Keep.refl _ _).mut hD) hx)⟩

/-! ### the script, read and never written -/
def Scr (K : PySem.W.Frag) (H : Hp) (a : Addr) (ns : List Int) : Prop := (∃ ob, H a = some (.frz ob (.lst (ns.map V.int)))) ∨ ∀ H' : Hp, SqL K H' a (ns.map V.int)
theorem Scr.of {K : PySem.W.Frag} {H : Hp} {a : Addr} {ns : List Int} (h : SqL K H a (ns.map V.int)) (hO : Only H) : Scr K H a ns := by
  rcases h with (h | ⟨o, h⟩) | h
  · rcases hO a with z | ⟨ob, xs, z⟩
    · rw [z] at h; cases h
    · rw [z] at h; cases h
  · exact .inl ⟨o, h⟩
  · exact .inr fun _ => .inr h
theorem Scr.sq {K : PySem.W.Frag} {H : Hp} {a : Addr} {ns : List Int} (h : Scr K H a ns) : SqL K H a (ns.map V.int) := by
  rcases h with ⟨o, h⟩ | h
  · exact .inl (.inr ⟨o, h⟩)
  · exact h H
theorem Scr.keep {K : PySem.W.Frag} {S : List Addr} {H H' : Hp} {a : Addr} {ns : List Int} (h : Scr K H a ns) (k : Keep S H H') (n : ∀ b ∈ S, ∀ ob u, H b ≠ some (.frz ob u)) : Scr K H' a ns := by
  rcases h with ⟨o, h⟩ | h
  · refine .inl ⟨o, k _ _ h fun z => ?_⟩
    exact n a z _ _ h
  · exact .inr h
theorem Scr.same {K : PySem.W.Frag} {H H' : Hp} {a : Addr} {ns : List Int} (h : Scr K H a ns) (k : Same H H') : Scr K H' a ns := by
  rcases h with ⟨o, h⟩ | h
  · exact .inl ⟨o, k _ _ h⟩
  · exact .inr h
theorem Scr.put {K : PySem.W.Frag} {H : Hp} {a b : Addr} {ns : List Int} {xs : List V} {o : HO} (h : Scr K H a ns) (e : H b = some (.lst xs)) : Scr K (upd H b o) a ns := by
  rcases h with ⟨u, h⟩ | h
  · refine .inl ⟨u, ?_⟩
    rw [upd_ne (ne_of h e (by intro z; cases z))]
    exact h
  · exact .inr h
end SC

set_option Elab.async false
set_option linter.all false
set_option maxRecDepth 100000
set_option maxHeartbeats 4000000
/-! Schemacheck: defs that are ready to be called, built-ins, kinds of values. -/
namespace SC
open PySem L2

/-! ### a def that may be called -/
def Rdy (P : Program) (w : World) (K : PySem.W.Frag) (mg : Str → Option Value) (base : Heap) (k : Nat) (x : Str) (ps : List Str) (sp : Sp) : Prop :=
  ∃ f fd, FnOk P w K mg base CX0 k f fd ps sp ∧ mg x = some (.ref f) ∧ PySem.W.keepIn K (.ref f) = true ∧ Binds K fd ps []
/-- and with keywords ks: gV puts the positional values and the keywords' values in order -/
def RdyK (P : Program) (w : World) (K : PySem.W.Frag) (mg : Str → Option Value) (base : Heap) (k : Nat) (x : Str) (ps ks : List Str) (gV : List V → List V → List V) (sp : Sp) : Prop :=
  ∃ f fd g, FnOk P w K mg base CX0 k f fd ps sp ∧ mg x = some (.ref f) ∧ PySem.W.keepIn K (.ref f) = true ∧ KBinds K fd ps ks g gV
theorem Rdy.mono {P : Program} {w : World} {K : PySem.W.Frag} {mg : Str → Option Value} {base : Heap} {j k : Nat} {x : Str} {ps : List Str} {sp : Sp} (h : Rdy P w K mg base j x ps sp) (l : j ≤ k) : Rdy P w K mg base k x ps sp := by
  obtain ⟨f, fd, h1, h2⟩ := h
  exact ⟨f, fd, h1.mono l, h2⟩
section
variable {X : Cx} {k : Nat} {x : Str} {ps ks : List Str} {sp : Sp} {p pos : Pos} {e : Expr} {es : List Expr} {kws : List Keyword} {t tk : TA} {gV : List V → List V → List V}
theorem pe_c (R : Rdy X.prog X.w X.K X.mg X.base k x ps sp) (hr : Room k X.A) (hg : Gl X x) (ha : PA X (e :: es) t) (hdb : (x == ("__debug__" : Str)) = false := by decide)
    (he : starEach (e :: es) X.env = (false, eval e X.env) :: starEach es X.env := by rfl) (hpl : (backTo pos (starEach es X.env)).any (·.1) = false := by rfl) : PE X (.Call (.Name x p) (e :: es) [] pos) (tCall sp [] E0 t) := by
  obtain ⟨f, fd, h1, h2, h3, h4⟩ := R
  exact pe_call h1 hr hg h2 h3 h4 .nil pass0 ha hdb he hpl
theorem pe_c0 (R : Rdy X.prog X.w X.K X.mg X.base k x ps sp) (hr : Room k X.A) (hg : Gl X x) (hdb : (x == ("__debug__" : Str)) = false := by decide) : PE X (.Call (.Name x p) [] [] pos) (tCall sp [] E0 tNil) := by
  obtain ⟨f, fd, h1, h2, h3, h4⟩ := R
  exact pe_call0 h1 hr hg h2 h3 h4 .nil pass0 hdb
theorem pe_ck (_R : Rdy X.prog X.w X.K X.mg X.base k x ps sp) (hr : Room k X.A) (hg : Gl X x) (R : RdyK X.prog X.w X.K X.mg X.base k x ps ks gV sp) (ha : PA X (e :: es) t) (hkw : PK X kws tk)
    (hall : (backToKw pos (keywordEach kws X.env)).all (·.1.isSome) = true := by rfl) (hks : (backToKw pos (keywordEach kws X.env)).filterMap (·.1) = ks := by rfl) (hdb : (x == ("__debug__" : Str)) = false := by decide)
    (he : starEach (e :: es) X.env = (false, eval e X.env) :: starEach es X.env := by rfl) (hpl : ((backTo pos (starEach (e :: es) X.env)).any (·.1) || (backToKw pos (keywordEach kws X.env)).any (·.1.isNone)) = false := by rfl) :
    PE X (.Call (.Name x p) (e :: es) kws pos) (tCallK sp gV E0 t tk) := by
  obtain ⟨f, fd, g, h1, h2, h3, h4⟩ := R
  exact pe_callK h1 hr hg h2 h3 h4 pass0 ha hkw hall hks hdb he hpl
/-- only keywords -/
theorem pe_ck0 (_R : Rdy X.prog X.w X.K X.mg X.base k x ps sp) (hr : Room k X.A) (hg : Gl X x) (R : RdyK X.prog X.w X.K X.mg X.base k x ps ks gV sp) (hkw : PK X kws tk)
    (hall : (backToKw pos (keywordEach kws X.env)).all (·.1.isSome) = true := by rfl) (hks : (backToKw pos (keywordEach kws X.env)).filterMap (·.1) = ks := by rfl) (hdb : (x == ("__debug__" : Str)) = false := by decide)
    (hpl : ((backTo pos (starEach [] X.env)).any (·.1) || (backToKw pos (keywordEach kws X.env)).any (·.1.isNone)) = false := by rfl) :
    PE X (.Call (.Name x p) [] kws pos) (tCallK sp gV E0 tNil tk) := by
  obtain ⟨f, fd, g, h1, h2, h3, h4⟩ := R
  constructor
  intro pins s σ H Q I h
  apply wpAny_Call_Name_kw
  apply ld_glob I hg h2 _ hdb
  apply PySem.W.callWith_KW0 (h₀ := X.base) I.ok.mod.kin h3 hall _ hpl
  apply thn (hkw.run pos pins s σ H _ I h)
  rintro ws s2 ⟨zs, H2, I2, rz, q2⟩
  constructor
  · exact I2.kIn
  · rw [hks]
    exact run_fnk (us := []) (vs := []) h1 hr h4 pass0 I2 .nil rz q2
end
/-- the def st stands at the name x, with parameters ps -/
def Def (K : PySem.W.Frag) (mg : Str → Option Value) (x : Str) (st : Stmt) (f : Addr) (fd : FuncData) : Prop := Fun K x x st f fd ∧ mg x = some (.ref f)
theorem Def.rdy {P : Program} {w : World} {K : PySem.W.Frag} {mg : Str → Option Value} {base : Heap} {k : Nat} {x : Str} {st : Stmt} {f : Addr} {fd : FuncData} {ps : List Str} {sp : Sp} (D : Def K mg x st f fd)
    (b : ∀ (kV doc pm : Value) (an : Option Addr) (cdv ct : Value) (us : List Value), us.length = ps.length → bindArgs (PySem.W.fnOf x x (defArgs st) (defBody st) (defScope st) .none kV doc pm an cdv ct) ⟨us, []⟩ = pure (ps.zip us))
    (h : FnOk P w K mg base CX0 k f fd ps sp) : Rdy P w K mg base k x ps sp := ⟨f, fd, h, D.2, D.1.kp, D.1.binds b⟩
theorem Def.rdyK {P : Program} {w : World} {K : PySem.W.Frag} {mg : Str → Option Value} {base : Heap} {k : Nat} {x : Str} {st : Stmt} {f : Addr} {fd : FuncData} {ps : List Str} {sp : Sp} (D : Def K mg x st f fd) (ks : List Str) (g : {α : Type} → List α → List α → List α)
    (hrel : ∀ {vs zs : List V} {us ws : List Value}, Vals vs us → Vals zs ws → Vals (g vs zs) (g us ws))
    (b : ∀ (kV doc pm : Value) (an : Option Addr) (cdv ct : Value) (us ws : List Value), (g us ws).length = ps.length → bindArgs (PySem.W.fnOf x x (defArgs st) (defBody st) (defScope st) .none kV doc pm an cdv ct) ⟨us, ks.zip ws⟩ = pure (ps.zip (g us ws)))
    (h : FnOk P w K mg base CX0 k f fd ps sp) : RdyK P w K mg base k x ps ks (fun vs zs => g vs zs) sp := by
  obtain ⟨oc, od, kV, doc, pm, an, cdv, ct, osl, rfl, lk, hcd⟩ := D.1.ex
  exact ⟨f, _, fun us ws => g us ws, h, D.2, D.1.kp, ⟨fun s us ws _ hl => .of_eq (b kV doc pm an cdv ct us ws hl), hrel⟩⟩

theorem vals_app : ∀ {vs zs : List V} {us ws : List Value}, Vals vs us → Vals zs ws → Vals (vs ++ zs) (us ++ ws) := fun a b => a.append b
/-! ### built-ins that the module has not named otherwise -/
structure Blt (mg : Str → Option Value) : Prop where
  b_len : mg "len" = none
  b_range : mg "range" = none
  b_isinstance : mg "isinstance" = none
  b_max : mg "max" = none
  b_min : mg "min" = none
  b_list : mg "list" = none
  b_dict : mg "dict" = none
  b_int : mg "int" = none
  b_str : mg "str" = none
  b_bool : mg "bool" = none
  b_tuple : mg "tuple" = none
  b_sorted : mg "sorted" = none
  b_enumerate : mg "enumerate" = none
  b_repr : mg "repr" = none
  b_all : mg "all" = none
  b_any : mg "any" = none
  b_zip : mg "zip" = none
  b_set : mg "set" = none
  b_sum : mg "sum" = none

/-! ### text * number -/
theorem op_mul_str {X : Cx} : OpR X (binaryOp .Mult) (fun x y H Q => ∃ z n, x = .str z ∧ y = .int n ∧ MulOk z n ∧ Q (.str (Txt.mul z n)) H) := by
  intro pins s σ H x y v u Q I rx ry h
  obtain ⟨z, n, rfl, rfl, hk, q⟩ := h
  obtain ⟨t, rfl⟩ := rx
  obtain ⟨t2, rfl⟩ := ry
  exact SB.mul hk fun a b => ⟨.str (Txt.mul z n), H, I.tok _, ⟨_, rfl⟩, q⟩

/-! ### isinstance of a datum -/
inductive Ty where
  | bool | int | str | list | tuple | dict
def Ty.nm : Ty → String
  | .bool => "bool"
  | .int => "int"
  | .str => "str"
  | .list => "list"
  | .tuple => "tuple"
  | .dict => "dict"
def isT : Ty → PyData → Bool
  | .bool, .bool _ => true
  | .int, .bool _ => true
  | .int, .int _ => true
  | .str, .str _ => true
  | .list, .list _ => true
  | .tuple, .tuple _ => true
  | .dict, .dict _ => true
  | _, _ => false
def tyD : PyData → String
  | .none => "NoneType"
  | .bool _ => "bool"
  | .int _ => "int"
  | .str _ => "str"
  | .list _ => "list"
  | .tuple _ => "tuple"
  | .dict _ => "dict"
theorem Rp.ty {K : PySem.W.Frag} {H : Hp} {n : Nat} {v : V} : ∀ {d : PyData}, Rp H n v d → TyX K H v (.type (tyD d)) := by
  intro d h
  cases n with
  | zero => exact h.elim
  | succ n =>
    cases d with
    | none => cases h; exact .base .non
    | bool b => cases h; exact .base (.bl b)
    | int i => cases h; exact .base (.int i)
    | str x => cases h; exact .base (.str x)
    | list ds => obtain ⟨a, xs, rfl, h2, _⟩ := h; exact .base (.lst h2)
    | tuple ds => obtain ⟨a, xs, rfl, h2, _⟩ := h; exact .base (.tup h2)
    | dict ds =>
      obtain ⟨a, xs, rfl, h2 | ⟨od, h2⟩, _⟩ := h
      · exact .base (.dK h2)
      · exact .fDict h2
theorem kit_isT (T : Ty) (d : PyData) : kitB (tyD d) T.nm = some (isT T d) := by
  cases T <;> cases d <;> (show kitB _ _ = some _; simp only [tyD, isT, Ty.nm]; decide +kernel)
theorem isi1 {K : PySem.W.Frag} {H : Hp} {n : Nat} {v : V} {d : PyData} (T : Ty) {Q : VK} (h : Rp H n v d) (q : Q (.bl (isT T d)) H) : rIsi K [v, .ty T.nm] H Q :=
  ⟨v, .ty T.nm, _, _, isT T d, rfl, .ty T.nm, h.ty, kit_ty (kit_isT T d), q⟩
theorem isi2 {K : PySem.W.Frag} {H : Hp} {n : Nat} {v : V} {d : PyData} {p : Addr} (T U : Ty) {Q : VK} (h : Rp H n v d) (hp : H p = some (.tup [.ty T.nm, .ty U.nm])) (q : Q (.bl (isT T d || isT U d)) H) : rIsiT K [v, .ref p] H Q := by
  refine ⟨v, p, _, _, [.type T.nm, .type U.nm], isT T d || isT U d, rfl, hp, .cons (.ty _) (.cons (.ty _) .nil), h.ty, ?_, q⟩
  refine kitAny_cons (b := isT T d) (kit_ty (kit_isT T d)) (fun e => ?_) (fun e => by rw [e]; rfl)
  rw [e, Bool.false_or]
  exact kitAny_cons (b := isT U d) (kit_ty (kit_isT U d)) (fun e => by rw [e]; exact kitAny_nil) (fun e => e)
end SC

set_option Elab.async false
set_option linter.all false
set_option maxRecDepth 100000
set_option maxHeartbeats 4000000
/-! Schemacheck: loops and comprehensions, read once more. -/
namespace SC
open PySem L2

/-- a for whose walk has begun -/
def FoR (J : It) (g : TG) (tb : TS) (D : Ends) (σ : St) (H : Hp) : Prop := tFor (fun _ G R => R J G) g tb D σ H
theorem tFor_eq (wi : TI) (g : TG) (tb : TS) (D : Ends) (σ : St) (H : Hp) : tFor wi g tb D σ H = wi σ H fun J H1 => FoR J g tb D σ H1 := rfl
/-- a comprehension whose walk has begun -/
def LcR (J : It) (g : TG) (tt : TT) (te : TE) (vs : List Nat) (σ : St) (H : Hp) (Q : VK) : Prop := tLc (fun _ G R => R J G) g tt te vs σ H Q
theorem tLc_eq (wi : TI) (g : TG) (tt : TT) (te : TE) (vs : List Nat) (σ : St) (H : Hp) (Q : VK) : tLc wi g tt te vs σ H Q = wi σ H fun J H1 => LcR J g tt te vs σ H1 Q := rfl
def DcR (J : It) (g : TG) (tt : TT) (tk tv : TE) (vs : List Nat) (σ : St) (H : Hp) (Q : VK) : Prop := tDc (fun _ G R => R J G) g tt tk tv vs σ H Q
theorem tDc_eq (wi : TI) (g : TG) (tt : TT) (tk tv : TE) (vs : List Nat) (σ : St) (H : Hp) (Q : VK) : tDc wi g tt tk tv vs σ H Q = wi σ H fun J H1 => DcR J g tt tk tv vs σ H1 Q := rfl
section
variable {J : It} {n : Nat} {G : Hp → Prop} {Y : Nat → Hp → V → Hp → Prop}
theorem fo_it (w : Walk J n G Y) {g : TG} {tb : TS} {D : Ends} {σ : St} {H : Hp} (Pv : Nat → St → Hp → Prop) (h0 : Pv 0 σ H) (hG : ∀ i σ H, i ≤ n → Pv i σ H → G H)
    (hs : ∀ i x σ H H', i < n → Pv i σ H → Y i H x H' → g x σ H' fun σ2 H2 => tb { nx := Pv (i + 1), rt := D.rt, bk := D.nx, ct := Pv (i + 1) } σ2 H2) (hd : ∀ σ H, Pv n σ H → D.nx σ H) : FoR J g tb D σ H :=
  for_it w Pv h0 hG hs hd
theorem lc_itR (w : Walk J n G Y) {g : TG} {tt : TT} {te : TE} {vs : List Nat} {σ : St} {H1 : Hp} {Q : VK} (Pv : Addr → Nat → Hp → Prop) (h0 : ∀ D, H1 D = none → Pv D 0 (upd H1 D (.lst []))) (hG : ∀ D i H, H1 D = none → i ≤ n → Pv D i H → G H)
    (hs : ∀ D i x H H', H1 D = none → i < n → Pv D i H → Y i H x H' → g x (wipe σ vs) H' fun σ2 H2 => wipe σ2 vs = wipe σ vs ∧ tt σ2 H2 fun b H3 =>
      if b = true then te σ2 H3 fun y H4 => ∃ acc, H4 D = some (.lst acc) ∧ acc.length < sizeLine ∧ Pv D (i + 1) (upd H4 D (.lst (acc ++ [y]))) else Pv D (i + 1) H3)
    (hd : ∀ D H, H1 D = none → Pv D n H → Q (.ref D) H) : LcR J g tt te vs σ H1 Q := fun D hD =>
  lc_it w (Pv D) (h0 D hD) (fun i H => hG D i H hD) (fun i x H H' => hs D i x H H' hD) fun H => hd D H hD
theorem wipe1 {σ : St} {j : Nat} {x : Option V} : wipe ((wipe σ [j]).set j x) [j] = wipe σ [j] := by
  show ((σ.set j none).set j x).set j none = σ.set j none
  rw [List.set_set, List.set_set]
/-- [e for x in ..], each e a value known ahead, the heap only grows -/
theorem lcP_map (w : Walk J n G Y) (X : Nat → V → Prop) (hX : ∀ i H x H', Y i H x H' → H' = H ∧ X i x) {te : TE} {j : Nat} {σ : St} {H1 : Hp} {Q : VK} (hG : ∀ H', Same H1 H' → G H') (ys : List V) (hl : ys.length = n) (hz : n ≤ 100000)
    (step : ∀ i x y H' (N : VK), X i x → ys[i]? = some y → Same H1 H' → (∀ H4, Same H' H4 → N y H4) → te ((wipe σ [j]).set j (some x)) H' N)
    (done : ∀ D H', H1 D = none → Same H1 H' → H' D = some (.lst ys) → Q (.ref D) H') : LcR J (gName j) tYes te [j] σ H1 Q := by
  refine lc_itR w (fun D i H' => Same H1 H' ∧ H' D = some (.lst (ys.take i))) (fun D hD => ⟨same_new hD _, by rw [upd_same, List.take_zero]⟩) (fun D i H _ _ p => hG H p.1) ?_ (fun D H hD p => done D H hD p.1 (by rw [p.2, ← hl, List.take_length]))
  rintro D i x H H' hD hi ⟨s, e⟩ y
  obtain ⟨rfl, hx⟩ := hX _ _ _ _ y
  obtain ⟨z, hz'⟩ : ∃ z, ys[i]? = some z := ⟨ys[i]'(by omega), by rw [List.getElem?_eq_getElem]⟩
  refine ⟨wipe1, ?_⟩
  show te _ _ _
  refine step i x z _ _ hx hz' s fun H4 s4 => ⟨_, s4 _ _ e, ?_, same_mut (s.trans s4) hD, ?_⟩
  · rw [List.length_take]
    exact Nat.lt_of_le_of_lt (Nat.min_le_left _ _) (Nat.lt_of_lt_of_le (Nat.lt_of_lt_of_le hi hz) (by decide))
  · rw [upd_same, List.take_succ, hz']
    rfl
end
/-- a block cut behind its first statement: what holds there, and what follows it -/
theorem cutM {t u : TS} {D : Ends} {σ : St} {H : Hp} (M : St → Hp → Prop) (h1 : ∀ N : St → Hp → Prop, (∀ σ' H', M σ' H' → N σ' H') → t { D with nx := N } σ H) (h2 : ∀ σ' H', M σ' H' → u D σ' H') : tSeq t u D σ H := h1 (u D) h2
/-- the walks -/
theorem lcP_list {K : PySem.W.Frag} {a : Addr} {xs : List V} {te : TE} {j : Nat} {σ : St} {H1 : Hp} {Q : VK} (hS : SqL K H1 a xs) (ys : List V) (hl : ys.length = xs.length) (hz : xs.length ≤ 100000)
    (step : ∀ (i : Nat) x y H' (N : VK), xs[i]? = some x → ys[i]? = some y → Same H1 H' → (∀ H4, Same H' H4 → N y H4) → te ((wipe σ [j]).set j (some x)) H' N)
    (done : ∀ D H', H1 D = none → Same H1 H' → H' D = some (.lst ys) → Q (.ref D) H') : LcR (Itl K a) (gName j) tYes te [j] σ H1 Q :=
  lcP_map (walk_list (xs := xs)) (fun i x => xs[i]? = some x) (fun _ _ _ _ h => h) (fun _ s => s.seq hS) ys hl hz step done
theorem lcP_range {lo : Int} {n : Nat} {te : TE} {j : Nat} {σ : St} {H1 : Hp} {Q : VK} (ys : List V) (hl : ys.length = n) (hz : n ≤ 100000)
    (step : ∀ (i : Nat) x y H' (N : VK), x = V.int (lo + (i : Nat)) → ys[i]? = some y → Same H1 H' → (∀ H4, Same H' H4 → N y H4) → te ((wipe σ [j]).set j (some x)) H' N)
    (done : ∀ D H', H1 D = none → Same H1 H' → H' D = some (.lst ys) → Q (.ref D) H') : LcR (Itr lo n) (gName j) tYes te [j] σ H1 Q :=
  lcP_map walk_range (fun i x => x = V.int (lo + (i : Nat))) (fun _ _ _ _ h => h) (fun _ _ => trivial) ys hl hz step done
theorem lcP_keys {d : Addr} {o : Obj} {kvs : List (Key × V)} {te : TE} {j : Nat} {σ : St} {H1 : Hp} {Q : VK} (hd : H1 d = some (.frz o (.dK kvs))) (ys : List V) (hl : ys.length = kvs.length) (hz : kvs.length ≤ 100000)
    (step : ∀ (i : Nat) k v y H' (N : VK), kvs[i]? = some (k, v) → ys[i]? = some y → Same H1 H' → (∀ H4, Same H' H4 → N y H4) → te ((wipe σ [j]).set j (some (kV k))) H' N)
    (done : ∀ D H', H1 D = none → Same H1 H' → H' D = some (.lst ys) → Q (.ref D) H') : LcR (Itk d o kvs) (gName j) tYes te [j] σ H1 Q :=
  lcP_map walk_keys (fun i x => ∃ k v, kvs[i]? = some (k, v) ∧ x = kV k) (fun _ _ _ _ h => h) (fun _ s => s _ _ hd) ys hl hz (fun i x y H' N ⟨k, v, h1, h2⟩ hy s n => by subst h2; exact step i k v y H' N h1 hy s n) done
/-- under a lock: what was there is there, what the lock hid comes back -/
theorem same_lock {H H' : Hp} {d : Addr} {u : HO} {od : Obj} (hd : H d = some u) (s : Same (upd H d (.frz od u)) H') : Same H (upd H' d u) := fun b o e => by
  by_cases hb : b = d
  · subst hb
    rw [hd] at e
    cases e
    exact upd_same
  · rw [upd_ne hb]
    exact s b o (by rw [upd_ne hb]; exact e)
/-- a dict locked for a walk: it is locked here, or it was before (then some list p is locked in its place) -/
theorem lockE {t : TE} {σ : St} {H : Hp} {Q : VK} {a p : Addr} {kvs : List (Key × V)} {ps : List V} (ha : Rd H a (.dK kvs)) (hp : H p = some (.lst ps))
    (h : ∀ (H1 : Hp) (od : Obj), H1 a = some (.frz od (.dK kvs)) → (∀ b, H1 b = none → H b = none) → (∀ G : Hp, G p = none → Same G H → LSame G H1) →
      ∀ Q' : VK, (∀ v H', Same H1 H' → (∀ H2, Same H H2 → (∀ b, H b = none → H2 b = H' b) → Q v H2) → Q' v H') → t σ H1 Q') : tLockE t σ H Q := by
  have key : ∀ (c : Addr) (u : HO), H c = some u → ∀ (od : Obj) (v : V) (H' : Hp), Same (upd H c (.frz od u)) H' → (∀ H2, Same H H2 → (∀ b, H b = none → H2 b = H' b) → Q v H2) → H' c = some (.frz od u) ∧ Q v (upd H' c u) := by
    intro c u hc od v H' s q
    refine ⟨s _ _ upd_same, q _ (same_lock hc s) ?_⟩
    intro b hb
    rw [upd_ne (fun z => by rw [z, hc] at hb; cases hb)]
  have free : ∀ (c : Addr) (u : HO), H c = some u → ∀ od : Obj, ∀ b, upd H c (.frz od u) b = none → H b = none := by
    intro c u hc od b hb
    by_cases e : b = c
    · rw [e, upd_same] at hb; cases hb
    · rw [upd_ne e] at hb; exact hb
  rcases ha with ha | ⟨od, ha⟩
  · refine ⟨a, .dK kvs, ha, trivial, fun od => h _ od upd_same (free _ _ ha od) ?_ _ (key _ _ ha od)⟩
    intro G _ s b o e
    by_cases hb : b = a
    · subst hb
      have e2 := s _ _ e
      rw [ha] at e2
      cases e2
      exact .inr ⟨kvs, od, rfl, upd_same⟩
    · exact .inl (by rw [upd_ne hb]; exact s _ _ e)
  · have hap : a ≠ p := ne_of ha hp (by intro z; cases z)
    refine ⟨p, .lst ps, hp, trivial, fun od2 => h _ od (by rw [upd_ne hap]; exact ha) (free _ _ hp od2) ?_ _ (key _ _ hp od2)⟩
    intro G hG s b o e
    exact .inl (by rw [upd_ne (ne_of_none e hG)]; exact s _ _ e)
/-- [e for k in d] -/
theorem lcD_keys {a p : Addr} {kvs : List (Key × V)} {ps : List V} {te : TE} {i j : Nat} {σ : St} {H G : Hp} {Q : VK} (ha : Rd H a (.dK kvs)) (hp : H p = some (.lst ps)) (hi : σ[i]? = some (some (.ref a))) (hG : G p = none) (sG : Same G H)
    (ys : List V) (hl : ys.length = kvs.length) (hz : kvs.length ≤ 100000)
    (step : ∀ (i : Nat) k v y H' (N : VK), kvs[i]? = some (k, v) → ys[i]? = some y → LSame G H' → Rd H' a (.dK kvs) → (∀ H4, Same H' H4 → N y H4) → te ((wipe σ [j]).set j (some (kV k))) H' N)
    (done : ∀ D H', H D = none → Same H H' → H' D = some (.lst ys) → Q (.ref D) H') : tLockE (tLc (iKeys (tVar i)) (gName j) tYes te [j]) σ H Q := by
  refine lockE ha hp ?_
  intro H1 od e1 fr ls Q' hQ
  rw [tLc_eq]
  refine ⟨_, hi, a, od, rfl, .inl ⟨kvs, e1, lcP_keys e1 ys hl hz ?_ ?_⟩⟩
  · intro i k v y H' N hk hy s N'
    exact step i k v y H' N hk hy ((ls G hG sG).trans (.of s)) (.inr ⟨od, s _ _ e1⟩) N'
  · intro D H' nD s e
    refine hQ _ _ s ?_
    intro H2 s2 h2
    have hD : H D = none := fr D nD
    exact done D H2 hD s2 (by rw [h2 D hD]; exact e)
/-- a dict's value by its key -/
theorem valV_at {kvs : List (Key × V)} {i : Nat} {k : Key} {v : V} (hn : (kvs.map (·.1)).Nodup) (h : kvs[i]? = some (k, v)) : valV kvs k = some v := by
  induction kvs generalizing i with
  | nil => simp at h
  | cons p r ih =>
    cases i with
    | zero =>
      simp at h
      subst h
      simp [valV]
    | succ i =>
      simp at h
      have hm : (k, v) ∈ r := List.mem_of_getElem? h
      have hne : ¬ p.1 = k := by
        intro e
        simp only [List.map_cons, List.nodup_cons] at hn
        exact hn.1 (List.mem_map.mpr ⟨_, hm, e.symm⟩)
      have := ih (by simp only [List.map_cons, List.nodup_cons] at hn; exact hn.2) h
      simp only [valV, List.find?_cons, decide_eq_false hne] at this ⊢
      exact this
theorem cx_K {CX : CXT} {P : Program} {w : World} {K : PySem.W.Frag} {mg : Str → Option Value} {base : Heap} {N : List Str} {q : Str} {sc : Scope} {f : Addr} {cd : Value} {A : Around} {outer : List Env} {s : Shared} {H : Hp} {E : XK} : (cxOf CX P w K mg base N q sc f cd A outer s H E).K = K := rfl
/-- an item of a written list, whichever -/
theorem ix_any {K : PySem.W.Frag} {H : Hp} {p : Addr} {xs : List V} {i : Int} {Q : VK} (hp : H p = some (.lst xs)) (h0 : 0 ≤ i) (h1 : i < (xs.length : Int)) (q : ∀ v ∈ xs, Q v H) : rIxL K (.ref p) (.int i) H Q := by
  obtain ⟨j, rfl⟩ : ∃ j : Nat, i = j := ⟨i.toNat, by omega⟩
  have hl : j < xs.length := by omega
  exact ⟨p, xs, j, xs[j], rfl, rfl, SqL.of hp, atI_nat (List.getElem?_eq_getElem hl), q _ (List.getElem_mem hl)⟩
theorem mul_ok {x : Str} {n : Int} (hx : x.length = 1) (h0 : -1000 ≤ n) (h1 : n ≤ 1000) : MulOk x n := by
  refine ⟨?_, ?_, ?_⟩
  · rw [decide_eq_false (by omega), decide_eq_false (by omega)]; rfl
  · intro h2 _
    rw [hx]
    have : (2 ^ 63 - 1 : Int) / n ≥ 1 := Int.le_ediv_of_mul_le (by omega) (by omega)
    omega
  · intro h2 _
    rw [hx]
    have h3 : ∀ k : Fin 1001, PySem.Builtin.Str.tooLong (1 * k.1) = false := by decide +kernel
    exact h3 ⟨n.toNat, by omega⟩
theorem erase_map {A B : Type} (f : A → B) : ∀ (l : List A) (k : Nat), (l.map f).eraseIdx k = (l.eraseIdx k).map f
  | [], _ => rfl
  | _ :: _, 0 => rfl
  | x :: r, k + 1 => by simp [List.eraseIdx, erase_map f r k]
theorem erase_perm {A : Type} : ∀ (l : List A) (k : Nat) (x : A), l[k]? = some x → (x :: l.eraseIdx k).Perm l
  | [], _, _, h => by simp at h
  | y :: r, 0, x, h => by simp at h; subst h; exact .refl _
  | y :: r, k + 1, x, h => by
    simp at h
    exact (List.Perm.swap y x _).trans ((erase_perm r k x h).cons y)
theorem seqIx {j n : Nat} (h : j < n) : seqIndex? (j : Int) n = some j := by
  have h1 : ¬ (j : Int) < 0 := by omega
  unfold seqIndex?
  simp only [if_neg h1]
  rw [if_pos (by simp; omega)]
  simp
theorem valV_no {kvs : List (Key × V)} {k : Key} (h : k ∉ kvs.map (·.1)) : valV kvs k = none := by
  unfold valV
  rw [List.find?_eq_none.mpr]
  · rfl
  · intro p hp
    simp only [decide_eq_true_eq]
    intro e
    exact h (List.mem_map.mpr ⟨p, hp, e⟩)
theorem nd_take {A : Type} {xs : List A} {i : Nat} (h : xs.Nodup) (hi : i < xs.length) : xs[i] ∉ xs.take i := by
  intro hm
  rw [← List.take_append_drop i xs] at h
  exact (List.nodup_append.mp h).2.2 _ hm _ (List.mem_of_getElem (i := 0) (h := by rw [List.length_drop]; omega) (by simp)) rfl
theorem iteT' {c A B : Prop} [Decidable c] (hc : c) (h : A) : if c then A else B := by rw [if_pos hc]; exact h
theorem iteF' {c A B : Prop} [Decidable c] (hc : ¬ c) (h : B) : if c then A else B := by rw [if_neg hc]; exact h
theorem mod_in (n : Int) {m : Int} (h : 0 < m) : 0 ≤ n % m ∧ n % m < m := ⟨Int.emod_nonneg _ (by omega), Int.emod_lt_of_pos _ h⟩
theorem sz5 {n : Nat} (h : n ≤ 100000) : n ≤ sizeLine := Nat.le_trans h (by decide)
theorem sz5l {n : Nat} (h : n < 100000) : n < sizeLine := Nat.lt_of_lt_of_le h (by decide)
end SC

set_option Elab.async false
set_option linter.all false
set_option maxRecDepth 100000
set_option maxHeartbeats 4000000
/-! Schemacheck: defs that are called where no repr is under way; repr of data. -/
namespace SC
open PySem L2 PySem.Spec PyProof.Rows

/-- a def keeps its promise wherever nothing is being shown -/
structure FnG (P : Program) (w : World) (K : PySem.W.Frag) (mg : Str → Option Value) (base : Heap) (k : Nat) (f : Addr) (fd : FuncData) (ps : List Str) (sp : Sp) : Prop where
  len : ∀ vs H Q E, sp vs H Q E → vs.length = ps.length
  run : ∀ (A : Around) (outer : List Env) (s : Shared) (H : Hp) (args : Args) (us : List Value) (vs : List V) (Q : VK) (E : XK), A.guards = some [] → Room k A → Env0 P w K mg base A outer s H →
    BindsTo s fd args (ps.zip us) → Vals vs us → sp vs H Q E → codeAny (model P w) A (.call (.ref f) args) (CR CX0 outer P w H s Q E) s
section
variable {P : Program} {w : World} {K : PySem.W.Frag} {mg : Str → Option Value} {base : Heap} {k : Nat} {f : Addr} {fd : FuncData} {ps : List Str} {sp : Sp}
theorem FnG.of (F : FnOk P w K mg base CX0 k f fd ps sp) : FnG P w K mg base k f fd ps sp := ⟨F.len, fun A outer s H args us vs Q E _ => F.run A outer s H args us vs Q E⟩
theorem kinds_ok {N ps : List Str} {sc : Scope} (S : FnScope N ps sc) (us : List Value) : ((ps.zip us).all fun y => sc.names.lookup y.1 == some .local || sc.names.lookup y.1 == some .cell) = true := by
  rw [List.all_eq_true]
  rintro ⟨n, v⟩ hy
  have h1 := S.par n (List.of_mem_zip hy).1
  rcases h1 with q | q
  · simp [q]
  · simp [q]
/-- the rule for a def, as Fun.ok, with the guards known -/
theorem okG {x qual : Str} {st : Stmt} {N : List Str} (F : Fun K x qual st f fd) (S : FnScope N ps (defScope st)) (len : ∀ vs H Q E, sp vs H Q E → vs.length = ps.length)
    (hbody : ∀ (cdv : Value) (A : Around) (outer : List Env) (s : Shared) (H : Hp) (vs : List V) (Q : VK) (E : XK), A.guards = some [] → Room k (A.deeper (envOfC qual (defScope st) s.heap.objs.size f cdv)) → sp vs H Q E →
      ∃ t, PSs (cxOf CX0 P w K mg base N qual (defScope st) f cdv A outer s H E).nox (defBody st) t ∧ t { nx := fun _ H' => Q .non H', rt := Q } (start N vs) H) : FnG P w K mg base (k + 1) f fd ps sp := by
  obtain ⟨oc, od, kV, doc, pm, an, cdv, ct, osl, rfl, lk, hcd⟩ := F.ex
  constructor
  · exact len
  intro A outer s H args us vs Q E hg hr e0 hb r hsp
  obtain ⟨t, ht, hq⟩ := hbody cdv A outer s H vs Q E hg (hr.deeper _) hsp
  have KX : K.In s.heap := e0.mod.kin.keeps (fun b o e => (e0.bs b o e).1)
  have lim : s.heap.NoLimit := e0.mod.nolimit.keeps (fun b o e => (e0.bs b o e).1)
  refine Att.call_fn KX lim lk hcd hr.depth hb (kinds_ok S us) ?_ S.co S.gen S.kind
  intro s1 x
  have I : Inv (cxOf CX0 P w K mg base N qual (defScope st) f cdv A outer s H E) [] (start N vs) H s1 := inv_start S hr.hd e0 (len _ _ _ _ hsp) r x
  have done : ∀ {σ' : L2.St} {H' : Hp} {v : V} {u : Value} {s' : Shared}, Inv (cxOf CX0 P w K mg base N qual (defScope st) f cdv A outer s H E) [] σ' H' s' → RelV v u → Q v H' → CE outer P w H s Q u s' := by
    intro σ' H' v u s' J rv q
    exact ⟨v, H', J.os, J.bare, J.base, J.hok, rv, q⟩
  apply wpAny_mono (ht.nox.run [] s1 (start N vs) H _ I hq)
  · intro fl s' hs
    cases fl
    case ret u =>
      obtain ⟨v, σ', H', J, rv, q⟩ := hs
      exact done J rv q
    case next =>
      obtain ⟨σ', H', J, q⟩ := hs
      exact done (v := .non) (u := .none) J rfl q
    case brk =>
      obtain ⟨_, _, _, q⟩ := hs
      exact q.elim
    case cont =>
      obtain ⟨_, _, _, q⟩ := hs
      exact q.elim
  · intro e s' hs
    exact hs
end
/-! ### calls of such defs -/
def RdyG (P : Program) (w : World) (K : PySem.W.Frag) (mg : Str → Option Value) (base : Heap) (k : Nat) (x : Str) (ps : List Str) (sp : Sp) : Prop :=
  ∃ f fd, FnG P w K mg base k f fd ps sp ∧ mg x = some (.ref f) ∧ PySem.W.keepIn K (.ref f) = true ∧ Binds K fd ps []
theorem Def.rdyG {P : Program} {w : World} {K : PySem.W.Frag} {mg : Str → Option Value} {base : Heap} {k : Nat} {x : Str} {st : Stmt} {f : Addr} {fd : FuncData} {ps : List Str} {sp : Sp} (D : Def K mg x st f fd)
    (b : ∀ (kV doc pm : Value) (an : Option Addr) (cdv ct : Value) (us : List Value), us.length = ps.length → bindArgs (PySem.W.fnOf x x (defArgs st) (defBody st) (defScope st) .none kV doc pm an cdv ct) ⟨us, []⟩ = pure (ps.zip us))
    (h : FnG P w K mg base k f fd ps sp) : RdyG P w K mg base k x ps sp := ⟨f, fd, h, D.2, D.1.kp, D.1.binds b⟩
section
variable {X : Cx} {k : Nat} {x : Str} {ps ks : List Str} {sp : Sp} {p pos : Pos} {e : Expr} {es : List Expr} {t : TA}
theorem run_g {pins : List (Addr × Obj)} {σ : L2.St} {H : Hp} {s : Shared} {Q : VK} {f : Addr} {fd : FuncData} {us : List Value} {vs : List V} (F : FnG X.prog X.w X.K X.mg X.base k f fd ps sp) (hg : X.A.guards = some []) (hr : Room k X.A) (hb : Binds X.K fd ps [])
    (I : Inv X pins σ H s) (r : Vals vs us) (h : sp vs H Q E0) : wpAny (model X.prog X.w) X.A (call (.ref f) us) (EP X pins σ Q) X.xe s := by
  have hl : us.length = ps.length := by
    rw [← r.length]
    exact F.len _ _ _ _ h
  have hb' := hb s us I.kIn (by rw [List.append_nil]; exact hl)
  rw [List.append_nil] at hb'
  apply wpAny_call
  apply codeAny_mono (F.run X.A X.stack s H ⟨us, []⟩ us vs Q E0 hg hr I.env0 hb' r h)
  intro res s' hq
  cases res with
  | error e => exact False.elim hq
  | ok fl =>
    cases fl with
    | ret u => exact I.after hq
    | next => exact False.elim hq
    | brk => exact False.elim hq
    | cont => exact False.elim hq
theorem pe_cg (R : RdyG X.prog X.w X.K X.mg X.base k x ps sp) (hgd : X.A.guards = some []) (hr : Room k X.A) (hg : Gl X x) (ha : PA X (e :: es) t) (hdb : (x == ("__debug__" : Str)) = false := by decide)
    (he : starEach (e :: es) X.env = (false, eval e X.env) :: starEach es X.env := by rfl) (hpl : (backTo pos (starEach es X.env)).any (·.1) = false := by rfl) : PE X (.Call (.Name x p) (e :: es) [] pos) (tCall sp [] E0 t) := by
  obtain ⟨f, fd, h1, h2, h3, h4⟩ := R
  constructor
  intro pins s σ H Q I h
  apply wpAny_Call_Name_kw
  apply ld_glob I hg h2 _ hdb
  refine PySem.W.callWith_K (h₀ := X.base) I.ok.mod.kin h3 ?_ he hpl
  apply thn (ha.run pos pins s σ H _ I h)
  rintro us s1 ⟨vs, H1, I1, r, q⟩
  refine ⟨I1.kIn, run_g h1 hgd hr h4 I1 r ?_⟩
  rw [List.append_nil] at q
  exact q
theorem pe_cg0 (R : RdyG X.prog X.w X.K X.mg X.base k x ps sp) (hgd : X.A.guards = some []) (hr : Room k X.A) (hg : Gl X x) (hdb : (x == ("__debug__" : Str)) = false := by decide) : PE X (.Call (.Name x p) [] [] pos) (tCall sp [] E0 tNil) := by
  obtain ⟨f, fd, h1, h2, h3, h4⟩ := R
  constructor
  intro pins s σ H Q I h
  apply wpAny_Call_Name_kw
  apply ld_glob I hg h2 _ hdb
  exact PySem.W.callWith_K0 I.kIn h3 (run_g (us := []) (vs := []) h1 hgd hr h4 I .nil h)
end
/-! ### repr -/
theorem readsAll_of {h : Heap} {F : V → PyData → Prop} {G : Addr → Prop} (f : ∀ v d u, F v d → RelV v u → ∃ as, Reads h u d as ∧ ∀ b ∈ as, G b) : ∀ {xs : List V} {ds : List PyData} {us : List Value}, Paired F xs ds → Vals xs us → ∃ as, ReadsAll h us ds as ∧ ∀ b ∈ as, G b := by
  intro xs ds us hp
  induction hp generalizing us with
  | nil =>
    intro r
    cases r
    exact ⟨[], .nil, by simp⟩
  | cons q _ ih =>
    intro r
    cases r with
    | cons r1 r2 =>
      obtain ⟨as, h1, g1⟩ := f _ _ _ q r1
      obtain ⟨bs, h2, g2⟩ := ih r2
      refine ⟨_, .cons h1 h2, ?_⟩
      intro b hb
      rcases List.mem_append.mp hb with hb | hb
      · exact g1 b hb
      · exact g2 b hb
theorem reads_key {h : Heap} {k : Key} {v : Value} (hk : keyIs k v = true) : Reads h v (kD k) [] := by
  rcases keyIs_shape hk with ⟨i, t, rfl, rfl⟩ | ⟨x, t, rfl, rfl⟩
  · exact .int i t
  · exact .str x t
theorem readsKv_of {P : Program} {w : World} {h : Heap} {F : V → PyData → Prop} {G : Addr → Prop} (f : ∀ v d u, F v d → RelV v u → ∃ as, Reads h u d as ∧ ∀ b ∈ as, G b) : ∀ {kvs : List (Key × V)} {es : List (PyData × PyData)} {ws : List (Key × Value)} {ds : List DictEntry},
    Paired (fun (p : Key × V) (q : PyData × PyData) => q.1 = kD p.1 ∧ F p.2 q.2) kvs es → KV kvs ws → Pairs (mixKind P w) ds ws →
    (∃ as, ReadsAll h (ds.map (·.key)) (es.map (·.1)) as ∧ as = []) ∧ ∃ bs, ReadsAll h (ds.map (·.val)) (es.map (·.2)) bs ∧ ∀ b ∈ bs, G b := by
  intro kvs es ws ds hp
  induction hp generalizing ws ds with
  | nil =>
    intro r q
    cases r
    cases q
    exact ⟨⟨[], .nil, rfl⟩, [], .nil, by simp⟩
  | cons c _ ih =>
    intro r q
    cases r with
    | cons r1 r2 =>
      cases q with
      | cons q1 q2 q3 =>
        obtain ⟨⟨as, h1, e1⟩, bs, h2, g2⟩ := ih r2 q3
        subst e1
        obtain ⟨cs, h3, g3⟩ := f _ _ _ c.2 r1.2
        have k1 : Reads h _ (kD _) [] := reads_key q1
        rw [← r1.1, ← c.1] at k1
        rw [← q2] at h3
        refine ⟨⟨[] ++ [], ReadsAll.cons k1 h1, rfl⟩, cs ++ bs, ReadsAll.cons h3 h2, ?_⟩
        · intro b hb
          rcases List.mem_append.mp hb with hb | hb
          · exact g3 b hb
          · exact g2 b hb
theorem Rp.reads {P : Program} {w : World} {H : Hp} {h : Heap} (ok : HOk P w H h) : ∀ {n : Nat} {d : PyData} {v : V} {u : Value}, Rp H n v d → RelV v u → ∃ as, Reads h u d as ∧ ∀ b ∈ as, H b ≠ none
  | 0, _, _, _, h, _ => h.elim
  | n + 1, .none, _, _, e, r => by cases e; cases r; exact ⟨[], .none, by simp⟩
  | n + 1, .bool b, _, _, e, r => by cases e; cases r; exact ⟨[], .bool b, by simp⟩
  | n + 1, .int b, _, _, e, r => by cases e; obtain ⟨t, rfl⟩ := r; exact ⟨[], .int b t, by simp⟩
  | n + 1, .str b, _, _, e, r => by cases e; obtain ⟨t, rfl⟩ := r; exact ⟨[], .str b t, by simp⟩
  | n + 1, .list ds, _, _, ⟨a, xs, e, ha, _, hp⟩, r => by
    subst e
    cases r
    obtain ⟨_, its, m, rv, hg⟩ := ok a _ ha
    obtain ⟨as, h1, g1⟩ := readsAll_of (G := fun b => H b ≠ none) (fun v d u q r => Rp.reads ok q r) hp rv
    refine ⟨a :: as, .list hg rfl rfl (by simpa using h1), ?_⟩
    intro b hb
    rcases List.mem_cons.mp hb with rfl | hb
    · rw [ha]; simp
    · exact g1 b hb
  | n + 1, .tuple ds, _, _, ⟨a, xs, e, ha, _, hp⟩, r => by
    subst e
    cases r
    obtain ⟨_, its, rv, o, ho, hc, m, hd⟩ := ok a _ ha
    obtain ⟨as, h1, g1⟩ := readsAll_of (G := fun b => H b ≠ none) (fun v d u q r => Rp.reads ok q r) hp rv
    exact ⟨as, .tuple ho hc hd (by simpa using h1), g1⟩
  | n + 1, .dict es, _, _, ⟨a, kvs, e, ha, _, _, hp⟩, r => by
    subst e
    cases r
    obtain ⟨_, _, ws, rv, o, ds, ep, ho, hx, hd, _, hpr, _⟩ := ha.ok ok
    obtain ⟨⟨as, h1, e1⟩, bs, h2, g2⟩ := readsKv_of (G := fun b => H b ≠ none) (fun v d u q r => Rp.reads ok q r) hp rv hpr
    subst e1
    refine ⟨_, .dict ho hx.1 hd h1 h2, ?_⟩
    intro b hb
    simp only [List.append_nil, List.cons_append, List.nil_append, List.mem_cons] at hb
    rcases hb with rfl | hb
    · rcases ha with ha | ⟨_, ha⟩ <;> rw [ha] <;> simp
    · exact g2 b hb
theorem depthAll_le {n : Nat} : ∀ {ds : List PyData}, (∀ d ∈ ds, d.depth ≤ n) → PyData.depthAll ds ≤ n
  | [], _ => Nat.zero_le _
  | d :: r, h => by
    have h1 := h d (by simp)
    have h2 := depthAll_le (ds := r) fun e he => h e (by simp [he])
    show max _ _ ≤ n
    omega
theorem depthKv_le {n : Nat} : ∀ {es : List (PyData × PyData)}, (∀ e ∈ es, e.1.depth ≤ n ∧ e.2.depth ≤ n) → PyData.depthKv es ≤ n
  | [], _ => Nat.zero_le _
  | (a, b) :: r, h => by
    have h1 := h (a, b) (by simp)
    have h2 := depthKv_le (es := r) fun e he => h e (by simp [he])
    show max (max _ _) _ ≤ n
    simp at h1
    omega
theorem Rp.depth_le {H : Hp} : ∀ {n : Nat} {d : PyData} {v : V}, Rp H n v d → d.depth ≤ n
  | 0, _, _, h => h.elim
  | n + 1, .none, _, _ => Nat.zero_le _
  | n + 1, .bool _, _, _ => Nat.zero_le _
  | n + 1, .int _, _, _ => Nat.zero_le _
  | n + 1, .str _, _, _ => Nat.zero_le _
  | n + 1, .list ds, _, ⟨a, xs, e, ha, _, hp⟩ => by
    show PyData.depthAll ds + 1 ≤ n + 1
    have : PyData.depthAll ds ≤ n := depthAll_le fun d hd => by
      obtain ⟨x, _, r⟩ := pd_memR hp hd
      exact r.depth_le
    omega
  | n + 1, .tuple ds, _, ⟨a, xs, e, ha, _, hp⟩ => by
    show PyData.depthAll ds + 1 ≤ n + 1
    have : PyData.depthAll ds ≤ n := depthAll_le fun d hd => by
      obtain ⟨x, _, r⟩ := pd_memR hp hd
      exact r.depth_le
    omega
  | n + 1, .dict es, _, ⟨a, xs, e, ha, _, _, hp⟩ => by
    show PyData.depthKv es + 1 ≤ n + 1
    have : PyData.depthKv es ≤ n := depthKv_le fun q hq => by
      obtain ⟨x, _, r1, r2⟩ := pd_memR hp hq
      refine ⟨?_, r2.depth_le⟩
      rw [r1]
      cases x.1 <;> exact Nat.zero_le _
    omega
def rRepr : List V → Hp → VK → Prop := fun xs H Q => ∃ v n d, xs = [v] ∧ Rp H n v d ∧ n ≤ 90 ∧ d.showable = true ∧ d.shown.length ≤ sizeLine ∧ Q (.str d.shown) H
theorem call_repr {X : Cx} (hg : X.A.guards = some []) (hsys : ∃ o, X.base.get? sysModules = some o) (hu : X.A.units + 100 < cLine) : CallR X (.builtin "repr") rRepr := by
  intro pins s σ H xs us Q I r h
  obtain ⟨v, n, d, rfl, hd, hn, hs, hz, q⟩ := h
  obtain ⟨u, rfl, rv⟩ := vals1 r
  obtain ⟨o0, hs0⟩ := hsys
  have hsm : H sysModules = none := (I.bs _ _ hs0).2
  obtain ⟨as, rd, g⟩ := hd.reads I.hok rv
  have hdep := hd.depth_le
  have no : sysModules ∉ as := fun hm => g _ hm hsm
  cases rd with
  | none => exact PySem.P.repr_of_none ⟨.str _, H, I.tok _, ⟨_, rfl⟩, q⟩
  | bool b => exact PySem.P.repr_of_bool ⟨.str _, H, I.tok _, ⟨_, rfl⟩, q⟩
  | int i t =>
    have hi : i.natAbs.log2 < 1920 := of_decide_eq_true hs
    exact PySem.P.repr_of_int hi ⟨.str _, H, I.tok _, ⟨_, rfl⟩, q⟩
  | str x t => exact PySem.P.repr_of_str ⟨.str _, H, I.tok _, ⟨_, rfl⟩, q⟩ hz
  | list a1 a2 a3 a4 => exact repr_of_reads' (.list a1 a2 a3 a4) hs (fun _ => no) hg (by omega) (fun b o e => e) (fun h' t tk hk => ⟨.str _, H, I.un (Un.kept hk) (I.hok.kept hk), ⟨_, rfl⟩, q⟩) hz
  | tuple a1 a2 a3 a4 => exact repr_of_reads' (.tuple a1 a2 a3 a4) hs (fun _ => no) hg (by omega) (fun b o e => e) (fun h' t tk hk => ⟨.str _, H, I.un (Un.kept hk) (I.hok.kept hk), ⟨_, rfl⟩, q⟩) hz
  | dict a1 a2 a3 a4 a5 => exact repr_of_reads' (.dict a1 a2 a3 a4 a5) hs (fun _ => no) hg (by omega) (fun b o e => e) (fun h' t tk hk => ⟨.str _, H, I.un (Un.kept hk) (I.hok.kept hk), ⟨_, rfl⟩, q⟩) hz
/-! ### the law's own call -/
section
variable {P : Program} {w : World} {K : PySem.W.Frag} {mg mb : Str → Option Value} {k : Nat} {fa a : Addr} {fd : FuncData} {x : Str} {sp : Sp} {s1 : Shared} {vs : List Value} {ns : List Int}
/-- a dict of the state is not the script's place -/
theorem not_script {h : Heap} {b : Addr} {m : Str → Option Value} (n : h.Ns b m) (ha : h.get? a = some { cls := .type "list", data := .seq vs.toArray }) : b ≠ a := by
  rintro rfl
  obtain ⟨o, es, ep, e, d, _⟩ := n
  rw [ha] at e
  cases e
  cases d
theorem lawH {H : Hp} (KX : K.In s1.heap) (hns : s1.heap.Ns mainGlobals mg) (hb : s1.heap.Ns builtinsNs mb) (hbb : ∀ x : Str, x ≠ "__name__" → mb x = bootBuiltins x) (hlim : s1.heap.NoLimit) (hseer : s1.heap.NoSeer) (hg : s1.gens = #[])
    (ha : s1.heap.get? a = some { cls := .type "list", data := .seq vs.toArray }) (hr : Room k callerA) (hbind : ∀ (s : Shared) (u : Value), BindsTo s fd ⟨[u], []⟩ [(x, u)])
    (F : ∀ base : Heap, K.In base → base.Ns mainGlobals mg → (∃ o, base.get? sysModules = some o) → FnG P w K mg base k fa fd [x] sp)
    (hsp : sp [.ref a] H (fun v _ => v = .bl true) fun _ _ _ => False) (hO : Only H) (hok : HOk P w H s1.heap) (hA : ∀ b, b ≠ a → H b = none) (hK : ∀ o, K.lookup a = some o → H a = none) :
    codeAny (model P w) callerA (.call (.ref fa) ⟨[.ref a], []⟩) (fun r s' => r = .ok (.ret (.bool true)) ∧ OldK s1.heap s'.heap ∧ s'.os = s1.os ∧ AllBare s'.gens) s1 := by
  have toB : ∀ {b : Addr} {o : Obj}, s1.heap.get? b = some o → H b = none → (hidT s1.heap H).get? b = some o := fun e n => hidT_get e n
  have toN : ∀ {b : Addr} {m : Str → Option Value}, s1.heap.Ns b m → (hidT s1.heap H).Ns b m := by
    intro b m n
    have hne := not_script n ha
    obtain ⟨o, es, ep, e, r⟩ := n
    exact ⟨o, es, ep, toB e (hA b hne), r⟩
  have inB : K.In (hidT s1.heap H) := by
    intro b o e
    apply toB (KX b o e)
    by_cases hba : b = a
    · subst hba; exact hK o e
    · exact hA b hba
  have sysB : ∃ o, (hidT s1.heap H).get? sysModules = some o := by
    obtain ⟨mm, n, _⟩ := hseer.mods
    have hne := not_script n ha
    obtain ⟨o, es, ep, e, _⟩ := n
    exact ⟨o, toB e (hA _ hne)⟩
  have limB : (hidT s1.heap H).NoLimit := by
    obtain ⟨mc, h1, h2⟩ := hlim
    exact ⟨mc, toN h1, h2⟩
  have e0 : Env0 P w K mg (hidT s1.heap H) callerA [] s1 H := by
    refine ⟨rfl, ⟨inB, toN hns, ⟨mb, toN hb, hbb⟩, limB⟩, fun b o e => of_hidT e, Nat.le_of_eq (hidT_size _ _), trivial, ?_, hok, .of_eq hg⟩
    intro b hb
    exact absurd (show b ∈ ([] : List Addr) from hb) List.not_mem_nil
  have run := (F _ inB (toN hns) sysB).run callerA [] s1 H ⟨[.ref a], []⟩ [.ref a] [.ref a] _ _ rfl hr e0 (hbind s1 (.ref a)) (.cons rfl .nil) hsp
  refine codeAny_mono run ?_
  intro r s' h
  cases r with
  | error e => exact False.elim h
  | ok fl =>
    cases fl with
    | next => exact False.elim h
    | brk => exact False.elim h
    | cont => exact False.elim h
    | ret u =>
      obtain ⟨v, H', os, bare, un, hok', rv, hv⟩ := h
      obtain rfl : v = .bl true := hv
      obtain rfl : u = Value.bool true := rv
      refine ⟨rfl, OldK.of_keep ?_, os, bare⟩
      intro b o e
      rcases hO b with q | ⟨ob, xs, q⟩
      · exact un.keep b o e q (fun z => absurd (show b ∈ ([] : List Addr) from z) List.not_mem_nil) List.not_mem_nil
      · obtain ⟨e1, _⟩ := hok b _ q
        obtain ⟨e2, _⟩ := hok' b _ (un.frzs b ob _ q)
        rw [e] at e1
        cases e1
        exact e2
theorem lawG (KX : K.In s1.heap) (hns : s1.heap.Ns mainGlobals mg) (hb : s1.heap.Ns builtinsNs mb) (hbb : ∀ x : Str, x ≠ "__name__" → mb x = bootBuiltins x) (hlim : s1.heap.NoLimit) (hseer : s1.heap.NoSeer) (hg : s1.gens = #[])
    (ha : s1.heap.get? a = some { cls := .type "list", data := .seq vs.toArray }) (hi : IntsAre vs ns) (hl : ns.length ≤ sizeLine) (hr : Room k callerA) (hbind : ∀ (s : Shared) (u : Value), BindsTo s fd ⟨[u], []⟩ [(x, u)])
    (F : ∀ base : Heap, K.In base → base.Ns mainGlobals mg → (∃ o, base.get? sysModules = some o) → FnG P w K mg base k fa fd [x] sp)
    (hsp : ∀ H : Hp, Only H → SqL K H a (ns.map V.int) → sp [.ref a] H (fun v _ => v = .bl true) fun _ _ _ => False) :
    codeAny (model P w) callerA (.call (.ref fa) ⟨[.ref a], []⟩) (fun r s' => r = .ok (.ret (.bool true)) ∧ OldK s1.heap s'.heap ∧ s'.os = s1.os ∧ AllBare s'.gens) s1 := by
  have rv := vals_ints hi
  have lv : vs.length = ns.length := hi.length
  by_cases hk : ∃ o, K.lookup a = some o
  · obtain ⟨o, hk⟩ := hk
    have e := KX a o hk
    rw [ha] at e
    cases e
    have O0 : Only (fun _ => none) := fun _ => .inl rfl
    refine lawH KX hns hb hbb hlim hseer hg ha hr hbind F (hsp _ O0 ?_) O0 ?_ (fun _ _ => rfl) (fun _ _ => rfl)
    · refine .inr ⟨_, vs.toArray, _, hk, rfl, rfl, rfl, ?_, by simpa using rv⟩
      rw [List.size_toArray, lv]
      exact hl
    · intro b u z
      cases (show (none : Option HO) = some u from z)
  · let ob : Obj := { cls := .type "list", data := .seq vs.toArray }
    let H : Hp := fun b => if b = a then some (.frz ob (.lst (ns.map V.int))) else none
    have at_a : H a = some (.frz ob (.lst (ns.map V.int))) := if_pos rfl
    have off : ∀ b, b ≠ a → H b = none := fun b h => if_neg h
    have hO : Only H := by
      intro b
      by_cases hb : b = a
      · subst hb; exact .inr ⟨_, _, at_a⟩
      · exact .inl (off b hb)
    refine lawH KX hns hb hbb hlim hseer hg ha hr hbind F (hsp H hO (.inl (.inr ⟨ob, at_a⟩))) hO ?_ off (fun o e => absurd ⟨o, e⟩ hk)
    intro b u z
    by_cases hb : b = a
    · subst hb
      rw [at_a] at z
      cases z
      exact ⟨ha, by rw [List.length_map]; exact hl, vs, _, rv, ha⟩
    · rw [off b hb] at z
      cases z
end
/-- the end of a law row whose defs speak of FnG -/
theorem walkG {l : PySem.W.OpenLaw} {n k : Nat} {q : Program} {loose : List Str} {XP : (Str → Option Value) → Heap → Prop} {YP : World → Heap → Prop} {d : DefRec} {K : Params → PySem.W.Frag} {sp : PySem.W.Frag → Sp} {x : Str}
    (hn : l.most = some n) (hn2 : n ≤ sizeLine) (hdf : d.params.defaults = []) (hr : Room k callerA) (hq : importsNone q = true) (hY : ∀ (w : World) (h : Heap), YP w h → (K w.params).In h)
    (F : ∀ (w : World) (mg : Str → Option Value) (fa : Addr) (h : Heap), (K w.params).In h → h.Ns mainGlobals mg → mg d.name = some (.ref fa) →
      ∃ fd : FuncData, (∀ (s : Shared) (u : Value), BindsTo s fd ⟨[u], []⟩ [(x, u)]) ∧
        ∀ base : Heap, (K w.params).In base → base.Ns mainGlobals mg → (∃ o, base.get? sysModules = some o) → FnG l.prog w (K w.params) mg base k fa fd [x] (sp (K w.params)))
    (hsp : ∀ (K : PySem.W.Frag) (H : Hp) (a : Addr) (ns : List Int), ns.length ≤ n → Only H → SqL K H a (ns.map V.int) → sp K [.ref a] H (fun v _ => v = .bl true) fun _ _ _ => False) :
    PySem.W.WalkO q loose XP YP l.row.toRowW d [] (fun f vs => PySem.call f vs) := by
  apply Att.attach_call hn hdf
  intro w s0 s1 mg mb fa o pm cd doc a vs ns G Y ho hd hcd hmg hobj hints hlen hg
  have KX := hY w _ Y
  obtain ⟨fd, hb, hF⟩ := F w mg fa _ KX G.T.g hmg
  exact lawG KX G.T.g G.T.b G.T.builtins G.T.nolimit (G.T.seer hq) hg hobj hints (Nat.le_trans hlen hn2) hr hb hF fun H hO hS => hsp _ H a ns hlen hO hS
end SC

set_option Elab.async false
set_option linter.all false
set_option maxRecDepth 100000
set_option maxHeartbeats 4000000
/-! Schemacheck: documents, their number of parts, how long they are shown. -/
namespace SC
open PySem L2
def AsciiS (s : Str) : Prop := ∀ c ∈ s.cps.toList, c < 128
def leafD : PyData → Prop
  | .none => True
  | .bool _ => True
  | .int i => -10 ^ 30 ≤ i ∧ i ≤ 10 ^ 30
  | .str s => s.length ≤ 60 ∧ AsciiS s
  | _ => False
def LeafV (v : V) : Prop := ∃ d, leafD d ∧ ∀ G, Rp G 1 v d
theorem leaf_str (x : Str) (h : x.length ≤ 60) (h2 : ∀ c ∈ x.cps.toList, c < 128) : LeafV (.str x) := ⟨.str x, ⟨h, h2⟩, fun _ => rfl⟩
theorem leaf_int (i : Int) (h : -10 ^ 30 ≤ i ∧ i ≤ 10 ^ 30) : LeafV (.int i) := ⟨.int i, h, fun _ => rfl⟩
theorem leaf_bl (b : Bool) : LeafV (.bl b) := ⟨.bool b, trivial, fun _ => rfl⟩
theorem leaf_non : LeafV .non := ⟨.none, trivial, fun _ => rfl⟩
def NameOk (x : Str) : Prop := x.length ≤ 60 ∧ AsciiS x
def docD : Nat → PyData → Prop
  | 0, _ => False
  | n + 1, .list ds => ds.length ≤ 10 ∧ ∀ d ∈ ds, docD n d
  | n + 1, .dict es => es.length ≤ 10 ∧ ∀ e ∈ es, (∃ x, e.1 = .str x ∧ NameOk x) ∧ docD n e.2
  | _ + 1, d => leafD d
theorem docD.leaf {d : PyData} (h : leafD d) (n : Nat) : docD (n + 1) d := by
  cases d <;> first | exact h | exact h.elim
theorem docD.up1 : ∀ {n : Nat} {d : PyData}, docD n d → docD (n + 1) d
  | 0, _, h => h.elim
  | n + 1, .list ds, h => ⟨h.1, fun d hd => (h.2 d hd).up1⟩
  | n + 1, .dict es, h => ⟨h.1, fun e he => ⟨(h.2 e he).1, (h.2 e he).2.up1⟩⟩
  | n + 1, .none, h => h
  | n + 1, .bool _, h => h
  | n + 1, .int _, h => h
  | n + 1, .str _, h => h
  | n + 1, .tuple _, h => h.elim
theorem docD.up {n m : Nat} {d : PyData} (h : docD n d) (hl : n ≤ m) : docD m d := by
  induction hl with
  | refl => exact h
  | step _ ih => exact ih.up1
mutual
/-- the number of parts -/
def cnt : PyData → Nat
  | .list ds => 1 + cntAll ds
  | .tuple ds => 1 + cntAll ds
  | .dict es => 1 + cntKv es
  | .none => 1
  | .bool _ => 1
  | .int _ => 1
  | .str _ => 1
def cntAll : List PyData → Nat
  | [] => 0
  | d :: r => cnt d + cntAll r
def cntKv : List (PyData × PyData) → Nat
  | [] => 0
  | (_, d) :: r => cnt d + cntKv r
end
theorem cntAll_app (xs ys : List PyData) : cntAll (xs ++ ys) = cntAll xs + cntAll ys := by
  induction xs with
  | nil => simp [cntAll]
  | cons d r ih => simp [cntAll, ih]; omega
theorem cntKv_app (xs ys : List (PyData × PyData)) : cntKv (xs ++ ys) = cntKv xs + cntKv ys := by
  induction xs with
  | nil => simp [cntKv]
  | cons d r ih => obtain ⟨a, b⟩ := d; simp [cntKv, ih]; omega
theorem cnt_pos (d : PyData) : 1 ≤ cnt d := by
  cases d <;> simp [cnt] <;> omega
theorem leaf_cnt {d : PyData} (h : leafD d) : cnt d = 1 := by
  cases d <;> first | rfl | exact h.elim
theorem cntAll_mem {d : PyData} {ds : List PyData} (h : d ∈ ds) : cnt d ≤ cntAll ds := by
  induction ds with
  | nil => simp at h
  | cons e r ih =>
    simp only [cntAll]
    rcases List.mem_cons.mp h with rfl | h
    · omega
    · have := ih h; omega
theorem cntKv_mem {q : PyData × PyData} {es : List (PyData × PyData)} (h : q ∈ es) : cnt q.2 ≤ cntKv es := by
  induction es with
  | nil => simp at h
  | cons e r ih =>
    obtain ⟨a, b⟩ := e
    simp only [cntKv]
    rcases List.mem_cons.mp h with rfl | h
    · show cnt b ≤ _; omega
    · have := ih h; omega
theorem ascii_big {x : Str} (h : AsciiS x) : (x.cps.toList.all fun c => decide (c < 16 ^ 8)) = true := by
  rw [List.all_eq_true]
  intro c hc
  have := h c hc
  exact decide_eq_true (by omega)
theorem int30_len {i : Int} (h : -10 ^ 30 ≤ i ∧ i ≤ 10 ^ 30) : (PyData.shown (.int i)).length ≤ 40 := by
  have e := int_text_length_le10 (a := i) (k := 31) (by decide) (by omega)
  show (Str.ofString (toString i)).length ≤ 40
  rw [ofString_length]
  omega
theorem int30_log {i : Int} (h : -10 ^ 30 ≤ i ∧ i ≤ 10 ^ 30) : i.natAbs.log2 < 100 := by
  by_cases h0 : i.natAbs = 0
  · rw [h0]; decide
  · exact (Nat.log2_lt h0).mpr (by have : i.natAbs ≤ 10 ^ 30 := by omega
                                   exact Nat.lt_of_le_of_lt this (by decide))
theorem str60_weight {x : Str} (h : x.length ≤ 60) : PyData.weight (.str x) ≤ 60 := h
/-- a document can be shown, and not too long -/
def Fine (d : PyData) : Prop := d.showable = true ∧ d.leavesShort 40 = true ∧ d.weight + 64 ≤ 165 * cnt d
theorem fine_all {ds : List PyData} (h : ∀ d ∈ ds, Fine d) : PyData.showableAll ds = true ∧ PyData.leavesShortAll 40 ds = true ∧ PyData.weightAll ds ≤ 165 * cntAll ds := by
  induction ds with
  | nil => exact ⟨rfl, rfl, Nat.zero_le _⟩
  | cons d r ih =>
    obtain ⟨a1, a2, a3⟩ := h d (by simp)
    obtain ⟨b1, b2, b3⟩ := ih fun e he => h e (by simp [he])
    refine ⟨?_, ?_, ?_⟩
    · show (_ && _) = true; rw [a1, b1]; rfl
    · show (_ && _) = true; rw [a2, b2]; rfl
    · show PyData.weight d + 1 + PyData.weightAll r ≤ 165 * (cnt d + cntAll r); omega
theorem fine_kv {es : List (PyData × PyData)} (h : ∀ e ∈ es, (∃ x, e.1 = .str x ∧ NameOk x) ∧ Fine e.2) : PyData.showableKv es = true ∧ PyData.leavesShortKv 40 es = true ∧ PyData.weightKv es ≤ 165 * cntKv es := by
  induction es with
  | nil => exact ⟨rfl, rfl, Nat.zero_le _⟩
  | cons e r ih =>
    obtain ⟨k, d⟩ := e
    obtain ⟨⟨x, hx, hx1, hx2⟩, a1, a2, a3⟩ := h (k, d) (by simp)
    obtain ⟨b1, b2, b3⟩ := ih fun e he => h e (by simp [he])
    simp at hx
    subst hx
    have hw := str60_weight hx1
    refine ⟨?_, ?_, ?_⟩
    · show (PyData.showable (.str x) && PyData.showable d && _) = true; rw [a1, b1]; rfl
    · show (PyData.leavesShort 40 (.str x) && PyData.leavesShort 40 d && _) = true; rw [a2, b2]
      show ((x.cps.toList.all fun c => decide (c < 16 ^ 8)) && true && true) = true
      rw [ascii_big hx2]; rfl
    · show PyData.weight (.str x) + PyData.weight d + 2 + PyData.weightKv r ≤ 165 * (cnt d + cntKv r)
      have : PyData.weight d + 64 ≤ 165 * cnt d := a3
      omega
theorem Fine.list {ds : List PyData} (h : ∀ d ∈ ds, Fine d) : Fine (.list ds) := by
  obtain ⟨b1, b2, b3⟩ := fine_all h
  refine ⟨b1, b2, ?_⟩
  show PyData.weightAll ds + 64 ≤ 165 * (1 + cntAll ds)
  omega
theorem Fine.tuple {ds : List PyData} (h : ∀ d ∈ ds, Fine d) : Fine (.tuple ds) := by
  obtain ⟨b1, b2, b3⟩ := fine_all h
  refine ⟨b1, b2, ?_⟩
  show PyData.weightAll ds + 64 ≤ 165 * (1 + cntAll ds)
  omega
theorem Fine.dict {es : List (PyData × PyData)} (h : ∀ e ∈ es, (∃ x, e.1 = .str x ∧ NameOk x) ∧ Fine e.2) : Fine (.dict es) := by
  obtain ⟨b1, b2, b3⟩ := fine_kv h
  refine ⟨b1, b2, ?_⟩
  show PyData.weightKv es + 64 ≤ 165 * (1 + cntKv es)
  omega
theorem Fine.leaf {d : PyData} (h : leafD d) : Fine d := by
  cases d with
  | none => exact ⟨rfl, rfl, by decide⟩
  | bool b => exact ⟨rfl, rfl, by show 0 + 64 ≤ 165 * 1; decide⟩
  | int i =>
    have h1 := int30_len h
    have h2 := int30_log h
    refine ⟨decide_eq_true (show i.natAbs.log2 < 1920 by omega), decide_eq_true h1, ?_⟩
    show (if i == 0 then 0 else i.natAbs.log2 + 1) + 64 ≤ 165 * 1
    split <;> omega
  | str x =>
    have h1 := str60_weight h.1
    exact ⟨rfl, ascii_big h.2, by show PyData.weight (.str x) + 64 ≤ 165 * 1; omega⟩
  | list ds => exact h.elim
  | tuple ds => exact h.elim
  | dict ds => exact h.elim
theorem docD.fine : ∀ {n : Nat} {d : PyData}, docD n d → Fine d
  | 0, _, h => h.elim
  | n + 1, .list ds, h => Fine.list fun d hd => (h.2 d hd).fine
  | n + 1, .dict es, h => Fine.dict fun e he => ⟨(h.2 e he).1, (h.2 e he).2.fine⟩
  | n + 1, .none, h => Fine.leaf h
  | n + 1, .bool _, h => Fine.leaf h
  | n + 1, .int _, h => Fine.leaf h
  | n + 1, .str _, h => Fine.leaf h
  | n + 1, .tuple _, h => h.elim
theorem Fine.fits {d : PyData} (h : Fine d) (hc : cnt d ≤ 2000) : d.shown.length ≤ sizeLine := by
  have h1 := PyData.shown_le 40 (by decide) d h.2.1
  have h2 := h.2.2
  have e : sizeLine = 16777216 := by decide
  omega
/-- repr of a datum -/
theorem repr1 {H : Hp} {v : V} {n : Nat} {d : PyData} {Q : VK} (h : Rp H n v d) (hn : n ≤ 90) (hf : Fine d) (hc : cnt d ≤ 2000) (q : Q (.str d.shown) H) : rRepr [v] H Q := ⟨v, n, d, rfl, h, hn, hf.1, hf.fits hc, q⟩
end SC

set_option Elab.async false
set_option linter.all false
set_option maxRecDepth 100000
set_option maxHeartbeats 4000000
/-! Schemacheck: names in order, documents that are the same. -/
namespace SC
open PySem L2 PyProof.Rows

/-! ### texts in order -/
def leS (a b : Str) : Bool := !PySem.Spec.ltCps b.cps.toList a.cps.toList
theorem leS_iff (a b : Str) : leS a b = true ↔ a.cps.toList ≤ b.cps.toList := by
  unfold leS
  rw [ltCps_eq]
  simp
theorem leS_trans (a b c : Str) (h1 : leS a b = true) (h2 : leS b c = true) : leS a c = true := by
  rw [leS_iff] at *
  exact List.le_trans h1 h2
theorem leS_total (a b : Str) : (leS a b || leS b a) = true := by
  have := List.le_total a.cps.toList b.cps.toList
  rw [Bool.or_eq_true, leS_iff, leS_iff]
  exact this
theorem leS_anti (a b : Str) (h1 : leS a b = true) (h2 : leS b a = true) : a = b := by
  rw [leS_iff] at *
  have e := List.le_antisymm h1 h2
  have e2 : a.cps = b.cps := Array.toList_inj.mp e
  cases a; cases b; simp at e2; rw [e2]
def srt (xs : List Str) : List Str := xs.mergeSort leS
theorem srt_perm (xs : List Str) : (srt xs).Perm xs := List.mergeSort_perm _ _
theorem srt_pw (xs : List Str) : (srt xs).Pairwise (fun a b => leS a b = true) := List.pairwise_mergeSort leS_trans leS_total xs
theorem rising_pw : ∀ {r : List Str} {p : Str}, PyProof.Rows.risingS p r = true → (p :: r).Pairwise (fun a b => leS a b = true)
  | [], p, _ => by simp
  | x :: r, p, h => by
    have h' : (!PySem.Spec.ltCps x.cps.toList p.cps.toList && PyProof.Rows.risingS x r) = true := h
    rw [Bool.and_eq_true] at h'
    have ih := rising_pw h'.2
    refine List.pairwise_cons.mpr ⟨?_, ih⟩
    intro y hy
    rcases List.mem_cons.mp hy with rfl | hy
    · exact h'.1
    · exact leS_trans _ _ _ h'.1 ((List.pairwise_cons.mp ih).1 y hy)
theorem sorted_pw {ys : List Str} (h : PyProof.Rows.sortedS ys = true) : ys.Pairwise (fun a b => leS a b = true) := by
  cases ys with
  | nil => exact .nil
  | cons x r => exact rising_pw h
theorem srt_is {ys xs : List Str} (hp : ys.Perm xs) (hs : PyProof.Rows.sortedS ys = true) : ys = srt xs :=
  List.Perm.eq_of_pairwise (le := fun a b => leS a b = true) (fun a b _ _ h1 h2 => leS_anti a b h1 h2) (sorted_pw hs) (srt_pw xs) (hp.trans (srt_perm xs).symm)
theorem srt_congr {xs ys : List Str} (h : xs.Perm ys) : srt xs = srt ys :=
  List.Perm.eq_of_pairwise (le := fun a b => leS a b = true) (fun a b _ _ h1 h2 => leS_anti a b h1 h2) (srt_pw xs) (srt_pw ys) ((srt_perm xs).trans (h.trans (srt_perm ys).symm))
theorem perm_srt {xs ys : List Str} (h : srt xs = srt ys) : xs.Perm ys := (srt_perm xs).symm.trans (by rw [h]; exact srt_perm ys)
theorem srt_len (xs : List Str) : (srt xs).length = xs.length := (srt_perm xs).length_eq
theorem srt_nd {xs : List Str} (h : xs.Nodup) : (srt xs).Nodup := (srt_perm xs).nodup_iff.mpr h
theorem mem_srt {xs : List Str} {x : Str} : x ∈ srt xs ↔ x ∈ xs := (srt_perm xs).mem_iff

/-! ### dicts by their names -/
def strD : PyData → Str
  | .str x => x
  | _ => Str.empty
def keysD (es : List (PyData × PyData)) : List Str := es.map fun e => strD e.1
def StrKeys (es : List (PyData × PyData)) : Prop := ∀ e ∈ es, ∃ x, e.1 = .str x
def dget (es : List (PyData × PyData)) (x : Str) : Option PyData := (es.find? fun e => decide (strD e.1 = x)).map (·.2)
theorem docD.keys {n : Nat} {es : List (PyData × PyData)} (h : docD (n + 1) (.dict es)) : StrKeys es := fun e he => by
  obtain ⟨⟨x, hx, _⟩, _⟩ := h.2 e he
  exact ⟨x, hx⟩
abbrev KvR (F : V → PyData → Prop) : Key × V → PyData × PyData → Prop := fun p q => q.1 = kD p.1 ∧ F p.2 q.2
theorem keys_of {F : V → PyData → Prop} {kvs : List (Key × V)} {es : List (PyData × PyData)} (hp : Paired (KvR F) kvs es) (hs : StrKeys es) : kvs.map (·.1) = (keysD es).map Sum.inr := by
  induction hp with
  | nil => rfl
  | cons r _ ih =>
    obtain ⟨x, hx⟩ := hs _ (List.mem_cons_self)
    have h1 := ih fun e he => hs e (by simp [he])
    simp only [keysD, List.map_cons, List.map_map] at h1 ⊢
    rw [h1]
    congr 1
    have h2 := r.1
    rw [hx] at h2
    rw [hx]
    rename_i a _ _ _ _
    obtain ⟨k, v⟩ := a
    cases k with
    | inl i => cases h2
    | inr y => cases h2; rfl
theorem keysV_of {F : V → PyData → Prop} {kvs : List (Key × V)} {es : List (PyData × PyData)} (hp : Paired (KvR F) kvs es) (hs : StrKeys es) : (kvs.map fun kv => kV kv.1) = (keysD es).map V.str := by
  have h := congrArg (List.map kV) (keys_of hp hs)
  rw [List.map_map, List.map_map] at h
  exact h
theorem inr_nd {xs : List Str} (h : (xs.map (Sum.inr : Str → Key)).Nodup) : xs.Nodup := by
  induction xs with
  | nil => exact List.nodup_nil
  | cons x r ih =>
    rw [List.map_cons, List.nodup_cons] at h
    rw [List.nodup_cons]
    exact ⟨fun hm => h.1 (List.mem_map.mpr ⟨x, hm, rfl⟩), ih h.2⟩
theorem nd_inr {xs : List Str} (h : xs.Nodup) : (xs.map (Sum.inr : Str → Key)).Nodup := by
  induction xs with
  | nil => exact List.nodup_nil
  | cons x r ih =>
    rw [List.nodup_cons] at h
    rw [List.map_cons, List.nodup_cons]
    refine ⟨fun hm => ?_, ih h.2⟩
    obtain ⟨y, hy, e⟩ := List.mem_map.mp hm
    cases e
    exact h.1 hy
theorem keys_nd {F : V → PyData → Prop} {kvs : List (Key × V)} {es : List (PyData × PyData)} (hp : Paired (KvR F) kvs es) (hs : StrKeys es) (hn : (kvs.map (·.1)).Nodup) : (keysD es).Nodup := by
  rw [keys_of hp hs] at hn
  exact inr_nd hn
/-- what a name leads to, in the heap and in the datum -/
theorem get_of {F : V → PyData → Prop} {kvs : List (Key × V)} {es : List (PyData × PyData)} (hp : Paired (KvR F) kvs es) (hs : StrKeys es) (x : Str) :
    (valV kvs (Sum.inr x) = none ∧ dget es x = none) ∨ ∃ v d, valV kvs (Sum.inr x) = some v ∧ dget es x = some d ∧ F v d := by
  induction hp with
  | nil => exact .inl ⟨rfl, rfl⟩
  | cons r _ ih =>
    obtain ⟨y, hy⟩ := hs _ (List.mem_cons_self)
    have h1 := ih fun e he => hs e (by simp [he])
    rename_i a b l1 l2 _
    obtain ⟨k, v⟩ := a
    obtain ⟨b1, b2⟩ := b
    obtain ⟨r1, r2⟩ := r
    simp at hy r1 r2
    subst hy
    cases k with
    | inl i => cases r1
    | inr z =>
      cases r1
      by_cases hz : y = x
      · subst hz
        refine .inr ⟨v, b2, ?_, ?_, r2⟩
        · simp [valV]
        · simp [dget, strD]
      · have hz' : ¬ (Sum.inr y : Key) = Sum.inr x := fun e => hz (Sum.inr.inj e)
        have e1 : valV ((Sum.inr y, v) :: l1) (Sum.inr x) = valV l1 (Sum.inr x) := by
          simp only [valV, List.find?_cons, decide_eq_false hz']
        have e2 : dget ((PyData.str y, b2) :: l2) x = dget l2 x := by
          have : ¬ strD (.str y) = x := hz
          simp only [dget, List.find?_cons, decide_eq_false this]
        rw [e1, e2]
        exact h1
theorem dget_mem {es : List (PyData × PyData)} {x : Str} {d : PyData} (h : dget es x = some d) : ∃ e ∈ es, e.2 = d ∧ strD e.1 = x := by
  unfold dget at h
  cases e : es.find? fun e => decide (strD e.1 = x) with
  | none => rw [e] at h; cases h
  | some q =>
    rw [e] at h
    cases h
    exact ⟨q, List.mem_of_find?_eq_some e, rfl, by have := List.find?_some e; simpa using this⟩
theorem dget_none {es : List (PyData × PyData)} {x : Str} (h : dget es x = none) : x ∉ keysD es := by
  unfold dget at h
  intro hm
  obtain ⟨e, he, hx⟩ := List.mem_map.mp hm
  cases q : es.find? fun e => decide (strD e.1 = x) with
  | none =>
    have := List.find?_eq_none.mp q e he
    simp at this
    exact this hx
  | some z => rw [q] at h; cases h

/-! ### the same -/
def sameL : PyData → PyData → Bool
  | .none, .none => true
  | .bool a, .bool b => decide (a = b)
  | .int i, .int j => decide (i = j)
  | .str x, .str y => decide (x = y)
  | _, _ => false
def optB (o : Option PyData) (f : PyData → Bool) : Bool := match o with
  | some d => f d
  | none => false
def sameN : Nat → PyData → PyData → Bool
  | 0, _, _ => false
  | n + 1, .list xs, .list ys => decide (xs.length = ys.length) && (List.zipWith (sameN n) xs ys).all id
  | n + 1, .dict es, .dict fs => decide (srt (keysD es) = srt (keysD fs)) && (es.map fun e => optB (dget fs (strD e.1)) (sameN n e.2)).all id
  | _ + 1, d, e => sameL d e
theorem sameL_refl {d : PyData} (h : leafD d) : sameL d d = true := by
  cases d <;> first | exact h.elim | simp [sameL]
/-- names nowhere twice -/
def ndD : Nat → PyData → Prop
  | 0, _ => True
  | n + 1, .list ds => ∀ d ∈ ds, ndD n d
  | n + 1, .dict es => (keysD es).Nodup ∧ ∀ e ∈ es, ndD n e.2
  | _ + 1, _ => True
theorem Rp.nd {H : Hp} : ∀ {n m : Nat} {v : V} {d : PyData}, Rp H n v d → docD m d → ndD m d
  | 0, _, _, _, h, _ => h.elim
  | _, 0, _, _, _, _ => trivial
  | n + 1, m + 1, v, .none, _, _ => trivial
  | n + 1, m + 1, v, .bool _, _, _ => trivial
  | n + 1, m + 1, v, .int _, _, _ => trivial
  | n + 1, m + 1, v, .str _, _, _ => trivial
  | n + 1, m + 1, v, .tuple _, _, _ => trivial
  | n + 1, m + 1, v, .list ds, ⟨a, xs, _, _, _, hp⟩, hd => fun d hm => by
    obtain ⟨x, _, r⟩ := pd_memR hp hm
    exact r.nd (hd.2 d hm)
  | n + 1, m + 1, v, .dict es, ⟨a, kvs, _, _, _, hn, hp⟩, hd => ⟨keys_nd hp hd.keys hn, fun e hm => by
    obtain ⟨x, _, r⟩ := pd_memR hp hm
    exact r.2.nd (hd.2 e hm).2⟩

/-! ### rules that speak of the written part, by its name -/
section
variable {X : Cx} {K : PySem.W.Frag}
theorem ixLK (h : X.K = K) : IxR X (rIxL K) := by subst h; exact ix_list
theorem ixTK (h : X.K = K) : IxR X (rIxT K) := by subst h; exact ix_tup
theorem isiK (h : X.K = K) : CallR X (.builtin "isinstance") (rIsi K) := by subst h; exact call_isi
theorem isiTK (h : X.K = K) : CallR X (.builtin "isinstance") (rIsiT K) := by subst h; exact call_isiT
def rLenK (K : PySem.W.Frag) : List V → Hp → VK → Prop := fun xs H Q => ∃ x n, xs = [x] ∧ LenV K x H n ∧ Q (.int (n : Nat)) H
theorem lenK (h : X.K = K) : CallR X (.builtin "len") (rLenK K) := by subst h; exact call_len
theorem maxK (h : X.K = K) (hc : X.calm = true) : CallR X (.builtin "max") (rMax K) := by subst h; exact cr_max hc
theorem sumK (h : X.K = K) (hc : X.calm = true) : CallR X (.builtin "sum") (rSum K) := by subst h; exact cr_sum hc
theorem allK (h : X.K = K) (hc : X.calm = true) : CallR X (.builtin "all") (rAll K) := by subst h; exact cr_all hc
theorem anyK (h : X.K = K) (hc : X.calm = true) : CallR X (.builtin "any") (rAny K) := by subst h; exact cr_any hc
theorem sortedSK (h : X.K = K) : CallR X (.builtin "sorted") (rSortedS K) := by subst h; exact cr_sortedS
theorem inK (h : X.K = K) : OpR X (compareOp .In) (rIn K false) := by subst h; exact op_in_seq
theorem notInK (h : X.K = K) : OpR X (compareOp .NotIn) (rIn K true) := by subst h; exact op_notIn_seq
theorem eqDK (h : X.K = K) (hu : X.A.units + 64 < cLine) : OpR X (compareOp .Eq) (rEqD K) := by subst h; exact op_eqD hu
theorem neDK (h : X.K = K) (hu : X.A.units + 64 < cLine) : OpR X (compareOp .NotEq) (rNeD K) := by subst h; exact op_neD hu
theorem slLK (h : X.K = K) : SlR X (rSlL K) := by subst h; exact sl_list
theorem slTK (h : X.K = K) : SlR X (rSlT K) := by subst h; exact sl_tup
def rListK (K : PySem.W.Frag) : List V → Hp → VK → Prop := fun xs H Q => ∃ p ys, xs = [.ref p] ∧ (SqL K H p ys ∨ SqT K H p ys) ∧ ∀ l, H l = none → Q (.ref l) (upd H l (.lst ys))
theorem listK (h : X.K = K) : CallR X (.type "list") (rListK K) := by subst h; exact call_list_of
end

/-! ### kinds -/
def kindD : PyData → Str
  | .none => "null"
  | .bool _ => "boolean"
  | .int _ => "integer"
  | .str _ => "string"
  | .list _ => "array"
  | _ => "object"

theorem same_kind {n m : Nat} {d e : PyData} (hd : docD m d) (he : docD m e) (h : ¬ kindD d = kindD e) : sameN (n + 1) d e = false := by
  cases m with
  | zero => exact hd.elim
  | succ m => cases d <;> cases e <;> first | exact hd.elim | exact he.elim | rfl | exact absurd rfl h
theorem kind_inv {m : Nat} {d e : PyData} (hd : docD m d) (he : docD m e) (h : kindD d = kindD e) :
    (d = .none ∧ e = .none) ∨ (∃ a b, d = .bool a ∧ e = .bool b) ∨ (∃ a b, d = .int a ∧ e = .int b) ∨ (∃ a b, d = .str a ∧ e = .str b) ∨ (∃ a b, d = .list a ∧ e = .list b) ∨ ∃ a b, d = .dict a ∧ e = .dict b := by
  cases m with
  | zero => exact hd.elim
  | succ m =>
    cases d <;> cases e <;> first | exact hd.elim | exact he.elim | exact .inl ⟨rfl, rfl⟩ | exact .inr (.inl ⟨_, _, rfl, rfl⟩) | exact .inr (.inr (.inl ⟨_, _, rfl, rfl⟩)) | exact .inr (.inr (.inr (.inl ⟨_, _, rfl, rfl⟩))) | exact .inr (.inr (.inr (.inr (.inl ⟨_, _, rfl, rfl⟩)))) | exact .inr (.inr (.inr (.inr (.inr ⟨_, _, rfl, rfl⟩)))) | exact absurd h (by simp only [kindD]; decide +kernel)
theorem strOk_of {x : Str} (h : AsciiS x) : PyData.strOk x = true := by
  unfold PyData.strOk
  rw [Array.all_eq_true_iff_forall_mem]
  intro c hc
  have := h c (by simpa using hc)
  exact decide_eq_true (by omega)
theorem layAll_strs : ∀ {xs : List Str}, (∀ x ∈ xs, AsciiS x) → PyData.canLayAll0 (xs.map .str) = true
  | [], _ => rfl
  | x :: r, h => by
    show (PyData.strOk x && PyData.canLayAll0 (r.map .str)) = true
    rw [strOk_of (h x (by simp)), layAll_strs fun y hy => h y (by simp [hy])]
    rfl
theorem depth_strs : ∀ xs : List Str, PyData.depthAll (xs.map .str) = 0
  | [] => rfl
  | x :: r => by
    show max 0 (PyData.depthAll (r.map .str)) = 0
    rw [depth_strs r]
    rfl
theorem shaped_strs {xs : List Str} (h : ∀ x ∈ xs, AsciiS x) : SeqAt.shaped (.list (xs.map .str)) = true := by
  have h1 := layAll_strs h
  have h2 := depth_strs xs
  show (PyData.canLayAll0 (xs.map .str) && decide (PyData.depthAll (xs.map .str) + 1 ≤ 64)) = true
  rw [h1, h2]
  rfl
theorem eqv_strs : ∀ xs ys : List Str, PyData.eqv (.list (xs.map .str)) (.list (ys.map .str)) = decide (xs = ys) := by
  have h : ∀ xs ys : List Str, PyData.eqvAll (xs.map .str) (ys.map .str) = decide (xs = ys) := by
    intro xs
    induction xs with
    | nil =>
      intro ys
      cases ys with
      | nil => rfl
      | cons y r => rfl
    | cons x r ih =>
      intro ys
      cases ys with
      | nil => rfl
      | cons y q =>
        show ((x == y) && PyData.eqvAll (r.map .str) (q.map .str)) = _
        rw [ih q]
        by_cases hxy : x = y
        · subst hxy
          simp
        · simp [hxy]
  intro xs ys
  exact h xs ys
theorem Dp_strs {K : PySem.W.Frag} {H : Hp} {a : Addr} {xs : List Str} (h : H a = some (.lst (xs.map V.str))) : Dp K H (.ref a) (.list (xs.map .str)) := by
  refine .lst (SqL.of h) ?_
  induction xs generalizing H with
  | nil => exact .nil
  | cons x r ih =>
    have : ∀ l : List Str, DpAll K H (l.map V.str) (l.map PyData.str) := by
      intro l
      induction l with
      | nil => exact .nil
      | cons y q ih2 => exact .cons (.str y) ih2
    exact this _

/-! ### None, True, False are shown as nothing else is -/
theorem mem_list (ts : List Str) : 93 ∈ (listText ts).cps.toList := by
  unfold listText
  show 93 ∈ ((textFrom 0 "[" ts).cps ++ (Str.ofString "]").cps).toList
  rw [Array.toList_append]
  exact List.mem_append_right _ (by decide +kernel)
theorem mem_dict (ts : List Str) : 125 ∈ (dictText ts).cps.toList := by
  unfold dictText
  show 125 ∈ (_ ++ (Str.ofString "}").cps).toList
  rw [Array.toList_append]
  exact List.mem_append_right _ (by decide +kernel)
theorem mem_str (x : Str) : reprQuote x ∈ (reprText x).cps.toList := by
  unfold reprText
  simp
theorem quote_is (x : Str) : reprQuote x = 39 ∨ reprQuote x = 34 := by
  unfold reprQuote
  split <;> simp
def flatN : PyData → Bool
  | .none => true
  | .bool _ => true
  | _ => false
theorem flat_apart {d e : PyData} (hd : flatN d = true) (he : flatN e = false) (ht : ∀ ds, e ≠ .tuple ds) : d.shown ≠ e.shown := by
  intro h
  have h2 : ∀ c, c ∈ e.shown.cps.toList → c ∈ d.shown.cps.toList := fun c hc => by rw [h]; exact hc
  have h3 : ∀ c, c ∈ d.shown.cps.toList → c ∈ e.shown.cps.toList := fun c hc => by rw [← h]; exact hc
  have no : ∀ c ∈ [93, 125, 39, 34], c ∉ d.shown.cps.toList := by
    cases d with
    | none => decide +kernel
    | bool b => cases b <;> decide +kernel
    | _ => cases hd
  cases e with
  | none => cases he
  | bool b => cases he
  | tuple ds => exact ht ds rfl
  | list ds => exact no 93 (by simp) (h2 _ (mem_list _))
  | dict ds => exact no 125 (by simp) (h2 _ (mem_dict _))
  | str x =>
    rcases quote_is x with q | q
    · exact no 39 (by simp) (h2 _ (by rw [← q]; exact mem_str x))
    · exact no 34 (by simp) (h2 _ (by rw [← q]; exact mem_str x))
  | int i =>
    have hi : ∀ c ∈ [78, 84, 70], c ∉ (PyData.shown (.int i)).cps.toList := by
      intro c hc
      simp only [List.mem_cons, List.not_mem_nil, or_false] at hc
      rcases hc with rfl | rfl | rfl <;> exact PyProof.Rows.int_text_free' _ ⟨by decide, by decide⟩ i
    cases d with
    | none => exact hi 78 (by simp) (h3 78 (by decide +kernel))
    | bool b =>
      cases b
      · exact hi 70 (by simp) (h3 70 (by decide +kernel))
      · exact hi 84 (by simp) (h3 84 (by decide +kernel))
    | _ => cases hd
theorem flat_same {n m : Nat} {d e : PyData} (dd : docD m d) (de : docD m e) (h : flatN d = true ∨ flatN e = true) : decide (d.shown = e.shown) = sameN (n + 1) d e := by
  have nt : ∀ {x : PyData}, docD m x → ∀ ds, x ≠ .tuple ds := by
    intro x hx ds e
    subst e
    cases m with
    | zero => exact hx.elim
    | succ m => exact hx.elim
  by_cases hd : flatN d = true
  · by_cases he : flatN e = true
    · cases d <;> first | cases hd | skip
      all_goals cases e <;> first | cases he | skip
      · rfl
      · rename_i b; cases b <;> (show _ = sameL _ _; decide +kernel)
      · rename_i b; cases b <;> (show _ = sameL _ _; decide +kernel)
      · rename_i a b; cases a <;> cases b <;> (show _ = sameL _ _; decide +kernel)
    · have he' : flatN e = false := by simpa using he
      rw [decide_eq_false (flat_apart hd he' (nt de))]
      cases d <;> first | cases hd | skip
      all_goals cases e <;> first | exact absurd rfl he | rfl
  · have hd' : flatN d = false := by simpa using hd
    have he : flatN e = true := by rcases h with h | h; exact absurd h hd; exact h
    rw [decide_eq_false (fun z => flat_apart he hd' (nt dd) z.symm)]
    cases e <;> first | cases he | skip
    all_goals cases d <;> first | exact absurd rfl hd | rfl
theorem Room.u100 {k : Nat} {A : Around} (r : Room k A) : A.units + 100 < cLine := by have := r.un; omega
theorem flat_iff {H : Hp} {n : Nat} {v : V} {d : PyData} (h : Rp H n v d) : flatN d = true ↔ isT .bool d = true ∨ v = .non := by
  cases n with
  | zero => exact h.elim
  | succ n =>
    cases d with
    | none => cases h; simp [flatN]
    | bool b => cases h; simp [flatN, isT]
    | int b => cases h; simp [flatN, isT]
    | str b => cases h; simp [flatN, isT]
    | list b => obtain ⟨a, xs, rfl, _⟩ := h; simp [flatN, isT]
    | tuple b => obtain ⟨a, xs, rfl, _⟩ := h; simp [flatN, isT]
    | dict b => obtain ⟨a, xs, rfl, _⟩ := h; simp [flatN, isT]
theorem notin_false (bs : List Bool) : (!inV (.bl false) (bs.map V.bl)) = bs.all id := by
  unfold inV
  induction bs with
  | nil => rfl
  | cons b r ih =>
    simp only [List.map_cons, List.any_cons, Bool.not_or, List.all_cons]
    rw [ih]
    cases b <;> rfl
theorem flat_bls (bs : List Bool) : (bs.map V.bl).all flatV = true := by
  rw [List.all_eq_true]
  intro x hx
  obtain ⟨b, _, rfl⟩ := List.mem_map.mp hx
  rfl
/-- name = [.. for k in d], the dict locked -/
theorem tLock_asg (te : TE) (k : Nat) (D : Ends) (σ : L2.St) (H : Hp) : tLock (tAsg te (gName k)) D σ H = tLockE te σ H (fun v H' => D.nx (σ.set k (some v)) H') := rfl
end SC

set_option Elab.async false
set_option linter.all false
set_option maxRecDepth 100000
set_option maxHeartbeats 4000000
/-! Schemacheck: texts; parts of the heap. -/
namespace SC
open PySem L2

/-! ### the heap without some of it -/
def gone (S : List Addr) (H : Hp) : Hp := fun b => if b ∈ S then none else H b
theorem gone_sub (S : List Addr) (H : Hp) : Same (gone S H) H := fun b o e => by
  unfold gone at e
  split at e
  · cases e
  · exact e
theorem gone_at {S : List Addr} {H : Hp} {b : Addr} (h : b ∉ S) : gone S H b = H b := if_neg h
theorem gone_keep {S : List Addr} {H H' : Hp} (k : Keep S H H') : Same (gone S H) (gone S H') := fun b o e => by
  unfold gone at e ⊢
  split at e
  · cases e
  · rename_i h
    rw [if_neg h]
    exact k b o e h
theorem gone_same {S : List Addr} {H H' : Hp} (k : Same H H') : Same (gone S H) (gone S H') := gone_keep (.of k)
theorem gone_less {S T : List Addr} {H : Hp} (h : ∀ b ∈ S, b ∈ T) : Same (gone T H) (gone S H) := fun b o e => by
  unfold gone at e ⊢
  split at e
  · cases e
  · rename_i z
    rw [if_neg fun y => z (h b y)]
    exact e
/-- a new thing is none of the old -/
theorem gone_new {S : List Addr} {H : Hp} {D : Addr} {o : HO} (hD : H D = none) : Same (gone S H) (gone (D :: S) (upd H D o)) := fun b u e => by
  unfold gone at e ⊢
  split at e
  · cases e
  · rename_i z
    have hb : b ≠ D := ne_of_none e hD
    rw [if_neg (by simp [hb, z]), upd_ne hb]
    exact e
theorem gone_mut {S : List Addr} {H : Hp} {D : Addr} {o : HO} (hD : D ∈ S) : gone S (upd H D o) = gone S H := by
  funext b
  unfold gone
  split
  · rfl
  · rename_i z
    exact upd_ne fun e => z (e ▸ hD)
theorem gone_in {S : List Addr} {H H' : Hp} {D : Addr} (k : Same H H') (hD : H D = none) : Same (gone S H) (gone (D :: S) H') := fun b u e => by
  unfold gone at e ⊢
  split at e
  · cases e
  · rename_i z
    have hb : b ≠ D := ne_of_none e hD
    rw [if_neg (by simp [hb, z])]
    exact k _ _ e
theorem not_gone {S : List Addr} {H : Hp} {D : Addr} (hS : ∀ a ∈ S, H a ≠ none) (hD : H D = none) : D ∉ S := fun h => hS D h hD
theorem here_same {S : List Addr} {H H' : Hp} (hS : ∀ a ∈ S, H a ≠ none) (k : Same H H') : ∀ a ∈ S, H' a ≠ none := fun a ha e => by
  cases h : H a with
  | none => exact hS a ha h
  | some o => rw [k _ _ h] at e; cases e
theorem here_cons {S : List Addr} {H : Hp} {D : Addr} {o : HO} (hS : ∀ a ∈ S, H a ≠ none) (hD : H D = some o) : ∀ a ∈ D :: S, H a ≠ none := fun a ha e => by
  rcases List.mem_cons.mp ha with rfl | h
  · rw [hD] at e; cases e
  · exact hS a h e
theorem pd_rev {A B : Type} {F : A → B → Prop} {xs : List A} {ys : List B} (h : Paired F xs ys) : Paired F xs.reverse ys.reverse := by
  induction h with
  | nil => exact .nil
  | cons h1 _ ih => rw [List.reverse_cons, List.reverse_cons]; exact pd_app ih (.cons h1 .nil)
theorem pd_both {A B : Type} {F G K : A → B → Prop} {xs : List A} {ys : List B} (h : Paired F xs ys) (g : Paired G xs ys) (f : ∀ a b, F a b → G a b → K a b) : Paired K xs ys := by
  induction h with
  | nil => exact .nil
  | cons h1 _ ih => cases g with
    | cons g1 g2 => exact .cons (f _ _ h1 g1) (ih g2)
theorem news_gone {S : List Addr} {H H' : Hp} (hs : ∀ a ∈ S, H a ≠ none) : Same (news H H') (gone S H') := fun b o e => by
  unfold news at e
  split at e
  · cases e
  · rename_i h
    rw [gone_at fun z => hs b z h]
    exact e

/-! ### data no part of which is locked -/
def Re (H : Hp) : Nat → V → PyData → Prop
  | 0, _, _ => False
  | _ + 1, v, .none => v = .non
  | _ + 1, v, .bool b => v = .bl b
  | _ + 1, v, .int i => v = .int i
  | _ + 1, v, .str x => v = .str x
  | n + 1, v, .list ds => ∃ a xs, v = .ref a ∧ H a = some (.lst xs) ∧ xs.length ≤ 10000 ∧ Paired (Re H n) xs ds
  | n + 1, v, .tuple ds => ∃ a xs, v = .ref a ∧ H a = some (.tup xs) ∧ xs.length ≤ 10000 ∧ Paired (Re H n) xs ds
  | n + 1, v, .dict es => ∃ a kvs, v = .ref a ∧ H a = some (.dK kvs) ∧ kvs.length ≤ 10000 ∧ (kvs.map (·.1)).Nodup ∧ Paired (KvR (Re H n)) kvs es
theorem Re.imp {H H' : Hp} : ∀ {n : Nat} {v : V} {d : PyData}, Same H H' → Re H n v d → Re H' n v d
  | 0, _, _, _, h => h
  | n + 1, v, .none, _, h => h
  | n + 1, v, .bool _, _, h => h
  | n + 1, v, .int _, _, h => h
  | n + 1, v, .str _, _, h => h
  | n + 1, v, .list ds, e, ⟨a, xs, h1, h2, hb, h3⟩ => ⟨a, xs, h1, e _ _ h2, hb, pd_imp h3 fun _ _ _ _ q => Re.imp e q⟩
  | n + 1, v, .tuple ds, e, ⟨a, xs, h1, h2, hb, h3⟩ => ⟨a, xs, h1, e _ _ h2, hb, pd_imp h3 fun _ _ _ _ q => Re.imp e q⟩
  | n + 1, v, .dict es, e, ⟨a, xs, h1, h2, hb, hn, h3⟩ => ⟨a, xs, h1, e _ _ h2, hb, hn, pd_imp h3 fun _ _ _ _ q => ⟨q.1, Re.imp e q.2⟩⟩
theorem Re.rp {H : Hp} : ∀ {n : Nat} {v : V} {d : PyData}, Re H n v d → Rp H n v d
  | 0, _, _, h => h
  | n + 1, v, .none, h => h
  | n + 1, v, .bool _, h => h
  | n + 1, v, .int _, h => h
  | n + 1, v, .str _, h => h
  | n + 1, v, .list ds, ⟨a, xs, h1, h2, hb, h3⟩ => ⟨a, xs, h1, h2, hb, pd_imp h3 fun _ _ _ _ q => Re.rp q⟩
  | n + 1, v, .tuple ds, ⟨a, xs, h1, h2, hb, h3⟩ => ⟨a, xs, h1, h2, hb, pd_imp h3 fun _ _ _ _ q => Re.rp q⟩
  | n + 1, v, .dict es, ⟨a, xs, h1, h2, hb, hn, h3⟩ => ⟨a, xs, h1, .inl h2, hb, hn, pd_imp h3 fun _ _ _ _ q => ⟨q.1, Re.rp q.2⟩⟩
theorem Re.up1 {H : Hp} : ∀ {n : Nat} {v : V} {d : PyData}, Re H n v d → Re H (n + 1) v d
  | 0, _, _, h => h.elim
  | n + 1, v, .none, h => h
  | n + 1, v, .bool _, h => h
  | n + 1, v, .int _, h => h
  | n + 1, v, .str _, h => h
  | n + 1, v, .list ds, ⟨a, xs, h1, h2, hb, h3⟩ => ⟨a, xs, h1, h2, hb, pd_imp h3 fun _ _ _ _ q => Re.up1 q⟩
  | n + 1, v, .tuple ds, ⟨a, xs, h1, h2, hb, h3⟩ => ⟨a, xs, h1, h2, hb, pd_imp h3 fun _ _ _ _ q => Re.up1 q⟩
  | n + 1, v, .dict es, ⟨a, xs, h1, h2, hb, hn, h3⟩ => ⟨a, xs, h1, h2, hb, hn, pd_imp h3 fun _ _ _ _ q => ⟨q.1, Re.up1 q.2⟩⟩
theorem Re.up {H : Hp} {n m : Nat} {v : V} {d : PyData} (h : Re H n v d) (hl : n ≤ m) : Re H m v d := by
  induction hl with
  | refl => exact h
  | step _ ih => exact ih.up1
theorem Re.leaf {H : Hp} {n : Nat} {v : V} {d : PyData} (hd : leafD d) (h : Rp H n v d) : Re H n v d := by
  cases n with
  | zero => exact h.elim
  | succ n => cases d <;> first | exact h | exact hd.elim
/-- a part of an unlocked datum, in less of the heap -/
theorem Re.of {G H : Hp} (s : Same G H) : ∀ {n m : Nat} {v : V} {d : PyData}, Re H n v d → Rp G m v d → Re G m v d
  | 0, _, _, _, h, _ => h.elim
  | _, 0, _, _, _, h => h.elim
  | n + 1, m + 1, v, .none, h, _ => h
  | n + 1, m + 1, v, .bool _, h, _ => h
  | n + 1, m + 1, v, .int _, h, _ => h
  | n + 1, m + 1, v, .str _, h, _ => h
  | n + 1, m + 1, v, .list ds, ⟨a, xs, h1, h2, hb, h3⟩, ⟨a', xs', g1, g2, gb, g3⟩ => by
    rw [h1] at g1; cases g1
    have e := s _ _ g2
    rw [h2] at e; cases e
    exact ⟨a, xs, h1, g2, hb, pd_both h3 g3 fun _ _ q r => Re.of s q r⟩
  | n + 1, m + 1, v, .tuple ds, ⟨a, xs, h1, h2, hb, h3⟩, ⟨a', xs', g1, g2, gb, g3⟩ => by
    rw [h1] at g1; cases g1
    have e := s _ _ g2
    rw [h2] at e; cases e
    exact ⟨a, xs, h1, g2, hb, pd_both h3 g3 fun _ _ q r => Re.of s q r⟩
  | n + 1, m + 1, v, .dict es, ⟨a, xs, h1, h2, hb, hn, h3⟩, ⟨a', xs', g1, g2, gb, gn, g3⟩ => by
    rw [h1] at g1; cases g1
    rcases g2 with g2 | ⟨o, g2⟩
    · have e := s _ _ g2
      rw [h2] at e; cases e
      exact ⟨a, xs, h1, g2, hb, hn, pd_both h3 g3 fun _ _ q r => ⟨q.1, Re.of s q.2 r.2⟩⟩
    · have e := s _ _ g2
      rw [h2] at e; cases e

/-! ### rules with the given part named -/
section
variable {X : Cx} {K : PySem.W.Frag}
theorem pe_gstr {x z : Str} {t : Tok} {pos : Pos} (hg : Gl X x) (hm : X.mg x = some (.str z t)) (hd : (x == ("__debug__" : Str)) = false := by decide) : PE X (.Name x pos) (tC (.str z)) := pe_glob (v := .str z) hg hm ⟨t, rfl⟩ hd
theorem revLK {e : Expr} {te : TE} {k : Nat} {p1 p2 p3 pos : Pos} (h : X.K = K) (he : PE X e te) : PE X (.Subscript e (.Slice none none (some (.UnaryOp .USub (.Constant (.int 1) k p1) p2)) p3) pos) (tRevL K te) := by subst h; exact pe_revL he
def rJoin (K : PySem.W.Frag) : V → List V → Hp → VK → Prop := fun x xs H Q => ∃ a p, ∃ ys : List Str, x = .str a ∧ xs = [.ref p] ∧ (SqL K H p (ys.map V.str) ∨ SqT K H p (ys.map V.str)) ∧
      (ys.map (·.length)).sum + ys.length * a.length ≤ 16777216 ∧ Q (.str (Txt.join a ys)) H
theorem joinK {o e : Expr} {to te : TE} {apos pos : Pos} (h : X.K = K) (ho : PE X o to) (he : PE X e te) (hs : starEach [e] X.env = [(false, eval e X.env)] := by rfl) (hbase : attributeBase o "join" X.env (eval o X.env) = eval o X.env := by rfl) (hline : (apos.endLine == pos.line) = true := by rfl) :
    PE X (.Call (.Attribute o "join" apos) [e] [] pos) (tM1 (rJoin K) to te) := by subst h; exact pe_join ho he hs hbase hline
/-- len of a list, tuple, text or dict -/
def LenA (K : PySem.W.Frag) (x : V) (H : Hp) (n : Nat) : Prop := LenV K x H n ∨ ∃ a kvs, x = .ref a ∧ Rd H a (.dK kvs) ∧ n = kvs.length
theorem LenA.l {K : PySem.W.Frag} {H : Hp} {a : Addr} {xs : List V} (h : SqL K H a xs) : LenA K (.ref a) H xs.length := .inl (.inl ⟨xs, h, rfl⟩)
theorem LenA.d {K : PySem.W.Frag} {H : Hp} {a : Addr} {kvs : List (Key × V)} (h : Rd H a (.dK kvs)) : LenA K (.ref a) H kvs.length := .inr ⟨a, kvs, rfl, h, rfl⟩
def rLenA (K : PySem.W.Frag) : List V → Hp → VK → Prop := fun xs H Q => ∃ x n, xs = [x] ∧ LenA K x H n ∧ Q (.int (n : Nat)) H
theorem lenAK (h : X.K = K) : CallR X (.builtin "len") (rLenA K) := by
  subst h
  intro pins s σ H xs us Q I r h
  obtain ⟨x, n, rfl, e, q⟩ := h
  rcases e with e | ⟨a, kvs, rfl, e, rfl⟩
  · exact call_len pins s σ H _ us Q I r ⟨x, n, rfl, e, q⟩
  · cases r with
    | cons r rr =>
      cases rr
      cases r
      exact d_len I e fun t s' I' => ⟨.int kvs.length, H, I', ⟨t, rfl⟩, q⟩
def rTup (K : PySem.W.Frag) : List V → Hp → VK → Prop := fun xs H Q => ∃ p ys, xs = [.ref p] ∧ ((SqL K H p ys ∧ ∀ l, H l = none → Q (.ref l) (upd H l (.tup ys))) ∨ (SqT K H p ys ∧ Q (.ref p) H))
theorem tupleK (h : X.K = K) : CallR X (.type "tuple") (rTup K) := by subst h; exact call_tuple_of
end

/-! ### texts -/
theorem len_app (x y : Str) : (x ++ y).length = x.length + y.length := by
  show (x.cps ++ y.cps).size = _
  rw [Array.size_append]
  rfl
theorem int_len {i : Int} (h : -10 ^ 30 ≤ i ∧ i ≤ 10 ^ 30) : (Str.ofString (toString i)).length ≤ 40 := int30_len h
/-! ### signs of a text -/
theorem lcP_str {z : Str} {te : TE} {j : Nat} {σ : L2.St} {H1 : Hp} {Q : VK} (ys : List V) (hl : ys.length = z.length) (hz : z.length ≤ 100000)
    (step : ∀ (i : Nat) c y H' (N : VK), z.cps.toList[i]? = some c → ys[i]? = some y → Same H1 H' → (∀ H4, Same H' H4 → N y H4) → te ((wipe σ [j]).set j (some (.str ⟨#[c]⟩))) H' N)
    (done : ∀ D H', H1 D = none → Same H1 H' → H' D = some (.lst ys) → Q (.ref D) H') : LcR (Its z) (gName j) tYes te [j] σ H1 Q :=
  lcP_map walk_str (fun i x => ∃ c, z.cps[i]? = some c ∧ x = .str ⟨#[c]⟩) (fun _ _ _ _ h => h) (fun _ _ => trivial) ys hl hz (fun i x y H' N ⟨c, h1, h2⟩ hy s n => by subst h2; exact step i c y H' N (by rw [Array.getElem?_toList]; exact h1) hy s n) done
/-- [x for x in text if ..] -/
theorem lcF_str {z : Str} {tt : TT} {j : Nat} {σ : L2.St} {H1 : Hp} {Q : VK} (p : Nat → Bool) (hz : z.length ≤ 100000) (hj : j < σ.length)
    (step : ∀ c H' (N : Bool → Hp → Prop), c ∈ z.cps.toList → Same H1 H' → N (p c) H' → tt ((wipe σ [j]).set j (some (.str ⟨#[c]⟩))) H' N)
    (done : ∀ D H', H1 D = none → Same H1 H' → H' D = some (.lst (((z.cps.toList.filter p).map fun c => (⟨#[c]⟩ : Str)).map V.str)) → Q (.ref D) H') : LcR (Its z) (gName j) tt (tVar j) [j] σ H1 Q := by
  refine lc_itR walk_str (fun D i H' => Same H1 H' ∧ H' D = some (.lst ((((z.cps.toList.take i).filter p).map fun c => (⟨#[c]⟩ : Str)).map V.str))) (fun D hD => ⟨same_new hD _, by rw [upd_same]; rfl⟩) (fun _ _ _ _ _ _ => trivial) ?_ ?_
  · rintro D i x H H' hD hi ⟨s, e⟩ ⟨rfl, c, hc, rfl⟩
    have hc' : z.cps.toList[i]? = some c := by rw [Array.getElem?_toList]; exact hc
    refine ⟨wipe1, step c _ _ (List.mem_of_getElem? hc') s ?_⟩
    have ht : z.cps.toList.take (i + 1) = z.cps.toList.take i ++ [c] := by rw [List.take_succ, hc']; rfl
    split
    · rename_i hp
      refine ⟨.str ⟨#[c]⟩, ?_, _, e, ?_, same_mut s hD, ?_⟩
      · show (((σ.set j none).set j (some _)))[j]? = _
        rw [List.getElem?_set_self (by rw [List.length_set]; exact hj)]
      · rw [List.length_map, List.length_map]
        refine sz5l (Nat.lt_of_le_of_lt (List.length_filter_le _ _) ?_)
        rw [List.length_take]
        have : i < z.length := hi
        omega
      · rw [upd_same, ht, List.filter_append, List.filter_cons_of_pos hp]
        simp
    · rename_i hp
      refine ⟨s, ?_⟩
      rw [ht, List.filter_append, List.filter_cons_of_neg (by simpa using hp)]
      simpa using e
  · rintro D H' hD ⟨s, e⟩
    refine done D H' hD s ?_
    rw [List.take_of_length_le (by show z.cps.toList.length ≤ z.cps.size; simp)] at e
    exact e
theorem app_cps (x y : Str) : (x ++ y).cps.toList = x.cps.toList ++ y.cps.toList := by
  show (x.cps ++ y.cps).toList = _
  rw [Array.toList_append]
theorem str_nil {x : Str} (h : x.cps.toList = []) : x = "" := by
  obtain ⟨⟨l⟩⟩ := x
  cases h
  rfl
theorem str_one {c : Nat} (z : Nat) : (V.str ⟨#[c]⟩ = V.str ⟨#[z]⟩) ↔ c = z := by
  constructor
  · intro e; cases e; rfl
  · intro e; rw [e]
theorem emp_app (x : Str) : Str.empty ++ x = x := by
  obtain ⟨a⟩ := x
  show (⟨#[] ++ a⟩ : Str) = ⟨a⟩
  rw [Array.empty_append]
theorem of_len (x : String) : (Str.ofString x).length = x.length := PyProof.Rows.ofString_length x
theorem app_assoc (x y z : Str) : x ++ y ++ z = x ++ (y ++ z) := by
  show (⟨x.cps ++ y.cps ++ z.cps⟩ : Str) = ⟨x.cps ++ (y.cps ++ z.cps)⟩
  rw [Array.append_assoc]
theorem emp_len : Str.empty.length = 0 := rfl
theorem int_log {i : Int} (h : -10 ^ 30 ≤ i ∧ i ≤ 10 ^ 30) : i.natAbs.log2 < 1920 := Nat.lt_trans (int30_log h) (by decide)
/-! ### texts that can be laid -/
theorem ok_ofString (x : String) : PyData.strOk (Str.ofString x) = true := by
  unfold PyData.strOk
  rw [Str.ofString_eq_toList, Array.all_eq_true_iff_forall_mem]
  intro c hc
  obtain ⟨d, _, rfl⟩ := List.mem_map.mp (by simpa using hc : c ∈ x.toList.map Char.toNat)
  refine decide_eq_true ?_
  have := d.valid
  rcases this with h | ⟨_, h⟩
  · exact Nat.lt_trans h (by decide)
  · exact h
theorem ok_app {x y : Str} (hx : PyData.strOk x = true) (hy : PyData.strOk y = true) : PyData.strOk (x ++ y) = true := by
  unfold PyData.strOk at *
  show (x.cps ++ y.cps).all _ = true
  rw [Array.all_append, hx, hy]
  rfl
theorem layAll_strsK : ∀ {xs : List Str}, (∀ x ∈ xs, PyData.strOk x = true) → PyData.canLayAll0 (xs.map .str) = true
  | [], _ => rfl
  | x :: r, h => by
    show (PyData.strOk x && PyData.canLayAll0 (r.map .str)) = true
    rw [h x (by simp), layAll_strsK fun y hy => h y (by simp [hy])]
    rfl
theorem shaped_strsK {xs : List Str} (h : ∀ x ∈ xs, PyData.strOk x = true) : SeqAt.shaped (.list (xs.map .str)) = true := by
  have h1 := layAll_strsK h
  have h2 := depth_strs xs
  show (PyData.canLayAll0 (xs.map .str) && decide (PyData.depthAll (xs.map .str) + 1 ≤ 64)) = true
  rw [h1, h2]
  rfl
theorem app_emp (x : Str) : x ++ Str.ofString "" = x := by
  obtain ⟨a⟩ := x
  show (⟨a ++ (Str.ofString "").cps⟩ : Str) = ⟨a⟩
  rw [show (Str.ofString "").cps = #[] by decide +kernel, Array.append_empty]
theorem join_foldl : ∀ (ys : List Str) (a : Str), a ++ Txt.join (Str.ofString "") ys = ys.foldl (· ++ ·) a := by
  intro ys
  rw [TL.join_eq]
  induction ys with
  | nil => intro a; exact app_emp a
  | cons x r ih =>
    intro a
    cases r with
    | nil => rfl
    | cons y r =>
      show a ++ (x ++ Str.ofString "" ++ Str.join (Str.ofString "") (y :: r)) = _
      rw [app_emp, ← app_assoc, ih]
      rfl
theorem sum_len {A : Type} (f : A → Nat) (b : Nat) : ∀ xs : List A, (∀ x ∈ xs, f x ≤ b) → (xs.map f).sum ≤ b * xs.length
  | [], _ => by simp
  | x :: r, h => by
    have h1 := h x (by simp)
    have h2 := sum_len f b r fun y hy => h y (by simp [hy])
    simp only [List.map_cons, List.sum_cons, List.length_cons, Nat.mul_succ]
    omega
theorem ix_last {n : Nat} : ixN (n + 1) (-1) = some n := by
  unfold ixN
  simp
  try omega
theorem nd_rev {A : Type} {l : List A} (h : l.Nodup) : l.reverse.Nodup := (List.reverse_perm l).nodup_iff.mpr h
theorem dget_nd : ∀ {fs : List (PyData × PyData)} {e : PyData × PyData}, (keysD fs).Nodup → e ∈ fs → dget fs (strD e.1) = some e.2
  | [], _, _, h => by cases h
  | q :: r, e, hn, h => by
    have hn' : strD q.1 ∉ keysD r ∧ (keysD r).Nodup := List.nodup_cons.mp hn
    rcases List.mem_cons.mp h with rfl | h
    · simp [dget]
    · have hne : ¬ strD q.1 = strD e.1 := fun z => hn'.1 (by rw [z]; exact List.mem_map.mpr ⟨e, h, rfl⟩)
      have := dget_nd hn'.2 h
      unfold dget at this ⊢
      rw [List.find?_cons_of_neg (by simpa using hne)]
      exact this
theorem pd_take {A B : Type} {F : A → B → Prop} {xs : List A} {ys : List B} (h : Paired F xs ys) : ∀ j : Nat, Paired F (xs.take j) (ys.take j) := by
  induction h with
  | nil => intro j; simp only [List.take_nil]; exact .nil
  | cons h1 _ ih => intro j; cases j with
    | zero => exact .nil
    | succ j => exact .cons h1 (ih j)
theorem pd_drop {A B : Type} {F : A → B → Prop} {xs : List A} {ys : List B} (h : Paired F xs ys) : ∀ j : Nat, Paired F (xs.drop j) (ys.drop j) := by
  induction h with
  | nil => intro j; simp only [List.drop_nil]; exact .nil
  | cons h1 h2 ih => intro j; cases j with
    | zero => exact .cons h1 h2
    | succ j => exact ih j
theorem cut_take (xs : List V) (j : Nat) (h : j ≤ xs.length) : cutV xs none (some (j : Int)) = xs.take j := by
  unfold cutV
  rw [HT.sIx_none, HT.sIx_nat]
  simp [Nat.min_eq_left h]
theorem cut_drop (xs : List V) (j : Nat) (h : j ≤ xs.length) : cutV xs (some (j : Int)) none = xs.drop j := by
  unfold cutV
  rw [HT.sIx_none, HT.sIx_nat, Nat.min_eq_left h]
  exact List.take_of_length_le (by simp)
theorem cntAll_split : ∀ {ds : List PyData} {j : Nat} {d : PyData}, ds[j]? = some d → cntAll ds = cntAll (ds.take j) + cnt d + cntAll (ds.drop (j + 1))
  | [], _, _, h => by simp at h
  | e :: r, 0, d, h => by
    simp at h; subst h
    simp [cntAll]
  | e :: r, j + 1, d, h => by
    have := cntAll_split (ds := r) (j := j) (d := d) (by simpa using h)
    simp only [List.take_succ_cons, List.drop_succ_cons, cntAll]
    omega
/-! ### bools -/
theorem Dp_bls {K : PySem.W.Frag} {H : Hp} {a : Addr} {xs : List Bool} (h : H a = some (.lst (xs.map V.bl))) : Dp K H (.ref a) (.list (xs.map .bool)) := by
  refine .lst (SqL.of h) ?_
  have : ∀ l : List Bool, DpAll K H (l.map V.bl) (l.map PyData.bool) := by
    intro l
    induction l with
    | nil => exact .nil
    | cons y q ih2 => exact .cons (.bl y) ih2
  exact this _
theorem Rp_bls {H : Hp} {a : Addr} {xs : List Bool} (h : H a = some (.lst (xs.map V.bl))) (hl : xs.length ≤ 10000) : Rp H 2 (.ref a) (.list (xs.map .bool)) := by
  refine ⟨a, _, rfl, h, by simpa using hl, ?_⟩
  clear h
  induction xs with
  | nil => exact .nil
  | cons x r ih => exact .cons rfl (ih (by simp at hl; omega))
theorem doc_bls (xs : List Bool) (hl : xs.length ≤ 10) : docD 2 (.list (xs.map .bool)) := ⟨by simpa using hl, fun d hd => by
  obtain ⟨b, _, rfl⟩ := List.mem_map.mp hd
  trivial⟩
theorem cnt_bls : ∀ xs : List Bool, cntAll (xs.map .bool) = xs.length
  | [] => rfl
  | x :: r => by simp only [List.map_cons, cntAll, cnt, List.length_cons]; rw [cnt_bls r]; omega
/-- repr of a list of bools -/
theorem repr_bls {H : Hp} {a : Addr} {xs : List Bool} {Q : VK} (h : H a = some (.lst (xs.map V.bl))) (hl : xs.length ≤ 10) (q : Q (.str (PyData.shown (.list (xs.map .bool)))) H) : rRepr [.ref a] H Q :=
  repr1 (Rp_bls h (by omega)) (by omega) (doc_bls xs hl).fine (by simp only [cnt]; rw [cnt_bls]; omega) q
theorem sameN_up : ∀ {n m : Nat} {d e : PyData}, docD n d → docD m e → n ≤ m → ∀ k, sameN (n + k) d e = sameN n d e
  | 0, _, _, _, h, _, _, _ => h.elim
  | n + 1, m + 1, .list ds, .list es, h, g, hl, k => by
    rw [show n + 1 + k = (n + k) + 1 by omega]
    simp only [sameN]
    congr 2
    apply List.ext_getElem?
    intro i
    rw [List.getElem?_zipWith, List.getElem?_zipWith]
    cases h1 : ds[i]? <;> cases h2 : es[i]? <;> simp
    exact sameN_up (h.2 _ (List.mem_of_getElem? h1)) (g.2 _ (List.mem_of_getElem? h2)) (by omega) k
  | n + 1, m + 1, .dict ds, .dict es, h, g, hl, k => by
    rw [show n + 1 + k = (n + k) + 1 by omega]
    simp only [sameN]
    congr 2
    apply List.map_congr_left
    intro e he
    cases h2 : dget es (strD e.1) with
    | none => rfl
    | some d2 =>
      obtain ⟨e2, he2, rfl, _⟩ := dget_mem h2
      exact sameN_up (h.2 e he).2 (g.2 e2 he2).2 (by omega) k
  | n + 1, 0, _, _, _, _, hl, _ => by omega
  | n + 1, m + 1, .none, e, _, _, _, k => by rw [show n + 1 + k = (n + k) + 1 by omega]; cases e <;> rfl
  | n + 1, m + 1, .bool _, e, _, _, _, k => by rw [show n + 1 + k = (n + k) + 1 by omega]; cases e <;> rfl
  | n + 1, m + 1, .int _, e, _, _, _, k => by rw [show n + 1 + k = (n + k) + 1 by omega]; cases e <;> rfl
  | n + 1, m + 1, .str _, e, _, _, _, k => by rw [show n + 1 + k = (n + k) + 1 by omega]; cases e <;> rfl
  | n + 1, m + 1, .tuple _, _, h, _, _, _ => h.elim
  | n + 1, m + 1, .list _, .none, _, _, _, k => by rw [show n + 1 + k = (n + k) + 1 by omega]; rfl
  | n + 1, m + 1, .list _, .bool _, _, _, _, k => by rw [show n + 1 + k = (n + k) + 1 by omega]; rfl
  | n + 1, m + 1, .list _, .int _, _, _, _, k => by rw [show n + 1 + k = (n + k) + 1 by omega]; rfl
  | n + 1, m + 1, .list _, .str _, _, _, _, k => by rw [show n + 1 + k = (n + k) + 1 by omega]; rfl
  | n + 1, m + 1, .list _, .tuple _, _, _, _, k => by rw [show n + 1 + k = (n + k) + 1 by omega]; rfl
  | n + 1, m + 1, .list _, .dict _, _, _, _, k => by rw [show n + 1 + k = (n + k) + 1 by omega]; rfl
  | n + 1, m + 1, .dict _, .none, _, _, _, k => by rw [show n + 1 + k = (n + k) + 1 by omega]; rfl
  | n + 1, m + 1, .dict _, .bool _, _, _, _, k => by rw [show n + 1 + k = (n + k) + 1 by omega]; rfl
  | n + 1, m + 1, .dict _, .int _, _, _, _, k => by rw [show n + 1 + k = (n + k) + 1 by omega]; rfl
  | n + 1, m + 1, .dict _, .str _, _, _, _, k => by rw [show n + 1 + k = (n + k) + 1 by omega]; rfl
  | n + 1, m + 1, .dict _, .tuple _, _, _, _, k => by rw [show n + 1 + k = (n + k) + 1 by omega]; rfl
  | n + 1, m + 1, .dict _, .list _, _, _, _, k => by rw [show n + 1 + k = (n + k) + 1 by omega]; rfl
end SC

set_option Elab.async false
set_option linter.all false
set_option maxRecDepth 100000
set_option maxHeartbeats 4000000
/-! Schemacheck: for i, k in enumerate(d), d a dict. -/
namespace SC
open PySem L2 PySem.Spec PyProof.Rows
open Sem (wp)
section
variable {prog : Program} {w : World} {A : Around} {E : Value → Shared → Prop} {s : Shared}
theorem nextOf_key_item {it d : Addr} {i n ep : Nat} {od : Obj} {es : Array DictEntry} {en : DictEntry} {Q : Value → Shared → Prop} (hit : s.heap.IsKeyIter it d i n ep) (hod : s.heap.get? d = some od) (hdd : od.data = .dict es ep)
    (hsz : es.size = n) (hx : es[i]? = some en) (hQ : ∀ h', h'.IsKeyIter it d (i + 1) n ep → Heap.SameBut it s.heap h' → Q en.key { s with heap := h' }) : wpAny (model prog w) A (Builtin.SmallTypes.nextOf (.ref it)) Q E s := by
  obtain ⟨o, ho, hc, hd⟩ := id hit
  unfold Builtin.SmallTypes.nextOf
  refine wpAny_bind (wpAny_callSpecial?_slot (name := Str.ofString "__next__") hit.typeIs F.slot_dict_keyiterator_next
    (wpAny_call_entry F.slot_dict_keyiterator_next hit.typeIs F.entry_dict_keyiterator_next ?_ (F.args_dict_keyiterator_next_1 _)))
  refine wpAny_bind (wpAny_pure ?_)
  refine wpAny_bind ?_
  refine wpAny_bind ?_
  first | refine wpAny_bind (wpAny_typeNameOfWhole_keyiter hit.typeIs (wpAny_pure ?_)) | refine wpAny_bind (wpAny_typeNameOf_keyiter hit.typeIs (wpAny_pure ?_))
  refine wpAny_bind (wpAny_fieldsOf ho hd ?_)
  have hown : Builtin.Dict_items.ownsTuple "dict_keyiterator" = false := by decide
  simp only [hown, Bool.false_eq_true, if_false]
  show wpAny _ _ (if (Value.ref d == Value.none) = true then _ else _) _ _ s
  rw [if_neg (show ¬ ((Value.ref d == Value.none) = true) from Bool.false_ne_true)]
  refine wpAny_bind (wpAny_pure ?_)
  refine wpAny_bind (wpAny_dictEntries hod hdd ?_)
  rw [if_neg (by rw [hsz]; simp)]
  refine wpAny_bind (wpAny_pure ?_)
  refine wpAny_bind (wpAny_dictEpoch hod hdd ?_)
  rw [if_neg (by simp)]
  refine wpAny_pure ?_
  obtain ⟨hlt', hen⟩ := Array.getElem?_eq_some_iff.mp hx
  simp only [show ¬ ((i : Int) < 0) from by omega, if_false, Int.toNat_natCast, Array.getElem?_eq_getElem hlt']
  refine wpAny_bind ?_
  first | refine wpAny_bind (wpAny_typeNameOfWhole_keyiter hit.typeIs (wpAny_pure ?_)) | refine wpAny_bind (wpAny_typeNameOf_keyiter hit.typeIs (wpAny_pure ?_))
  refine wpAny_bind (wpAny_isOneOf_keyiter hit.typeIs ?_)
  show wpAny _ _ (setField (.ref it) 1 (rawInt ((i : Int) + 1)) >>= _) _ _ s
  refine wpAny_bind (wpAny_setField ho hd (by simp) ?_)
  have hit' : (s.heap.update it (Obj.mapFields (·.setIfInBounds 1 (rawInt ((i : Int) + 1))))).IsKeyIter it d (i + 1) n ep :=
    ⟨_, Heap.get?_update_self _ ho (Obj.isFreed_of_fields (Obj.data_mapFields hd _)), (Obj.cls_mapFields ..).trans hc, by rw [Obj.data_mapFields hd]; simp [rawInt]⟩
  refine wpAny_bind (wpAny_holding ?_)
  refine wpAny_bind (wpAny_isOneOf_keyiter (s := { s with heap := s.heap.update it (Obj.mapFields (·.setIfInBounds 1 (rawInt ((i : Int) + 1)))) }) hit'.typeIs ?_)
  show wpAny _ _ (pure es[i].key) _ _ _
  rw [hen]
  exact wpAny_pure (wpAny_pure ⟨_, rfl, wpAny_pure (hQ _ hit' (Heap.SameBut.update ..))⟩)
theorem nextOf_key_end {it d : Addr} {i n ep : Nat} {od : Obj} {es : Array DictEntry} {Q : Value → Shared → Prop} (hh : A.handled = none) (hit : s.heap.IsKeyIter it d i n ep) (hod : s.heap.get? d = some od) (hdd : od.data = .dict es ep)
    (hsz : es.size = n) (hge : n ≤ i) (hE : ∀ h' e, Heap.ExtBut it s.heap h' → (∃ o, h'.get? e = some o ∧ o.cls = .type "StopIteration") → E (.ref e) { s with heap := h' }) : wpAny (model prog w) A (Builtin.SmallTypes.nextOf (.ref it)) Q E s := by
  obtain ⟨o, ho, hc, hd⟩ := id hit
  unfold Builtin.SmallTypes.nextOf
  refine wpAny_bind (wpAny_callSpecial?_slot (name := Str.ofString "__next__") hit.typeIs F.slot_dict_keyiterator_next
    (wpAny_call_entry F.slot_dict_keyiterator_next hit.typeIs F.entry_dict_keyiterator_next ?_ (F.args_dict_keyiterator_next_1 _)))
  refine wpAny_bind (wpAny_pure ?_)
  refine wpAny_bind ?_
  refine wpAny_bind ?_
  first | refine wpAny_bind (wpAny_typeNameOfWhole_keyiter hit.typeIs (wpAny_pure ?_)) | refine wpAny_bind (wpAny_typeNameOf_keyiter hit.typeIs (wpAny_pure ?_))
  refine wpAny_bind (wpAny_fieldsOf ho hd ?_)
  have hown : Builtin.Dict_items.ownsTuple "dict_keyiterator" = false := by decide
  simp only [hown, Bool.false_eq_true, if_false]
  show wpAny _ _ (if (Value.ref d == Value.none) = true then _ else _) _ _ s
  rw [if_neg (show ¬ ((Value.ref d == Value.none) = true) from Bool.false_ne_true)]
  refine wpAny_bind (wpAny_pure ?_)
  refine wpAny_bind (wpAny_dictEntries hod hdd ?_)
  rw [if_neg (by rw [hsz]; simp)]
  refine wpAny_bind (wpAny_pure ?_)
  refine wpAny_bind (wpAny_dictEpoch hod hdd ?_)
  rw [if_neg (by simp)]
  refine wpAny_pure ?_
  have hge' : es.size ≤ i := by rw [hsz]; exact hge
  simp only [show ¬ ((i : Int) < 0) from by omega, if_false, Int.toNat_natCast, Array.getElem?_eq_none hge']
  refine wpAny_bind ?_
  first | refine wpAny_bind (wpAny_typeNameOfWhole_keyiter hit.typeIs (wpAny_pure ?_)) | refine wpAny_bind (wpAny_typeNameOf_keyiter hit.typeIs (wpAny_pure ?_))
  show wpAny _ _ (setField (.ref it) 0 .none >>= _) _ _ s
  refine wpAny_bind (wpAny_setField ho hd (by simp) ?_)
  show wpAny _ _ (newExc (.type "StopIteration") [] >>= _) _ _ _
  refine wpAny_bind ?_
  simp only [newExc, newTuple]
  refine wpAny_bind (wpAny_newObj_type ?_ (by size_fits))
  refine wpAny_bind (m := firstArgMember _ _) (wpAny_of_eq (a := Value.none) (by first | rfl | (simp only [firstArgMember]; rfl)) ?_)
  refine wpAny_newObj_type ?_ (by size_fits)
  simp only [raiseNew]
  refine wpAny_bind (wpAny_handled ?_)
  first | rw [show A.in1.handled = none from hh] | rw [hh]
  refine wpAny_bind (wpAny_pure (wpAny_throw ?_))
  exact hE _ _ (((Heap.SameBut.update ..).extBut.push _).push _) ⟨_, Heap.get?_push_size _ rfl, rfl⟩
end
/-- what a dict's key iterator draws -/
theorem draws_keys {prog : Program} {w : World} {A : Around} (hh : A.handled = none) (it d : Addr) (hne : d ≠ it) (o : Obj) (es : Array DictEntry) (ep : Nat) (hdt : o.data = .dict es ep) :
    Draws prog w A it [it, d] es.size (fun i v => ∃ en, es[i]? = some en ∧ en.key = v) (fun i h => h.IsKeyIter it d i es.size ep ∧ h.get? d = some o) where
  live := fun _ _ st => let ⟨o, ho, _⟩ := st.1; ⟨o, ho⟩
  frame := fun _ _ _ st hk => ⟨st.1.at fun o e => hk it (by simp) o e, hk d (by simp) o st.2⟩
  item := fun i s Q E hi st hQ => by
    refine nextOf_key_item (en := es[i]) st.1 st.2 hdt rfl (by simp [hi]) fun h' hit' hs' => ?_
    exact hQ _ h' s.toks ⟨_, by simp [hi], rfl⟩ ⟨hit', hs'.extBut _ _ hne st.2⟩ hs'
  done := fun s Q E st hE => nextOf_key_end hh st.1 st.2 hdt rfl (Nat.le_refl _) hE
theorem begins_keys (d : Addr) (o : Obj) (es : Array DictEntry) (ep : Nat) (hd : (d == sysModules) = false) (hx : o.ExactDict) (hdt : o.data = .dict es ep) :
    Begins (.ref d) { cls := .type "dict_keyiterator", data := .fields #[.ref d, .int 0 0, .int es.size 0, .int ep 0] } fun h => h.get? d = some o where
  iter := fun prog w A E s Q hl h => iter_keys hd hl hx hdt h
  keeps := fun h h' x hk => hk d o x
  free := rfl
set_option maxHeartbeats 1000000 in
theorem meets_enumerate_new1 {v : Value} {o : Obj} {H : Heap → Prop} (B : Begins v o H) :
    Meets (Builtin.«enumerate.__new__» ⟨[.type "enumerate", v], []⟩) (fun _ R s => H s.heap ∧
      R (.ok (.ret (.ref (s.heap.push o).objs.size))) { s with heap := (s.heap.push o).push { cls := .type "enumerate", data := .fields #[.none, .bool false, .ref s.heap.objs.size, rawInt 0, .none, .none] } }) :=
  .of_wp fun prog w A R s h => by
    obtain ⟨hp, g, d, tk, os⟩ := s; obtain ⟨h1, h⟩ := h
    have hsub := sub_enumerate
    have q1 : ∀ {A' : Around} {E : Value → Shared → Prop} {Q : Value → Shared → Prop}, Q (.ref hp.objs.size) ⟨hp.push o, g, d, tk, os⟩ → wpAny (model prog w) A' (pyIter v) Q E ⟨hp, g, d, tk, os⟩ :=
      fun q => B.iter prog w _ _ ⟨hp, g, d, tk, os⟩ _ h1 q
    wp_walk using q1
    refine wpAny_stack_any fun st => wpAny_pure ?_
    split
    · rename_i c _ _ _ _ _
      cases (c == Value.type "enumerate")
      · wp_walk using q1
        exact ⟨_, rfl, h⟩
      · wp_walk using q1
        exact ⟨_, rfl, h⟩
    · wp_walk using q1
      exact ⟨_, rfl, h⟩
section
variable {prog : Program} {w : World} {A : Around} {E : Value → Shared → Prop} {s : Shared}
theorem enum_begins1 {v : Value} {o : Obj} {H : Heap → Prop} {Q : Value → Shared → Prop} (B : Begins v o H) (h1 : H s.heap)
    (h : ∀ h', IsEnum h' (s.heap.objs.size + 1) s.heap.objs.size 0 .none → h'.get? s.heap.objs.size = some o → h'.objs.size = s.heap.objs.size + 2 →
      (∀ b o, s.heap.get? b = some o → h'.get? b = some o) → Q (.ref (s.heap.objs.size + 1)) { s with heap := h' }) :
    wpAny (model prog w) A (call (.type "enumerate") [v]) Q E s := by
  refine callType_new F.called_enumerate (by decide) (F.typeCall_enumerate_1 _) (F.newCall_enumerate_1 _) (fun obj => F.args_object_init_2 obj _) F.entry_enumerate_new
    (meets_enumerate_new1 B) ⟨h1, ?_⟩
  have hz : (s.heap.push o).objs.size = s.heap.objs.size + 1 := Heap.size_push ..
  show _ ∧ _
  rw [hz]
  have he : IsEnum ((s.heap.push o).push { cls := .type "enumerate", data := .fields #[.none, .bool false, .ref s.heap.objs.size, rawInt 0, .none, .none] }) (s.heap.objs.size + 1) s.heap.objs.size 0 .none := by
    have := Heap.get?_push_size (s.heap.push o) (o := { cls := .type "enumerate", data := .fields #[.none, .bool false, .ref s.heap.objs.size, rawInt 0, .none, .none] }) rfl
    rw [hz] at this; exact this
  refine ⟨⟨_, he, rfl⟩, h _ he (Heap.get?_push_of_some _ (Heap.get?_push_size _ B.free)) (by rw [Heap.size_push, hz]) fun b o x => Heap.get?_push_of_some _ (Heap.get?_push_of_some _ x)⟩
end
theorem next_enumK_end {prog : Program} {w : World} {A : Around} {E : Value → Shared → Prop} {s : Shared} {e it d : Addr} {i n ep : Nat} {c : Int} {old : Value} {od : Obj} {es : Array DictEntry} {Q : Option Value → Shared → Prop} (hh : A.in1.handled = none)
    (he : IsEnum s.heap e it c old) (hit : s.heap.IsKeyIter it d i n ep) (hod : s.heap.get? d = some od) (hdd : od.data = .dict es ep) (hsz : es.size = n) (hge : n ≤ i)
    (hQ : ∀ h', Heap.ExtBut it s.heap h' → Q none { s with heap := h' }) : wpAny (model prog w) A (pyNext (.ref e)) Q E s := by
  have hT : s.TypeIs (.ref e) "enumerate" := ⟨_, he, rfl⟩
  unfold pyNext
  refine wpAny_bind (wpAny_attempt (wpAny_callSpecial?_slot (name := Str.ofString "__next__") hT F.slot_enumerate_next
    (wpAny_call_entry F.slot_enumerate_next hT F.entry_enumerate_next ?_ (F.args_enumerate_next_1 _))))
  show wpAny _ _ (field (.ref e) 2 >>= _) _ _ _
  refine wpAny_bind (wpAny_field he rfl (x := .ref it) rfl ?_)
  refine wpAny_bind (nextOf_key_end hh hit hod hdd hsz hge fun h' x he' hx' => ?_)
  obtain ⟨o, ho, hc⟩ := hx'
  refine wpAny_bind (wpAny_isInstance (T := "StopIteration") (b := true) ⟨o, ho, hc⟩ isSubtype_stop ?_)
  exact wpAny_pure (hQ _ he')
/-- the keys of the locked dict at d, each in a new pair -/
def Itke (d : Addr) (o : Obj) (kvs : List (Key × V)) : It :=
  ⟨fun i H => H d = some (.frz o (.dK kvs)) ∧ i < kvs.length, fun i H v H' => ∃ T k x, kvs[i]? = some (k, x) ∧ v = .ref T ∧ H T = none ∧ H' = upd H T (.tup [.int (i : Nat), kV k]), fun i H => H d = some (.frz o (.dK kvs)) ∧ kvs.length ≤ i⟩
theorem turn_enumK {P : Program} {w : World} {K : PySem.W.Frag} {elts : List Expr} {kk : Nat} {tpos : Pos} {d : Addr} {o : Obj} {es : Array DictEntry} {ep : Nat} {kvs : List (Key × V)} (e it : Addr) (hod : o.data = .dict es ep) (hsz : es.size = kvs.length) (hde : d ≠ e) (hdi : d ≠ it) :
    Turn P w K (.Tuple elts kk tpos) (Itke d o kvs) [e, it] e (fun i h => (∃ old, IsEnum h e it ((i : Nat) : Int) old) ∧ h.IsKeyIter it d i es.size ep ∧ e ≠ it) where
  mem := by simp
  obj := fun i h st b hb => by
    obtain ⟨⟨old, he⟩, ⟨o, ho, hc, hd⟩, _⟩ := st
    have e' : b = e ∨ b = it := by simpa using hb
    rcases e' with z | z
    · rw [z]; exact ⟨_, he, fun v q => nomatch q⟩
    · rw [z]; exact ⟨o, ho, fun v q => by rw [hd] at q; cases q⟩
  keep := fun i h h' st k => let ⟨⟨old, he⟩, hi, hne⟩ := st; ⟨⟨old, k e (by simp) _ he⟩, hi.at fun o q => k it (by simp) o q, hne⟩
  item := by
    intro X hP hw hK hc i pins s σ H E I hf st hg
    subst hP hw hK
    obtain ⟨⟨old, he⟩, hit, hne⟩ := st
    obtain ⟨hd, hi⟩ := hg
    obtain ⟨hs, hgd, hx, es', ep', vs, hdt, hsz', kv, hm⟩ := I.frzK hd
    obtain ⟨rfl, rfl⟩ := dict_ep hod hdt
    obtain ⟨⟨k, v⟩, hkv⟩ : ∃ p, kvs[i]? = some p := ⟨kvs[i], List.getElem?_eq_getElem hi⟩
    obtain ⟨u, hu, ru⟩ := kv_get kv hkv
    obtain ⟨od, es2, hod2, hcd, hdd, hk2, hp2, hn2⟩ := id hm
    have e3 : od = o := by rw [hgd] at hod2; exact (Option.some.inj hod2).symm
    subst e3
    obtain ⟨rfl, _⟩ := dict_ep hdt hdd
    have hel : e < s.heap.objs.size := Heap.lt_size he
    have hil : it < s.heap.objs.size := by obtain ⟨_, q, _⟩ := hit; exact Heap.lt_size q
    have hh : X.A.in1.handled = none := I.ok.hd hc
    refine wpAny_pyNext_enum_itemD (draws_keys hh it d hdi od es2 ep' hdt) he ⟨hit, hgd⟩ (by omega) hne (by simp [hne, hde.symm]) fun x h' tk ⟨en, hen, hkx⟩ ho st' hT hsz2 hk => ?_
    refine ⟨_, rfl, wpAny_letOwnedTupleGo_enum (s := { s with heap := h', toks := tk + 1 }) ho fun h'' he' sb => ?_⟩
    have hkey : keyIs k x = true := by rw [← hkx]; exact (hp2.get? (e := en) (by simpa using hen) hu).1
    have hT2 : h''.get? s.heap.objs.size = some { cls := .type "tuple", data := .seq #[.int i tk, x] } := (sb.2 _ (Nat.ne_of_gt hel)).trans hT
    have new : ObjOk X.prog X.w (upd H s.heap.objs.size (.tup [.int (i : Nat), kV k])) h'' s.heap.objs.size (.tup [.int (i : Nat), kV k]) :=
      ⟨by show 2 ≤ sizeLine; decide, [.int i tk, x], .cons ⟨_, rfl⟩ (.cons (relV_key hkey) .nil), ⟨_, hT2, rfl, _, rfl⟩⟩
    have I1 : Inv X pins σ (upd H s.heap.objs.size (.tup [.int (i : Nat), kV k])) { s with heap := h'', toks := tk + 1 } :=
      I.turnedNew (ch := [e, it]) (fun b ob hb q => (sb.2 b (fun z => hb (by simp [z]))).trans (hk b ob (fun z => hb (by simp [z])) (fun z => hb (by simp [z])) q)) hf (Nat.le_refl _) new
    refine ⟨.ref s.heap.objs.size, _, I1, rfl, ⟨_, k, v, hkv, rfl, I.hok.fresh (Nat.le_refl _), rfl⟩, ⟨⟨x, ?_⟩, st'.1.at fun o q => (sb.2 it (Ne.symm hne)).trans q, hne⟩, fun b hb => ?_⟩
    · have e1 : ((i + 1 : Nat) : Int) = (i : Int) + 1 := by omega
      rw [e1]; exact he'
    · have hb' : b < s.heap.objs.size := by
        have e' : b = e ∨ b = it := by simpa using hb
        rcases e' with z | z
        · rw [z]; exact hel
        · rw [z]; exact hil
      rw [upd_ne (Nat.ne_of_lt hb')]
      exact (hf b hb).1
  done := by
    intro X hP hw hK hc i pins s σ H E I hf st hg
    subst hP hw hK
    obtain ⟨⟨old, he⟩, hit, hne⟩ := st
    obtain ⟨hd, hi⟩ := hg
    obtain ⟨hs, hgd, hx, es', ep', vs, hdt, hsz', kv, hm⟩ := I.frzK hd
    obtain ⟨rfl, rfl⟩ := dict_ep hod hdt
    obtain ⟨f0, f1, f2, f3, f4, f5⟩ := hf it (by simp)
    have hh : X.A.in1.handled = none := I.ok.hd hc
    exact next_enumK_end hh he hit hgd hdt rfl (by omega) fun h' eb => ⟨rfl, I.turned (t' := s.toks) (fun b o hb q => eb b o hb q) f0 f1 f3 f4 f5⟩
  self := fun A i s Q E st h => let ⟨⟨_, he⟩, _⟩ := st; wpAny_pyIter_enum he h
def iEnumK (ta : TA) : TI := fun σ H R => ta σ H fun vs H1 => ∃ d o kvs, vs = [.ref d] ∧ H1 d = some (.frz o (.dK kvs)) ∧ R (Itke d o kvs) H1
theorem pi_enumK {X : Cx} {e : Expr} {ta : TA} {p pos tpos : Pos} {elts : List Expr} {kk : Nat} (hg : Gl X "enumerate") (hm : X.mg "enumerate" = none) (ha : PA X [e] ta) (hs : starEach [e] X.env = [(false, eval e X.env)] := by rfl) :
    PI X (.Tuple elts kk tpos) (.Call (.Name "enumerate" p) [e] [] pos) (iEnumK ta) := by
  refine ⟨fun pins s σ H R I h => ?_⟩
  refine Call_ (ld_blt I hg hm boot_enumerate (PyProof.Rows.callWith_type1 (thn (ha.run pos pins s σ H _ I h) fun us s1 ⟨vs, H1, I1, r1, q1⟩ => ?_) hs rfl))
  obtain ⟨d, o, kvs, ex, hd, q⟩ := q1
  subst ex
  cases r1 with
  | cons r rr =>
    cases rr
    cases r
    obtain ⟨hs', hgd, hx, es, ep, vs, hdt, hsz, kv, hm'⟩ := I1.frzK hd
    refine enum_begins1 (begins_keys d o es ep hs' hx hdt) hgd fun h' he hit hsz2 hk => wpAny_pyIter_enum he ?_
    have I2 : Inv X pins σ H1 { s1 with heap := h' } := I1.kept (t' := s1.toks) hk
    have hdl : d < s1.heap.objs.size := Heap.lt_size hgd
    refine ⟨s1.heap.objs.size + 1, [s1.heap.objs.size + 1, s1.heap.objs.size], _, _, H1, rfl, I2, turn_enumK (s1.heap.objs.size + 1) s1.heap.objs.size hdt hsz (Nat.ne_of_lt (Nat.lt_succ_of_lt hdl)) (Nat.ne_of_lt hdl), ⟨⟨.none, he⟩, ⟨_, hit, rfl, rfl⟩, Nat.succ_ne_self _⟩, fun b hb => ?_, q⟩
    have e' : b = s1.heap.objs.size + 1 ∨ b = s1.heap.objs.size := by simpa using hb
    have hle : s1.heap.objs.size ≤ b := by
      rcases e' with z | z
      · rw [z]; exact Nat.le_add_right _ _
      · rw [z]; exact Nat.le_refl _
    exact I1.fpOk hle (I1.hok.fresh hle)
theorem walk_enumK {d : Addr} {o : Obj} {kvs : List (Key × V)} : Walk (Itke d o kvs) kvs.length (fun H => H d = some (.frz o (.dK kvs))) (YPair (fun i => some (.int (i : Nat))) (fun i => kvs[i]?.map fun kv => kV kv.1)) := by
  refine ⟨fun _ _ hi q => ⟨q, hi⟩, fun _ q => ⟨q, Nat.le_refl _⟩, fun i H x H' _ _ y => ?_⟩
  obtain ⟨T, k, v, h1, h2, h3, h4⟩ := y
  exact ⟨T, .int (i : Nat), kV k, h2, h3, h4, rfl, by simp [h1]⟩
end SC

set_option Elab.async false
set_option linter.all false
set_option maxRecDepth 100000
set_option maxHeartbeats 4000000
/-! Schemacheck: list(enumerate(xs)). -/
namespace SC
open PySem L2 PySem.Spec PyProof.Rows
open Sem (wp)
theorem enum_no_len : typeLookup (.type "enumerate") "__len__" = pure none := by rw [typeLookup_type, builtinLookup_eq_fast]; kernel_rfl
theorem enum_no_hint : typeLookup (.type "enumerate") "__length_hint__" = pure none := by rw [typeLookup_type, builtinLookup_eq_fast]; kernel_rfl
/-- an enumerate at its i-th turn, whose pairs are kept -/
structure EnSt (e it l S : Addr) (i : Nat) (h : Heap) : Prop where
  li : h.IsListIter it l i
  ne : e ≠ it
  st : (∃ old, IsEnum h e it ((i : Nat) : Int) old) ∨ ∃ old T f oT, IsEnumHeld h e it ((i : Nat) : Int) old T f ∧ h.get? T = some oT ∧ T ≠ e ∧ T ≠ it ∧ T ≠ S
/-- the pairs so far -/
def EnRows (H1 H : Hp) (S : Addr) (xs : List V) (ts : List Addr) : Prop := Keep [S] H1 H ∧ H S = some (.lst (ts.map V.ref)) ∧ ∀ (j : Nat) (T : Addr), ts[j]? = some T → ∃ x, xs[j]? = some x ∧ H T = some (.tup [.int (j : Nat), x]) ∧ H1 T = none
theorem sql_ne {K : PySem.W.Frag} {H : Hp} {l S : Addr} {o : HO} {xs : List V} (h : SqL K H l xs) (hn : l ≠ S) : SqL K (upd H S o) l xs := by
  rcases h with (h | ⟨u, h⟩) | h
  · exact .inl (.inl (by rw [upd_ne hn]; exact h))
  · exact .inl (.inr ⟨u, by rw [upd_ne hn]; exact h⟩)
  · exact .inr h
theorem sql_new {K : PySem.W.Frag} {H : Hp} {l S : Addr} {o : HO} {xs : List V} (h : SqL K H l xs) (hn : H S = none) : SqL K (upd H S o) l xs := (same_new hn o).seq h
theorem lst_there {X : Cx} {pins : List (Addr × Obj)} {σ : L2.St} {H : Hp} {s : Shared} {S : Addr} {xs : List V} (I : Inv X pins σ H s) (h : H S = some (.lst xs)) : s.heap.get? S = some (lstObj ((I.hok S _ h).2.choose).toArray ((I.hok S _ h).2.choose_spec.choose)) := (I.hok S _ h).2.choose_spec.choose_spec.2
section
variable {X : Cx} {pins : List (Addr × Obj)} {σ : L2.St} {A : Around} {R : Result → Shared → Prop} {res : Value} {e it l S : Addr} {xs : List V} {H1 : Hp}
theorem enum_loop (hh : A.in1.handled = none) (hel : l ≠ e) (hil : l ≠ it) (hSe : S ≠ e) (hSi : S ≠ it) (hlS : l ≠ S) (hsz : xs.length < sizeLine) (hl1 : SqL X.K H1 l xs) (hS1 : H1 S = some (.lst []))
    (hend : ∀ s' H' ts, Inv X pins σ H' s' → EnRows H1 H' S xs ts → ts.length = xs.length → R (.ok (.ret res)) s') :
    ∀ (k i : Nat) (s : Shared) (H : Hp) (ts : List Addr), xs.length - i = k → i ≤ xs.length → Inv X pins σ H s → EnRows H1 H S xs ts → ts.length = i → SqL X.K H l xs → EnSt e it l S i s.heap → (∀ b ∈ [e, it], FpOk X pins H b) →
      codeAny (model X.prog X.w) A (.builtin "list.extend.loop" ⟨[.ref S, .ref e, res], []⟩) R s := by
  intro k
  induction k with
  | zero =>
    intro i s H ts hk hi I hrow hlen hq st hf
    have hin : i = xs.length := by omega
    refine codeAny_builtin F.entry_extend_loop ?_
    rw [Around.under_plainId F.plain_extend_loop _]
    show wpAny _ A.in1 (pyNext (.ref e) >>= _) _ _ s
    obtain ⟨its, rv, p, hz⟩ := I.list hq
    have hx : its.toArray[i]? = none := by
      have := rv.length
      simp
      omega
    have fin : ∀ h', Heap.ExtBut it s.heap h' → R (.ok (.ret res)) { s with heap := h' } := fun h' eb => by
      obtain ⟨f0, f1, f2, f3, f4, f5⟩ := hf it (by simp)
      exact hend _ H ts (I.turned (t' := s.toks) (fun b o hb q => eb b o hb q) f0 f1 f3 f4 f5) hrow (by omega)
    rcases st.st with ⟨old, he⟩ | ⟨old, T, f, oT, he, hT, r1, r2, r3⟩
    · exact wpAny_bind (wpAny_pyNext_enum_end hh he st.li p.isList hx fun h' eb => wpAny_pure (fin h' eb))
    · exact wpAny_bind (wpAny_pyNext_enum_end_held hh he st.li p.isList hx fun h' eb => wpAny_pure (fin h' eb))
  | succ k ih =>
    intro i s H ts hk hi I hrow hlen hq st hf
    have hlt : i < xs.length := by omega
    refine codeAny_builtin F.entry_extend_loop ?_
    rw [Around.under_plainId F.plain_extend_loop _]
    show wpAny _ A.in1 (pyNext (.ref e) >>= _) _ _ s
    obtain ⟨its, rv, p, hz⟩ := I.list hq
    have hx : xs[i]? = some xs[i] := List.getElem?_eq_getElem hlt
    obtain ⟨u, hu, ru⟩ := rv.get hx
    have hu' : its.toArray[i]? = some u := by simpa using hu
    have hil' : it < s.heap.objs.size := by obtain ⟨_, q, _⟩ := st.li; exact Heap.lt_size q
    -- one turn
    have go : ∀ (h' : Heap) (old : Value) (T : Addr) (f : Bool) (oT : Obj), IsEnumHeld h' e it (((i + 1 : Nat)) : Int) old T f → h'.get? T = some oT → T ≠ e → T ≠ it → T ≠ S → h'.IsListIter it l (i + 1) →
        h'.get? s.heap.objs.size = some { cls := .type "tuple", data := .seq #[.int i s.toks, u] } → (∀ b o, b ≠ e → b ≠ it → s.heap.get? b = some o → h'.get? b = some o) →
        wpAny (model X.prog X.w) A.in1 (updateSeq S (·.push (.ref s.heap.objs.size)) >>= fun _ => again (.builtin "list.extend.loop" ⟨[.ref S, .ref e, res], []⟩))
          (fun fin s' => match fin with | .done f => R (.ok f) s' | .again c' => c'.quiet = true ∧ codeAny (model X.prog X.w) A c' R s') (fun e s' => R (.error e) s') { s with heap := h', toks := s.toks + 1 } := by
      intro h' old T f oT ho hT r1 r2 r3 hit' hT2 hkp
      have hel' : e < s.heap.objs.size := by
        rcases st.st with ⟨_, he⟩ | ⟨_, _, _, _, he, _⟩ <;> exact Heap.lt_size he
      have new : ObjOk X.prog X.w (upd H s.heap.objs.size (.tup [.int (i : Nat), xs[i]])) h' s.heap.objs.size (.tup [.int (i : Nat), xs[i]]) :=
        ⟨by show 2 ≤ sizeLine; decide, [.int i s.toks, u], .cons ⟨_, rfl⟩ (.cons ru .nil), ⟨_, hT2, rfl, _, rfl⟩⟩
      have I1 : Inv X pins σ (upd H s.heap.objs.size (.tup [.int (i : Nat), xs[i]])) { s with heap := h', toks := s.toks + 1 } :=
        I.turnedNew (ch := [e, it]) (fun b ob hb q => hkp b ob (fun z => hb (by simp [z])) (fun z => hb (by simp [z])) q) hf (Nat.le_refl _) new
      have hfr : H s.heap.objs.size = none := I.hok.fresh (Nat.le_refl _)
      have hSz : S ≠ s.heap.objs.size := ne_of_none hrow.2.1 hfr
      have hS2 : upd H s.heap.objs.size (.tup [.int (i : Nat), xs[i]]) S = some (.lst (ts.map V.ref)) := by rw [upd_ne hSz]; exact hrow.2.1
      obtain ⟨hl3, acc, c, r3', hS3⟩ := I1.hok S _ hS2
      have hal : acc.length = i := by rw [← r3'.length, List.length_map, hlen]
      have hlH : SqL X.K (upd H s.heap.objs.size (.tup [.int (i : Nat), xs[i]])) l xs := sql_new hq hfr
      have hupd : ∀ b o, b ≠ S → h'.get? b = some o → (h'.update S (Obj.mapSeq (·.push (.ref s.heap.objs.size)))).get? b = some o := fun b o hb q => (Heap.get?_update_other _ _ (Ne.symm hb)).trans q
      have hself := Heap.get?_update_self (Obj.mapSeq (·.push (Value.ref s.heap.objs.size))) hS3 rfl
      have I2 : Inv X pins σ (upd (upd H s.heap.objs.size (.tup [.int (i : Nat), xs[i]])) S (.lst ((ts ++ [s.heap.objs.size]).map V.ref))) { s with heap := h'.update S (Obj.mapSeq (·.push (.ref s.heap.objs.size))), toks := s.toks + 1 } := by
        have := I1.lset (its' := acc ++ [.ref s.heap.objs.size]) hS2 hS3 (f := (·.push (.ref s.heap.objs.size))) (t' := s.toks + 1) (by simp) (ys := ts.map V.ref ++ [V.ref s.heap.objs.size]) (r3'.append (Paired.cons (show RelV (V.ref s.heap.objs.size) (Value.ref s.heap.objs.size) from rfl) .nil)) (by simp; omega)
        rw [List.map_append]
        exact this
      refine wpAny_bind (wpAny_updateSeq hS3 rfl (wpAny_pure ⟨plainId_quiet F.plain_extend_loop _, ih (i + 1) _ _ (ts ++ [s.heap.objs.size]) (by omega) hlt I2 ⟨(hrow.1.new hfr).mut (by simp), upd_same, ?_⟩ (by simp [hlen]) (sql_ne hlH hlS) ⟨hit'.at fun o q => hupd _ _ hSi.symm q, st.ne, .inr ⟨old, T, f, oT, hupd _ _ hSe.symm ho, hupd _ _ r3 hT, r1, r2, r3⟩⟩ fun b hb => ?_⟩) (by simp; omega) (by simp; omega))
      · intro j T' hj
        by_cases hji : j < ts.length
        · rw [List.getElem?_append_left hji] at hj
          obtain ⟨x, h1, h2, h3⟩ := hrow.2.2 j T' hj
          refine ⟨x, h1, ?_, h3⟩
          rw [upd_ne (ne_of h2 hrow.2.1 (by intro z; cases z)), upd_ne (ne_of_none h2 hfr)]
          exact h2
        · have hj2 : j = i := by
            have := (List.getElem?_eq_some_iff.mp hj).1
            simp at this
            omega
          subst hj2
          rw [← hlen, List.getElem?_append_right (Nat.le_refl _)] at hj
          simp at hj
          subst hj
          exact ⟨xs[j], hx, by rw [upd_ne (Ne.symm hSz), upd_same], hrow.1.free hfr (by simp [Ne.symm hSz])⟩
      · have hb2 : b < s.heap.objs.size ∧ b ≠ S := by
          have e' : b = e ∨ b = it := by simpa using hb
          rcases e' with z | z
          · rw [z]; exact ⟨hel', hSe.symm⟩
          · rw [z]; exact ⟨hil', hSi.symm⟩
        obtain ⟨f0, f1⟩ := hf b hb
        refine ⟨?_, f1⟩
        rw [upd_ne hb2.2, upd_ne (Nat.ne_of_lt hb2.1)]
        exact f0
    rcases st.st with ⟨old, he⟩ | ⟨old, T, f, oT, he, hT, r1, r2, r3⟩
    · refine wpAny_bind (wpAny_pyNext_enum_item he st.li p.isList hu' st.ne fun h' ho hit' hT hs2 hkp => ?_)
      have hel' : e < s.heap.objs.size := Heap.lt_size he
      have hSl : S < s.heap.objs.size := Heap.lt_size (lst_there I hrow.2.1)
      exact go h' _ s.heap.objs.size false _ (by rw [show ((i + 1 : Nat) : Int) = (i : Int) + 1 by omega]; exact ho) hT (Nat.ne_of_gt hel') (Nat.ne_of_gt hil') (Nat.ne_of_gt hSl) hit' hT hkp
    · refine wpAny_bind (wpAny_pyNext_enum_item_held he hT r1 r2 st.li p.isList hu' st.ne fun h' ho hit' hT' hs2 hkp => ?_)
      exact go h' old T true oT (by rw [show ((i + 1 : Nat) : Int) = (i : Int) + 1 by omega]; exact ho) (hkp _ _ r1 r2 hT) r1 r2 r3 hit' hT' hkp
end
/-- list(enumerate(xs)) -/
def tListEn (K : PySem.W.Frag) (te : TE) : TE := fun σ H Q => te σ H fun x H1 => ∃ a xs, x = .ref a ∧ SqL K H1 a xs ∧ xs.length < sizeLine ∧
  ∀ (S : Addr) (ts : List Addr) (H2 : Hp), H1 S = none → Same H1 H2 → H2 S = some (.lst (ts.map V.ref)) → ts.length = xs.length → (∀ (j : Nat) (T : Addr), ts[j]? = some T → ∃ x, xs[j]? = some x ∧ H2 T = some (.tup [.int (j : Nat), x]) ∧ H1 T = none) → Q (.ref S) H2
theorem pe_listEn {X : Cx} {e : Expr} {te : TE} {p p2 pos pos2 : Pos} {K : PySem.W.Frag} (hK : X.K = K) (hc : X.calm = true) (he : PE X e te) (hg1 : Gl X "list") (hm1 : X.mg "list" = none) (hg : Gl X "enumerate") (hm : X.mg "enumerate" = none)
    (hs1 : starEach [.Call (.Name "enumerate" p2) [e] [] pos2] X.env = (false, eval (.Call (.Name "enumerate" p2) [e] [] pos2) X.env) :: starEach [] X.env := by rfl) (hs : starEach [e] X.env = (false, eval e X.env) :: starEach [] X.env := by rfl) :
    PE X (.Call (.Name "list" p) [.Call (.Name "enumerate" p2) [e] [] pos2] [] pos) (tListEn K te) := by
  subst hK
  refine ⟨fun pins s σ H Q I h => ?_⟩
  refine wpAny_Call_Name_kw (ld_blt (u := .type "list") I hg1 hm1 (by decide +kernel) ?_)
  refine PyProof.Rows.callWith_type1 ?_ hs1 rfl
  rw [hs1]
  show wpAny _ _ (spliced ((false, eval (.Call (.Name "enumerate" p2) [e] [] pos2) X.env) :: backTo pos (starEach [] X.env))) _ _ s
  refine Calls.spliced_cons ?_
  refine wpAny_Call_Name_kw (ld_blt I hg hm boot_enumerate ?_)
  refine PyProof.Rows.callWith_type1 ?_ hs rfl
  rw [hs]
  show wpAny _ _ (spliced ((false, eval e X.env) :: backTo pos2 (starEach [] X.env))) _ _ s
  refine Calls.spliced_cons (thn (he.run pins s σ H _ I h) fun u s1 ⟨x, H1, I1, r1, q1⟩ => ?_)
  refine Calls.spliced_nil ?_
  obtain ⟨l, xs, rfl, hq, hz, q⟩ := q1
  cases r1
  obtain ⟨its, rv, p', hz'⟩ := I1.list hq
  refine call_enumerate_list p'.isList fun h2 hen hit hsz hk => ?_
  refine Calls.spliced_nil ?_
  have I2 : Inv X pins σ H1 { s1 with heap := h2 } := I1.kept (t' := s1.toks) hk
  have hll : l < s1.heap.objs.size := by obtain ⟨_, q, _⟩ := p'.isList; exact Heap.lt_size q
  have hh : X.A.handled = none := I1.ok.hd hc
  obtain ⟨z, ez⟩ : ∃ z, z = s1.heap.objs.size := ⟨_, rfl⟩
  rw [← ez] at hen hit hsz hll
  have hS0 : h2.objs.size = z + 2 := hsz
  refine callType_codes (Q₁ := fun obj s₁ => obj = .ref h2.objs.size ∧ s₁ = { s1 with heap := h2.push { cls := .type "list", data := .seq #[] } }) F.called_list (F.typeCall_list_1 _) F.entry_list_init
    (code_list_new _ ⟨rfl, rfl⟩) fun obj s₁ h₁ => ?_
  obtain ⟨rfl, rfl⟩ := h₁
  have hS : (h2.push { cls := .type "list", data := .seq #[] }).get? h2.objs.size = some { cls := .type "list", data := .seq #[] } := Heap.get?_push_size _ rfl
  refine ⟨⟨_, hS, rfl⟩, F.args_list_init_2 _ _, ?_⟩
  rw [← ez]
  show wpAny _ X.A.in1.in1 (do let old ← Builtin.List.listItems (.ref h2.objs.size); Builtin.List.listUpdate (.ref h2.objs.size) (fun _ => #[]); letGo old.toList.reverse; Builtin.List.listExtendWith (.ref h2.objs.size) (.ref (z + 1)) .none) _ _ _
  refine wpAny_bind ?_
  unfold Builtin.List.listItems
  refine wpAny_bind (wpAny_seqItems hS rfl (wpAny_pure ?_))
  show wpAny _ X.A.in1.in1 (updateSeq h2.objs.size (fun _ => #[]) >>= fun _ => letGo (#[] : Array Value).toList.reverse >>= fun _ => Builtin.List.listExtendWith (.ref h2.objs.size) (.ref (z + 1)) .none) _ _ _
  refine wpAny_bind (wpAny_updateSeq hS rfl ?_)
  have hS2 := Heap.get?_update_self (Obj.mapSeq (fun _ => (#[] : Array Value))) hS rfl
  refine wpAny_bind (wpAny_letGo ?_)
  unfold Builtin.List.listExtendWith
  have up : ∀ (h : Heap) (f : Obj → Obj), (∀ b o, h2.get? b = some o → h.get? b = some o) → ∀ b o, h2.get? b = some o → (h.update h2.objs.size f).get? b = some o := fun h f q b o e =>
    (Heap.get?_update_other _ _ (Ne.symm (Nat.ne_of_lt (Heap.lt_size e)))).trans (q b o e)
  have k1 : ∀ b o, h2.get? b = some o → (h2.push { cls := .type "list", data := .seq #[] }).get? b = some o := fun b o e => Heap.get?_push_of_some _ e
  have k2 := up _ (Obj.mapSeq (fun _ => (#[] : Array Value))) k1
  have ty : ∀ {h : Heap} {tk : Nat}, (∀ b o, h2.get? b = some o → h.get? b = some o) → ({ s1 with heap := h, toks := tk } : Shared).TypeIs (.ref (z + 1)) "enumerate" := fun {h tk} q => ⟨_, q _ _ hen, rfl⟩
  have hSa : h2.objs.size ≠ z + 1 := by rw [hS0]; exact Nat.succ_ne_self _
  refine wpAny_bind (wpAny_typeOf (ty k2) ?_)
  have h1 : Builtin.List.listSameRef (.ref h2.objs.size) (.ref (z + 1)) = false := by simp [Builtin.List.listSameRef, hSa]
  have h2' : (Value.type "enumerate" == Value.type "list") = false := by decide
  have h3 : (Value.type "enumerate" == Value.type "tuple") = false := by decide
  simp only [h1, h2', h3, Bool.or_false, Bool.false_eq_true, if_false]
  refine wpAny_bind (wpAny_pyIter_enum (k2 _ _ hen) ?_)
  refine wpAny_bind (wpAny_holding ?_)
  unfold Builtin.List.listLengthHint
  refine wpAny_bind (wpAny_specialOf (ty k2) enum_no_len ?_)
  show wpAny _ X.A.in1.in1 (specialOf (Value.ref (z + 1)) (Str.ofString "__length_hint__") >>= _) _ _ _
  refine wpAny_bind (wpAny_specialOf (ty k2) enum_no_hint ?_)
  refine wpAny_pure ?_
  show wpAny _ X.A.in1.in1 (rule "list.extend.makes-room" >>= fun _ => Builtin.List.listTouch (.ref h2.objs.size) >>= fun _ =>
    again (.builtin "list.extend.loop" ⟨[.ref h2.objs.size, .ref (z + 1), .none], []⟩)) _ _ _
  refine wpAny_bind (wpAny_rule ?_)
  refine wpAny_bind ?_
  show wpAny _ X.A.in1.in1 (updateSeq h2.objs.size (·.push .none) >>= fun _ => updateSeq h2.objs.size (·.pop)) _ _ _
  refine wpAny_bind (wpAny_updateSeq hS2 rfl ?_)
  have hS3 := Heap.get?_update_self (Obj.mapSeq (·.push Value.none)) hS2 rfl
  refine wpAny_updateSeq (hz := by seq_fits) hS3 rfl ?_
  have hS4 := Heap.get?_update_self (Obj.mapSeq (·.pop)) hS3 rfl
  have k4 := up _ (Obj.mapSeq (·.pop)) (up _ (Obj.mapSeq (·.push Value.none)) k2)
  refine wpAny_pure ⟨plainId_quiet F.plain_extend_loop _, ?_⟩
  have hn1 : H1 h2.objs.size = none := I2.hok.fresh (Nat.le_refl _)
  have I4 : Inv X pins σ (upd H1 h2.objs.size (.lst [])) { s1 with heap := _ } := I2.laid (t' := s1.toks) k4 (Nat.le_refl _) ⟨Nat.zero_le _, [], _, .nil, hS4⟩
  have hsq : SqL X.K (upd H1 h2.objs.size (.lst [])) l xs := sql_new hq hn1
  have n0 : ∀ b, z ≤ b → b < h2.objs.size → upd H1 h2.objs.size (.lst []) b = none := fun b h1 h2 => by
    rw [upd_ne (Nat.ne_of_lt h2)]
    exact I1.hok.fresh (by rw [← ez]; exact h1)
  have hzS : z < h2.objs.size := by rw [hS0]; exact Nat.lt_add_of_pos_right (by decide)
  have a1 : l ≠ z + 1 := Nat.ne_of_lt (Nat.lt_succ_of_lt hll)
  have a2 : l ≠ z := Nat.ne_of_lt hll
  have a3 : h2.objs.size ≠ z := Nat.ne_of_gt hzS
  have a4 : l ≠ h2.objs.size := Nat.ne_of_lt (Nat.lt_trans hll hzS)
  have hfp : ∀ b ∈ [z + 1, z], FpOk X pins (upd H1 h2.objs.size (.lst [])) b := fun b hb => by
    have e' : b = z + 1 ∨ b = z := by simpa using hb
    rcases e' with rfl | rfl
    · exact I1.fpOk (by rw [← ez]; exact Nat.le_succ _) (n0 _ (Nat.le_succ _) (by rw [hS0]; exact Nat.lt_succ_self _))
    · exact I1.fpOk (by rw [← ez]; exact Nat.le_refl _) (n0 _ (Nat.le_refl _) hzS)
  refine enum_loop (A := X.A.in1) (X := X) (pins := pins) (σ := σ) (H1 := upd H1 h2.objs.size (.lst [])) (l := l) (it := z) (xs := xs) hh a1 a2 hSa a3 a4 hz hsq upd_same (fun s' H' ts I' hrow hlen => ?_)
    xs.length 0 _ _ [] (Nat.sub_zero _) (Nat.zero_le _) I4 ⟨Keep.refl _ _, upd_same, by simp⟩ rfl hsq ⟨hit.at fun o q => k4 _ _ q, Nat.succ_ne_self _, .inl ⟨_, k4 _ _ hen⟩⟩ hfp
  refine ⟨rfl, .ref h2.objs.size, H', I', rfl, ?_⟩
  refine q _ ts H' hn1 (fun b o eb => hrow.1 b o (by rw [upd_ne (ne_of_none eb hn1)]; exact eb) (by simp [ne_of_none eb hn1])) hrow.2.1 hlen fun j T hj => ?_
  obtain ⟨x, b1, b2, b3⟩ := hrow.2.2 j T hj
  refine ⟨x, b1, b2, ?_⟩
  rw [upd_ne fun y => by rw [y, upd_same] at b3; cases b3] at b3
  exact b3
/-- [e for k in d], d not locked -/
theorem lcU_keys {a : Addr} {kvs : List (Key × V)} {te : TE} {i j : Nat} {σ : L2.St} {H : Hp} {Q : VK} (ha : H a = some (.dK kvs)) (hi : σ[i]? = some (some (.ref a)))
    (ys : List V) (hl : ys.length = kvs.length) (hz : kvs.length ≤ 100000)
    (step : ∀ (i : Nat) k v y H' (N : VK), kvs[i]? = some (k, v) → ys[i]? = some y → LSame H H' → Rd H' a (.dK kvs) → (∀ H4, Same H' H4 → N y H4) → te ((wipe σ [j]).set j (some (kV k))) H' N)
    (done : ∀ D H', H D = none → Same H H' → H' D = some (.lst ys) → Q (.ref D) H') : tLockE (tLc (iKeys (tVar i)) (gName j) tYes te [j]) σ H Q := by
  refine ⟨a, .dK kvs, ha, trivial, fun od => ?_⟩
  have e1 : upd H a (.frz od (.dK kvs)) a = some (.frz od (.dK kvs)) := upd_same
  have ls : LSame H (upd H a (.frz od (.dK kvs))) := fun b o e => by
    by_cases hb : b = a
    · subst hb
      rw [ha] at e
      cases e
      exact .inr ⟨kvs, od, rfl, upd_same⟩
    · exact .inl (by rw [upd_ne hb]; exact e)
  rw [tLc_eq]
  refine ⟨_, hi, a, od, rfl, .inl ⟨kvs, e1, lcP_keys e1 ys hl hz ?_ ?_⟩⟩
  · intro i k v y H' N hk hy s N'
    exact step i k v y H' N hk hy (ls.trans (.of s)) (.inr ⟨od, s _ _ e1⟩) N'
  · intro D H' nD s e
    have hDa : D ≠ a := fun z => by rw [z, upd_same] at nD; cases nD
    have nD' : H D = none := by rw [upd_ne hDa] at nD; exact nD
    exact ⟨s _ _ e1, done D _ nD' (same_lock ha s) (by rw [upd_ne hDa]; exact e)⟩
theorem ps_never {X : Cx} {st : Stmt} : PS X st (fun _ _ _ => False) := ⟨fun _ _ _ _ _ _ h => h.elim⟩
theorem pe_gint {X : Cx} {x : Str} {z : Int} {t : Tok} {pos : Pos} (hg : Gl X x) (hm : X.mg x = some (.int z t)) (hd : (x == ("__debug__" : Str)) = false := by decide) : PE X (.Name x pos) (tC (.int z)) := pe_glob (v := .int z) hg hm ⟨t, rfl⟩ hd
/-! ### the first wrong place of a datum -/
/-- no text is longer than this -/
def smallD : Nat → PyData → Prop
  | 0, _ => True
  | n + 1, .list ds => ∀ d ∈ ds, smallD n d
  | n + 1, .tuple ds => ∀ d ∈ ds, smallD n d
  | n + 1, .dict es => es.length ≤ 60 ∧ ∀ e ∈ es, (∀ x, e.1 = .str x → x.length ≤ 1000 ∧ AsciiS x) ∧ smallD n e.2
  | _ + 1, .str x => x.length ≤ 1000
  | _ + 1, _ => True
def isTextD : PyData → Bool
  | .str x => decide (x.length ≤ 60)
  | _ => false
def isIntD : PyData → Bool
  | .int _ => true
  | _ => false
def fstR (f : PyData → Option (List Key)) : List (Key × PyData) → Option (List Key)
  | [] => none
  | (k, d) :: r => match f d with
    | some p => some (k :: p)
    | none => fstR f r
def rowsL (ds : List PyData) : List (Key × PyData) := ds.zipIdx.map fun p => (.inl (p.2 : Int), p.1)
def rowsD (es : List (PyData × PyData)) : List (Key × PyData) := (srt (keysD es)).map fun x => (.inr x, (dget es x).getD .none)
def fwN : Nat → PyData → Option (List Key)
  | 0, _ => none
  | n + 1, .list ds => fstR (fwN n) (rowsL ds)
  | n + 1, .dict es => if es.all (fun e => isTextD e.1) then fstR (fwN n) (rowsD es) else some []
  | _ + 1, .none => none
  | _ + 1, .bool _ => none
  | _ + 1, .str x => if x.length ≤ 60 then none else some []
  | _ + 1, .int i => if -10 ^ 30 ≤ i ∧ i ≤ 10 ^ 30 then none else some []
  | _ + 1, .tuple _ => some []
theorem fstR_at {f : PyData → Option (List Key)} : ∀ {rs : List (Key × PyData)} {i : Nat} {k : Key} {d : PyData} {p : List Key}, (∀ j < i, ∀ q, rs[j]? = some q → f q.2 = none) → rs[i]? = some (k, d) → f d = some p → fstR f rs = some (k :: p)
  | [], _, _, _, _, _, h, _ => by simp at h
  | q :: r, 0, k, d, p, _, h, g => by
    simp at h; subst h
    simp [fstR, g]
  | q :: r, i + 1, k, d, p, h0, h, g => by
    obtain ⟨k0, d0⟩ := q
    have h1 := h0 0 (by omega) (k0, d0) rfl
    simp only at h1
    simp only [fstR, h1]
    exact fstR_at (i := i) (fun j hj q hq => h0 (j + 1) (by omega) q (by simpa using hq)) (by simpa using h) g
theorem fstR_none {f : PyData → Option (List Key)} : ∀ {rs : List (Key × PyData)}, (∀ q ∈ rs, f q.2 = none) → fstR f rs = none
  | [], _ => rfl
  | (k, d) :: r, h => by
    have h1 := h (k, d) (by simp)
    simp only at h1
    simp only [fstR, h1]
    exact fstR_none fun q hq => h q (by simp [hq])
theorem fstR_congr {f g : PyData → Option (List Key)} : ∀ {rs : List (Key × PyData)}, (∀ q ∈ rs, f q.2 = g q.2) → fstR f rs = fstR g rs
  | [], _ => rfl
  | (k, d) :: r, h => by
    have h1 := h (k, d) (by simp)
    simp only at h1
    simp only [fstR, h1]
    cases g d with
    | some p => rfl
    | none => exact fstR_congr fun q hq => h q (by simp [hq])
theorem fstR_inv {f : PyData → Option (List Key)} : ∀ {rs : List (Key × PyData)} {p : List Key}, fstR f rs = some p → ∃ k d q, (k, d) ∈ rs ∧ f d = some q ∧ p = k :: q
  | [], _, h => by cases h
  | (k, d) :: r, p, h => by
    cases hf : f d with
    | some q =>
      simp only [fstR, hf] at h
      cases h
      exact ⟨k, d, q, by simp, hf, rfl⟩
    | none =>
      simp only [fstR, hf] at h
      obtain ⟨k2, d2, q, h1, h2, h3⟩ := fstR_inv h
      exact ⟨k2, d2, q, by simp [h1], h2, h3⟩
theorem fwN_len : ∀ {n : Nat} {d : PyData} {p : List Key}, fwN n d = some p → p.length ≤ n
  | 0, _, _, h => by cases h
  | n + 1, .list ds, p, h => by
    obtain ⟨k, d, q, _, h2, rfl⟩ := fstR_inv h
    have := fwN_len h2
    simp; omega
  | n + 1, .dict es, p, h => by
    simp only [fwN] at h
    split at h
    · obtain ⟨k, d, q, _, h2, rfl⟩ := fstR_inv h
      have := fwN_len h2
      simp; omega
    · cases h; simp
  | n + 1, .none, p, h => by cases h
  | n + 1, .bool _, p, h => by cases h
  | n + 1, .str x, p, h => by simp only [fwN] at h; split at h <;> cases h; simp
  | n + 1, .int x, p, h => by simp only [fwN] at h; split at h <;> cases h; simp
  | n + 1, .tuple _, p, h => by cases h; simp
theorem small_up {G : Hp} : ∀ {n : Nat} {v : V} {d : PyData}, smallD n d → Re G n v d → smallD (n + 1) d
  | 0, _, _, _, r => r.elim
  | n + 1, v, .list ds, h, ⟨a, xs, _, _, _, hp⟩ => fun d hd => by
    obtain ⟨x, _, hx⟩ := pd_memR hp hd
    exact small_up (h d hd) hx
  | n + 1, v, .tuple ds, h, ⟨a, xs, _, _, _, hp⟩ => fun d hd => by
    obtain ⟨x, _, hx⟩ := pd_memR hp hd
    exact small_up (h d hd) hx
  | n + 1, v, .dict es, h, ⟨a, xs, _, _, _, _, hp⟩ => ⟨h.1, fun e he => by
    obtain ⟨x, _, hx⟩ := pd_memR hp he
    exact ⟨(h.2 e he).1, small_up (h.2 e he).2 hx.2⟩⟩
  | n + 1, v, .none, _, _ => trivial
  | n + 1, v, .bool _, _, _ => trivial
  | n + 1, v, .int _, _, _ => trivial
  | n + 1, v, .str _, h, _ => h
/-! paths -/
/-- what it hands back -/
def pathV (r : Option (List Key)) (H : Hp) (v : V) : Prop := match r with
  | none => v = .non
  | some p => ∃ t, v = .ref t ∧ H t = some (.tup (p.map kV))
theorem pathV.imp {r : Option (List Key)} {H H' : Hp} {v : V} (h : pathV r H v) (s : Same H H') : pathV r H' v := by
  cases r with
  | none => exact h
  | some p => obtain ⟨t, h1, h2⟩ := h; exact ⟨t, h1, s _ _ h2⟩
theorem fwN_ok {G : Hp} : ∀ {n : Nat} {v : V} {d : PyData} {p : List Key}, Re G n v d → smallD n d → fwN n d = some p → ∀ k ∈ p, leafD (kD k)
  | 0, _, _, _, r, _, _ => r.elim
  | n + 1, v, .list ds, p, ⟨a, xs, _, _, hb, hp⟩, sm, h => by
    obtain ⟨k, d, q, hm, h2, rfl⟩ := fstR_inv h
    obtain ⟨⟨d', i⟩, hz, he⟩ := List.mem_map.mp hm
    cases he
    have hi := List.mem_zipIdx' hz
    have hd : d' ∈ ds := by rw [hi.2]; exact List.getElem_mem _
    obtain ⟨x, _, hx⟩ := pd_memR hp hd
    intro k hk
    rcases List.mem_cons.mp hk with rfl | hk
    · have := hi.1
      have hl := pd_len hp
      exact ⟨by omega, by omega⟩
    · exact fwN_ok hx (sm d' hd) h2 k hk
  | n + 1, v, .dict es, p, ⟨a, xs, _, _, hb, hn, hp⟩, sm, h => by
    simp only [fwN] at h
    split at h
    · rename_i hall
      obtain ⟨k, d, q, hm, h2, rfl⟩ := fstR_inv h
      obtain ⟨x, hx, he⟩ := List.mem_map.mp hm
      cases he
      obtain ⟨e, he, hxe⟩ := List.mem_map.mp (mem_srt.mp hx)
      have ht := List.all_eq_true.mp hall e he
      obtain ⟨y, hy⟩ : ∃ y, e.1 = .str y := by
        cases h : e.1 with
        | str y => exact ⟨y, rfl⟩
        | _ => rw [h] at ht; cases ht
      rw [hy] at ht hxe
      have hxe : y = x := hxe
      subst hxe
      cases hg : dget es y with
      | none => exact absurd (mem_srt.mp hx) (dget_none hg)
      | some d2 =>
        rw [hg] at h2
        obtain ⟨e2, he2, rfl, _⟩ := dget_mem hg
        obtain ⟨z, _, hz⟩ := pd_memR hp he2
        intro k hk
        rcases List.mem_cons.mp hk with rfl | hk
        · exact ⟨of_decide_eq_true ht, ((sm.2 e he).1 y hy).2⟩
        · exact fwN_ok hz.2 (sm.2 e2 he2).2 h2 k hk
    · cases h; intro k hk; cases hk
  | n + 1, v, .none, p, _, _, h => by cases h
  | n + 1, v, .bool _, p, _, _, h => by cases h
  | n + 1, v, .str x, p, _, _, h => by
    simp only [fwN] at h
    split at h <;> cases h
    intro k hk; cases hk
  | n + 1, v, .int x, p, _, _, h => by
    simp only [fwN] at h
    split at h <;> cases h
    intro k hk; cases hk
  | n + 1, v, .tuple _, p, _, _, h => by cases h; intro k hk; cases hk
theorem fine_path {p : List Key} (h : ∀ k ∈ p, leafD (kD k)) : Fine (.tuple (p.map kD)) := Fine.tuple fun d hd => by
  obtain ⟨k, hk, rfl⟩ := List.mem_map.mp hd
  exact Fine.leaf (h k hk)
theorem cnt_keys : ∀ p : List Key, cntAll (p.map kD) = p.length
  | [] => rfl
  | k :: r => by
    simp only [List.map_cons, cntAll, List.length_cons]
    rw [cnt_keys r]
    cases k <;> simp [kD, cnt] <;> omega
theorem Rp_path {H : Hp} {t : Addr} {p : List Key} (h : H t = some (.tup (p.map kV))) (hl : p.length ≤ 1000) : Rp H 2 (.ref t) (.tuple (p.map kD)) := by
  refine ⟨t, _, rfl, h, by simp; omega, ?_⟩
  clear h
  induction p with
  | nil => exact .nil
  | cons k r ih => exact .cons (by cases k <;> rfl) (ih (by simp at hl; omega))
/-- a path, shown -/
def showP : Option (List Key) → Str
  | none => PyData.shown .none
  | some p => PyData.shown (.tuple (p.map kD))
theorem repr_path {H : Hp} {v : V} {r : Option (List Key)} {Q : VK} (h : pathV r H v) (hk : ∀ p, r = some p → p.length ≤ 1000 ∧ ∀ k ∈ p, leafD (kD k)) (q : Q (.str (showP r)) H) : rRepr [v] H Q := by
  cases r with
  | none =>
    cases h
    exact repr1 (n := 1) (d := .none) rfl (by omega) (Fine.leaf trivial) (by simp [cnt]) q
  | some p =>
    obtain ⟨t, rfl, ht⟩ := h
    obtain ⟨h1, h2⟩ := hk p rfl
    exact repr1 (Rp_path ht h1) (by omega) (fine_path h2) (by simp only [cnt]; rw [cnt_keys]; omega) q
/-! fuel -/
theorem fw_up {G : Hp} : ∀ {n : Nat} {v : V} {d : PyData}, Re G n v d → fwN (n + 1) d = fwN n d
  | 0, _, _, r => r.elim
  | n + 1, v, .list ds, ⟨a, xs, _, _, hb, hp⟩ => by
    simp only [fwN]
    exact fstR_congr fun q hq => by
      obtain ⟨⟨d', i⟩, hz, he⟩ := List.mem_map.mp hq
      cases he
      have hi := List.mem_zipIdx' hz
      have hd : d' ∈ ds := by rw [hi.2]; exact List.getElem_mem _
      obtain ⟨x, _, hx⟩ := pd_memR hp hd
      exact fw_up hx
  | n + 1, v, .dict es, ⟨a, xs, _, _, hb, hn, hp⟩ => by
    simp only [fwN]
    split
    · exact fstR_congr fun q hq => by
        obtain ⟨x, hx, he⟩ := List.mem_map.mp hq
        cases he
        cases hg : dget es x with
        | none => exact absurd (mem_srt.mp hx) (dget_none hg)
        | some d2 =>
          obtain ⟨e2, he2, rfl, _⟩ := dget_mem hg
          obtain ⟨z, _, hz⟩ := pd_memR hp he2
          exact fw_up hz.2
    · rfl
  | n + 1, v, .none, _ => rfl
  | n + 1, v, .bool _, _ => rfl
  | n + 1, v, .str x, _ => rfl
  | n + 1, v, .int x, _ => rfl
  | n + 1, v, .tuple _, _ => rfl
/-- xs[::2], xs of five -/
theorem pick2 (u0 u1 u2 u3 u4 : Value) : slicePick [u0, u1, u2, u3, u4].toArray none none (some 2) = [u0, u2, u4].toArray := by
  have e : sliceRange 0 5 2 = [0, 2, 4] := by decide +kernel
  show ((sliceRange 0 5 2).filterMap ([u0, u1, u2, u3, u4].toArray[·]?)).toArray = _
  rw [e]
  rfl
def tTwo5 (K : PySem.W.Frag) (te : TE) : TE := fun σ H Q => te σ H fun x H1 => ∃ a y0 y1 y2 y3 y4, x = .ref a ∧ SqL K H1 a [y0, y1, y2, y3, y4] ∧ ∀ p, H1 p = none → Q (.ref p) (upd H1 p (.lst [y0, y2, y4]))
theorem pe_two5 {X : Cx} {K : PySem.W.Frag} {e : Expr} {te : TE} {k : Nat} {p1 p3 pos : Pos} (hK : X.K = K) (he : PE X e te) : PE X (.Subscript e (.Slice none none (some (.Constant (.int 2) k p1)) p3) pos) (tTwo5 K te) := by
  subst hK
  refine ⟨fun pins s σ H Q I h => ?_⟩
  refine Subscript_ (thn (he.run pins s σ H _ I h) fun v s1 ⟨x, H1, I1, r1, q1⟩ => ?_)
  obtain ⟨a, y0, y1, y2, y3, y4, ex, hx, q⟩ := q1
  subst ex
  cases r1
  have hst : PO X (some (.Constant (.int 2) k p1)) (tPart (tC (.int 2))) := po_some pe_int
  refine wpAny_Slice (thn (po_none.run pins s1 σ H1 (fun o H2 => o = none ∧ H2 = H1) I1 ⟨rfl, rfl⟩) fun vl s2 ⟨l, H2, I2, pl, el, e2⟩ => ?_)
  subst el e2
  refine thn (po_none.run pins s2 σ H2 (fun o H3 => o = none ∧ H3 = H2) I2 ⟨rfl, rfl⟩) fun vu s3 ⟨u, H3, I3, pu, eu, e3⟩ => ?_
  subst eu e3
  refine thn (hst.run pins s3 σ H3 (fun o H4 => o = some 2 ∧ H4 = H3) I3 ⟨2, rfl, rfl, rfl⟩) fun vs s4 ⟨o, H4, I4, ps, eo, e4⟩ => ?_
  subst eo e4
  have I5 : Inv X pins σ H4 { s4 with heap := s4.heap.push { cls := .type "slice", data := .fields #[vl, vu, vs] } } := I4.kept (t' := s4.toks) fun b ob q => Heap.get?_push_of_some _ q
  obtain ⟨its, r, ht, hz⟩ := I5.list hx
  have hlen := r.length
  show wpAny (model X.prog X.w) X.A (subscriptTail e (.Slice none none (some (.Constant (.int 2) k p1)) p3) (.ref a) (.ref s4.heap.objs.size)) (EP X pins σ Q) X.xe { s4 with heap := s4.heap.push { cls := .type "slice", data := .fields #[vl, vu, vs] } }
  refine tail_any (ops := [.ref a, .ref s4.heap.objs.size]) ht.isList.typeIs (PySem.slot_list_getitem.lookup) ?_ (by with_unfolding_all rfl)
  refine wpAny_getItem_list_slice ht.isList (Heap.IsSliceOf.new _ vl vu vs) pl pu ps (by decide) ?_ (by rw [List.size_toArray]; omega)
  cases r with
  | cons a0 r => cases r with
    | cons a1 r => cases r with
      | cons a2 r => cases r with
        | cons a3 r => cases r with
          | cons a4 r =>
            cases r
            rw [pick2]
            refine ⟨.ref _, _, I5.laid (t' := s4.toks) (o := .lst [y0, y2, y4]) (fun b ob q => Heap.get?_push_of_some _ q) (Nat.le_refl _) ?_, rfl, q _ (I5.hok.fresh (Nat.le_refl _))⟩
            exact ⟨sz5 (by simp), _, 0, .cons a0 (.cons a2 (.cons a4 .nil)), Heap.get?_push_size _ rfl⟩
theorem op_catAK {X : Cx} {K : PySem.W.Frag} (h : X.K = K) : OpR X (binaryOp .Add) (rCatA K) := by subst h; exact op_catA
end SC

set_option Elab.async false
set_option linter.all false
set_option maxRecDepth 100000
set_option maxHeartbeats 4000000
/-! data of its own: no part of it is shared -/
namespace SC
open PySem L2
/-- the part of a heap with the colour i -/
def sel (G : Hp) (c : Addr → Nat) (i : Nat) : Hp := fun b => if c b = i then G b else none
theorem sel_sub {G : Hp} {c : Addr → Nat} {i : Nat} : Same (sel G c i) G := fun b o e => by
  unfold sel at e
  split at e
  · exact e
  · cases e
theorem sel_at {G : Hp} {c : Addr → Nat} {i : Nat} {b : Addr} {o : HO} (e : sel G c i b = some o) : c b = i ∧ G b = some o := by
  unfold sel at e
  split at e
  · exact ⟨‹_›, e⟩
  · cases e
theorem sel_of {G : Hp} {c : Addr → Nat} {i : Nat} {b : Addr} {o : HO} (h : c b = i) (e : G b = some o) : sel G c i b = some o := by
  unfold sel
  rw [if_pos h]; exact e
theorem sel_mono {G G' : Hp} {c : Addr → Nat} {i : Nat} (s : Same G G') : Same (sel G c i) (sel G' c i) := fun b o e => by
  obtain ⟨h, e⟩ := sel_at e
  exact sel_of h (s _ _ e)
/-- rows whose parts have colours of their own -/
def OwP {A B : Type} (F : Hp → A → B → Prop) (G : Hp) (c : Addr → Nat) (xs : List A) (ds : List B) : Prop := xs.length = ds.length ∧ ∀ i x d, xs[i]? = some x → ds[i]? = some d → F (sel G c i) x d
theorem OwP.imp {A B : Type} {F F' : Hp → A → B → Prop} {G G' : Hp} {c c' : Addr → Nat} {xs : List A} {ds : List B} (h : OwP F G c xs ds) (s : ∀ i < xs.length, Same (sel G c i) (sel G' c' i)) (f : ∀ g g' x d, x ∈ xs → d ∈ ds → Same g g' → F g x d → F' g' x d) : OwP F' G' c' xs ds :=
  ⟨h.1, fun i x d hx hd => f _ _ x d (List.mem_of_getElem? hx) (List.mem_of_getElem? hd) (s i (List.getElem?_eq_some_iff.mp hx).1) (h.2 i x d hx hd)⟩
theorem pd_of {A B : Type} {F : A → B → Prop} : ∀ {xs : List A} {ds : List B}, xs.length = ds.length → (∀ (i : Nat) (x : A) (d : B), xs[i]? = some x → ds[i]? = some d → F x d) → Paired F xs ds
  | [], [], _, _ => .nil
  | [], _ :: _, h, _ => by simp at h
  | _ :: _, [], h, _ => by simp at h
  | x :: xs, d :: ds, h, f => .cons (f 0 x d rfl rfl) (pd_of (by simpa using h) fun i y e hy he => f (i + 1) y e (by simpa using hy) (by simpa using he))
/-- data in G, each list and dict in one place only -/
def Ow : Nat → Hp → V → PyData → Prop
  | 0, _, _, _ => False
  | _ + 1, _, v, .none => v = .non
  | _ + 1, _, v, .bool b => v = .bl b
  | _ + 1, _, v, .int i => v = .int i
  | _ + 1, _, v, .str x => v = .str x
  | n + 1, G, v, .list ds => ∃ a xs c, v = .ref a ∧ G a = some (.lst xs) ∧ xs.length ≤ 10000 ∧ xs.length ≤ c a ∧ OwP (Ow n) G c xs ds
  | n + 1, G, v, .dict es => ∃ a kvs c, v = .ref a ∧ G a = some (.dK kvs) ∧ kvs.length ≤ 10000 ∧ (kvs.map (·.1)).Nodup ∧ kvs.length ≤ c a ∧ OwP (fun g => KvR (Ow n g)) G c kvs es
  | _ + 1, _, _, .tuple _ => False
theorem Ow.imp : ∀ {n : Nat} {G G' : Hp} {v : V} {d : PyData}, Same G G' → Ow n G v d → Ow n G' v d
  | 0, _, _, _, _, _, h => h
  | n + 1, _, _, v, .none, _, h => h
  | n + 1, _, _, v, .bool _, _, h => h
  | n + 1, _, _, v, .int _, _, h => h
  | n + 1, _, _, v, .str _, _, h => h
  | n + 1, _, _, v, .tuple _, _, h => h
  | n + 1, _, _, v, .list ds, s, ⟨a, xs, c, h1, h2, hb, hc, h3⟩ => ⟨a, xs, c, h1, s _ _ h2, hb, hc, h3.imp (fun _ _ => sel_mono s) fun _ _ _ _ _ _ s' q => Ow.imp s' q⟩
  | n + 1, _, _, v, .dict es, s, ⟨a, xs, c, h1, h2, hb, hn, hc, h3⟩ => ⟨a, xs, c, h1, s _ _ h2, hb, hn, hc, h3.imp (fun _ _ => sel_mono s) fun _ _ _ _ _ _ s' q => ⟨q.1, Ow.imp s' q.2⟩⟩
theorem Ow.re : ∀ {n : Nat} {G : Hp} {v : V} {d : PyData}, Ow n G v d → Re G n v d
  | 0, _, _, _, h => h
  | n + 1, _, v, .none, h => h
  | n + 1, _, v, .bool _, h => h
  | n + 1, _, v, .int _, h => h
  | n + 1, _, v, .str _, h => h
  | n + 1, _, v, .tuple _, h => h.elim
  | n + 1, G, v, .list ds, ⟨a, xs, c, h1, h2, hb, hc, h3⟩ => ⟨a, xs, h1, h2, hb, pd_of h3.1 fun i x d hx hd => (h3.2 i x d hx hd).re.imp sel_sub⟩
  | n + 1, G, v, .dict es, ⟨a, xs, c, h1, h2, hb, hn, hc, h3⟩ => ⟨a, xs, h1, h2, hb, hn, pd_of h3.1 fun i x d hx hd => ⟨(h3.2 i x d hx hd).1, (h3.2 i x d hx hd).2.re.imp sel_sub⟩⟩
theorem Ow.up1 : ∀ {n : Nat} {G : Hp} {v : V} {d : PyData}, Ow n G v d → Ow (n + 1) G v d
  | 0, _, _, _, h => h.elim
  | n + 1, _, v, .none, h => h
  | n + 1, _, v, .bool _, h => h
  | n + 1, _, v, .int _, h => h
  | n + 1, _, v, .str _, h => h
  | n + 1, _, v, .tuple _, h => h.elim
  | n + 1, G, v, .list ds, ⟨a, xs, c, h1, h2, hb, hc, h3⟩ => ⟨a, xs, c, h1, h2, hb, hc, h3.1, fun i x d hx hd => (h3.2 i x d hx hd).up1⟩
  | n + 1, G, v, .dict es, ⟨a, xs, c, h1, h2, hb, hn, hc, h3⟩ => ⟨a, xs, c, h1, h2, hb, hn, hc, h3.1, fun i x d hx hd => ⟨(h3.2 i x d hx hd).1, (h3.2 i x d hx hd).2.up1⟩⟩
theorem Ow.up {n m : Nat} {G : Hp} {v : V} {d : PyData} (h : Ow n G v d) (hl : n ≤ m) : Ow m G v d := by
  induction hl with
  | refl => exact h
  | step _ ih => exact ih.up1
theorem Ow.leaf {G : Hp} {n : Nat} {v : V} {d : PyData} (hd : leafD d) (h : Rp G n v d) : Ow n G v d := by
  cases n with
  | zero => exact h.elim
  | succ n => cases d <;> first | exact h | exact hd.elim
theorem OwP.nil {A B : Type} {F : Hp → A → B → Prop} {G : Hp} {c : Addr → Nat} : OwP F G c ([] : List A) ([] : List B) := ⟨rfl, fun i x d h => by simp at h⟩
/-- one row more, made anew -/
theorem OwP.snoc {A B : Type} {F : Hp → A → B → Prop} (hF : ∀ g g' x d, Same g g' → F g x d → F g' x d) {S : List Addr} {Hx H1 H4 : Hp} {D : Addr} {o : HO} {c : Addr → Nat} {xs : List A} {ds : List B} {x : A} {d : B}
    (k1 : Keep S Hx H1) (k2 : Keep S H1 H4) (hx : ∀ a ∈ S, Hx a ≠ none) (h1 : ∀ a ∈ S, H1 a ≠ none) (hD : D ∈ S) (h : OwP F (news Hx H1) c xs ds) (hv : F (news H1 H4) x d) : ∃ c', OwP F (news Hx (upd H4 D o)) c' (xs ++ [x]) (ds ++ [d]) := by
  have g := grow (o := o) k1 k2 hx h1 hD
  refine ⟨fun b => match H1 b with | none => xs.length | some _ => c b, by simp [h.1], fun i y e hy he => ?_⟩
  by_cases hi : i < xs.length
  · rw [List.getElem?_append_left hi] at hy
    rw [List.getElem?_append_left (by rw [← h.1]; exact hi)] at he
    refine hF _ _ y e (fun b u q => ?_) (h.2 i y e hy he)
    obtain ⟨hc, q⟩ := sel_at q
    have e1 := news_sub _ _ _ _ q
    exact sel_of (by simp only [e1]; exact hc) (g.1 _ _ q)
  · have hl : i = xs.length := by
      have := (List.getElem?_eq_some_iff.mp hy).1
      simp at this
      omega
    subst hl
    rw [List.getElem?_append_right (Nat.le_refl _), Nat.sub_self] at hy
    rw [h.1, List.getElem?_append_right (Nat.le_refl _), Nat.sub_self] at he
    cases hy
    cases he
    refine hF _ _ x d (fun b u q => ?_) hv
    have e1 : H1 b = none := by
      cases e : H1 b with
      | none => rfl
      | some z => rw [news_no e] at q; cases q
    exact sel_of (by simp only [e1]) (g.2 _ _ q)
theorem OwP.more {A B : Type} {F : Hp → A → B → Prop} (hF : ∀ g g' x d, Same g g' → F g x d → F g' x d) {Hx H H' : Hp} {D : Addr} {c : Addr → Nat} {xs : List A} {ds : List B} (hDx : Hx D ≠ none) (hn : Same (news Hx H') (news H H')) (h : OwP F (news Hx H') c xs ds) :
    ∃ c', xs.length ≤ c' D ∧ OwP F (news H H') c' xs ds := by
  refine ⟨fun b => if b = D then xs.length else c b, by simp, h.1, fun i x d hx hd => hF _ _ x d (fun b u q => ?_) (h.2 i x d hx hd)⟩
  obtain ⟨hc, q⟩ := sel_at q
  have hb : b ≠ D := fun z => by
    rw [z] at q
    cases e : Hx D with
    | none => exact hDx e
    | some w => rw [news_no e] at q; cases q
  exact sel_of (by rw [if_neg hb]; exact hc) (hn _ _ q)
theorem Ow.mkL {n : Nat} {Hx H H' : Hp} {D : Addr} {c : Addr → Nat} {vs : List V} {ds : List PyData} (hDH : H D = none) (hDx : Hx D ≠ none) (hn : Same (news Hx H') (news H H')) (e : H' D = some (.lst vs)) (hl : vs.length ≤ 10000) (h : OwP (Ow n) (news Hx H') c vs ds) :
    Ow (n + 1) (news H H') (.ref D) (.list ds) := by
  obtain ⟨c', h1, h2⟩ := OwP.more (F := Ow n) (fun _ _ _ _ s q => Ow.imp s q) hDx hn h
  exact ⟨D, vs, c', rfl, by rw [news_at hDH]; exact e, hl, h1, h2⟩
theorem Ow.mkD {n : Nat} {Hx H H' : Hp} {D : Addr} {c : Addr → Nat} {kvs : List (Key × V)} {es : List (PyData × PyData)} (hDH : H D = none) (hDx : Hx D ≠ none) (hn : Same (news Hx H') (news H H')) (e : H' D = some (.dK kvs)) (hl : kvs.length ≤ 10000) (hk : (kvs.map (·.1)).Nodup) (h : OwP (fun g => KvR (Ow n g)) (news Hx H') c kvs es) :
    Ow (n + 1) (news H H') (.ref D) (.dict es) := by
  obtain ⟨c', h1, h2⟩ := OwP.more (F := fun g => KvR (Ow n g)) (fun _ _ _ _ s q => ⟨q.1, Ow.imp s q.2⟩) hDx hn h
  exact ⟨D, kvs, c', rfl, by rw [news_at hDH]; exact e, hl, hk, h1, h2⟩
theorem news_upd {Hx H' : Hp} {p : Addr} {o : HO} (h : Hx p ≠ none) : news Hx (upd H' p o) = news Hx H' := by
  funext b
  by_cases hb : b = p
  · subst hb
    cases e : Hx b with
    | none => exact absurd e h
    | some z => rw [news_no e, news_no e]
  · cases e : Hx b with
    | none => rw [news_at e, news_at e, upd_ne hb]
    | some z => rw [news_no e, news_no e]
/-- a part of an unlocked datum stands beside its whole -/
theorem Re.part {H : Hp} {a : Addr} {m n : Nat} {v : V} {d D : PyData} (hD : Re H m (.ref a) D) (hs : sizeOf d < sizeOf D) (h : Re H n v d) : Re (SC.del H a) n v d := Re.of (del_sub H a) h (Rp.del hD.rp hs h.rp)
/-- either of two readings -/
theorem pe_either {X : Cx} {e : Expr} {t u : TE} (h : PE X e t) (g : PE X e u) : PE X e (fun σ H Q => t σ H Q ∨ u σ H Q) :=
  ⟨fun pins s σ H Q I z => z.elim (h.run pins s σ H Q I) (g.run pins s σ H Q I)⟩
/-- isinstance(xs, T), xs a list -/
theorem isiL {K : PySem.W.Frag} {H : Hp} {a : Addr} {xs : List V} (T : Ty) {Q : VK} (h : H a = some (.lst xs)) (q : Q (.bl (isT T (.list []))) H) : rIsi K [.ref a, .ty T.nm] H Q :=
  ⟨.ref a, .ty T.nm, _, _, isT T (.list []), rfl, .ty T.nm, .base (.lst h), kit_ty (kit_isT T (.list [])), q⟩
theorem sameN_refl : ∀ {n : Nat} {d : PyData}, docD n d → ndD n d → sameN n d d = true
  | 0, _, h, _ => h.elim
  | n + 1, .list ds, h, g => by
    simp only [sameN, List.zipWith_self, Bool.and_eq_true, decide_true, List.all_eq_true, List.mem_map, true_and]
    rintro _ ⟨d, hd, rfl⟩
    exact sameN_refl (h.2 d hd) (g d hd)
  | n + 1, .dict es, h, g => by
    simp only [sameN, Bool.and_eq_true, decide_true, List.all_eq_true, List.mem_map, true_and]
    rintro _ ⟨e, he, rfl⟩
    rw [dget_nd g.1 he]
    exact sameN_refl (h.2 e he).2 (g.2 e he)
  | n + 1, .none, h, _ => sameL_refl h
  | n + 1, .bool _, h, _ => sameL_refl h
  | n + 1, .int i, h, _ => sameL_refl h
  | n + 1, .str x, h, _ => sameL_refl h
  | n + 1, .tuple _, h, _ => h.elim
theorem news_inv {H H' : Hp} {b : Addr} {o : HO} (e : news H H' b = some o) : H b = none ∧ H' b = some o := by
  cases h : H b with
  | none => exact ⟨rfl, news_sub _ _ _ _ e⟩
  | some z => rw [news_no h] at e; cases e
theorem same_none {H H' : Hp} {b : Addr} (s : Same H H') (h : H' b = none) : H b = none := by
  cases e : H b with
  | none => rfl
  | some z => rw [s _ _ e] at h; cases h
/-- one step of a path -/
def stepN : PyData → Key → Option PyData
  | .list ds, .inl i => if 0 ≤ i then ds[i.toNat]? else none
  | .dict es, .inr x => dget es x
  | _, _ => none
def walkD : PyData → List Key → Option PyData
  | d, [] => some d
  | d, k :: r => (stepN d k).bind fun e => walkD e r
theorem walk_app : ∀ (p r : List Key) (d : PyData), walkD d (p ++ r) = (walkD d p).bind fun e => walkD e r
  | [], r, d => rfl
  | k :: p, r, d => by
    simp only [List.cons_append, walkD]
    cases stepN d k with
    | none => rfl
    | some e => exact walk_app p r e
section
variable {J : It} {n : Nat} {G : Hp → Prop} {Y : Nat → Hp → V → Hp → Prop}
/-- {k: v for ..} -/
theorem dc_itR (w : Walk J n G Y) {g : TG} {tt : TT} {tk tv : TE} {vs : List Nat} {σ : L2.St} {H1 : Hp} {Q : VK} (Pv : Addr → Nat → Hp → Prop) (h0 : ∀ D, H1 D = none → Pv D 0 (upd H1 D (.dK []))) (hG : ∀ D i H, H1 D = none → i ≤ n → Pv D i H → G H)
    (hs : ∀ D i x H H', H1 D = none → i < n → Pv D i H → Y i H x H' → g x (wipe σ vs) H' fun σ2 H2 => wipe σ2 vs = wipe σ vs ∧ tt σ2 H2 fun b H3 =>
      if b = true then tk σ2 H3 fun y H4 => tv σ2 H4 fun z H5 => ∃ kvs k, y = kV k ∧ H5 D = some (.dK kvs) ∧ kvs.length < sizeLine ∧ Pv D (i + 1) (upd H5 D (.dK (putK kvs k z))) else Pv D (i + 1) H3)
    (hd : ∀ D H, H1 D = none → Pv D n H → Q (.ref D) H) : DcR J g tt tk tv vs σ H1 Q := fun D hD => by
  refine ⟨fun i m H => m = n - i ∧ i ≤ n ∧ Pv D i H, ⟨n, by simp, Nat.zero_le _, h0 D hD⟩, ?_⟩
  rintro i m H ⟨rfl, hi, p⟩
  have q := hG D i H hD hi p
  by_cases hlt : i < n
  · refine .inr ⟨w.goes i H hlt q, Pv D (i + 1), fun H' p' => ⟨n - (i + 1), by omega, rfl, hlt, p'⟩, fun x H' y => hs D i x H H' hD hlt p (w.yields i H x H' hlt q y)⟩
  · have e : i = n := by omega
    subst e
    exact .inl ⟨w.stops H q, hd D H hD p⟩
end
end SC

set_option Elab.async false
set_option linter.all false
set_option maxRecDepth 100000
set_option maxHeartbeats 4000000
/-! Sleeping generators: code that does not know of them leaves them as they are. A sleeping generator is replaced by one that can't be woken; what runs there runs here. -/
namespace SY
open PySem
open Sem (wp)
def stuck : GenState → GenState
  | .suspended _ l c p fs cl => .suspended (fun _ => .unsupported "asleep") l c p fs cl
  | x => x
def susp : GenState → Bool
  | .suspended .. => true
  | _ => false
theorem stuck_seen (x : GenState) : (stuck x).seen = x.seen := by cases x <;> rfl
theorem stuck_bare (x : GenState) : (stuck x).bare = x.bare := by cases x <;> rfl
theorem stuck_of_not {x : GenState} (h : susp x = false) : stuck x = x := by cases x <;> first | rfl | cases h
structure Tw (N : Nat) (O : Nat → Option GenState) (z s : Shared) : Prop where
  heap : z.heap = s.heap
  drawn : z.drawn = s.drawn
  toks : z.toks = s.toks
  os : z.os = s.os
  size : z.gens.size = s.gens.size
  blk : ∀ i x, O i = some x → susp x = true ∧ s.gens[i]? = some x ∧ z.gens[i]? = some (stuck x)
  oth : ∀ i, O i = none → z.gens[i]? = s.gens[i]?
  ng : ∀ i k l c p fs cl, O i = none → z.gens[i]? = some (.suspended k l c p fs cl) → splitAtGen fs = none
  lo : N ≤ s.gens.size
def NgE : End → Prop
  | .ret _ => True
  | .susp _ _ _ _ _ _ fs => splitAtGen fs = none
theorem split_app : ∀ {xs ys : List Frame}, splitAtGen xs = none → splitAtGen ys = none → splitAtGen (xs ++ ys) = none
  | [], _, _, h => h
  | .ret .. :: xs, ys, h, g => by
    simp only [splitAtGen, Option.map_eq_none_iff] at h
    simp only [List.cons_append, splitAtGen, Option.map_eq_none_iff]
    exact split_app h g
  | .gen .. :: _, _, h, _ => by simp [splitAtGen] at h
theorem split_ret {k h g l c p kp} {xs : List Frame} (e : splitAtGen (.ret k h g l c p kp :: xs) = none) : splitAtGen xs = none := by
  simpa only [splitAtGen, Option.map_eq_none_iff] using e
theorem split_ret' {k h g l c p kp} {xs : List Frame} (e : splitAtGen xs = none) : splitAtGen (.ret k h g l c p kp :: xs) = none := by
  simpa only [splitAtGen, Option.map_eq_none_iff] using e
section
variable {M : Model} {N : Nat} {O : Nat → Option GenState}
theorem no_run0 {Γ : Ctx} {p : Pos} {w : String} {s s' : Shared} {e : End} : ¬ Runs M Γ p (.unsupported w) [] s e s' := by
  intro h
  cases h
theorem no_run {Γ : Ctx} {p : Pos} {w : String} {fs : List Frame} {s s' : Shared} {e : End} (h : Runs M Γ p (.unsupported w) fs s e s') : False := by
  cases h with
  | segRet h _ => exact no_run0 h
  | segGen h _ => exact no_run0 h
  | segSuspOut _ h => exact no_run0 h
  | segSuspGen _ h _ _ => exact no_run0 h
theorem Tw.heaps {z s : Shared} (h : Tw N O z s) (x : Heap) : Tw N O { z with heap := x } { s with heap := x } := ⟨rfl, h.drawn, h.toks, h.os, h.size, h.blk, h.oth, h.ng, h.lo⟩
theorem Tw.set {z s : Shared} {g : Nat} {x : GenState} (h : Tw N O z s) (ho : O g = none) (hx : ∀ k l c p fs cl, x = .suspended k l c p fs cl → splitAtGen fs = none) : Tw N O (z.setGen g x) (s.setGen g x) := by
  have at_ : ∀ (y : Shared) (i : Nat), (y.setGen g x).gens[i]? = if i = g then (if g < y.gens.size then some x else none) else y.gens[i]? := fun y i => by
    show (y.gens.setIfInBounds g x)[i]? = _
    rw [Array.getElem?_setIfInBounds]
    by_cases e : g = i
    · subst e; simp
    · rw [if_neg e, if_neg (Ne.symm e)]
  refine ⟨h.heap, h.drawn, h.toks, h.os, ?_, fun i y e => ?_, fun i e => ?_, fun i k l c p fs cl e q => ?_, by show N ≤ (s.gens.setIfInBounds g x).size; simp [h.lo]⟩
  · show (z.gens.setIfInBounds g x).size = (s.gens.setIfInBounds g x).size
    simp [h.size]
  · have hi : i ≠ g := fun q => by rw [q, ho] at e; cases e
    obtain ⟨a, b, c⟩ := h.blk i y e
    exact ⟨a, by rw [at_, if_neg hi]; exact b, by rw [at_, if_neg hi]; exact c⟩
  · rw [at_, at_, h.size]
    split
    · rfl
    · exact h.oth i e
  · rw [at_] at q
    split at q
    · split at q
      · exact hx k l c p fs cl (Option.some.inj q)
      · cases q
    · exact h.ng i k l c p fs cl e q
theorem Tw.running {z s : Shared} {g : Nat} (h : Tw N O z s) (ho : O g = none) : Tw N O (z.setGen g .running) (s.setGen g .running) := h.set ho fun _ _ _ _ _ _ e => by cases e
theorem Tw.finished {z s : Shared} {g : Nat} (h : Tw N O z s) (ho : O g = none) : Tw N O (z.setGen g .finished) (s.setGen g .finished) := h.set ho fun _ _ _ _ _ _ e => by cases e
theorem Tw.ended {z s : Shared} {g : Nat} {e : End} (h : Tw N O z s) (ho : O g = none) (hn : NgE e) : Tw N O (z.setGen g e.genState) (s.setGen g e.genState) := h.set ho fun k l c p fs cl q => by
  cases e with
  | ret r => cases q
  | susp v g0 l0 k0 c0 p0 fs0 => cases q; exact hn
theorem Tw.push {z s : Shared} {c : Code} (h : Tw N O z s) : Tw N O { z with gens := z.gens.push (.fresh c) } { s with gens := s.gens.push (.fresh c) } := by
  have at_ : ∀ (y : Array GenState) (i : Nat) (v : GenState), y[i]? = some v → (y.push (.fresh c))[i]? = some v := fun y i v e => by
    have := (Array.getElem?_eq_some_iff.mp e).1
    rw [Array.getElem?_push_lt this]
    rw [Array.getElem?_eq_getElem this] at e
    exact e
  refine ⟨h.heap, h.drawn, h.toks, h.os, ?_, fun i y e => ?_, fun i e => ?_, fun i k l c' p fs cl e q => ?_, by show N ≤ (s.gens.push _).size; rw [Array.size_push]; exact Nat.le_succ_of_le h.lo⟩
  · simp [h.size]
  · obtain ⟨a, b, d⟩ := h.blk i y e
    exact ⟨a, at_ _ _ _ b, at_ _ _ _ d⟩
  · show (z.gens.push (.fresh c))[i]? = (s.gens.push (.fresh c))[i]?
    rw [Array.getElem?_push, Array.getElem?_push, h.size, h.oth i e]
  · have q' : (z.gens.push (.fresh c))[i]? = some (.suspended k l c' p fs cl) := q
    rw [Array.getElem?_push] at q'
    split at q'
    · cases q'
    · exact h.ng i k l c' p fs cl e q'
/-- what is not blocked -/
theorem Tw.open {z s : Shared} {g : Nat} {x : GenState} (h : Tw N O z s) (hx : susp x = false) (e : z.gens[g]? = some x) : O g = none ∧ s.gens[g]? = some x := by
  cases q : O g with
  | none => exact ⟨rfl, by rw [← h.oth g q]; exact e⟩
  | some y =>
    obtain ⟨a, _, c⟩ := h.blk g y q
    rw [c] at e
    cases y <;> first | cases a | skip
    cases e
    cases hx
theorem Tw.seen {z s : Shared} {g : Nat} {x : GenState} (h : Tw N O z s) (e : z.gens[g]? = some x) : ∃ y, s.gens[g]? = some y ∧ y.seen = x.seen := by
  cases q : O g with
  | none => exact ⟨x, by rw [← h.oth g q]; exact e, rfl⟩
  | some y =>
    obtain ⟨_, b, c⟩ := h.blk g y q
    rw [c] at e
    cases e
    exact ⟨y, b, (stuck_seen y).symm⟩
theorem runs_tw {Γ : Ctx} {p : Pos} {t : Sem Fin} {fs : List Frame} {z z' : Shared} {e : End} (h : Runs M Γ p t fs z e z') : splitAtGen fs = none → ∀ s, Tw N O z s → ∃ s', Runs M Γ p t fs s e s' ∧ Tw N O z' s' ∧ NgE e := by
  induction h with
  | done => intro _ s h; exact ⟨s, .done, h, trivial⟩
  | raise => intro _ s h; exact ⟨s, .raise, h, trivial⟩
  | again hq _ ih => intro hn s h; obtain ⟨s', a, b, c⟩ := ih hn s h; exact ⟨s', .again hq a, b, c⟩
  | rule _ ih => intro hn s h; obtain ⟨s', a, b, c⟩ := ih hn s h; exact ⟨s', .rule a, b, c⟩
  | «at» _ ih => intro hn s h; obtain ⟨s', a, b, c⟩ := ih hn s h; exact ⟨s', .at a, b, c⟩
  | load ho _ ih => intro hn s h; obtain ⟨s', a, b, c⟩ := ih hn s h; exact ⟨s', .load (by rw [← h.heap]; exact ho) a, b, c⟩
  | update ho _ ih =>
    intro hn s h
    rw [h.heap] at ih ho
    obtain ⟨s', a, b, c⟩ := ih hn _ (h.heaps _)
    exact ⟨s', .update ho a, b, c⟩
  | loadIfAlive _ ih =>
    intro hn s h
    obtain ⟨s', a, b, c⟩ := ih hn s h
    rw [h.heap] at a
    exact ⟨s', .loadIfAlive a, b, c⟩
  | point _ ih => intro hn s h; obtain ⟨s', a, b, c⟩ := ih hn s h; exact ⟨s', .point a, b, c⟩
  | alloc _ ih =>
    intro hn s h
    rw [h.heap] at ih
    obtain ⟨s', a, b, c⟩ := ih hn _ (h.heaps _)
    exact ⟨s', .alloc a, b, c⟩
  | fresh _ ih =>
    intro hn s h
    rw [h.toks] at ih
    obtain ⟨s', a, b, c⟩ := ih hn { s with toks := s.toks + 1 } ⟨h.heap, h.drawn, rfl, h.os, h.size, h.blk, h.oth, h.ng, h.lo⟩
    exact ⟨s', .fresh a, b, c⟩
  | ask _ ih => intro hn s h; obtain ⟨s', a, b, c⟩ := ih hn s h; exact ⟨s', .ask a, b, c⟩
  | choose hz _ ih =>
    intro hn s h
    rw [h.drawn] at ih
    obtain ⟨s', a, b, c⟩ := ih hn { s with drawn := s.drawn.bump _ } ⟨h.heap, rfl, h.toks, h.os, h.size, h.blk, h.oth, h.ng, h.lo⟩
    exact ⟨s', .choose hz a, b, c⟩
  | os _ ih =>
    intro hn s h
    rw [h.os] at ih
    obtain ⟨s', a, b, c⟩ := ih hn { s with os := (Os.step s.os _).1 } ⟨h.heap, h.drawn, h.toks, rfl, h.size, h.blk, h.oth, h.ng, h.lo⟩
    exact ⟨s', .os a, b, c⟩
  | handled _ ih => intro hn s h; obtain ⟨s', a, b, c⟩ := ih hn s h; exact ⟨s', .handled a, b, c⟩
  | genState hg _ ih =>
    intro hn s h
    obtain ⟨s', a, b, c⟩ := ih hn s h
    obtain ⟨y, q1, q2⟩ := h.seen hg
    rw [← q2] at a
    exact ⟨s', .genState q1 a, b, c⟩
  | stack _ ih => intro hn s h; obtain ⟨s', a, b, c⟩ := ih hn s h; exact ⟨s', .stack a, b, c⟩
  | thread _ ih => intro hn s h; obtain ⟨s', a, b, c⟩ := ih hn s h; exact ⟨s', .thread a, b, c⟩
  | newGen _ ih =>
    intro hn s h
    rw [h.size] at ih
    obtain ⟨s', a, b, c⟩ := ih hn _ h.push
    exact ⟨s', .newGen a, b, c⟩
  | call _ _ ih1 ih2 =>
    intro hn s h
    obtain ⟨s1, a1, b1, _⟩ := ih1 hn s h
    obtain ⟨s', a, b, c⟩ := ih2 hn s1 b1
    exact ⟨s', .call a1 a, b, c⟩
  | callSusp _ ih =>
    intro hn s h
    obtain ⟨s', a, b, c⟩ := ih hn s h
    exact ⟨s', .callSusp a, b, split_app c rfl⟩
  | yield => intro _ s h; exact ⟨s, .yield, h, rfl⟩
  | @resumeFresh Γ p g l k s0 c e1 s1 e s' hg h1 hq h2 ih1 ih2 =>
    intro hn s h
    obtain ⟨ho, hg'⟩ := h.open rfl hg
    obtain ⟨u, a1, b1, c1⟩ := ih1 rfl _ (h.running ho)
    obtain ⟨u', a, b, c⟩ := ih2 hn _ (b1.ended ho c1)
    exact ⟨u', .resumeFresh hg' a1 hq a, b, c⟩
  | @resumeSuspended Γ p g r l k s0 k0 l0 c0 p0 fs0 cl e1 s1 e s' hg h1 hq h2 ih1 ih2 =>
    intro hn s h
    cases q : O g with
    | none =>
      obtain ⟨u, a1, b1, c1⟩ := ih1 (h.ng _ _ _ _ _ _ _ q hg) _ (h.running q)
      obtain ⟨u', a, b, c⟩ := ih2 hn _ (b1.ended q c1)
      exact ⟨u', .resumeSuspended (by rw [← h.oth g q]; exact hg) a1 hq a, b, c⟩
    | some y =>
      obtain ⟨d0, _, d2⟩ := h.blk g y q
      rw [d2] at hg
      cases y <;> first | cases d0 | skip
      cases hg
      exact (no_run h1).elim
  | resumeJustStarted hg hv _ ih =>
    intro hn s h
    obtain ⟨ho, hg'⟩ := h.open rfl hg
    obtain ⟨s', a, b, c⟩ := ih hn s h
    exact ⟨s', .resumeJustStarted hg' hv a, b, c⟩
  | resumeThrowFresh hg _ ih =>
    intro hn s h
    obtain ⟨ho, hg'⟩ := h.open rfl hg
    obtain ⟨s', a, b, c⟩ := ih hn _ (h.finished ho)
    exact ⟨s', .resumeThrowFresh hg' a, b, c⟩
  | resumeRunning hg _ ih =>
    intro hn s h
    obtain ⟨ho, hg'⟩ := h.open rfl hg
    obtain ⟨s', a, b, c⟩ := ih hn s h
    exact ⟨s', .resumeRunning hg' a, b, c⟩
  | resumeFinished hg _ ih =>
    intro hn s h
    obtain ⟨ho, hg'⟩ := h.open rfl hg
    obtain ⟨s', a, b, c⟩ := ih hn s h
    exact ⟨s', .resumeFinished hg' a, b, c⟩
  | segRet _ _ ih1 ih2 =>
    intro hn s h
    obtain ⟨s1, a1, b1, _⟩ := ih1 rfl s h
    obtain ⟨s', a, b, c⟩ := ih2 (split_ret hn) s1 b1
    exact ⟨s', .segRet a1 a, b, c⟩
  | segGen _ _ _ _ => intro hn s h; simp [splitAtGen] at hn
  | segSuspOut hs _ ih =>
    intro hn s h
    obtain ⟨s', a, b, c⟩ := ih rfl s h
    exact ⟨s', .segSuspOut hs a, b, split_app c hs⟩
  | segSuspGen hs _ _ _ _ _ => intro hn s h; rw [hn] at hs; cases hs
theorem wakes_tw {Γ : Ctx} {p : Pos} {g : Nat} {r : Resume} {z z' : Shared} {res : GenResult} (h : Wakes M Γ p g r z res z') (s : Shared) (t : Tw N O z s) : ∃ s', Wakes M Γ p g r s res s' ∧ Tw N O z' s' := by
  unfold Wakes at h
  split at h
  · exact h.elim
  · rename_i c hg
    obtain ⟨ho, hg'⟩ := t.open rfl hg
    split at h
    · obtain ⟨e1, s1, hr, hq, h3, rfl⟩ := h
      obtain ⟨u, a, b, c⟩ := runs_tw hr rfl _ (t.running ho)
      exact ⟨_, by unfold Wakes; rw [hg']; exact ⟨e1, u, a, hq, h3, rfl⟩, b.ended ho c⟩
    · rename_i hne
      obtain ⟨h1, rfl⟩ := h
      refine ⟨s, ?_, t⟩
      unfold Wakes
      rw [hg']
      split
      · rename_i e; cases e
      · rename_i e
        split
        · rename_i q; cases q; exact (hne rfl).elim
        · exact ⟨h1, rfl⟩
        · rename_i q; cases q
      all_goals (rename_i e; cases e)
    · obtain ⟨h1, rfl⟩ := h
      exact ⟨_, by unfold Wakes; rw [hg']; exact ⟨h1, rfl⟩, t.finished ho⟩
  · rename_i k0 l0 c0 p0 fs cl hg
    obtain ⟨e1, s1, hr, hq, h3, rfl⟩ := h
    cases q : O g with
    | none =>
      obtain ⟨u, a, b, c⟩ := runs_tw hr (t.ng _ _ _ _ _ _ _ q hg) _ (t.running q)
      exact ⟨_, by unfold Wakes; rw [← t.oth g q, hg]; exact ⟨e1, u, a, hq, h3, rfl⟩, b.ended q c⟩
    | some y =>
      obtain ⟨d0, _, d2⟩ := t.blk g y q
      rw [d2] at hg
      cases y <;> first | cases d0 | skip
      cases hg
      exact (no_run hr).elim
  · rename_i hg
    obtain ⟨ho, hg'⟩ := t.open rfl hg
    obtain ⟨h1, rfl⟩ := h
    exact ⟨s, by unfold Wakes; rw [hg']; exact ⟨h1, rfl⟩, t⟩
  · rename_i hg
    obtain ⟨ho, hg'⟩ := t.open rfl hg
    obtain ⟨h1, rfl⟩ := h
    exact ⟨s, by unfold Wakes; rw [hg']; exact ⟨h1, rfl⟩, t⟩
theorem wp_tw {α : Type} {Γ : Ctx} (t : Sem α) : ∀ (Q : α → Pos → Shared → Prop) (E : Value → Pos → Shared → Prop) (p : Pos) (z s : Shared), Tw N O z s → wp M Γ t Q E p z →
    wp M Γ t (fun a p' s' => ∃ z', Tw N O z' s' ∧ Q a p' z') (fun e p' s' => ∃ z', Tw N O z' s' ∧ E e p' z') p s := by
  induction t with
  | pure a => intro Q E p z s h q; exact ⟨z, h, q⟩
  | raise e => intro Q E p z s h q; exact ⟨z, h, q⟩
  | unsupported _ => intro Q E p z s _ q; exact q
  | finish _ => intro Q E p z s _ q; exact q
  | rule _ k ih => intro Q E p z s h q; exact ih () Q E p z s h q
  | «at» p' k ih => intro Q E p z s h q; exact ih () Q E p' z s h q
  | load a _ k ih => intro Q E p z s h q; obtain ⟨o, ho, q⟩ := q; exact ⟨o, by rw [← h.heap]; exact ho, ih o Q E p z s h q⟩
  | update a _ f k ih =>
    intro Q E p z s h q
    obtain ⟨q1, q2⟩ := q
    rw [h.heap] at q1 q2
    exact ⟨q1, ih () Q E p _ _ (h.heaps _) q2⟩
  | loadIfAlive a k ih =>
    intro Q E p z s h q
    have q' : wp M Γ (k (z.heap.get? a)) Q E p z := q
    rw [h.heap] at q'
    exact ih _ Q E p z s h q'
  | point _ k ih => intro Q E p z s h q; exact ih () Q E p z s h q
  | register _ _ => intro Q E p z s _ q; exact q
  | alloc o k ih =>
    intro Q E p z s h q
    have q' : wp M Γ (k z.heap.objs.size) Q E p { z with heap := z.heap.push o } := q
    rw [h.heap] at q'
    exact ih _ Q E p _ _ (h.heaps _) q'
  | fresh k ih =>
    intro Q E p z s h q
    have q' : wp M Γ (k z.toks) Q E p { z with toks := z.toks + 1 } := q
    rw [h.toks] at q'
    exact ih _ Q E p { z with toks := s.toks + 1 } { s with toks := s.toks + 1 } ⟨h.heap, h.drawn, rfl, h.os, h.size, h.blk, h.oth, h.ng, h.lo⟩ q'
  | ask k ih => intro Q E p z s h q; exact ih _ Q E p z s h q
  | choose src m k ih =>
    intro Q E p z s h q
    obtain ⟨q1, q2⟩ := q
    rw [h.drawn] at q2
    exact ⟨q1, ih _ Q E p { z with drawn := s.drawn.bump src } { s with drawn := s.drawn.bump src } ⟨h.heap, rfl, h.toks, h.os, h.size, h.blk, h.oth, h.ng, h.lo⟩ q2⟩
  | os o _ k ih =>
    intro Q E p z s h q
    have q' : wp M Γ (k (Os.step z.os o).2) Q E p { z with os := (Os.step z.os o).1 } := q
    rw [h.os] at q'
    exact ih _ Q E p { z with os := (Os.step s.os o).1 } { s with os := (Os.step s.os o).1 } ⟨h.heap, h.drawn, h.toks, rfl, h.size, h.blk, h.oth, h.ng, h.lo⟩ q'
  | call c hd _ _ k ih =>
    intro Q E p z s h q
    obtain ⟨r, z', hr, q⟩ := q
    obtain ⟨s', a, b, _⟩ := runs_tw hr rfl s h
    exact ⟨r, s', a, ih r Q E p z' s' b q⟩
  | handled own k ih => intro Q E p z s h q; exact ih _ Q E p z s h q
  | genState g k ih =>
    intro Q E p z s h q
    obtain ⟨st, hs, q⟩ := q
    obtain ⟨y, q1, q2⟩ := h.seen hs
    refine ⟨y, q1, ?_⟩
    rw [q2]
    exact ih _ Q E p z s h q
  | newGen c k ih =>
    intro Q E p z s h q
    have q' : wp M Γ (k z.gens.size) Q E p { z with gens := z.gens.push (.fresh c) } := q
    rw [h.size] at q'
    exact ih _ Q E p _ _ h.push q'
  | resume g r _ k ih =>
    intro Q E p z s h q
    obtain ⟨res, z', hw, q⟩ := q
    obtain ⟨s', a, b⟩ := wakes_tw hw s h
    exact ⟨res, s', a, ih res Q E p z' s' b q⟩
  | yield _ _ _ _ => intro Q E p z s _ q; exact q
  | stack k ih => intro Q E p z s h q; exact ih _ Q E p z s h q
  | fork _ _ => intro Q E p z s _ q; exact q
  | thread k ih => intro Q E p z s h q; exact ih _ Q E p z s h q
  | await _ _ _ _ _ => intro Q E p z s _ q; exact q
theorem wpAny_tw {α : Type} {A : Around} {t : Sem α} {Q : α → Shared → Prop} {E : Value → Shared → Prop} {z s : Shared} (h : wpAny M A t Q E z) (tw : Tw N O z s) : wpAny M A t (fun a s' => ∃ z', Tw N O z' s' ∧ Q a z') (fun e s' => ∃ z', Tw N O z' s' ∧ E e z') s :=
  fun Γ p hΓ => wp_tw (N := N) (O := O) t _ _ p z s tw (h Γ p hΓ)
/-- all that sleeps, blocked -/
def asleep (s : Shared) : Shared := { s with gens := s.gens.map stuck }
def blkd (s : Shared) : Nat → Option GenState := fun i => match s.gens[i]? with
  | some x => if susp x = true then some x else none
  | none => none
theorem blkd_some {s : Shared} {i : Nat} {x : GenState} : blkd s i = some x ↔ s.gens[i]? = some x ∧ susp x = true := by
  unfold blkd
  constructor
  · intro h
    split at h
    · rename_i y e
      split at h
      · rename_i z; cases h; exact ⟨e, z⟩
      · cases h
    · cases h
  · rintro ⟨e, h⟩
    rw [e]
    simp [h]
theorem tw_asleep (s : Shared) : Tw s.gens.size (blkd s) (asleep s) s := by
  refine ⟨rfl, rfl, rfl, rfl, by simp [asleep], fun i x e => ?_, fun i e => ?_, fun i k l c p fs cl e q => ?_, Nat.le_refl _⟩
  · obtain ⟨h1, h2⟩ := blkd_some.mp e
    exact ⟨h2, h1, by simp [asleep, h1]⟩
  · show (s.gens.map stuck)[i]? = s.gens[i]?
    rw [Array.getElem?_map]
    cases h : s.gens[i]? with
    | none => rfl
    | some x =>
      have : susp x = false := by
        cases hx : susp x with
        | false => rfl
        | true => rw [blkd_some.mpr ⟨h, hx⟩] at e; cases e
      simp [stuck_of_not this]
  · have q' : (s.gens.map stuck)[i]? = some (.suspended k l c p fs cl) := q
    rw [Array.getElem?_map] at q'
    cases h : s.gens[i]? with
    | none => rw [h] at q'; cases q'
    | some x =>
      rw [h] at q'
      have hx : susp x = true := by
        cases x <;> first | rfl | cases q'
      rw [blkd_some.mpr ⟨h, hx⟩] at e
      cases e
/-- what sleeps is as it was -/
def Slp (s s' : Shared) : Prop := s.gens.size ≤ s'.gens.size ∧ ∀ (i : Nat) (x : GenState), s.gens[i]? = some x → susp x = true → s'.gens[i]? = some x
theorem Slp.refl (s : Shared) : Slp s s := ⟨Nat.le_refl _, fun _ _ h _ => h⟩
theorem Slp.trans {s s1 s2 : Shared} (a : Slp s s1) (b : Slp s1 s2) : Slp s s2 := ⟨Nat.le_trans a.1 b.1, fun i x h hx => b.2 i x (a.2 i x h hx) hx⟩
theorem wpAny_asleep {α : Type} {A : Around} {t : Sem α} {Q : α → Shared → Prop} {E : Value → Shared → Prop} {s : Shared} (h : wpAny M A t Q E (asleep s)) :
    wpAny M A t (fun a s' => Slp s s' ∧ ∃ z', Tw s.gens.size (blkd s) z' s' ∧ Q a z') (fun e s' => Slp s s' ∧ ∃ z', Tw s.gens.size (blkd s) z' s' ∧ E e z') s := by
  intro Γ p hΓ
  have key := wp_tw (N := s.gens.size) (O := blkd s) t _ _ p _ s (tw_asleep s) (h Γ p hΓ)
  have sl : ∀ z' s', Tw s.gens.size (blkd s) z' s' → Slp s s' := fun z' s' h => ⟨h.lo, fun i x e hx => (h.blk i x (blkd_some.mpr ⟨e, hx⟩)).2.1⟩
  exact Sem.wp_mono M Γ t (fun a _ s' ⟨z', b, c⟩ => ⟨sl _ _ b, z', b, c⟩) (fun a _ s' ⟨z', b, c⟩ => ⟨sl _ _ b, z', b, c⟩) p s key
end
end SY

set_option Elab.async false
set_option linter.all false
set_option maxRecDepth 100000
set_option maxHeartbeats 4000000
/-! Generators that only make new things, woken by whoever: what is promised at each waking. -/
namespace SY
open PySem L2 PySem.Spec PyProof.Rows GenW PySem.W.X SC

/-! ### the invariant does not look at the generators -/
section
variable {X : Cx} {pins : List (Addr × Obj)} {σ : L2.St} {H : Hp} {s z : Shared}
theorem inv_gens (I : Inv X pins σ H z) (hh : z.heap = s.heap) (ho : z.os = s.os) (hb : AllBare s.gens) : Inv X pins σ H s := by
  obtain ⟨h1, h2, h3, h4, h5, h6, h7, h8, h9, h10, h11⟩ := I
  rw [hh] at h4 h5 h6 h9 h10
  exact ⟨h1, ho ▸ h2, hb, h4, h5, h6, h7, h8, h9, h10, h11⟩
theorem asleep_bare (h : AllBare s.gens) : AllBare (asleep s).gens := fun y hy => by
  obtain ⟨x, hx, rfl⟩ := Array.mem_map.mp hy
  rw [stuck_bare]
  exact h x hx
theorem tw_bare {s' : Shared} (t : Tw s.gens.size (blkd s) z s') (h : AllBare s.gens) (hz : AllBare z.gens) : AllBare s'.gens := fun y hy => by
  obtain ⟨i, hi, e⟩ := Array.mem_iff_getElem.mp hy
  have e' : s'.gens[i]? = some y := by rw [Array.getElem?_eq_getElem hi, e]
  cases q : blkd s i with
  | none => exact hz y (Array.mem_of_getElem? (by rw [t.oth i q]; exact e'))
  | some x =>
    obtain ⟨_, b, _⟩ := t.blk i x q
    have ex : x = y := Option.some.inj (b.symm.trans e')
    rw [← ex]
    exact h x (Array.mem_of_getElem? (blkd_some.mp q).1)
theorem tw_slp {s' : Shared} (t : Tw s.gens.size (blkd s) z s') : Slp s s' := ⟨t.lo, fun i x e hx => (t.blk i x (blkd_some.mpr ⟨e, hx⟩)).2.1⟩
theorem tw_inv {s' : Shared} (t : Tw s.gens.size (blkd s) z s') (h : AllBare s.gens) (I : Inv X pins σ H z) : Inv X pins σ H s' := inv_gens I t.heap t.os (tw_bare t h I.bare)
theorem inv_asleep (I : Inv X pins σ H s) : Inv X pins σ H (asleep s) := inv_gens I rfl rfl (asleep_bare I.bare)
/-- code that is told of the invariant alone leaves what sleeps -/
theorem run_slp {α : Type} {M : Model} {A : Around} {t : Sem α} {Q Q' : α → Shared → Prop} (I : Inv X pins σ H s) (h : ∀ z, Inv X pins σ H z → z.heap = s.heap → wpAny M A t Q (fun _ _ => False) z)
    (hQ : ∀ a z s', z.heap = s'.heap → z.os = s'.os → (AllBare z.gens → AllBare s'.gens) → Q a z → Q' a s') {E : Value → Shared → Prop} : wpAny M A t (fun a s' => Slp s s' ∧ Q' a s') E s :=
  wpAny_mono (wpAny_asleep (h (asleep s) (inv_gens I rfl rfl (asleep_bare I.bare)) rfl))
    (fun a s' ⟨h1, z, h2, h3⟩ => ⟨h1, hQ a z s' h2.heap h2.os (fun hz => tw_bare h2 I.bare hz) h3⟩) fun e s' ⟨_, z, _, h3⟩ => h3.elim
theorem ep_gens {Q : VK} {u : Value} {s' : Shared} (hh : z.heap = s'.heap) (ho : z.os = s'.os) (hb : AllBare z.gens → AllBare s'.gens) (h : EP X pins σ Q u z) : EP X pins σ Q u s' := by
  obtain ⟨v, H', I, r⟩ := h
  exact ⟨v, H', inv_gens I hh ho (hb I.bare), r⟩
theorem sp_gens {D : Ends} {f : Flow} {s' : Shared} (hh : z.heap = s'.heap) (ho : z.os = s'.os) (hb : AllBare z.gens → AllBare s'.gens) (h : SP X pins D f z) : SP X pins D f s' := by
  cases f with
  | next => obtain ⟨σ', H', I, q⟩ := h; exact ⟨σ', H', inv_gens I hh ho (hb I.bare), q⟩
  | brk => obtain ⟨σ', H', I, q⟩ := h; exact ⟨σ', H', inv_gens I hh ho (hb I.bare), q⟩
  | cont => obtain ⟨σ', H', I, q⟩ := h; exact ⟨σ', H', inv_gens I hh ho (hb I.bare), q⟩
  | ret u => obtain ⟨v, σ', H', I, q⟩ := h; exact ⟨v, σ', H', inv_gens I hh ho (hb I.bare), q⟩
end

/-! ### a heap's older part -/
def cut (h : Heap) (n : Nat) : Heap := ⟨h.objs.extract 0 n, h.life⟩
theorem cut_size (h : Heap) (n : Nat) : (cut h n).objs.size = min n h.objs.size := by
  show (h.objs.extract 0 n).size = _
  rw [Array.size_extract]; omega
theorem cut_get {h : Heap} {n : Nat} {b : Addr} (hb : b < n) : (cut h n).get? b = h.get? b := by
  have e : (h.objs.extract 0 n)[b]? = h.objs[b]? := by
    have key : ∀ b : Nat, b < n → (h.objs.extract 0 n)[b]? = h.objs[b]? := fun b hb => by
      rw [Array.getElem?_extract]
      by_cases q : b < h.objs.size
      · rw [if_pos (by omega), Nat.zero_add]
      · rw [if_neg (by omega), Array.getElem?_eq_none (by omega)]
    exact key b hb
  unfold Heap.get? cut
  simp only [e]
theorem cut_lt {h : Heap} {n : Nat} {b : Addr} {o : Obj} (e : (cut h n).get? b = some o) : b < n := by
  have := Heap.lt_size e
  rw [cut_size] at this
  exact Nat.lt_of_lt_of_le this (Nat.min_le_left _ _)
theorem of_cut {h : Heap} {n : Nat} {b : Addr} {o : Obj} (e : (cut h n).get? b = some o) : h.get? b = some o := by
  rw [← cut_get (cut_lt e)]; exact e
theorem cut_funs {h base : Heap} {n : Nat} : ∀ {l : List Env}, h.FunFrames base l → (∀ b ∈ frs l, b < n) → (cut h n).FunFrames base l
  | [], _, _ => trivial
  | env :: r, hl, hn => by
    obtain ⟨hk, ⟨L, o, hf, hb, ho, hd⟩, hr⟩ := hl
    have hL : L < n := hn L (by unfold frs; rw [List.filterMap_cons, hf]; exact List.mem_cons_self)
    refine ⟨hk, ⟨L, o, hf, hb, by rw [cut_get hL]; exact ho, hd⟩, cut_funs hr fun b q => hn b ?_⟩
    unfold frs
    rw [List.filterMap_cons, hf]
    exact List.mem_cons_of_mem _ q

/-! ### segments -/
section
variable {P : Program} {w : World} {A : Around} {c : Code} {fs : List Frame} {s : Shared} {R : End → Shared → Prop}
theorem sx_wrap {α : Type} {m : Sem α} {K : α → Sem PySem.Fin} {J : Value → Sem PySem.Fin} {gd : Bool → Bool} {lv : List Value → List Value}
    (h : wpAny (model P w) (A.over c fs) m (fun a s' => SegX (model P w) A c (K a) fs s' R) (fun _ _ => False) s) : SegX (model P w) A c (m.wrap K J gd lv) fs s R := by
  rintro Γ p rfl hΓ
  obtain ⟨e, s', hr, hq⟩ := runs_wrap_of_wp (Φ := fun e s' => e.quiet = true ∧ R e s') K J gd lv m (h (Γ.over fs) p (hΓ.over fs)) (fun a p' s' h' => h' Γ p' rfl hΓ) (fun x p' s' h' => h'.elim)
  exact ⟨e, s', hr, hq⟩
theorem sx_bindw {α β : Type} {m : Sem α} {f : α → Sem β} {K : β → Sem PySem.Fin} {J : Value → Sem PySem.Fin} {gd : Bool → Bool} {lv : List Value → List Value}
    (h : wpAny (model P w) (A.over c fs) m (fun a s' => SegX (model P w) A c ((f a).wrap K J gd lv) fs s' R) (fun _ _ => False) s) : SegX (model P w) A c ((m >>= f).wrap K J gd lv) fs s R := by
  rw [Sem.bind_eq_wrap', Sem.wrap_wrap]
  exact sx_wrap h
end

/-! ### a generator that was made -/
structure Gn where
  P : Program
  w : World
  K : PySem.W.Frag
  mg : Str → Option Value
  base : Heap
  N : List Str
  env : Env
  outer : List Env
  k : Nat
  a : Addr
  g : Nat
  go : Obj
  /-- the cells of its frame, by their slots, and what they hold all the time -/
  cs : List (Addr × Nat × V)
  n : Nat
  item : Nat → V → Hp → Prop
def cellX (c : Addr) (v : V) : HO := .ext fun h => ∃ u, h.IsCell c (some u) ∧ RelV v u
def Gn.cel (G : Gn) (b : Addr) : Option (Nat × V) := G.cs.lookup b
/-- its own view; the view of the others while it sleeps -/
def Gn.hid (G : Gn) (H : Hp) : Hp := fun b => match G.cel b with
  | some _ => none
  | none => H b
def Gn.shw (G : Gn) (H : Hp) : Hp := fun b => match G.cel b with
  | some q => some (cellX b q.2)
  | none => H b
/-- the cells stand in H -/
def Gn.has (G : Gn) (H : Hp) : Prop := ∀ b q, G.cel b = some q → H b = some (cellX b q.2)
/-- the slots of the cells are as at the start -/
def Gn.cok (G : Gn) (σ : L2.St) : Prop := ∀ b q, G.cel b = some q → σ[q.1]? = some (some q.2)
def Gn.cx (G : Gn) (A : Around) (s : Shared) (H : Hp) (pn : List (Addr × Obj)) : Cx where
  prog := G.P
  w := G.w
  K := G.K
  mg := G.mg
  base := G.base
  A := A.deeper G.env
  N := G.N
  s_0 := { s with heap := cut s.heap G.env.locals }
  H_0 := H
  env := G.env
  outer := G.outer
  stack := G.env :: G.outer
  ex := []
  fn := fun _ => true
  calm := true
  pn := pn ++ [(G.a, G.go)]
  xe := fun _ _ => False
structure Gn.Ok (G : Gn) : Prop where
  kind : G.env.scope.kind = .function
  glob : G.env.globals = mainGlobals
  blt : G.env.builtins = builtinsNs
  frame : G.env.frame = some G.env.locals
  inj : ∀ x y c, G.env.cells.lookup x = some c → G.env.cells.lookup y = some c → x = y
  hasc : ∀ x, (G.env.kindOf x = some .cell ∨ G.env.kindOf x = some .free) → ∃ c, G.env.cells.lookup x = some c
  above : ∀ x c, G.env.cells.lookup x = some c → G.env.locals < c
  celx : ∀ x c, G.env.cells.lookup x = some c → G.env.kindOf x = some .cell ∧ ∃ i v, G.cel c = some (i, v) ∧ G.N[i]? = some x
  xcel : ∀ c q, G.cel c = some q → ∃ x, G.env.cells.lookup x = some c ∧ G.N[q.1]? = some x
  nd : G.N.Nodup
  mod : Mod G.K G.mg G.base
  bsz : G.base.objs.size ≤ G.env.locals
  frl : ∀ b ∈ frs G.outer, b < G.env.locals
  la : G.env.locals < G.a
  ac : G.cel G.a = none
  gen : ∃ nm qn, G.go.cls = .type "generator" ∧ G.go.data = .fields #[.int G.g 0, nm, qn] ∧ G.go.slots = #[]
  mono : ∀ i x H H', Same H H' → G.item i x H → G.item i x H'
section
variable {G : Gn}
theorem hid_at {H : Hp} {b : Addr} (h : G.cel b = none) : G.hid H b = H b := by unfold Gn.hid; rw [h]
theorem shw_at {H : Hp} {b : Addr} (h : G.cel b = none) : G.shw H b = H b := by unfold Gn.shw; rw [h]
theorem hid_no {H : Hp} {b : Addr} {q : Nat × V} (h : G.cel b = some q) : G.hid H b = none := by unfold Gn.hid; rw [h]
theorem shw_is {H : Hp} {b : Addr} {q : Nat × V} (h : G.cel b = some q) : G.shw H b = some (cellX b q.2) := by unfold Gn.shw; rw [h]
theorem hid_sub (H : Hp) : Same (G.hid H) H := fun b o e => by
  cases h : G.cel b with
  | none => rw [hid_at h] at e; exact e
  | some q => rw [hid_no h] at e; cases e
theorem hid_none {H : Hp} {b : Addr} (h : H b = none) : G.hid H b = none := by
  cases e : G.cel b with
  | none => rw [hid_at e]; exact h
  | some q => exact hid_no e
theorem has_shw (H : Hp) : G.has (G.shw H) := fun b q h => shw_is h
theorem same_hid {H H' : Hp} (h : Same H H') : Same (G.hid H) (G.hid H') := fun b o e => by
  cases q : G.cel b with
  | none => rw [hid_at q] at e ⊢; exact h b o e
  | some z => rw [hid_no q] at e; cases e
/-- a heap that the generator has, within what the others have -/
theorem same_of_shw {Hg H : Hp} (h : Same (G.shw Hg) H) (hn : ∀ b q, G.cel b = some q → Hg b = none) : Same Hg (G.hid H) := fun b o e => by
  cases q : G.cel b with
  | none => rw [hid_at q]; exact h b o (by rw [shw_at q]; exact e)
  | some z => rw [hn b z q] at e; cases e
theorem same_shw {H H1 : Hp} (hc : G.has H) (h : Same (G.hid H) H1) : Same H (G.shw H1) := fun b o e => by
  cases q : G.cel b with
  | none => rw [shw_at q]; exact h b o (by rw [hid_at q]; exact e)
  | some z => rw [shw_is q, ← hc b z q]; exact e
theorem shw_mono {H H1 : Hp} (h : Same H H1) : Same (G.shw H) (G.shw H1) := fun b o e => by
  cases q : G.cel b with
  | none => rw [shw_at q] at e ⊢; exact h b o e
  | some z => rw [shw_is q] at e ⊢; exact e
theorem hok_hid {P : Program} {w : World} {H : Hp} {h : Heap} (hc : G.has H) (ok : HOk P w H h) : HOk P w (G.hid H) h := fun b o e => by
  have e' := hid_sub H b o e
  refine (ok b o e').stay (fun _ _ _ z => z) (fun d z => ?_) fun d xs z => ?_
  · cases q : G.cel d with
    | none => rw [hid_at q]; exact z
    | some y => rw [hc d y q] at z; cases z
  · cases q : G.cel d with
    | none => rw [hid_at q]; exact z
    | some y => rw [hc d y q] at z; cases z
end

/-! ### what is given at a waking, what is promised -/
structure Adm (G : Gn) (Hg : Hp) (fp : List (Addr × Obj)) (gp : List (Nat × GenState)) (A : Around) (s : Shared) (H : Hp) (pn : List (Addr × Obj)) : Prop where
  e0 : Env0 G.P G.w G.K G.mg G.base A G.outer s H
  room : Room G.k A
  rely : Same Hg H
  has : G.has Hg
  fps : ∀ p ∈ fp, s.heap.get? p.1 = some p.2 ∧ H p.1 = none
  gps : ∀ q ∈ gp, s.gens[q.1]? = some q.2
  gsz : G.g < s.gens.size
  pns : ∀ p ∈ pn, s.heap.get? p.1 = some p.2 ∧ H p.1 = none ∧ p.1 ∉ frs G.outer ∧ (∀ v, p.2.data ≠ .cell v) ∧ ∀ q ∈ fp, p.1 ≠ q.1
structure Res (G : Gn) (s : Shared) (H : Hp) (pn : List (Addr × Obj)) (s1 : Shared) (H1 : Hp) : Prop where
  os : s1.os = s.os
  bare : AllBare s1.gens
  hok : HOk G.P G.w H1 s1.heap
  keep : ∀ b o, b < G.env.locals → s.heap.get? b = some o → H b = none → b ∉ frs G.outer → s1.heap.get? b = some o
  slot : ∀ b o, b < G.env.locals → s.heap.get? b = some o → H b = none → b ∈ frs G.outer → ∃ sl, s1.heap.get? b = some { o with slots := sl }
  free : ∀ b o, b < G.env.locals → s.heap.get? b = some o → H b = none → H1 b = none
  there : ∀ b o, b < G.env.locals → s.heap.get? b = some o → ∃ o', s1.heap.get? b = some o'
  same : Same H H1
  pins : ∀ p ∈ pn, s1.heap.get? p.1 = some p.2 ∧ H1 p.1 = none
/-- what the generator keeps for itself while it sleeps -/
structure Prv (G : Gn) (s1 : Shared) (H1 : Hp) (pn fp : List (Addr × Obj)) (gp : List (Nat × GenState)) : Prop where
  fps : ∀ p ∈ fp, s1.heap.get? p.1 = some p.2 ∧ H1 p.1 = none ∧ G.env.locals ≤ p.1 ∧ (∀ v, p.2.data ≠ .cell v) ∧ ∀ q ∈ pn, p.1 ≠ q.1
  ga : (G.a, G.go) ∈ fp
  gps : ∀ q ∈ gp, s1.gens[q.1]? = some q.2 ∧ susp q.2 = true ∧ G.g < q.1
def Wk (M : Model) (gs : GenState) (A : Around) (s : Shared) (R : End → Shared → Prop) : Prop := match gs with
  | .fresh c => SegX M A c (M.den c) [] s R
  | .suspended k _ c _ fs _ => SegX M A c (k (.send .none)) fs s R
  | _ => False
def RdyP (G : Gn) : Nat → Nat → Hp → Shared → Hp → List (Addr × Obj) → End → Shared → Prop
  | 0, _, _, s, H, pn, e, s1 => e = .ret (.ok (.ret .none)) ∧ ∃ H1, Res G s H pn s1 H1
  | m + 1, i, Hg, s, H, pn, e, s1 => ∃ v x H1 Hg1 fp1 gp1, e.result = .yielded v ∧ RelV x v ∧ Res G s H pn s1 H1 ∧ G.item i x H1 ∧ Same Hg1 H1 ∧ G.has Hg1 ∧ (∀ b o, Hg1 b = some o → Hg b = some o ∨ H b = none) ∧ Prv G s1 H1 pn fp1 gp1 ∧
      ∀ A s2 H2 pn2, Adm G Hg1 fp1 gp1 A s2 H2 pn2 → Wk (model G.P G.w) e.genState A s2 (RdyP G m (i + 1) Hg1 s2 H2 pn2)
def Rdy (G : Gn) (i : Nat) (Hg : Hp) (fp : List (Addr × Obj)) (gp : List (Nat × GenState)) (gs : GenState) : Prop :=
  ∀ A s H pn, Adm G Hg fp gp A s H pn → Wk (model G.P G.w) gs A s (RdyP G (G.n - i) i Hg s H pn)

/-! ### within the generator -/
structure Wd where
  A : Around
  s : Shared
  H : Hp
  pn : List (Addr × Obj)
  Hg : Hp
abbrev Gn.at (G : Gn) (ω : Wd) : Cx := G.cx ω.A ω.s (G.hid ω.H) ω.pn
structure WdOk (G : Gn) (ω : Wd) : Prop where
  e0 : Env0 G.P G.w G.K G.mg G.base ω.A G.outer ω.s ω.H
  room : Room G.k ω.A
  rely : Same ω.Hg ω.H
  has : G.has ω.Hg
  pn : ∀ p ∈ ω.pn, ω.H p.1 = none
  wl : G.env.locals < ω.s.heap.objs.size
structure GIv (G : Gn) (ω : Wd) (ip : List (Addr × Obj)) (gp : List (Nat × GenState)) (σ : L2.St) (H : Hp) (s : Shared) : Prop where
  inv : Inv (G.at ω) ip σ H s
  gens : ∀ q ∈ gp, s.gens[q.1]? = some q.2 ∧ susp q.2 = true ∧ G.g < q.1
  dis : ∀ p ∈ ω.pn, (∀ q ∈ ip, p.1 ≠ q.1) ∧ p.1 ≠ G.a
  ge : ∀ q ∈ ip, G.env.locals ≤ q.1
  gsz : G.g < s.gens.size
/-- by the rely, the heap at the waking, the number of what is out, the slots, the heap -/
abbrev GK := Hp → Hp → Nat → L2.St → Hp → Prop
structure GD where
  nx : GK
  bk : GK := fun _ _ _ _ _ => False
  ct : GK := fun _ _ _ _ _ => False
abbrev TY := GD → GK
def GD.at (D : GD) : Flow → GK
  | .next => D.nx
  | .brk => D.bk
  | .cont => D.ct
  | .ret _ => fun _ _ _ _ _ => False
structure GCn (G : Gn) (c : Code) (fs : List Frame) (gd : Bool → Bool) : Prop where
  over : ∀ A : Around, A.over c fs = A.deeper G.env
  split : splitAtGen fs = none
  guard : fs.any Frame.guarded = false
  gd : gd false = false
/-- what a segment has to reach -/
abbrev Gn.goal (G : Gn) (ω : Wd) (i : Nat) : End → Shared → Prop := RdyP G (G.n - i) i ω.Hg ω.s ω.H ω.pn
def GCont (G : Gn) (ip : List (Addr × Obj)) (gp : List (Nat × GenState)) (c : Code) (fs : List Frame) (K : Flow → Sem PySem.Fin) (D : GD) : Prop :=
  ∀ (ω : Wd) (s : Shared) (σ : L2.St) (H : Hp) (i : Nat) (f : Flow), WdOk G ω → GIv G ω ip gp σ H s → D.at f (G.hid ω.Hg) (G.hid ω.H) i σ H → SegX (model G.P G.w) ω.A c (K f) fs s (G.goal ω i)
/-- fl: only where no other generator sleeps within -/
structure GS (G : Gn) (fl : Bool) (st : Stmt) (t : TY) : Prop where
  run : ∀ (ω : Wd) (ip : List (Addr × Obj)) (gp : List (Nat × GenState)) (c : Code) (fs : List Frame) (K : Flow → Sem PySem.Fin) (J : Value → Sem PySem.Fin) (gd : Bool → Bool) (lv : List Value → List Value) (s : Shared) (σ : L2.St) (H : Hp) (i : Nat) (D : GD),
    (fl = true → gp = []) → GCn G c fs gd → WdOk G ω → GIv G ω ip gp σ H s → t D (G.hid ω.Hg) (G.hid ω.H) i σ H → GCont G ip gp c fs K D → SegX (model G.P G.w) ω.A c ((exec st G.env).wrap K J gd lv) fs s (G.goal ω i)
structure GSs (G : Gn) (fl : Bool) (st : List Stmt) (t : TY) : Prop where
  run : ∀ (ω : Wd) (ip : List (Addr × Obj)) (gp : List (Nat × GenState)) (c : Code) (fs : List Frame) (K : Flow → Sem PySem.Fin) (J : Value → Sem PySem.Fin) (gd : Bool → Bool) (lv : List Value → List Value) (s : Shared) (σ : L2.St) (H : Hp) (i : Nat) (D : GD),
    (fl = true → gp = []) → GCn G c fs gd → WdOk G ω → GIv G ω ip gp σ H s → t D (G.hid ω.Hg) (G.hid ω.H) i σ H → GCont G ip gp c fs K D → SegX (model G.P G.w) ω.A c ((execs st G.env).wrap K J gd lv) fs s (G.goal ω i)
end SY

set_option Elab.async false
set_option linter.all false
set_option maxRecDepth 100000
set_option maxHeartbeats 4000000
/-! Generators: falling asleep, waking; the statements of a generator's body. -/
namespace SY
open PySem L2 PySem.Spec PyProof.Rows GenW PySem.W.X SC
section
variable {G : Gn} {ω : Wd} {ip pn : List (Addr × Obj)} {gp : List (Nat × GenState)} {σ : L2.St} {H Hg : Hp} {s : Shared}
/-- what a sleeping generator leans on, whenever it wakes -/
structure Asl (G : Gn) (ip : List (Addr × Obj)) (gp : List (Nat × GenState)) (σ : L2.St) (oL : Obj) : Prop where
  ns : ∃ m, (∀ h : Heap, h.get? G.env.locals = some oL → h.Ns G.env.locals m) ∧ ∀ (i : Nat) (x : Str) (v : V), G.N[i]? = some x → σ[i]? = some (some v) → Vis G.env.scope x → (G.env.kindOf x = some .local ∧ ∃ u, RelV v u ∧ m x = some u) ∨ ((G.env.kindOf x = some .cell ∨ G.env.kindOf x = some .free) ∧ ∃ c, G.env.cells.lookup x = some c)
  dl : ∀ v, oL.data ≠ .cell v
  cok : G.cok σ
  len : σ.length = G.N.length
  ips : ∀ p ∈ ip, p.1 ≠ G.env.locals ∧ G.env.locals ≤ p.1 ∧ ∀ v, p.2.data ≠ .cell v
  gps : ∀ q ∈ gp, susp q.2 = true ∧ G.g < q.1
abbrev Gn.fp (G : Gn) (oL : Obj) (ip : List (Addr × Obj)) : List (Addr × Obj) := (G.env.locals, oL) :: (G.a, G.go) :: ip
theorem cel_above (ok : G.Ok) {b : Addr} {q : Nat × V} (h : G.cel b = some q) : G.env.locals < b := by
  obtain ⟨x, h1, _⟩ := ok.xcel b q h
  exact ok.above x b h1
theorem cel_old (ok : G.Ok) {b : Addr} (h : b ≤ G.env.locals) : G.cel b = none := by
  cases e : G.cel b with
  | none => rfl
  | some q => exact absurd (Nat.lt_of_lt_of_le (cel_above ok e) h) (Nat.lt_irrefl _)
theorem GIv.asl (ok : G.Ok) (I : GIv G ω ip gp σ H s) (hc : G.cok σ) : ∃ oL, s.heap.get? G.env.locals = some oL ∧ Asl G ip gp σ oL := by
  obtain ⟨m, ⟨oL, es, ep, ho, hd, hr⟩, hl⟩ := I.inv.loc
  refine ⟨oL, ho, ⟨m, fun h e => ⟨oL, es, ep, e, hd, hr⟩, fun i x v h1 h2 h3 => ?_⟩, fun v z => (by rw [hd] at z; cases z), hc, I.inv.len, fun p hp => ?_, fun q hq => ⟨(I.gens q hq).2.1, (I.gens q hq).2.2⟩⟩
  · obtain ⟨u, r, l⟩ := hl i x v h1 h2 h3
    rcases l with ⟨k, l⟩ | ⟨k, c, e, _⟩
    · exact .inl ⟨k, u, r, l⟩
    · exact .inr ⟨k, c, e⟩
  · obtain ⟨_, _, h3, _, h5⟩ := I.inv.pin p (List.mem_append_right _ hp)
    exact ⟨h3, I.ge p hp, h5⟩
theorem Adm.wd {oL : Obj} {A : Around} (h : Adm G Hg (G.fp oL ip) gp A s H pn) : WdOk G ⟨A, s, H, pn, Hg⟩ := ⟨h.e0, h.room, h.rely, h.has, fun p hp => (h.pns p hp).2.1, Heap.lt_size (h.fps _ List.mem_cons_self).1⟩
theorem cellX_ok {P : Program} {w : World} {h : Heap} {c : Addr} {v : V} {H : Hp} (x : ObjOk P w H h c (cellX c v)) : ∃ u, h.IsCell c (some u) ∧ RelV v u := x.1
theorem cellX_mk {P : Program} {w : World} {h : Heap} {c : Addr} {v : V} {u : Value} {H : Hp} (h1 : h.IsCell c (some u)) (h2 : RelV v u) : ObjOk P w H h c (cellX c v) := by
  obtain ⟨o, ho, hd⟩ := h1
  refine ⟨⟨u, ⟨o, ho, hd⟩, h2⟩, ⟨o, ho⟩, fun a b ⟨u', ⟨o', ho', hd'⟩, r⟩ k => ⟨u', ⟨o', k _ ho', hd'⟩, r⟩⟩
theorem wake (ok : G.Ok) {oL : Obj} {A : Around} (a : Asl G ip gp σ oL) (h : Adm G Hg (G.fp oL ip) gp A s H pn) : GIv G ⟨A, s, H, pn, Hg⟩ ip gp σ (G.hid H) s := by
  have hcH : G.has H := fun b q e => h.rely _ _ (h.has b q e)
  have fL := h.fps (G.env.locals, oL) List.mem_cons_self
  have fA := h.fps (G.a, G.go) (List.mem_cons_of_mem _ List.mem_cons_self)
  have fI : ∀ p ∈ ip, s.heap.get? p.1 = some p.2 ∧ H p.1 = none := fun p hp => h.fps p (List.mem_cons_of_mem _ (List.mem_cons_of_mem _ hp))
  have hL : G.env.locals < s.heap.objs.size := Heap.lt_size fL.1
  have csz : (cut s.heap G.env.locals).objs.size = G.env.locals := by rw [cut_size]; exact Nat.min_eq_left (Nat.le_of_lt hL)
  have cell : ∀ x c, G.env.cells.lookup x = some c → ∃ i v u, G.N[i]? = some x ∧ σ[i]? = some (some v) ∧ s.heap.IsCell c (some u) ∧ RelV v u := fun x c e => by
    obtain ⟨_, i, v, h1, h2⟩ := ok.celx x c e
    obtain ⟨u, h3, h4⟩ := cellX_ok (h.e0.hok c _ (hcH c _ h1))
    exact ⟨i, v, u, h2, a.cok c _ h1, h3, h4⟩
  have frL : ∀ b, G.env.locals ≤ b → b ∉ frs G.outer := fun b hb hm => absurd (Nat.lt_of_lt_of_le (ok.frl b hm) hb) (Nat.lt_irrefl _)
  obtain ⟨m, hns, hlk⟩ := a.ns
  refine ⟨⟨⟨ok.mod, ok.kind, ok.glob, ok.blt, ?_, ok.inj, ok.hasc, fun x c _ e => ?_, fun _ => h.room.hd, Around.frames_deeper h.e0.frames, .inr ⟨rfl, ok.frame⟩, fun b hb => absurd (show b ∈ ([] : List Addr) from hb) (by simp), fun b o e => ?_, ?_,
      fun b o _ hb => absurd (show b ∈ ([] : List Addr) from hb) (by simp), fun b hb => absurd (show b ∈ ([] : List Addr) from hb) (by simp), cut_funs h.e0.funs ok.frl, fun b hb => hid_none (h.e0.frf b hb)⟩, rfl, h.e0.bare, Un.kept fun b o e => of_cut e, ?_, fun x c e => ?_, ?_, fun x c e => ?_, fun p hp => ?_, hok_hid hcH h.e0.hok, a.len⟩, fun q hq => ?_, fun p hp => ?_, fun q hq => (a.ips q hq).2.1, h.gsz⟩
  · show (cut s.heap G.env.locals).objs.size ≤ _
    rw [csz]; exact Nat.le_refl _
  · show (cut s.heap G.env.locals).objs.size ≤ c
    rw [csz]; exact Nat.le_of_lt (ok.above x c e)
  · refine ⟨?_, hid_none (h.e0.bs b o e).2⟩
    show (cut s.heap G.env.locals).get? b = some o
    rw [cut_get (Nat.lt_of_lt_of_le (Heap.lt_size e) ok.bsz)]
    exact (h.e0.bs b o e).1
  · show G.base.objs.size ≤ (cut s.heap G.env.locals).objs.size
    rw [csz]; exact ok.bsz
  · refine ⟨m, hns _ fL.1, fun i x v h1 h2 h3 => ?_⟩
    rcases hlk i x v h1 h2 h3 with ⟨k, u, r, e⟩ | ⟨k, c, e⟩
    · exact ⟨u, r, .inl ⟨k, e⟩⟩
    · obtain ⟨i', v', u, q1, q2, q3, q4⟩ := cell x c e
      have ei : i = i' := (List.getElem?_inj (List.getElem?_eq_some_iff.mp h1).1 ok.nd).mp (h1.trans q1.symm)
      subst ei
      rw [h2] at q2
      cases q2
      exact ⟨u, q4, .inr ⟨k, c, e, q3⟩⟩
  · obtain ⟨_, _, u, _, _, q3, _⟩ := cell x c e
    exact ⟨_, q3⟩
  · exact hid_none fL.2
  · obtain ⟨_, i, v, h1, _⟩ := ok.celx x c e
    exact hid_no h1
  · rcases List.mem_append.mp hp with hp | hp
    · rcases List.mem_append.mp (show p ∈ pn ++ [(G.a, G.go)] from hp) with hp | hp
      · obtain ⟨q1, q2, q3, q4, q5⟩ := h.pns p hp
        exact ⟨q1, hid_none q2, q5 _ List.mem_cons_self, q3, q4⟩
      · rw [List.mem_singleton.mp hp]
        obtain ⟨nm, qn, _, gd, _⟩ := ok.gen
        exact ⟨fA.1, hid_none fA.2, Nat.ne_of_gt ok.la, frL _ (Nat.le_of_lt ok.la), fun v z => by rw [gd] at z; cases z⟩
    · obtain ⟨q1, q2, q3⟩ := a.ips p hp
      exact ⟨(fI p hp).1, hid_none (fI p hp).2, q1, frL _ q2, q3⟩
  · exact ⟨h.gps q hq, a.gps q hq⟩
  · obtain ⟨_, _, _, _, q5⟩ := h.pns p hp
    exact ⟨fun q hq => q5 q (List.mem_cons_of_mem _ (List.mem_cons_of_mem _ hq)), q5 _ (List.mem_cons_of_mem _ List.mem_cons_self)⟩
/-- what a segment has kept -/
theorem GIv.res (ok : G.Ok) (wd : WdOk G ω) (I : GIv G ω ip gp σ H s) (hc : G.cok σ) (hs : Same (G.hid ω.H) H) : Res G ω.s ω.H ω.pn s (G.shw H) := by
  have hcH : G.has ω.H := fun b q e => wd.rely _ _ (wd.has b q e)
  have nocel : ∀ b, ω.H b = none → G.cel b = none := fun b hb => by
    cases e : G.cel b with
    | none => rfl
    | some q => rw [hcH b q e] at hb; cases hb
  have untr : ∀ b q, G.cel b = some q → H b = none := fun b q e => by
    obtain ⟨x, h1, _⟩ := ok.xcel b q e
    exact I.inv.freeC x b h1
  have nex : ∀ b : Addr, b ∉ (G.at ω).ex := fun b hb => absurd (show b ∈ ([] : List Addr) from hb) (by simp)
  refine ⟨I.inv.os, I.inv.bare, fun b o e => ?_, fun b o h1 h2 h3 h4 => ?_, fun b o h1 h2 h3 h4 => ?_, fun b o h1 h2 h3 => ?_, fun b o h1 h2 => ?_, same_shw hcH hs, fun p hp => ?_⟩
  · cases q : G.cel b with
    | none =>
      rw [shw_at q] at e
      refine (I.inv.hok b o e).stay (fun _ _ _ z => z) (fun d z => ?_) fun d xs z => ?_
      · cases y : G.cel d with
        | none => rw [shw_at y]; exact z
        | some t => rw [untr d t y] at z; cases z
      · cases y : G.cel d with
        | none => rw [shw_at y]; exact z
        | some t => rw [untr d t y] at z; cases z
    | some t =>
      rw [shw_is q] at e
      cases e
      obtain ⟨x, h1, h2⟩ := ok.xcel b t q
      obtain ⟨m, _, hl⟩ := I.inv.loc
      have hk := (ok.celx x b h1).1
      obtain ⟨u, r, l⟩ := hl t.1 x t.2 h2 (hc b t q) (.inr (.inl hk))
      rcases l with ⟨k, _⟩ | ⟨_, c, e, z⟩
      · have hk' : (G.at ω).env.kindOf x = some .cell := hk
        rw [hk'] at k; cases k
      · have e' : G.env.cells.lookup x = some c := e
        rw [h1] at e'; cases e'
        exact cellX_mk z r
  · exact I.inv.base.keep b o (by show (cut _ _).get? b = _; rw [cut_get h1]; exact h2) (hid_none h3) h4 (nex b)
  · exact I.inv.base.slot b o (by show (cut _ _).get? b = _; rw [cut_get h1]; exact h2) (hid_none h3) h4 (nex b)
  · rw [shw_at (nocel b h3)]
    exact I.inv.base.free b o (by show (cut _ _).get? b = _; rw [cut_get h1]; exact h2) (hid_none h3) (nex b)
  · exact I.inv.base.there b o (by show (cut _ _).get? b = _; rw [cut_get h1]; exact h2) (nex b)
  · obtain ⟨q1, q2, _⟩ := I.inv.pin p (List.mem_append_left _ (List.mem_append_left _ hp))
    exact ⟨q1, by rw [shw_at (nocel p.1 (wd.pn p hp))]; exact q2⟩
theorem GIv.prv (ok : G.Ok) (I : GIv G ω ip gp σ H s) {oL : Obj} (ho : s.heap.get? G.env.locals = some oL) (a : Asl G ip gp σ oL) : Prv G s (G.shw H) ω.pn (G.fp oL ip) gp := by
  obtain ⟨nm, qn, _, gd, _⟩ := ok.gen
  refine ⟨fun p hp => ?_, List.mem_cons_of_mem _ List.mem_cons_self, fun q hq => I.gens q hq⟩
  rcases List.mem_cons.mp hp with rfl | hp
  · refine ⟨ho, by rw [shw_at (cel_old ok (Nat.le_refl _))]; exact I.inv.free, Nat.le_refl _, a.dl, fun q hq z => ?_⟩
    exact (I.inv.pin q (List.mem_append_left _ (List.mem_append_left _ hq))).2.2.1 z.symm
  · rcases List.mem_cons.mp hp with rfl | hp
    · obtain ⟨q1, q2, _⟩ := I.inv.pin (G.a, G.go) (List.mem_append_left _ (List.mem_append_right _ (List.mem_singleton.mpr rfl)))
      exact ⟨q1, by rw [shw_at ok.ac]; exact q2, Nat.le_of_lt ok.la, fun v z => (by rw [gd] at z; cases z), fun q hq z => (I.dis q hq).2 z.symm⟩
    · obtain ⟨q1, q2, q3, q4, q5⟩ := I.inv.pin p (List.mem_append_right _ hp)
      refine ⟨q1, ?_, I.ge p hp, q5, fun q hq z => (I.dis q hq).1 p hp z.symm⟩
      cases e : G.cel p.1 with
      | none => rw [shw_at e]; exact q2
      | some t =>
        obtain ⟨x, h1, _⟩ := ok.xcel p.1 t e
        obtain ⟨v, o, ho', hd⟩ := I.inv.cell x p.1 h1
        rw [q1] at ho'; cases ho'
        exact absurd hd (q5 v)
end

/-! ### statements -/
section
variable {G : Gn} {fl : Bool} {st : Stmt} {rest : List Stmt}
def tyPlain (t : TS) : TY := fun D Hg Hw i σ H => t { nx := D.nx Hg Hw i, rt := fun _ _ => False, bk := D.bk Hg Hw i, ct := D.ct Hg Hw i } σ H
theorem GIv.next {ω : Wd} {ip : List (Addr × Obj)} {gp : List (Nat × GenState)} {σ σ' : L2.St} {H H' : Hp} {s s' : Shared} (I : GIv G ω ip gp σ H s) (sl : Slp s s') (J : Inv (G.at ω) ip σ' H' s') : GIv G ω ip gp σ' H' s' :=
  ⟨J, fun q hq => ⟨sl.2 _ _ (I.gens q hq).1 (I.gens q hq).2.1, (I.gens q hq).2⟩, I.dis, I.ge, Nat.lt_of_lt_of_le I.gsz sl.1⟩
theorem gs_ps {t : TS} (h : ∀ ω, WdOk G ω → PS (G.at ω) st t) : GS G fl st (tyPlain t) := by
  refine ⟨fun ω ip gp c fs K J gd lv s σ H i D hfl g wd I ht k => sx_wrap ?_⟩
  rw [g.over]
  refine wpAny_mono (run_slp (Q' := SP (G.at ω) ip { nx := D.nx (G.hid ω.Hg) (G.hid ω.H) i, rt := fun _ _ => False, bk := D.bk (G.hid ω.Hg) (G.hid ω.H) i, ct := D.ct (G.hid ω.Hg) (G.hid ω.H) i }) I.inv (fun z Iz _ => (h ω wd).run ip z σ H _ Iz ht) (fun a z s' h1 h2 h3 h4 => sp_gens h1 h2 h3 h4)) (fun f s' ⟨sl, hs⟩ => ?_) fun _ _ x => x
  cases f with
  | next => obtain ⟨σ', H', I', q⟩ := hs; exact k ω s' σ' H' i .next wd (I.next sl I') q
  | brk => obtain ⟨σ', H', I', q⟩ := hs; exact k ω s' σ' H' i .brk wd (I.next sl I') q
  | cont => obtain ⟨σ', H', I', q⟩ := hs; exact k ω s' σ' H' i .cont wd (I.next sl I') q
  | ret u => obtain ⟨_, _, _, _, _, q⟩ := hs; exact q.elim
def tyNil : TY := fun D Hg Hw i σ H => D.nx Hg Hw i σ H
theorem gss_nil : GSs G fl [] tyNil := ⟨fun ω ip gp c fs K J gd lv s σ H i D hfl g wd I ht k => k ω s σ H i .next wd I ht⟩
def tyThen (t u : TY) : TY := fun D Hg Hw i σ H => t { D with nx := fun a b j σ' H' => u D a b j σ' H' } Hg Hw i σ H
theorem gss_cons {t u : TY} (a : GS G fl st t) (b : GSs G fl rest u) : GSs G fl (st :: rest) (tyThen t u) := by
  refine ⟨fun ω ip gp c fs K J gd lv s σ H i D hfl g wd I ht k => ?_⟩
  rw [execs_cons_wrap]
  refine a.run ω ip gp c fs _ J gd lv s σ H i _ hfl g wd I ht fun ω' s' σ' H' i' f wd' I' q => ?_
  cases f with
  | next => exact b.run ω' ip gp c fs K J gd lv s' σ' H' i' D hfl g wd' I' q k
  | brk => exact k ω' s' σ' H' i' .brk wd' I' q
  | cont => exact k ω' s' σ' H' i' .cont wd' I' q
  | ret u => exact q.elim
/-! ### yield -/
def tyYield (G : Gn) (te : TE) : TY := fun D Hg Hw i σ H => te σ H fun x H1 => i < G.n ∧ G.cok σ ∧ Same Hw H1 ∧ G.item i x H1 ∧
  ∃ Hg', Same Hg' H1 ∧ (∀ b o, Hg' b = some o → Hg b = some o ∨ Hw b = none) ∧ ∀ H2, Same Hg' H2 → D.nx Hg' H2 (i + 1) σ H2
theorem gs_yield {e : Expr} {te : TE} {yp pos : Pos} (ok : G.Ok) (he : ∀ ω, WdOk G ω → PE (G.at ω) e te) (hco : G.env.scope.isCoroutine = false := by rfl) (hi : interactive G.env = false := by rfl) : GS G fl (.Expr (.Yield (some e) yp) pos) (tyYield G te) := by
  refine ⟨fun ω ip gp c fs K J gd lv s σ H i D hfl g wd I ht k => ?_⟩
  rw [exec_Expr G.env _ pos hi rfl]
  have hy : ∀ v, yieldOut G.env v = yieldValue v := fun v => by simp only [yieldOut, hco, Bool.false_eq_true, if_false]
  show SegX (model G.P G.w) ω.A c (.at pos fun _ => ((eval e G.env >>= fun v => (standAt yp >>= fun _ => yieldOut G.env v)) >>= fun x => dropValue (.Yield (some e) yp) pos x).wrap K J gd lv) fs s _
  simp only [hy]
  refine sx_wrap (m := standAt pos) (K := fun _ => ((eval e G.env >>= fun v => (standAt yp >>= fun _ => yieldValue v)) >>= fun x => dropValue (.Yield (some e) yp) pos x).wrap K J gd lv) (J := .raise) (gd := id) (lv := id) (wpAny_standAt ?_)
  rw [Sem.bind_eq_wrap', Sem.bind_eq_wrap', Sem.wrap_wrap, Sem.wrap_wrap]
  refine sx_wrap ?_
  rw [g.over]
  refine wpAny_mono (run_slp (Q' := EP (G.at ω) ip σ _) I.inv (fun z Iz _ => (he ω wd).run ip z σ H _ Iz ht) (fun a z s' h1 h2 h3 h4 => ep_gens h1 h2 h3 h4)) (fun v s' ⟨sl, hs⟩ => ?_) fun _ _ x => x
  obtain ⟨x, H1, I1, rv, hlt, hc, hsm, hit, Hg', hg1, hg2, hnx⟩ := hs
  have J1 := I.next sl I1
  obtain ⟨oL, ho, asl⟩ := J1.asl ok hc
  refine sx_wrap (m := standAt yp) (K := fun _ => _) (J := .raise) (gd := id) (lv := id) (wpAny_standAt ?_)
  obtain ⟨m, hm⟩ : ∃ m, G.n - i = m + 1 := ⟨G.n - i - 1, by omega⟩
  have ncel : ∀ b q, G.cel b = some q → Hg' b = none := fun b q e => by
    cases z : Hg' b with
    | none => rfl
    | some o =>
      obtain ⟨y, h1, _⟩ := ok.xcel b q e
      have h2 : H1 b = none := I1.freeC y b h1
      rw [hg1 b o z] at h2; cases h2
  rintro Γ p rfl hΓ
  refine ⟨_, s', Runs.yield' fs g.split, by simp [End.quiet, g.gd, g.guard], ?_⟩
  rw [show G.goal ω i = RdyP G (m + 1) i ω.Hg ω.s ω.H ω.pn by unfold Gn.goal; rw [hm]]
  refine ⟨v, x, G.shw H1, G.shw Hg', G.fp oL ip, gp, rfl, rv, J1.res ok wd hc hsm, ok.mono _ _ _ _ (fun b o e => ?_) hit, shw_mono hg1, has_shw _, fun b o e => ?_, J1.prv ok ho asl, fun A s2 H2 pn2 ad => ?_⟩
  · cases q : G.cel b with
    | none => rw [shw_at q]; exact e
    | some z =>
      obtain ⟨y, h1, _⟩ := ok.xcel b z q
      have h2 : H1 b = none := I1.freeC y b h1
      rw [e] at h2; cases h2
  · cases q : G.cel b with
    | none =>
      rw [shw_at q] at e
      rcases hg2 b o e with z | z
      · exact .inl (hid_sub _ _ _ z)
      · rw [hid_at q] at z; exact .inr z
    | some z =>
      rw [shw_is q] at e
      exact .inl ((wd.has b z q).trans e)
  · have W := wake ok asl ad
    have sm : Same Hg' (G.hid H2) := same_of_shw ad.rely ncel
    have key := k ⟨A, s2, H2, pn2, G.shw Hg'⟩ s2 σ (G.hid H2) (i + 1) .next ad.wd W (by
      have : G.hid (G.shw Hg') = Hg' := by
        funext b
        cases q : G.cel b with
        | none => rw [hid_at q, shw_at q]
        | some z => rw [hid_no q, ncel b z q]
      show D.nx (G.hid (G.shw Hg')) (G.hid H2) (i + 1) σ (G.hid H2)
      rw [this]
      exact hnx _ sm)
    have e1 : G.n - (i + 1) = m := by omega
    show SegX _ A Γ.code _ fs s2 (RdyP G m (i + 1) (G.shw Hg') s2 H2 pn2)
    rw [← e1]
    exact key
end
end SY

set_option Elab.async false
set_option linter.all false
set_option maxRecDepth 100000
set_option maxHeartbeats 4000000
/-! Generators: who wakes them. -/
namespace SY
open PySem L2 PySem.Spec PyProof.Rows GenW PySem.W.X SC
open Sem (wp)
section
variable {P : Program} {w : World} {A : Around} {E : Value → Shared → Prop} {s : Shared}
theorem sx_quiet {M : Model} {c : Code} {t : Sem PySem.Fin} {fs : List Frame} {R : End → Shared → Prop} (h : SegX M A c t fs s R) : SegX M A c t fs s (fun e s' => e.quiet = true ∧ R e s') := fun Γ p hc hΓ => by
  obtain ⟨e, s', hr, hq, hp⟩ := h Γ p hc hΓ
  exact ⟨e, s', hr, hq, hq, hp⟩
theorem resume_wk {α : Type} {g : Nat} {gs : GenState} {R : End → Shared → Prop} {l : List Value} {k : GenResult → Sem α} {Q : α → Shared → Prop} (hg : s.gens[g]? = some gs) (hw : Wk (model P w) gs A (s.setGen g .running) R)
    (h : ∀ e s1, e.quiet = true → R e s1 → wpAny (model P w) A (k e.result) Q E (s1.setGen g e.genState)) : wpAny (model P w) A (.resume g (.send .none) l k) Q E s := by
  cases gs with
  | fresh c => exact wake_any α P w hg (.inl ⟨rfl, rfl, rfl, rfl⟩) (fun Γ => Γ.In A) (fun _ h => h) ((sx_quiet hw).mono fun e s1 ⟨q, r⟩ => h e s1 q r)
  | suspended k0 l0 c0 p0 fs cl => exact wake_any α P w hg (.inr ⟨k0, l0, p0, cl, rfl, rfl⟩) (fun Γ => Γ.In A) (fun _ h => h) ((sx_quiet hw).mono fun e s1 ⟨q, r⟩ => h e s1 q r)
  | running => exact hw.elim
  | finished => exact hw.elim
/-- next(g) -/
theorem next_wk {a : Addr} {g : Nat} {gs : GenState} {R : End → Shared → Prop} {Q : Option Value → Shared → Prop} (hh : A.handled = none) (hl : s.heap.NoLimit) (hd : A.depth < recursionLimit) (hg : s.heap.IsGen a g) (hgs : s.gens[g]? = some gs)
    (hw : Wk (model P w) gs A.in1 (s.setGen g .running) R) (hR : ∀ e s1, R e s1 → e = .ret (.ok (.ret .none)) ∨ ∃ v, e.result = .yielded v)
    (hY : ∀ e s1 v, e.quiet = true → R e s1 → e.result = .yielded v → Q (some v) (s1.setGen g e.genState))
    (hP : ∀ s1, R (.ret (.ok (.ret .none))) s1 → ∀ h', (∀ b o, s1.heap.get? b = some o → h'.get? b = some o) → Q none { s1.setGen g .finished with heap := h' }) : wpAny (model P w) A (pyNext (.ref a)) Q E s := by
  unfold pyNext
  refine wpAny_bind (wpAny_attempt (wpAny_callSpecial?_slot (name := Str.ofString "__next__") hg.typeIs slot_gen_next (wpAny_call_entry slot_gen_next hg.typeIs entry_gen_next ?_ (args_gen_next _))))
  show wpAny (model P w) A.in1 (Builtin.Generator.genWake (.ref a) (.send .none)) _ _ s
  unfold Builtin.Generator.genWake
  refine wpAny_bind (wpAny_holding (wpAny_genNumber hg (wpAny_bind (wpAny_genState hgs ?_))))
  have fin : ∀ (e : End) (s1 : Shared) (S : Option Value → Shared → Prop), e.quiet = true → R e s1 → True := fun _ _ _ _ _ => trivial
  cases gs with
  | running => exact hw.elim
  | finished => exact hw.elim
  | _ =>
    refine wpAny_bind (wpAny_roomToWake hl hd ?_)
    show wpAny (model P w) A.in1 (.resume g (.send .none) [] _) _ _ s
    refine resume_wk hgs hw fun e s1 hq hr => ?_
    rcases hR e s1 hr with rfl | ⟨v, hv⟩
    · show wpAny (model P w) A.in1 (newExc (.type "StopIteration") [] >>= _) _ _ _
      refine wpAny_bind ?_
      simp only [newExc, newTuple]
      refine wpAny_bind (wpAny_newObj_type ?_ (by size_fits))
      refine wpAny_bind (m := firstArgMember _ _) (wpAny_of_eq (a := Value.none) (by first | rfl | (simp only [firstArgMember]; rfl)) ?_)
      refine wpAny_newObj_type ?_ (by size_fits)
      simp only [raiseNew]
      refine wpAny_bind (wpAny_bind (wpAny_handled ?_))
      first | rw [show A.in1.handled = none from hh] | rw [hh]
      refine wpAny_throw (wpAny_bind (wpAny_isInstance (T := "StopIteration") (b := true) ⟨_, Heap.get?_push_size _ rfl, rfl⟩ isSubtype_stop ?_))
      exact wpAny_pure (hP s1 hr _ fun b o hb => Heap.get?_push_of_some _ (Heap.get?_push_of_some _ hb))
    · rw [hv]
      exact wpAny_pure ⟨v, rfl, wpAny_pure (hY e s1 v hq hr hv)⟩
end
/-! ### a consumer and its generator -/
structure Fits (G : Gn) (X : Cx) : Prop where
  ok : G.Ok
  prog : X.prog = G.P
  w : X.w = G.w
  K : X.K = G.K
  mg : X.mg = G.mg
  base : X.base = G.base
  stack : X.stack = G.outer
  s0 : X.s_0.heap.objs.size ≤ G.env.locals
  cells : ∀ x c, X.env.cells.lookup x = some c → c < G.env.locals
  loc : X.env.locals < G.env.locals ∨ (G.env.locals < X.env.locals ∧ X.env.locals ∉ frs G.outer)
/-- the i-th turn is to come -/
structure Held (G : Gn) (X : Cx) (pins : List (Addr × Obj)) (i : Nat) (Hg : Hp) (fp : List (Addr × Obj)) (gp : List (Nat × GenState)) (gs : GenState) (H : Hp) (s : Shared) : Prop where
  at_ : s.gens[G.g]? = some gs
  rdy : Rdy G i Hg fp gp gs
  has : G.has Hg
  fps : ∀ p ∈ fp, s.heap.get? p.1 = some p.2 ∧ H p.1 = none ∧ G.env.locals ≤ p.1 ∧ (∀ v, p.2.data ≠ .cell v) ∧ p.1 ≠ X.env.locals ∧ ∀ q ∈ X.pn ++ pins, p.1 ≠ q.1
  ga : (G.a, G.go) ∈ fp
  gps : ∀ q ∈ gp, s.gens[q.1]? = some q.2 ∧ susp q.2 = true ∧ G.g < q.1
section
variable {G : Gn} {X : Cx} {pins fp : List (Addr × Obj)} {gp : List (Nat × GenState)} {gs : GenState} {σ : L2.St} {H Hg : Hp} {s : Shared} {i : Nat}
/-- the consumer's frame, if it is younger -/
def lpin (G : Gn) (X : Cx) (h : Heap) : List (Addr × Obj) := if X.env.locals < G.env.locals then [] else pinsAt [X.env.locals] h
theorem lpin_loc {o : Obj} {h : Heap} (e : h.get? X.env.locals = some o) (hl : ¬ X.env.locals < G.env.locals) : (X.env.locals, o) ∈ lpin G X h := by
  unfold lpin
  rw [if_neg hl]
  exact mem_pinsAt List.mem_cons_self e
theorem of_lpin {h : Heap} {p : Addr × Obj} (hp : p ∈ lpin G X h) : p.1 = X.env.locals ∧ h.get? p.1 = some p.2 ∧ ¬ X.env.locals < G.env.locals := by
  unfold lpin at hp
  split at hp
  · simp at hp
  · rename_i hl
    obtain ⟨h1, h2⟩ := of_pinsAt hp
    exact ⟨List.mem_singleton.mp h1, h2, hl⟩
abbrev cpn (G : Gn) (X : Cx) (pins : List (Addr × Obj)) (h : Heap) : List (Addr × Obj) := X.pn ++ pins ++ lpin G X h
theorem held_adm {A : Around} (F : Fits G X) (I : Inv X pins σ H s) (hs : Held G X pins i Hg fp gp gs H s) (hr : Same Hg H) (hA : A.frames = some X.stack) (ro : Room G.k A) : Adm G Hg fp gp A (s.setGen G.g .running) H (cpn G X pins s.heap) := by
  obtain ⟨e1, e2, e3, e4, e5, e6, e7, e8⟩ := I.env0
  rw [F.prog, F.w] at e7
  rw [F.K, F.mg, F.base] at e2
  rw [F.base] at e3 e4 e5
  rw [F.stack] at e5 e6
  refine ⟨⟨by rw [hA, F.stack], e2, e3, e4, e5, e6, e7, allBare_setGen e8 rfl⟩, ro, hr, hs.has, fun p hp => ⟨(hs.fps p hp).1, (hs.fps p hp).2.1⟩, fun q hq => ?_, by show G.g < (s.setGen G.g .running).gens.size; rw [GenW.setGen_size]; exact (Array.getElem?_eq_some_iff.mp hs.at_).1, fun p hp => ?_⟩
  · obtain ⟨h1, _, h3⟩ := hs.gps q hq
    show (s.gens.setIfInBounds G.g .running)[q.1]? = _
    rw [Array.getElem?_setIfInBounds_ne (Nat.ne_of_lt h3)]
    exact h1
  · rcases List.mem_append.mp hp with hp | hp
    · obtain ⟨q1, q2, q3, q4, q5⟩ := I.pin p hp
      refine ⟨q1, q2, ?_, q5, fun q hq z => (hs.fps q hq).2.2.2.2.2 p hp z.symm⟩
      rw [← F.stack]
      intro hm
      rcases List.mem_cons.mp (I.stkSub p.1 hm) with z | z
      · exact q3 z
      · exact q4 z
    · obtain ⟨q1, q2, q3⟩ := of_lpin hp
      refine ⟨q2, by rw [q1]; exact I.free, ?_, fun v z => ?_, fun q hq z => (hs.fps q hq).2.2.2.2.1 (z.symm.trans q1)⟩
      · rw [q1]
        rcases F.loc with z | z
        · exact absurd z q3
        · exact z.2
      · obtain ⟨m, ⟨o, es, ep, ho, hd, _⟩, _⟩ := I.loc
        rw [q1, ho] at q2
        cases q2
        rw [hd] at z
        cases z
theorem inv_res {s1 s2 : Shared} {H1 : Hp} (F : Fits G X) (I : Inv X pins σ H s) (R : Res G (s.setGen G.g .running) H (cpn G X pins s.heap) s1 H1) (ho : s2.os = s1.os) (hh : ∀ b o, s1.heap.get? b = some o → s2.heap.get? b = some o) (hb : AllBare s2.gens) : Inv X pins σ H1 s2 := by
  have neL : ∀ b o, X.s_0.heap.get? b = some o → b ≠ X.env.locals := fun b o e => Nat.ne_of_lt (Nat.lt_of_lt_of_le (Heap.lt_size e) I.ok.above)
  have lt : ∀ b o, X.s_0.heap.get? b = some o → b < G.env.locals := fun b o e => Nat.lt_of_lt_of_le (Heap.lt_size e) F.s0
  have nofr : ∀ b, b ≠ X.env.locals → b ∉ X.fs → b ∉ frs G.outer := fun b h1 h2 hm => by
    rw [← F.stack] at hm
    rcases List.mem_cons.mp (I.stkSub b hm) with z | z
    · exact h1 z
    · exact h2 z
  have any : ∀ b o, b < G.env.locals → s.heap.get? b = some o → H b = none → ∃ sl, s2.heap.get? b = some { o with slots := sl } := fun b o h1 h2 h3 => by
    by_cases hm : b ∈ frs G.outer
    · obtain ⟨sl, q⟩ := R.slot b o h1 h2 h3 hm
      exact ⟨sl, hh _ _ q⟩
    · exact ⟨o.slots, hh _ _ (R.keep b o h1 h2 h3 hm)⟩
  have cellK : ∀ x c, X.env.cells.lookup x = some c → ∀ v, s.heap.IsCell c v → s2.heap.IsCell c v := fun x c e v ⟨o, h1, h2⟩ => by
    obtain ⟨sl, q⟩ := any c o (F.cells x c e) h1 (I.freeC x c e)
    exact ⟨_, q, h2⟩
  have hok : HOk X.prog X.w H1 s2.heap := by rw [F.prog, F.w]; exact R.hok.kept hh
  refine ⟨I.ok, ho.trans (R.os.trans I.os), hb, ⟨fun b o e n hb hx => ?_, fun b o e n hb hx => ?_, fun b o e n hx => ?_, fun b o e hx => ?_, fun b xs e => R.same _ _ (I.base.tups b xs e), fun b o xs e => R.same _ _ (I.base.frzs b o xs e), fun b ps e => ?_⟩, ?_, fun x c e => ?_, ?_, fun x c e => ?_, fun p hp => ?_, hok, I.len⟩
  · exact hh _ _ (R.keep b o (lt b o e) (I.base.keep b o e n hb hx) (I.base.free b o e n hx) (nofr b (neL b o e) hb))
  · obtain ⟨sl, e1⟩ := I.base.slot b o e n hb hx
    obtain ⟨sl2, e2⟩ := any b _ (lt b o e) e1 (I.base.free b o e n hx)
    exact ⟨sl2, e2⟩
  · obtain ⟨o', e1⟩ := I.base.there b o e hx
    exact R.free b o' (lt b o e) e1 (I.base.free b o e n hx)
  · obtain ⟨o', e1⟩ := I.base.there b o e hx
    obtain ⟨o2, e2⟩ := R.there b o' (lt b o e) e1
    exact ⟨o2, hh _ _ e2⟩
  · obtain ⟨more, e1⟩ := I.base.tbls b ps e
    exact ⟨more, R.same _ _ e1⟩
  · obtain ⟨m, ⟨o, es, ep, h1, h2⟩, hl⟩ := I.loc
    have hL : ∃ o', s2.heap.get? X.env.locals = some o' ∧ o'.data = o.data := by
      by_cases z : X.env.locals < G.env.locals
      · obtain ⟨sl, q⟩ := any _ o z h1 I.free
        exact ⟨_, q, rfl⟩
      · exact ⟨o, hh _ _ (R.pins (X.env.locals, o) (List.mem_append_right _ (lpin_loc h1 z))).1, rfl⟩
    obtain ⟨o', q1, q2⟩ := hL
    refine ⟨m, ⟨o', es, ep, q1, by rw [q2]; exact h2.1, h2.2⟩, fun i x v e1 e2 e3 => ?_⟩
    obtain ⟨u, r, l⟩ := hl i x v e1 e2 e3
    rcases l with l | ⟨k, c, e, z⟩
    · exact ⟨u, r, .inl l⟩
    · exact ⟨u, r, .inr ⟨k, c, e, cellK x c e _ z⟩⟩
  · obtain ⟨v, z⟩ := I.cell x c e
    exact ⟨v, cellK x c e v z⟩
  · obtain ⟨m, ⟨o, es, ep, h1, h2⟩, hl⟩ := I.loc
    by_cases z : X.env.locals < G.env.locals
    · exact R.free _ o z h1 I.free
    · exact (R.pins (X.env.locals, o) (List.mem_append_right _ (lpin_loc h1 z))).2
  · obtain ⟨v, o, h1, h2⟩ := I.cell x c e
    exact R.free c o (F.cells x c e) h1 (I.freeC x c e)
  · obtain ⟨q1, q2, q3, q4, q5⟩ := I.pin p hp
    obtain ⟨r1, r2⟩ := R.pins p (List.mem_append_left _ hp)
    exact ⟨hh _ _ r1, r2, q3, q4, q5⟩
theorem held_gen (F : Fits G X) (hs : Held G X pins i Hg fp gp gs H s) : s.heap.IsGen G.a G.g := by
  obtain ⟨nm, qn, h1, h2, h3⟩ := F.ok.gen
  exact ⟨G.go, nm, qn, (hs.fps _ hs.ga).1, h1, h2, h3⟩
theorem setGen_susp {s1 : Shared} {e : End} {v : Value} {g : Nat} (he : e.result = .yielded v) : susp e.genState = true := by
  cases e with
  | ret r => cases r with
    | ok f => cases he
    | error x => cases he
  | susp _ _ _ _ _ _ _ => rfl
/-- what comes at a turn -/
structure Item (G : Gn) (X : Cx) (pins : List (Addr × Obj)) (i : Nat) (σ : L2.St) (H Hg : Hp) (x : V) (H1 Hg1 : Hp) (fp1 : List (Addr × Obj)) (gp1 : List (Nat × GenState)) (gs1 : GenState) (s1 : Shared) : Prop where
  inv : Inv X pins σ H1 s1
  same : Same H H1
  item : G.item i x H1
  rely : Same Hg1 H1
  less : ∀ b o, Hg1 b = some o → Hg b = some o ∨ H b = none
  held : Held G X pins (i + 1) Hg1 fp1 gp1 gs1 H1 s1
  susp : SY.susp gs1 = true
theorem next_item {A : Around} {E : Value → Shared → Prop} {Q : Option Value → Shared → Prop} (F : Fits G X) (I : Inv X pins σ H s) (hs : Held G X pins i Hg fp gp gs H s) (hr : Same Hg H) (hi : i < G.n) (hA : A.frames = some X.stack) (ro : Room (G.k + 1) A)
    (hQ : ∀ u x H1 Hg1 fp1 gp1 gs1 s1, RelV x u → Item G X pins i σ H Hg x H1 Hg1 fp1 gp1 gs1 s1 → Q (some u) s1) : wpAny (model X.prog X.w) A (pyNext (.ref G.a)) Q E s := by
  have ad := held_adm (A := A.in1) F I hs hr hA ro.in1
  obtain ⟨m, hm⟩ : ∃ m, G.n - i = m + 1 := ⟨G.n - i - 1, by omega⟩
  have hw := hs.rdy A.in1 _ H _ ad
  rw [hm] at hw
  rw [F.prog, F.w]
  have gl : G.g < s.gens.size := (Array.getElem?_eq_some_iff.mp hs.at_).1
  refine wpAny_gsz (n := G.g + 1) gl (next_wk ro.hd I.nolimit (by have := ro.dp; omega) (held_gen F hs) hs.at_ hw ?_ ?_ ?_)
  · rintro e s1 ⟨v, _, _, _, _, _, h, _⟩
    exact .inr ⟨v, h⟩
  · rintro e s1 v hq ⟨v', x, H1, Hg1, fp1, gp1, h1, h2, h3, h4, h5, h6, h7, h8, h9⟩ hv hsz
    rw [hv] at h1
    cases h1
    have hb : e.genState.bare = true := End.bare_of_quiet hq
    have gl1 : G.g < s1.gens.size := by
      have q : (s1.setGen G.g e.genState).gens.size = s1.gens.size := GenW.setGen_size _ _ _
      have : G.g + 1 ≤ (s1.setGen G.g e.genState).gens.size := hsz
      omega
    refine hQ v x H1 Hg1 fp1 gp1 e.genState _ h2 ⟨inv_res F I h3 rfl (fun b o e => e) (allBare_setGen h3.bare hb), h3.same, h4, h5, h7, ⟨setGen_at gl1, ?_, h6, fun p hp => ?_, h8.ga, fun q hq => ?_⟩, setGen_susp (s1 := s1) (g := G.g) hv⟩
    · intro A2 s2 H2 pn2 a2
      have q := h9 A2 s2 H2 pn2 a2
      rw [show G.n - (i + 1) = m by omega]
      exact q
    · obtain ⟨q1, q2, q3, q4, q5⟩ := h8.fps p hp
      refine ⟨q1, q2, q3, q4, fun z => ?_, fun q hq => q5 q (List.mem_append_left _ hq)⟩
      by_cases hl : X.env.locals < G.env.locals
      · rw [z] at q3
        exact absurd (Nat.lt_of_lt_of_le hl q3) (Nat.lt_irrefl _)
      · obtain ⟨m', ⟨o, es, ep, ho, _⟩, _⟩ := I.loc
        exact q5 _ (List.mem_append_right _ (lpin_loc ho hl)) z
    · obtain ⟨q1, q2, q3⟩ := h8.gps q hq
      refine ⟨?_, q2, q3⟩
      show (s1.gens.setIfInBounds G.g e.genState)[q.1]? = _
      rw [Array.getElem?_setIfInBounds_ne (Nat.ne_of_lt q3)]
      exact q1
  · rintro s1 ⟨v, _, _, _, _, _, h, _⟩
    cases h
theorem next_done {A : Around} {E : Value → Shared → Prop} {Q : Option Value → Shared → Prop} (F : Fits G X) (I : Inv X pins σ H s) (hs : Held G X pins i Hg fp gp gs H s) (hr : Same Hg H) (hi : i = G.n) (hA : A.frames = some X.stack) (ro : Room (G.k + 1) A)
    (hQ : ∀ H1 s1, Inv X pins σ H1 s1 → Same H H1 → Q none s1) : wpAny (model X.prog X.w) A (pyNext (.ref G.a)) Q E s := by
  have ad := held_adm (A := A.in1) F I hs hr hA ro.in1
  have hw := hs.rdy A.in1 _ H _ ad
  rw [show G.n - i = 0 by omega] at hw
  rw [F.prog, F.w]
  refine next_wk ro.hd I.nolimit (by have := ro.dp; omega) (held_gen F hs) hs.at_ hw ?_ ?_ ?_
  · rintro e s1 ⟨h, _⟩
    exact .inl h
  · rintro e s1 v hq ⟨rfl, _⟩ hv
    cases hv
  · rintro s1 ⟨_, H1, R⟩ h' hk
    exact hQ H1 _ (inv_res F I R rfl hk (allBare_setGen R.bare rfl)) R.same
end
end SY

set_option Elab.async false
set_option linter.all false
set_option maxRecDepth 100000
set_option maxHeartbeats 4000000
/-! Generators: for loops in a generator's body. -/
namespace SY
open PySem L2 PySem.Spec PyProof.Rows GenW PySem.W.X SC
/-- what a for walks, made -/
def comp (iter : Expr) (env : Env) : Sem Value := eval iter env >>= fun v => foldedSetIterable iter env v >>= fun x => standAt iter.pos >>= fun _ => holding [x] (pyIter x)
theorem exec_for_comp {tg iter : Expr} {body : List Stmt} {pos : Pos} {env : Env} : exec (.For tg iter body [] pos) env = (standAt pos >>= fun _ => comp iter env >>= fun it => runOwn (.forLoop tg it body [] env) env) := by
  rw [exec_For]
  unfold comp
  simp only [bind_assoc]
theorem comp_run {M : Model} {A : Around} {iter : Expr} {env : Env} {E : Value → Shared → Prop} {s : Shared} {Q : Value → Shared → Prop} (hs : ∀ x, foldedSetIterable iter env x = pure x) (h : wpAny M A (eval iter env) (fun v s1 => wpAny M A (pyIter v) Q E s1) E s) : wpAny M A (comp iter env) Q E s :=
  wpAny_bind (thn h fun v s1 h1 => wpAny_bind (wpAny_of_eq (hs v) (wpAny_bind (wpAny_standAt (wpAny_holding h1)))))
theorem pie_gens {X : Cx} {pins : List (Addr × Obj)} {σ : L2.St} {tg : Expr} {R : It → Hp → Prop} {u : Value} {z s' : Shared} (hh : z.heap = s'.heap) (ho : z.os = s'.os) (hb : AllBare z.gens → AllBare s'.gens) (h : PIE X pins σ tg R u z) : PIE X pins σ tg R u s' := by
  obtain ⟨it, fp, tn, J, H', h1, h2, h3, h4, h5, h6⟩ := h
  exact ⟨it, fp, tn, J, H', h1, inv_gens h2 hh ho (hb h2.bare), h3, hh ▸ h4, h5, h6⟩
section
variable {P : Program} {w : World} {A : Around} {fs : List Frame} {s : Shared} {R : End → Shared → Prop} {tg : Expr} {it : Value} {body : List Stmt} {env : Env}
/-- one turn of a for: nothing more -/
abbrev forGoes (P : Program) (w : World) (A : Around) (fs : List Frame) (R : End → Shared → Prop) (tg : Expr) (it : Value) (body : List Stmt) (env : Env) (s : Shared) : Prop := SegX (model P w) A (.forLoop tg it body [] env) (denote table (.forLoop tg it body [] env)) fs s R
def forK (tg : Expr) (it : Value) (body : List Stmt) (env : Env) : Flow → Sem PySem.Fin
  | .next => .pure (.again (.forLoop tg it body [] env))
  | .cont => .pure (.again (.forLoop tg it body [] env))
  | .brk => .pure (.done .next)
  | .ret v => .pure (.done (.ret v))
def forJ (env : Env) (x : Value) : Sem PySem.Fin := (do noteFrame x env; theTreesLotGoes x : Sem Unit).bind fun _ => .raise x
theorem sx_for (h : wpAny (model P w) (A.over (.forLoop tg it body [] env) fs) (pyNext it) (fun r s1 => match r with
      | none => SegX (model P w) A (.block [] env) (.pure (.done .next)) fs s1 R
      | some v => SegX (model P w) A (.forLoop tg it body [] env) ((letOwnedTupleGo tg it v >>= fun _ => assign tg env v >>= fun _ => execs body env).wrap (forK tg it body env) (forJ env) id id) fs s1 R) (fun _ _ => False) s) : forGoes P w A fs R tg it body env s := by
  show SegX (model P w) A _ ((forTurn tg it body [] env).onRaise (fun x => do noteFrame x env; theTreesLotGoes x)) fs s R
  rw [Sem.onRaise_eq_wrap]
  unfold forTurn
  refine sx_bindw (wpAny_standAt (sx_bindw (wpAny_onRaise (wpAny_mono h (fun r s1 h1 => ?_) fun _ _ z => z.elim))))
  cases r with
  | none => exact s_again P w A _ fs R s1 (.block [] env) rfl h1
  | some v =>
    have e : ((letOwnedTupleGo tg it v >>= fun _ => assign tg env v >>= fun _ => execs body env >>= fun f => match f with
        | .next | .cont => again (.forLoop tg it body [] env)
        | .brk => pure (.done .next)
        | .ret v => pure (.done (.ret v)))).wrap .pure (fun e => (do noteFrame e env; theTreesLotGoes e : Sem Unit).bind fun _ => .raise e) id id =
        (letOwnedTupleGo tg it v >>= fun _ => assign tg env v >>= fun _ => execs body env).wrap (forK tg it body env) (forJ env) id id := by
      rw [show (letOwnedTupleGo tg it v >>= fun _ => assign tg env v >>= fun _ => execs body env >>= fun f => match f with
        | .next | .cont => again (.forLoop tg it body [] env)
        | .brk => pure (.done .next)
        | .ret v => pure (.done (.ret v))) = ((letOwnedTupleGo tg it v >>= fun _ => assign tg env v >>= fun _ => execs body env) >>= fun f => match f with
        | .next | .cont => again (.forLoop tg it body [] env)
        | .brk => pure (.done .next)
        | .ret v => pure (.done (.ret v))) by simp only [bind_assoc]]
      rw [Sem.bind_eq_wrap', Sem.wrap_wrap]
      exact Sem.wrap_congr _ _ _ (fun f => by cases f <;> rfl) (fun _ => rfl)
    exact s_eq P w A _ fs R s1 _ _ e h1
end
section
variable {G : Gn} {fl : Bool} {tg iter : Expr} {body : List Stmt} {pos : Pos}
/-- for over what PI serves, with yields within -/
def tyFor (wi : TI) (g : TG) (tb : TY) : TY := fun D Hg Hw i σ H => wi σ H fun J H1 => ∃ W : Nat → Nat → GK, (∃ m, W 0 m Hg Hw i σ H1) ∧ ∀ j m Hg Hw i σ H, W j m Hg Hw i σ H →
  (J.stop j H ∧ D.nx Hg Hw i σ H) ∨ (J.go j H ∧ ∃ N : GK, (∀ a b i' σ' H', N a b i' σ' H' → ∃ m', m' < m ∧ W (j + 1) m' a b i' σ' H') ∧ ∀ x H', J.yld j H x H' → g x σ H' fun σ2 H2 => tb { nx := N, ct := N, bk := D.nx } Hg Hw i σ2 H2)
theorem gcn_loop {c c' : Code} {fs : List Frame} {gd : Bool → Bool} {k : Result → Sem PySem.Fin} {l kp : List Value} {p : Pos} (g : GCn G c fs gd) (hw : c'.weight = 0) (hu : c'.cUnits = 0) : GCn G c' (.ret k none (gd false) l c p kp :: fs) id where
  over := fun A => (over_loop hw hu).trans (g.over A)
  split := split_ret' g.split
  guard := by
    show (gd false || fs.any Frame.guarded) = false
    rw [g.gd, g.guard]; rfl
  gd := rfl
theorem GIv.unpin {ω : Wd} {ip pl : List (Addr × Obj)} {gp : List (Nat × GenState)} {σ : L2.St} {H : Hp} {s : Shared} (I : GIv G ω (ip ++ pl) gp σ H s) : GIv G ω ip gp σ H s :=
  ⟨I.inv.unpinned, I.gens, fun p hp => ⟨fun q hq => (I.dis p hp).1 q (List.mem_append_left _ hq), (I.dis p hp).2⟩, fun q hq => I.ge q (List.mem_append_left _ hq), I.gsz⟩
/-- what stays true of an iterator's objects -/
structure FpS (G : Gn) (ip : List (Addr × Obj)) (b : Addr) : Prop where
  l : b ≠ G.env.locals
  f : b ∉ frs G.outer
  ge : G.env.locals ≤ b
  c : ∀ x c, G.env.cells.lookup x = some c → c ≠ b
  a : b ≠ G.a
  i : ∀ p ∈ ip, p.1 ≠ b
theorem FpS.of {ω : Wd} {ip : List (Addr × Obj)} {H : Hp} {b : Addr} (wd : WdOk G ω) (h : FpOk (G.at ω) ip H b) : FpS G ip b := by
  obtain ⟨_, q2, q3, q4, q5, q6⟩ := h
  refine ⟨q2, q3, ?_, q5, fun z => q6 (G.a, G.go) (List.mem_append_left _ (List.mem_append_right _ (List.mem_singleton.mpr rfl))) z.symm, fun p hp => q6 p (List.mem_append_right _ hp)⟩
  rcases q4 with z | z
  · exact absurd (show b ∈ ([] : List Addr) from z) (by simp)
  · have z' : (cut ω.s.heap G.env.locals).objs.size ≤ b := z
    rw [cut_size, Nat.min_eq_left (Nat.le_of_lt wd.wl)] at z'
    exact z'
theorem FpS.ok {ω : Wd} {ip : List (Addr × Obj)} {H : Hp} {b : Addr} (wd : WdOk G ω) (h : FpS G ip b) (hn : H b = none) (hp : ∀ p ∈ ω.pn, p.1 ≠ b) : FpOk (G.at ω) ip H b := by
  refine ⟨hn, h.l, h.f, .inr ?_, h.c, fun p hq => ?_⟩
  · show (cut ω.s.heap G.env.locals).objs.size ≤ b
    rw [cut_size, Nat.min_eq_left (Nat.le_of_lt wd.wl)]
    exact h.ge
  · rcases List.mem_append.mp hq with hq | hq
    · rcases List.mem_append.mp (show p ∈ ω.pn ++ [(G.a, G.go)] from hq) with hq | hq
      · exact hp p hq
      · rw [List.mem_singleton.mp hq]; exact fun z => h.a z.symm
    · exact h.i p hq
theorem pg_slp {X : Cx} {pins : List (Addr × Obj)} {σ : L2.St} {H : Hp} {s : Shared} {t : TG} {x : V} {u : Value} {Q : L2.St → Hp → Prop} {E : Value → Shared → Prop} (hx : ∀ e s, X.xe e s → False) (h : PG X tg t) (I : Inv X pins σ H s) (r : RelV x u) (ht : t x σ H Q) :
    wpAny (model X.prog X.w) X.A (assign tg X.env u) (fun _ s' => Slp s s' ∧ ∃ σ' H', Inv X pins σ' H' s' ∧ Q σ' H') E s :=
  run_slp I (fun z Iz _ => wpAny_mono (h.run pins z σ H x u Q Iz r ht) (fun _ _ y => y) fun e s q => (hx e s q)) fun _ z s' h1 h2 h3 ⟨σ', H', I', q⟩ => ⟨σ', H', inv_gens I' h1 h2 (h3 I'.bare), q⟩
theorem gs_loop {wi : TI} {g : TG} {tb : TY} {D : GD} {ip : List (Addr × Obj)} {gp : List (Nat × GenState)} {c : Code} {fs : List Frame} {K : Flow → Sem PySem.Fin} {gd : Bool → Bool} {kf : Result → Sem PySem.Fin} {l : List Value} {p : Pos}
    {it : Addr} {fpT : List Addr} {tn : Nat → Heap → Prop} {Jt : It} {W : Nat → Nat → GK} (hg : ∀ ω, WdOk G ω → PG (G.at ω) tg g) (hb : GSs G fl body tb) (hfl : fl = true → gp = []) (gc : GCn G c fs gd) (k : GCont G ip gp c fs K D) (hk : kf (.ok .next) = K .next) (T : Turn G.P G.w G.K tg Jt fpT it tn) (hf : ∀ b ∈ fpT, FpS G ip b)
    (turn : ∀ j m Hg Hw i σ H, W j m Hg Hw i σ H → (Jt.stop j H ∧ D.nx Hg Hw i σ H) ∨ (Jt.go j H ∧ ∃ N : GK, (∀ a b i' σ' H', N a b i' σ' H' → ∃ m', m' < m ∧ W (j + 1) m' a b i' σ' H') ∧ ∀ x H', Jt.yld j H x H' → g x σ H' fun σ2 H2 => tb { nx := N, ct := N, bk := D.nx } Hg Hw i σ2 H2)) :
    ∀ (m : Nat) (ω : Wd) (s : Shared) (σ : L2.St) (H : Hp) (i j : Nat), WdOk G ω → GIv G ω ip gp σ H s → tn j s.heap → (∀ b ∈ fpT, H b = none ∧ ∀ p ∈ ω.pn, p.1 ≠ b) → W j m (G.hid ω.Hg) (G.hid ω.H) i σ H →
      forGoes G.P G.w ω.A (.ret kf none (gd false) l c p [] :: fs) (G.goal ω i) tg (.ref it) body G.env s := by
  have gl := gcn_loop (k := kf) (c' := .forLoop tg (.ref it) body [] G.env) (l := l) (kp := []) (p := p) gc rfl rfl
  intro m
  induction m using Nat.strongRecOn with
  | ind m ih =>
    intro ω s σ H i j wd I st fr w
    have fok : ∀ b ∈ fpT, FpOk (G.at ω) ip H b := fun b hb => (hf b hb).ok wd (fr b hb).1 (fr b hb).2
    refine sx_for ?_
    rw [gl.over]
    rcases turn j m _ _ i σ H w with ⟨stop, qn⟩ | ⟨go, N, hN, step⟩
    · refine wpAny_mono (run_slp (Q' := fun r s1 => r = none ∧ Inv (G.at ω) ip σ H s1) I.inv (fun z Iz hz => T.done (G.at ω) rfl rfl rfl rfl j ip z σ H _ Iz fok (hz ▸ st) stop) (fun r z s' h1 h2 h3 ⟨hr, I'⟩ => ⟨hr, inv_gens I' h1 h2 (h3 I'.bare)⟩)) (fun r s1 ⟨sl, hr, I1⟩ => ?_) fun _ _ x => x
      subst hr
      refine s_pop G.P G.w ω.A _ fs _ s1 (.ok .next) _ rfl kf none (gd false) l c p [] ?_
      rw [hk]
      exact k ω s1 σ H i .next wd (I.next sl I1) qn
    · refine wpAny_mono (wpAny_tw (T.item (G.at ω) rfl rfl rfl rfl j ip (asleep s) σ H (fun _ _ => False) (inv_asleep I.inv) fok st go) (tw_asleep s)) (fun r s1 ⟨z1, t1, u, hr, h1⟩ => ?_) fun _ _ ⟨_, _, x⟩ => x
      subst hr
      refine sx_bindw ?_
      rw [gl.over]
      refine wpAny_mono (wpAny_tw h1 t1) (fun _ s2 ⟨z2, t2, x, H2, I2, r2, y2, st2, n2⟩ => ?_) fun _ _ ⟨_, _, x⟩ => x
      have I2' : Inv (G.at ω) ip σ H2 s2 := tw_inv t2 I.inv.bare I2
      have st2' : tn (j + 1) s2.heap := t2.heap ▸ st2
      have J2 := I.next (tw_slp t2) I2'
      have fok2 : ∀ b ∈ fpT, FpOk (G.at ω) ip H2 b := fun b hb => (hf b hb).ok wd (n2 b hb) (fr b hb).2
      have I3 := I2'.pinned fok2 (T.obj _ _ st2')
      have J3 : GIv G ω (ip ++ pinsAt fpT s2.heap) gp σ H2 s2 := ⟨I3, J2.gens, fun p hp => ⟨fun q hq => ?_, (J2.dis p hp).2⟩, fun q hq => ?_, J2.gsz⟩
      · refine sx_bindw ?_
        rw [gl.over]
        refine wpAny_mono (pg_slp (fun _ _ h => h) (hg ω wd) I3 r2 (step x H2 y2)) (fun _ s3 ⟨sl3, σ3, H3, I4, q4⟩ => ?_) fun _ _ x => x
        refine hb.run ω (ip ++ pinsAt fpT s2.heap) gp _ _ _ _ id id s3 σ3 H3 i _ hfl gl wd (J3.next sl3 I4) q4 fun ω' s' σ' H' i' f wd' I' q => ?_
        have again : N (G.hid ω'.Hg) (G.hid ω'.H) i' σ' H' → forGoes G.P G.w ω'.A (.ret kf none (gd false) l c p [] :: fs) (G.goal ω' i') tg (.ref it) body G.env s' := fun q => by
          obtain ⟨m', hm, w'⟩ := hN _ _ _ _ _ q
          have pin' : ∀ b ∈ fpT, ∀ o, s2.heap.get? b = some o → s'.heap.get? b = some o ∧ H' b = none := fun b hb o e =>
            let z := I'.inv.pin (b, o) (List.mem_append_right _ (List.mem_append_right _ (mem_pinsAt hb e)))
            ⟨z.1, z.2.1⟩
          refine ih m' hm ω' s' σ' H' i' (j + 1) wd' I'.unpin (T.keep _ _ _ st2' fun b hb o e => (pin' b hb o e).1) (fun b hb => ?_) w'
          obtain ⟨o, e, _⟩ := T.obj _ _ st2' b hb
          exact ⟨(pin' b hb o e).2, fun p hp => (I'.dis p hp).1 (b, o) (List.mem_append_right _ (mem_pinsAt hb e))⟩
        cases f with
        | next => exact s_again G.P G.w ω'.A _ _ _ s' _ rfl (again q)
        | cont => exact s_again G.P G.w ω'.A _ _ _ s' _ rfl (again q)
        | brk =>
          refine s_pop G.P G.w ω'.A _ fs _ s' (.ok .next) _ rfl kf none (gd false) l c p [] ?_
          rw [hk]
          exact k ω' s' σ' H' i' .next wd' I'.unpin q
        | ret v => exact q.elim
      · rcases List.mem_append.mp hq with hq | hq
        · exact (J2.dis p hp).1 q hq
        · obtain ⟨h1, _⟩ := of_pinsAt hq
          exact (fr q.1 h1).2 p hp
      · rcases List.mem_append.mp hq with hq | hq
        · exact J2.ge q hq
        · obtain ⟨h1, _⟩ := of_pinsAt hq
          exact (hf q.1 h1).ge
theorem gs_for {wi : TI} {g : TG} {tb : TY} (hL : ∀ ω, WdOk G ω → PI (G.at ω) tg iter wi) (hg : ∀ ω, WdOk G ω → PG (G.at ω) tg g) (hb : GSs G fl body tb) (hs : ∀ x, foldedSetIterable iter G.env x = pure x := by intro _; rfl) : GS G fl (.For tg iter body [] pos) (tyFor wi g tb) := by
  refine ⟨fun ω ip gp c fs K J gd lv s σ H i D hfl gc wd I ht k => ?_⟩
  rw [exec_for_comp]
  refine sx_bindw (wpAny_standAt (sx_bindw ?_))
  rw [gc.over]
  refine wpAny_mono (run_slp (Q' := PIE (G.at ω) ip σ tg _) I.inv (fun z Iz _ => comp_run hs ((hL ω wd).run ip z σ H _ Iz ht)) (fun a z s' h1 h2 h3 h4 => pie_gens h1 h2 h3 h4)) (fun itv s2 ⟨sl, hp⟩ => ?_) fun _ _ x => x
  obtain ⟨it, fpT, tn, Jt, H2, rfl, I2, T, st2, f2, W, ⟨m0, w0⟩, turn⟩ := hp
  refine s_call G.P G.w ω.A c fs _ s2 (.forLoop tg (.ref it) body [] G.env) none (gd false) (lv []) _ fun p => ?_
  refine gs_loop (it := it) (wi := wi) hg hb hfl gc k rfl T (fun b hb => FpS.of wd (f2 b hb)) turn m0 ω s2 σ H2 i 0 wd (I.next sl I2) st2 (fun b hb => ⟨(f2 b hb).1, fun p hp => (f2 b hb).2.2.2.2.2 p (List.mem_append_left _ (List.mem_append_left _ hp))⟩) w0
end
end SY

set_option Elab.async false
set_option linter.all false
set_option maxRecDepth 100000
set_option maxHeartbeats 4000000
/-! Generators walked by a for, in a generator's body and in a def's. -/
namespace SY
open PySem L2 PySem.Spec PyProof.Rows GenW PySem.W.X SC
/-- an expression whose value is a generator: how many it gives, what each is, what it leans on, the heap -/
abbrev TGy := L2.St → Hp → (Nat → (Nat → V → Hp → Prop) → Hp → Hp → Prop) → Prop
def Made (X : Cx) (pins : List (Addr × Obj)) (kk lo : Nat) (σ : L2.St) (R : Nat → (Nat → V → Hp → Prop) → Hp → Hp → Prop) (u : Value) (s : Shared) : Prop :=
  ∃ G H1 Hg fp gs, u = .ref G.a ∧ G.k = kk ∧ lo ≤ G.g ∧ Fits G X ∧ Inv X pins σ H1 s ∧ Held G X pins 0 Hg fp [] gs H1 s ∧ susp gs = false ∧ X.env.locals < G.env.locals ∧ Same Hg H1 ∧ R G.n G.item Hg H1
structure PGn (X : Cx) (kk : Nat) (e : Expr) (t : TGy) : Prop where
  run : ∀ (pins : List (Addr × Obj)) (s : Shared) (σ : L2.St) (H : Hp) (R : Nat → (Nat → V → Hp → Prop) → Hp → Hp → Prop), Inv X pins σ H s → t σ H R → wpAny (model X.prog X.w) X.A (eval e X.env) (Made X pins kk s.gens.size σ R) X.xe s
section
variable {X : Cx} {pins : List (Addr × Obj)} {σ : L2.St} {kk lo : Nat} {R : Nat → (Nat → V → Hp → Prop) → Hp → Hp → Prop} {u : Value} {s z s' : Shared}
theorem made_tw (t : Tw s.gens.size (blkd s) z s') (hb : AllBare s.gens) (h : Made X pins kk lo σ R u z) : Made X pins kk lo σ R u s' := by
  obtain ⟨G, H1, Hg, fp, gs, h1, h2, h3, h4, h5, h6, h7, h8, h9, h10⟩ := h
  refine ⟨G, H1, Hg, fp, gs, h1, h2, h3, h4, tw_inv t hb h5, ⟨(t.open h7 h6.at_).2, h6.rdy, h6.has, fun p hp => ?_, h6.ga, fun q hq => by simp at hq⟩, h7, h8, h9, h10⟩
  have := h6.fps p hp
  rw [t.heap] at this
  exact this
theorem made_iter {M : Model} {E : Value → Shared → Prop} {A : Around} (h : Made X pins kk lo σ R u s) : wpAny (model X.prog X.w) A (pyIter u) (Made X pins kk lo σ R) E s := by
  obtain ⟨G, H1, Hg, fp, gs, rfl, h⟩ := h
  exact wpAny_pyIter_gen (held_gen h.2.2.1 h.2.2.2.2.1) ⟨G, H1, Hg, fp, gs, rfl, h⟩
/-- all that a held generator keeps is pinned -/
theorem held_pin {G : Gn} {i : Nat} {Hg H : Hp} {fp : List (Addr × Obj)} {gp : List (Nat × GenState)} {gs : GenState} (F : Fits G X) (I : Inv X pins σ H s) (hs : Held G X pins i Hg fp gp gs H s) : Inv X (pins ++ fp) σ H s :=
  I.pins_of fun p hp => (List.mem_append.mp hp).elim (fun z => I.pin p (List.mem_append_right _ z)) fun z => by
    obtain ⟨h1, h2, h3, h4, h5, h6⟩ := hs.fps p z
    refine ⟨h1, h2, h5, fun hm => ?_, h4⟩
    have : p.1 ∈ frs G.outer := by
      rw [← F.stack]
      rcases I.ok.stk with e | ⟨e, hf⟩
      · rw [e]; exact hm
      · rw [e]
        unfold frs
        rw [List.filterMap_cons, hf]
        exact List.mem_cons_of_mem _ hm
    exact absurd (Nat.lt_of_lt_of_le (F.ok.frl _ this) h3) (Nat.lt_irrefl _)
theorem let_gen {G : Gn} {A : Around} {tg : Expr} {v : Value} {Q : Unit → Shared → Prop} {E : Value → Shared → Prop} {M : Model} (ok : G.Ok) (h : s.heap.get? G.a = some G.go) (hQ : Q () s) : wpAny M A (letOwnedTupleGo tg (.ref G.a) v) Q E s := by
  obtain ⟨nm, qn, h1, h2, _⟩ := ok.gen
  exact go_of h h1 h2 (by decide) hQ
end
section
variable {G : Gn} {tg iter : Expr} {body : List Stmt} {pos : Pos}
def tyForG (ti : TGy) (g : TG) (tb : TY) : TY := fun D Hg Hw i σ H => ti σ H fun n item Hq H1 => ∃ W : Nat → Hp → GK, W 0 Hq Hg Hw i σ H1 ∧ ∀ j Hq Hg Hw i σ H, W j Hq Hg Hw i σ H → j ≤ n ∧ Same Hq H ∧ (j = n → ∀ H', Same H H' → D.nx Hg Hw i σ H') ∧
  (j < n → ∀ x H' Hq', Same H H' → item j x H' → Same Hq' H' → (∀ b o, Hq' b = some o → Hq b = some o ∨ H b = none) → g x σ H' fun σ2 H2 => tb { nx := W (j + 1) Hq', ct := W (j + 1) Hq', bk := D.nx } Hg Hw i σ2 H2)
/-- the inner generator fits at every waking of the outer one -/
theorem fits_any {G2 : Gn} {ω ω' : Wd} (F : Fits G2 (G.at ω)) (wd : WdOk G ω) (wd' : WdOk G ω') : Fits G2 (G.at ω') :=
  ⟨F.ok, F.prog, F.w, F.K, F.mg, F.base, F.stack, by
    have h1 := F.s0
    show (cut ω'.s.heap G.env.locals).objs.size ≤ _
    have h2 : (cut ω.s.heap G.env.locals).objs.size ≤ G2.env.locals := h1
    rw [cut_size, Nat.min_eq_left (Nat.le_of_lt wd.wl)] at h2
    rw [cut_size, Nat.min_eq_left (Nat.le_of_lt wd'.wl)]
    exact h2, F.cells, F.loc⟩
theorem gs_loopG {g : TG} {tb : TY} {D : GD} {ip : List (Addr × Obj)} {c : Code} {fs : List Frame} {K : Flow → Sem PySem.Fin} {gd : Bool → Bool} {kf : Result → Sem PySem.Fin} {l : List Value} {p : Pos}
    {G2 : Gn} {W : Nat → Hp → GK} (hg : ∀ ω, WdOk G ω → PG (G.at ω) tg g) (hb : GSs G false body tb) (gc : GCn G c fs gd) (k : GCont G ip [] c fs K D) (hk : kf (.ok .next) = K .next) (hkk : G2.k + 2 ≤ G.k) (hlt : G.g < G2.g) (hF : ∀ ω, WdOk G ω → Fits G2 (G.at ω))
    (turn : ∀ j Hq Hg Hw i σ H, W j Hq Hg Hw i σ H → j ≤ G2.n ∧ Same Hq H ∧ (j = G2.n → ∀ H', Same H H' → D.nx Hg Hw i σ H') ∧
      (j < G2.n → ∀ x H' Hq', Same H H' → G2.item j x H' → Same Hq' H' → (∀ b o, Hq' b = some o → Hq b = some o ∨ H b = none) → g x σ H' fun σ2 H2 => tb { nx := W (j + 1) Hq', ct := W (j + 1) Hq', bk := D.nx } Hg Hw i σ2 H2)) :
    ∀ (r : Nat) (ω : Wd) (s : Shared) (σ : L2.St) (H : Hp) (i j : Nat) (Hq : Hp) (fp : List (Addr × Obj)) (gp : List (Nat × GenState)) (gs : GenState), G2.n - j = r → WdOk G ω → GIv G ω ip [] σ H s → Held G2 (G.at ω) ip j Hq fp gp gs H s → W j Hq (G.hid ω.Hg) (G.hid ω.H) i σ H →
      forGoes G.P G.w ω.A (.ret kf none (gd false) l c p [] :: fs) (G.goal ω i) tg (.ref G2.a) body G.env s := by
  have gl := gcn_loop (k := kf) (c' := .forLoop tg (.ref G2.a) body [] G.env) (l := l) (kp := []) (p := p) gc rfl rfl
  intro r
  induction r with
  | zero =>
    intro ω s σ H i j Hq fp gp gs hr wd I hd w
    obtain ⟨h1, h2, h3, h4⟩ := turn j Hq _ _ i σ H w
    have F := hF ω wd
    have ro : Room (G2.k + 1) (ω.A.deeper G.env) := Room.deeper (wd.room.mono (by omega)) G.env
    refine sx_for ?_
    rw [gl.over]
    refine wpAny_gsz (n := G.g + 1) I.gsz (next_done (X := G.at ω) F I.inv hd h2 (by omega) I.inv.ok.frames ro fun H1 s1 I1 sm hsz => ?_)
    refine s_pop G.P G.w ω.A _ fs _ s1 (.ok .next) _ rfl kf none (gd false) l c p [] ?_
    rw [hk]
    exact k ω s1 σ H1 i .next wd ⟨I1, fun q hq => by simp at hq, I.dis, I.ge, hsz⟩ (h3 (by omega) H1 sm)
  | succ r ih =>
    intro ω s σ H i j Hq fp gp gs hr wd I hd w
    obtain ⟨h1, h2, h3, h4⟩ := turn j Hq _ _ i σ H w
    have F := hF ω wd
    have ro : Room (G2.k + 1) (ω.A.deeper G.env) := Room.deeper (wd.room.mono (by omega)) G.env
    refine sx_for ?_
    rw [gl.over]
    refine wpAny_gsz (n := G.g + 1) I.gsz (next_item (X := G.at ω) F I.inv hd h2 (by omega) I.inv.ok.frames ro fun u x H1 Hg1 fp1 gp1 gs1 s1 rv it hsz => ?_)
    refine sx_bindw (let_gen F.ok ((it.held.fps _ it.held.ga).1) ?_)
    have I3 := held_pin F it.inv it.held
    have J3 : GIv G ω (ip ++ fp1) ((G2.g, gs1) :: gp1) σ H1 s1 := by
      refine ⟨I3, fun q hq => ?_, fun p hp => ⟨fun q hq => ?_, (I.dis p hp).2⟩, fun q hq => ?_, hsz⟩
      · rcases List.mem_cons.mp hq with rfl | hq
        · exact ⟨it.held.at_, it.susp, hlt⟩
        · obtain ⟨q1, q2, q3⟩ := it.held.gps q hq
          exact ⟨q1, q2, Nat.lt_trans hlt q3⟩
      · rcases List.mem_append.mp hq with hq | hq
        · exact (I.dis p hp).1 q hq
        · exact fun z => (it.held.fps q hq).2.2.2.2.2 p (List.mem_append_left _ (List.mem_append_left _ hp)) z.symm
      · rcases List.mem_append.mp hq with hq | hq
        · exact I.ge q hq
        · have h5 := (it.held.fps q hq).2.2.1
          have h6 : G.env.locals < G2.env.locals := F.ok.frl _ (by
            rw [← F.stack]
            show G.env.locals ∈ frs (G.env :: G.outer)
            have hf : G.env.frame = some G.env.locals := by
              rcases I.inv.ok.stk with e | ⟨_, e⟩
              · exact absurd (congrArg List.length e) (by show (G.env :: G.outer).length ≠ G.outer.length; simp)
              · exact e
            unfold frs
            rw [List.filterMap_cons, hf]
            exact List.mem_cons_self)
          exact Nat.le_of_lt (Nat.lt_of_lt_of_le h6 h5)
    refine sx_bindw ?_
    rw [gl.over]
    refine wpAny_mono (pg_slp (fun _ _ h => h) (hg ω wd) I3 rv (h4 (by omega) x H1 Hg1 it.same it.item it.rely it.less)) (fun _ s3 ⟨sl3, σ3, H3, I4, q4⟩ => ?_) fun _ _ x => x
    refine hb.run ω (ip ++ fp1) ((G2.g, gs1) :: gp1) _ _ _ _ id id s3 σ3 H3 i _ (fun z => by cases z) gl wd (J3.next sl3 I4) q4 fun ω' s' σ' H' i' f wd' I' q => ?_
    have un : GIv G ω' ip [] σ' H' s' := ⟨I'.inv.unpinned, fun q hq => by simp at hq, fun p hp => ⟨fun q hq => (I'.dis p hp).1 q (List.mem_append_left _ hq), (I'.dis p hp).2⟩, fun q hq => I'.ge q (List.mem_append_left _ hq), I'.gsz⟩
    have again : W (j + 1) Hg1 (G.hid ω'.Hg) (G.hid ω'.H) i' σ' H' → forGoes G.P G.w ω'.A (.ret kf none (gd false) l c p [] :: fs) (G.goal ω' i') tg (.ref G2.a) body G.env s' := fun q => by
      refine ih ω' s' σ' H' i' (j + 1) Hg1 fp1 gp1 gs1 (by omega) wd' un ⟨(I'.gens _ List.mem_cons_self).1, it.held.rdy, it.held.has, fun p hp => ?_, it.held.ga, fun q hq => ?_⟩ q
      · obtain ⟨q1, q2, q3, q4, q5⟩ := I'.inv.pin p (List.mem_append_right _ (List.mem_append_right _ hp))
        obtain ⟨_, _, r3, r4, r5, r6⟩ := it.held.fps p hp
        refine ⟨q1, q2, r3, r4, q3, fun q hq => ?_⟩
        rcases List.mem_append.mp hq with hq | hq
        · rcases List.mem_append.mp (show q ∈ ω'.pn ++ [(G.a, G.go)] from hq) with hq | hq
          · exact fun z => (I'.dis q hq).1 p (List.mem_append_right _ hp) z.symm
          · exact r6 q (List.mem_append_left _ (List.mem_append_right _ hq))
        · exact r6 q (List.mem_append_right _ hq)
      · exact ⟨(I'.gens q (List.mem_cons_of_mem _ hq)).1, (it.held.gps q hq).2⟩
    cases f with
    | next => exact s_again G.P G.w ω'.A _ _ _ s' _ rfl (again q)
    | cont => exact s_again G.P G.w ω'.A _ _ _ s' _ rfl (again q)
    | brk =>
      refine s_pop G.P G.w ω'.A _ fs _ s' (.ok .next) _ rfl kf none (gd false) l c p [] ?_
      rw [hk]
      exact k ω' s' σ' H' i' .next wd' un q
    | ret v => exact q.elim
theorem gs_forG {kk : Nat} {ti : TGy} {g : TG} {tb : TY} (hL : ∀ ω, WdOk G ω → PGn (G.at ω) kk iter ti) (hkk : kk + 2 ≤ G.k) (hg : ∀ ω, WdOk G ω → PG (G.at ω) tg g) (hb : GSs G false body tb) (hs : ∀ x, foldedSetIterable iter G.env x = pure x := by intro _; rfl) : GS G true (.For tg iter body [] pos) (tyForG ti g tb) := by
  refine ⟨fun ω ip gp c fs K J gd lv s σ H i D hfl gc wd I ht k => ?_⟩
  obtain rfl := hfl rfl
  rw [exec_for_comp]
  refine sx_bindw (wpAny_standAt (sx_bindw ?_))
  rw [gc.over]
  have r0 := comp_run (M := model G.P G.w) (A := ω.A.deeper G.env) (E := fun _ _ => False) hs (thn ((hL ω wd).run ip (asleep s) σ H _ (inv_asleep I.inv) ht) fun u s1 h1 => made_iter (M := model G.P G.w) h1)
  refine wpAny_mono (wpAny_tw r0 (tw_asleep s)) (fun itv s2 ⟨z2, t2, hm⟩ => ?_) fun _ _ ⟨_, _, x⟩ => x
  have hm' := made_tw t2 I.inv.bare hm
  have sl := tw_slp t2
  obtain ⟨G2, H1, Hq, fp, gs, rfl, hk2, h3, h4, h5, h6, h7, _, h8, W, w0, turn⟩ := hm'
  have e3 : (asleep s).gens.size = s.gens.size := by simp [asleep]
  rw [e3] at h3
  refine s_call G.P G.w ω.A c fs _ s2 (.forLoop tg (.ref G2.a) body [] G.env) none (gd false) (lv []) _ fun p => ?_
  exact gs_loopG (G2 := G2) hg hb gc k rfl (by omega) (Nat.lt_of_lt_of_le I.gsz h3) (fun ω' wd' => fits_any h4 wd wd') turn _ ω s2 σ H1 i 0 Hq fp [] gs rfl wd (I.next sl h5) h6 w0
end
end SY

set_option Elab.async false
set_option linter.all false
set_option maxRecDepth 100000
set_option maxHeartbeats 4000000
/-! Generators: a generator def, its call; for over one in a def. -/
namespace SY
open PySem L2 PySem.Spec PyProof.Rows GenW PySem.W.X SC
/-- a generator def's promise: arguments, heap, how many, what each is, what it leans on -/
abbrev SpY := List V → Hp → Nat → (Nat → V → Hp → Prop) → Hp → Prop
def csOf (one : Option (Str × Nat)) (L : Addr) (vs : List V) : List (Addr × Nat × V) := match one with
  | none => []
  | some p => [(L + 1, p.2, (vs[p.2]?).getD .non)]
def clOf (one : Option (Str × Nat)) (n : Nat) : List (Str × Addr) := match one with
  | none => []
  | some p => [(p.1, n)]
def gnOf (P : Program) (w : World) (K : PySem.W.Frag) (mg : Str → Option Value) (base : Heap) (N : List Str) (qual : Str) (scope : Scope) (f : Addr) (cd : Value) (L : Addr) (outer : List Env) (k : Nat) (a : Addr) (g : Nat) (go : Obj) (cs : List (Addr × Nat × V)) (n : Nat) (item : Nat → V → Hp → Prop) : Gn :=
  { P := P, w := w, K := K, mg := mg, base := base, N := N, env := envOfC qual scope L f cd, outer := outer, k := k, a := a, g := g, go := go, cs := cs, n := n, item := item }
def GMadeY (P : Program) (w : World) (K : PySem.W.Frag) (mg : Str → Option Value) (base : Heap) (k : Nat) (outer : List Env) (H : Hp) (s : Shared) (n : Nat) (item : Nat → V → Hp → Prop) (Hg : Hp) (u : Value) (s' : Shared) : Prop :=
  ∃ G fp gs, u = .ref G.a ∧ G.P = P ∧ G.w = w ∧ G.K = K ∧ G.mg = mg ∧ G.base = base ∧ G.outer = outer ∧ G.k = k ∧ G.n = n ∧ G.item = item ∧ G.Ok ∧ s.gens.size ≤ G.g ∧ s.heap.objs.size ≤ G.env.locals ∧ s'.os = s.os ∧ AllBare s'.gens ∧ (∀ b o, s.heap.get? b = some o → s'.heap.get? b = some o) ∧
    HOk P w (G.shw H) s'.heap ∧ s'.gens[G.g]? = some gs ∧ susp gs = false ∧ Rdy G 0 (G.shw Hg) fp [] gs ∧ (∀ p ∈ fp, s'.heap.get? p.1 = some p.2 ∧ G.shw H p.1 = none ∧ G.env.locals ≤ p.1 ∧ ∀ v, p.2.data ≠ .cell v) ∧ (G.a, G.go) ∈ fp
structure GFnY (P : Program) (w : World) (K : PySem.W.Frag) (mg : Str → Option Value) (base : Heap) (k : Nat) (f : Addr) (fd : FuncData) (ps : List Str) (sp : SpY) : Prop where
  len : ∀ vs H n item Hg, sp vs H n item Hg → vs.length = ps.length
  run : ∀ (A : Around) (outer : List Env) (s : Shared) (H : Hp) (args : Args) (us : List Value) (vs : List V) (n : Nat) (item : Nat → V → Hp → Prop) (Hg : Hp), Room k A → Env0 P w K mg base A outer s H → BindsTo s fd args (ps.zip us) → Vals vs us → sp vs H n item Hg →
    codeAny (model P w) A (.call (.ref f) args) (fun r s' => match r with | .ok (.ret u) => GMadeY P w K mg base k outer H s n item Hg u s' | _ => False) s
theorem GFnY.mono {P : Program} {w : World} {K : PySem.W.Frag} {mg : Str → Option Value} {base : Heap} {k : Nat} {f : Addr} {fd : FuncData} {ps : List Str} {sp sp' : SpY} (F : GFnY P w K mg base k f fd ps sp) (h : ∀ vs H n item Hg, sp' vs H n item Hg → sp vs H n item Hg) : GFnY P w K mg base k f fd ps sp' :=
  ⟨fun vs H n item Hg q => F.len _ _ _ _ _ (h _ _ _ _ _ q), fun A outer s H args us vs n item Hg h1 h2 h3 h4 h5 => F.run A outer s H args us vs n item Hg h1 h2 h3 h4 (h _ _ _ _ _ h5)⟩
theorem start_at {N : List Str} {vs : List V} {i : Nat} (h : i < vs.length) : (L2.start N vs)[i]? = some (some ((vs[i]?).getD .non)) := by
  unfold L2.start
  rw [List.getElem?_append_left (by simpa using h), List.getElem?_map, List.getElem?_eq_getElem h]
  rfl
/-- the rule for a generator def -/
theorem gfn_y {P : Program} {w : World} {K : PySem.W.Frag} {mg : Str → Option Value} {base : Heap} {k : Nat} {f : Addr} {name qual : Str} {params : Arguments} {body : List Stmt} {scope : Scope} {dV kV doc pm cdv ct oc : Value} {an od : Option Addr}
    {osl : Array (Option Value)} {N ps : List Str} {sp : SpY} (lk : K.lookup f = some ⟨oc, od, .func (PySem.W.fnOf name qual params body scope dV kV doc pm an cdv ct), osl⟩) (hcd : PySem.W.codeIn K cdv qual = true) (S : GScope N ps scope) (one : Option (Str × Nat))
    (hone : ∀ n, cellsFrom n scope.names [] = clOf one n) (hslot : ∀ p, one = some p → N[p.2]? = some p.1 ∧ p.2 < ps.length ∧ scope.names.lookup p.1 = some .cell)
    (len : ∀ vs H n item Hg, sp vs H n item Hg → vs.length = ps.length) (hrel : ∀ vs H n item Hg, sp vs H n item Hg → Same Hg H ∧ ∀ i x H H', Same H H' → item i x H → item i x H')
    (hbody : ∀ (L : Addr) (outer : List Env) (a : Addr) (g : Nat) (go : Obj) (vs : List V) (H : Hp) (n : Nat) (item : Nat → V → Hp → Prop) (Hg : Hp), sp vs H n item Hg →
      (∀ σ : L2.St, (∀ p, one = some p → σ[p.2]? = some (some ((vs[p.2]?).getD .non))) → (gnOf P w K mg base N qual scope f cdv L outer (k + 1) a g go (csOf one L vs) n item).cok σ) →
      (gnOf P w K mg base N qual scope f cdv L outer (k + 1) a g go (csOf one L vs) n item).Ok →
      ∃ t, GSs (gnOf P w K mg base N qual scope f cdv L outer (k + 1) a g go (csOf one L vs) n item) true body t ∧ ∀ H0, Same Hg H0 → t { nx := fun _ Hw i σ H' => i = n ∧ (gnOf P w K mg base N qual scope f cdv L outer (k + 1) a g go (csOf one L vs) n item).cok σ ∧ Same Hw H' } Hg H0 0 (L2.start N vs) H0) :
    GFnY P w K mg base (k + 1) f (PySem.W.fnOf name qual params body scope dV kV doc pm an cdv ct) ps sp := by
  refine ⟨len, fun A outer s H args us vs n item Hg hr e0 hb r hsp => ?_⟩
  have hl := len _ _ _ _ _ hsp
  obtain ⟨hgH, hmono⟩ := hrel _ _ _ _ _ hsp
  have KX : K.In s.heap := e0.mod.kin.keeps fun b o e => (e0.bs b o e).1
  have lim : s.heap.NoLimit := e0.mod.nolimit.keeps fun b o e => (e0.bs b o e).1
  have hkind : ∀ y ∈ ps.zip us, scope.names.lookup y.1 = some .local ∨ (scope.names.lookup y.1 = some .cell ∧ ((cellsFrom (s.heap.objs.size + 1) scope.names []).lookup y.1).isSome = true) := fun ⟨y, v⟩ hy =>
    (S.par y (List.of_mem_zip hy).1).imp (fun q => q) fun q => ⟨q, PySem.W.cellsFrom_some _ _ _ (.inl q)⟩
  refine codeAny_call_generator hr.depth (KX _ _ lk) rfl S.co S.gen rfl (PySem.W.codeRec_of KX hcd) (hb _ _ _ _ (wpAny_newFunctionEnv_cells S.kind hkind fun env he s1 x => ?_))
  subst he
  have kp1 : ∀ b o, s.heap.get? b = some o → s1.heap.get? b = some o := x.toInCall.keep
  refine ⟨lim.keeps kp1, ?_⟩
  have I1 : Inv (gcxOf P w K mg base N qual scope f cdv A outer s H (fun _ _ _ => False) []) [] (L2.start N vs) H s1 := inv_startG S hr.hd e0 hl r x
  obtain ⟨h1, tk, es1, hk1⟩ := x.done
  have os1 : s1.os = s.os := by rw [es1]
  have gen1 : s1.gens = s.gens := by rw [es1]
  have lt1 : s.heap.objs.size < s1.heap.objs.size := x.toInCall.ns.lt
  generalize hL : s.heap.objs.size = L at *
  show GMadeY P w K mg base (k + 1) outer H s n item Hg (.ref s1.heap.objs.size) _
  generalize hgo : ({ cls := .type "generator", data := .fields #[.int s1.gens.size 0, .str name s1.toks, .str qual (s1.toks + 1)] } : Obj) = go
  have hpush : (s1.heap.push go).get? s1.heap.objs.size = some go := by rw [← hgo]; exact Heap.get?_push_size _ rfl
  let G := gnOf P w K mg base N qual scope f cdv L outer (k + 1) s1.heap.objs.size s1.gens.size go (csOf one L vs) n item
  have hcells : G.env.cells = clOf one (L + 1) := hone (L + 1)
  have cel_of : ∀ b q, G.cel b = some q → ∃ p, one = some p ∧ b = L + 1 ∧ q = (p.2, (vs[p.2]?).getD .non) := fun b q e => by
    have e' : (csOf one L vs).lookup b = some q := e
    cases ho : one with
    | none => rw [ho] at e'; simp [csOf] at e'
    | some p =>
      rw [ho] at e'
      simp only [csOf, List.lookup] at e'
      split at e'
      · rename_i hb
        cases e'
        exact ⟨p, rfl, by simpa using hb, rfl⟩
      · simp at e'
  have cel_is : ∀ p, one = some p → G.cel (L + 1) = some (p.2, (vs[p.2]?).getD .non) := fun p ho => by
    show (csOf one L vs).lookup (L + 1) = _
    rw [ho]
    simp [csOf, List.lookup]
  have lk_of : ∀ y c, G.env.cells.lookup y = some c → ∃ p, one = some p ∧ y = p.1 ∧ c = L + 1 := fun y c e => by
    rw [hcells] at e
    cases ho : one with
    | none => rw [ho] at e; simp [clOf] at e
    | some p =>
      rw [ho] at e
      simp only [clOf, List.lookup] at e
      split at e
      · rename_i hb
        cases e
        exact ⟨p, rfl, by simpa using hb, rfl⟩
      · simp at e
  have lk_is : ∀ p, one = some p → G.env.cells.lookup p.1 = some (L + 1) := fun p ho => by
    rw [hcells, ho]
    simp [clOf, List.lookup]
  have cold : ∀ b, b ≤ L → G.cel b = none := fun b hb => by
    cases e : G.cel b with
    | none => rfl
    | some q =>
      obtain ⟨p, _, rfl, _⟩ := cel_of b q e
      exact absurd hb (Nat.not_le_of_lt (Nat.lt_succ_self _))
  have cok_of : ∀ σ : L2.St, (∀ p, one = some p → σ[p.2]? = some (some ((vs[p.2]?).getD .non))) → G.cok σ := fun σ h b q e => by
    obtain ⟨p, h1, _, rfl⟩ := cel_of b q e
    exact h p h1
  have ok : G.Ok := by
    refine ⟨S.kind, rfl, rfl, rfl, fun y z c h1 h2 => ?_, fun y hy => ?_, fun y c h => ?_, fun y c h => ?_, fun c q h => ?_, S.nd, e0.mod, (show base.objs.size ≤ L by rw [← hL]; exact e0.bsz), fun b hb => ?_, lt1, ?_, ⟨.str name s1.toks, .str qual (s1.toks + 1), by show go.cls = _; rw [← hgo], by show go.data = _; rw [← hgo]; rfl, by show go.slots = _; rw [← hgo]⟩, hmono⟩
    · obtain ⟨p, q1, rfl, _⟩ := lk_of y c h1
      obtain ⟨p', q2, rfl, _⟩ := lk_of z c h2
      rw [q1] at q2; cases q2; rfl
    · have hy : scope.names.lookup y = some .cell ∨ scope.names.lookup y = some .free := hy
      rcases hy with hy | hy
      · exact cell_has hy
      · exact absurd rfl (S.nofree _ (PySem.mem_of_lookup hy))
    · obtain ⟨p, _, _, rfl⟩ := lk_of y c h
      exact Nat.lt_succ_self _
    · obtain ⟨p, q1, rfl, rfl⟩ := lk_of y c h
      exact ⟨(hslot p q1).2.2, p.2, _, cel_is p q1, (hslot p q1).1⟩
    · obtain ⟨p, q1, rfl, rfl⟩ := cel_of c q h
      exact ⟨p.1, lk_is p q1, (hslot p q1).1⟩
    · obtain ⟨_, o, ho, _⟩ := e0.funs.mem hb
      show b < L
      rw [← hL]
      exact Heap.lt_size ho
    · cases e : G.cel s1.heap.objs.size with
      | none => exact e
      | some q =>
        obtain ⟨p, q1, q2, _⟩ := cel_of _ q e
        obtain ⟨v, o, ho, _⟩ := I1.cell p.1 (L + 1) (by
          show (cellsFrom (s.heap.objs.size + 1) scope.names []).lookup p.1 = _
          rw [hL]
          exact lk_is p q1)
        have := Heap.lt_size ho
        rw [← q2] at this
        exact absurd this (Nat.lt_irrefl _)
  obtain ⟨m, ⟨oL, es, ep, ho, hd, hrr⟩, hlk⟩ := id I1.loc
  have hloc : (gcxOf P w K mg base N qual scope f cdv A outer s H (fun _ _ _ => False) []).env = G.env := by
    show envOfC qual scope s.heap.objs.size f cdv = envOfC qual scope L f cdv
    rw [hL]
  rw [hloc] at ho hlk
  have kp2 : ∀ b o, s1.heap.get? b = some o → (s1.heap.push go).get? b = some o := fun b o e => Heap.get?_push_of_some _ e
  have c0 : G.cok (L2.start N vs) := cok_of _ fun p hp => start_at (by rw [hl]; exact (hslot p hp).2.1)
  have asl : Asl G [] [] (L2.start N vs) oL := by
    refine ⟨⟨m, fun h e => ⟨oL, es, ep, e, hd, hrr⟩, fun i y v q1 q2 q3 => ?_⟩, fun v z => (by rw [hd] at z; cases z), c0, I1.len, fun p hp => by simp at hp, fun q hq => by simp at hq⟩
    obtain ⟨u, ru, l⟩ := hlk i y v q1 q2 q3
    rcases l with ⟨k1, l⟩ | ⟨k1, c, e, _⟩
    · exact .inl ⟨k1, u, ru, l⟩
    · exact .inr ⟨k1, c, e⟩
  have hnL : ∀ b, L ≤ b → H b = none := fun b hb => e0.hok.fresh (by rw [hL]; exact hb)
  have nocelH : ∀ b q, G.cel b = some q → H b = none := fun b q e => by
    obtain ⟨p, _, rfl, _⟩ := cel_of b q e
    exact hnL _ (Nat.le_succ _)
  refine ⟨G, G.fp oL [], .fresh (.func body G.env), rfl, rfl, rfl, rfl, rfl, rfl, rfl, rfl, rfl, rfl, ok, by rw [← gen1]; exact Nat.le_refl _, by rw [hL]; exact Nat.le_refl _, os1, AllBare.push (by rw [gen1]; exact e0.bare) rfl, fun b o e => kp2 _ _ (kp1 b o e), ?_, ?_, rfl, ?_, ?_, List.mem_cons_of_mem _ List.mem_cons_self⟩
  · have hok1 : HOk P w H (s1.heap.push go) := I1.hok.kept kp2
    intro b o e
    cases q : G.cel b with
    | none =>
      rw [shw_at q] at e
      refine (hok1 b o e).stay (fun _ _ _ z => z) (fun d z => ?_) fun d xs z => ?_
      · cases y : G.cel d with
        | none => rw [shw_at y]; exact z
        | some t => rw [nocelH d t y] at z; cases z
      · cases y : G.cel d with
        | none => rw [shw_at y]; exact z
        | some t => rw [nocelH d t y] at z; cases z
    | some t =>
      rw [shw_is q] at e
      cases e
      obtain ⟨p, q1, rfl, rfl⟩ := cel_of b t q
      obtain ⟨u, ru, l⟩ := hlk p.2 p.1 _ (hslot p q1).1 (start_at (by rw [hl]; exact (hslot p q1).2.1)) (.inr (.inl (hslot p q1).2.2))
      rcases l with ⟨k1, _⟩ | ⟨_, c, e, z⟩
      · have k2 : scope.names.lookup p.1 = some .local := k1
        rw [(hslot p q1).2.2] at k2; cases k2
      · have e' : G.env.cells.lookup p.1 = some c := e
        rw [lk_is p q1] at e'
        cases e'
        exact cellX_mk (z.keeps kp2) ru
  · show (s1.gens.push _)[s1.gens.size]? = _
    exact Array.getElem?_push_size
  · intro A2 s2 H2 pn ad
    have W := wake ok asl ad
    have sm : Same Hg (G.hid H2) := same_of_shw ad.rely fun b q e => by
      cases z : Hg b with
      | none => rfl
      | some o => have := hgH b o z; rw [nocelH b q e] at this; cases this
    obtain ⟨t, ht, hq⟩ := hbody L outer s1.heap.objs.size s1.gens.size go vs H n item Hg hsp cok_of ok
    have e1 : G.hid (G.shw Hg) = Hg := by
      funext b
      cases q : G.cel b with
      | none => rw [hid_at q, shw_at q]
      | some z =>
        rw [hid_no q]
        cases y : Hg b with
        | none => rfl
        | some o => have := hgH b o y; rw [nocelH b z q] at this; cases this
    show SegX (model P w) A2 (.func body G.env) (.point [] fun _ => ((execs body G.env).onRaise (leaving G.env)) >>= fun f => match f with | .ret v => ret v | _ => ret .none) [] s2 _
    refine sx_wrap (m := point) (K := fun _ => _) (J := .raise) (gd := id) (lv := id) (wpAny_point ?_)
    rw [Sem.onRaise_eq_wrap, Sem.bind_eq_wrap', Sem.wrap_wrap]
    have gc : GCn G (.func body G.env) [] (fun g => id (id g)) := ⟨fun A => over_func, rfl, rfl, rfl⟩
    refine ht.run ⟨A2, s2, H2, pn, G.shw Hg⟩ [] [] (.func body G.env) [] _ _ _ _ s2 (L2.start N vs) (G.hid H2) 0 _ (fun _ => rfl) gc ad.wd W (by rw [e1]; exact hq _ sm) fun ω s' σ' H' i f wd' I' q => ?_
    cases f with
    | next =>
      obtain ⟨rfl, q2, q3⟩ := q
      refine s_end G.P G.w ω.A _ _ s' (.ok (.ret .none)) _ rfl ?_
      show RdyP G (G.n - G.n) G.n ω.Hg ω.s ω.H ω.pn _ _
      rw [Nat.sub_self]
      exact ⟨rfl, _, I'.res ok wd' q2 q3⟩
    | brk => exact q.elim
    | cont => exact q.elim
    | ret v => exact q.elim
  · intro p hp
    rcases List.mem_cons.mp hp with rfl | hp
    · exact ⟨kp2 _ _ ho, (shw_at (H := H) (cold L (Nat.le_refl _))).trans (hnL _ (Nat.le_refl _)), Nat.le_refl _, asl.dl⟩
    · rcases List.mem_cons.mp hp with rfl | hp
      · refine ⟨hpush, (shw_at (H := H) ok.ac).trans (hnL _ (Nat.le_of_lt lt1)), Nat.le_of_lt lt1, fun v z => ?_⟩
        have : go.data = .cell v := z
        rw [← hgo] at this
        cases this
      · simp at hp
end SY

set_option Elab.async false
set_option linter.all false
set_option maxRecDepth 100000
set_option maxHeartbeats 4000000
/-! Generators: calls of generator defs; for in a def; list(g). -/
namespace SY
open PySem L2 PySem.Spec PyProof.Rows GenW PySem.W.X SC
section
variable {X : Cx} {pins : List (Addr × Obj)} {σ : L2.St} {H : Hp} {s : Shared} {k : Nat} {f : Addr} {fd : FuncData} {ps ks : List Str} {sp : SpY} {x : Str} {p pos : Pos}
theorem made_of {n : Nat} {item : Nat → V → Hp → Prop} {Hg : Hp} {R : Nat → (Nat → V → Hp → Prop) → Hp → Hp → Prop} {u : Value} {s' : Shared} {lo : Nat} (I : Inv X pins σ H s) (hlo : lo ≤ s.gens.size) (hg : Same Hg H) (h : GMadeY X.prog X.w X.K X.mg X.base k X.stack H s n item Hg u s')
    (hR : ∀ Hq H1, Same H H1 → Same Hq H1 → (∀ b o, Hq b = some o → Hg b = some o ∨ H b = none) → R n item Hq H1) : Made X pins k lo σ R u s' := by
  obtain ⟨G, fp, gs, rfl, h1, h2, h3, h4, h5, h6, h7, h8, h9, ok, h11, h12, h13, h14, h15, h16, h17, h18, h19, h20, h21⟩ := h
  have lt : ∀ b o, s.heap.get? b = some o → b < G.env.locals := fun b o e => Nat.lt_of_lt_of_le (Heap.lt_size e) h12
  have nc : ∀ b q, G.cel b = some q → H b = none := fun b q e => I.hok.fresh (Nat.le_trans h12 (Nat.le_of_lt (cel_above ok e)))
  have sm : Same H (G.shw H) := fun b o e => by
    cases q : G.cel b with
    | none => rw [shw_at q]; exact e
    | some z => rw [nc b z q] at e; cases e
  have I' : Inv X pins σ (G.shw H) s' := I.call' (ch := []) h13 ⟨fun b o e _ _ _ => h15 b o e, fun b o e _ _ _ => ⟨o.slots, h15 b o e⟩, fun b o e n _ => by rw [shw_at (cel_old ok (Nat.le_of_lt (lt b o e)))]; exact n, fun b o e _ => ⟨o, h15 b o e⟩, fun b xs e => sm _ _ e, fun b o u e => sm _ _ e, fun b qs e => ⟨#[], by rw [sm _ _ e]; simp⟩⟩ h16 h14 fun b hb => by simp at hb
  have locL : X.env.locals < G.env.locals := Nat.lt_of_lt_of_le I.lt h12
  refine ⟨G, G.shw H, G.shw Hg, fp, gs, rfl, h7, Nat.le_trans hlo h11, ⟨ok, h1.symm, h2.symm, h3.symm, h4.symm, h5.symm, h6.symm, Nat.le_trans I.sz h12, fun y c e => ?_, .inl locL⟩, I', ⟨h17, h19, has_shw _, fun p hp => ?_, h21, fun q hq => by simp at hq⟩, h18, locL, shw_mono hg, ?_⟩
  · obtain ⟨v, o, ho, _⟩ := I.cell y c e
    exact lt c o ho
  · obtain ⟨q1, q2, q3, q4⟩ := h20 p hp
    refine ⟨q1, q2, q3, q4, fun z => ?_, fun q hq z => ?_⟩
    · rw [z] at q3
      exact absurd (Nat.lt_of_lt_of_le locL q3) (Nat.lt_irrefl _)
    · have := lt q.1 q.2 (I.pin q hq).1
      rw [← z] at this
      exact absurd (Nat.lt_of_lt_of_le this q3) (Nat.lt_irrefl _)
  · rw [h8, h9]
    refine hR _ _ sm (shw_mono hg) fun b o e => ?_
    cases q : G.cel b with
    | none => rw [shw_at q] at e; exact .inl e
    | some z => exact .inr (nc b z q)
def tGnCall (sp : SpY) (t : TA) : TGy := fun σ H R => t σ H fun vs H1 => ∃ n item Hg, sp vs H1 n item Hg ∧ Same Hg H1 ∧ ∀ Hq H2, Same H1 H2 → Same Hq H2 → (∀ b o, Hq b = some o → Hg b = some o ∨ H1 b = none) → R n item Hq H2
def tGnCallK (sp : SpY) (gV : List V → List V → List V) (t : TA) : TGy := fun σ H R => t σ H fun zs H1 => ∃ n item Hg, sp (gV [] zs) H1 n item Hg ∧ Same Hg H1 ∧ ∀ Hq H2, Same H1 H2 → Same Hq H2 → (∀ b o, Hq b = some o → Hg b = some o ∨ H1 b = none) → R n item Hq H2
/-- a generator def that may be called -/
def RdyY (P : Program) (w : World) (K : PySem.W.Frag) (mg : Str → Option Value) (base : Heap) (k : Nat) (x : Str) (ps : List Str) (sp : SpY) : Prop :=
  ∃ f fd, GFnY P w K mg base k f fd ps sp ∧ mg x = some (.ref f) ∧ PySem.W.keepIn K (.ref f) = true ∧ Binds K fd ps []
def RdyYK (P : Program) (w : World) (K : PySem.W.Frag) (mg : Str → Option Value) (base : Heap) (k : Nat) (x : Str) (ps ks : List Str) (gV : List V → List V → List V) (sp : SpY) : Prop :=
  ∃ f fd g, GFnY P w K mg base k f fd ps sp ∧ mg x = some (.ref f) ∧ PySem.W.keepIn K (.ref f) = true ∧ KBinds K fd ps ks g gV
theorem pgn_call {e : Expr} {es : List Expr} {t : TA} (R : RdyY X.prog X.w X.K X.mg X.base k x ps sp) (hr : Room k X.A) (hg : Gl X x) (ha : PA X (e :: es) t) (hdb : (x == ("__debug__" : Str)) = false := by decide)
    (he : starEach (e :: es) X.env = (false, eval e X.env) :: starEach es X.env := by rfl) (hpl : (backTo pos (starEach es X.env)).any (·.1) = false := by rfl) : PGn X k (.Call (.Name x p) (e :: es) [] pos) (tGnCall sp t) := by
  obtain ⟨f, fd, F, h2, h3, h4⟩ := R
  refine ⟨fun pins s σ H R I h => wpAny_Call_Name_kw (ld_glob I hg h2 ?_ hdb)⟩
  refine PySem.W.callWith_K (h₀ := X.base) I.ok.mod.kin h3 (wpAny_gsz (n := s.gens.size) (Nat.le_refl _) (wpAny_mono (ha.run pos pins s σ H _ I h) (fun us s1 ⟨vs, H1, I1, r, n, item, Hg, h5, h6, h7⟩ hsz => ⟨I1.kIn, ?_⟩) fun e s' q _ => q)) he hpl
  have hl : us.length = ps.length := by rw [← r.length]; exact F.len _ _ _ _ _ h5
  have hb := h4 s1 us I1.kIn (by rw [List.append_nil]; exact hl)
  rw [List.append_nil] at hb
  refine wpAny_call (codeAny_mono (F.run X.A X.stack s1 H1 ⟨us, []⟩ us vs n item Hg hr I1.env0 hb r h5) fun res s' hq => ?_)
  cases res with
  | error e => exact hq.elim
  | ok fl => cases fl with
    | ret u => exact made_of I1 hsz h6 hq h7
    | next => exact hq.elim
    | brk => exact hq.elim
    | cont => exact hq.elim
theorem pgn_callK {kws : List Keyword} {t : TA} {gV : List V → List V → List V} (_R : RdyY X.prog X.w X.K X.mg X.base k x ps sp) (hr : Room k X.A) (hg : Gl X x) (R : RdyYK X.prog X.w X.K X.mg X.base k x ps ks gV sp) (hkw : PK X kws t)
    (hall : (backToKw pos (keywordEach kws X.env)).all (·.1.isSome) = true := by rfl) (hks : (backToKw pos (keywordEach kws X.env)).filterMap (·.1) = ks := by rfl) (hdb : (x == ("__debug__" : Str)) = false := by decide)
    (hpl : ((backTo pos (starEach [] X.env)).any (·.1) || (backToKw pos (keywordEach kws X.env)).any (·.1.isNone)) = false := by rfl) : PGn X k (.Call (.Name x p) [] kws pos) (tGnCallK sp gV t) := by
  obtain ⟨f, fd, g, F, h2, h3, h4⟩ := R
  refine ⟨fun pins s σ H R I h => wpAny_Call_Name_kw (ld_glob I hg h2 ?_ hdb)⟩
  refine PySem.W.callWith_KW0 (h₀ := X.base) I.ok.mod.kin h3 hall (wpAny_gsz (n := s.gens.size) (Nat.le_refl _) (wpAny_mono (hkw.run pos pins s σ H _ I h) (fun ws s1 ⟨zs, H1, I1, r, n, item, Hg, h5, h6, h7⟩ hsz => ⟨I1.kIn, ?_⟩) fun e s' q _ => q)) hpl
  rw [hks]
  have r2 : Vals (gV [] zs) (g [] ws) := h4.rel .nil r
  have hl : (g [] ws).length = ps.length := by rw [← r2.length]; exact F.len _ _ _ _ _ h5
  refine wpAny_call (codeAny_mono (F.run X.A X.stack s1 H1 ⟨[], ks.zip ws⟩ (g [] ws) (gV [] zs) n item Hg hr I1.env0 (h4.to s1 [] ws I1.kIn hl) r2 h5) fun res s' hq => ?_)
  cases res with
  | error e => exact hq.elim
  | ok fl => cases fl with
    | ret u => exact made_of I1 hsz h6 hq h7
    | next => exact hq.elim
    | brk => exact hq.elim
    | cont => exact hq.elim
end
/-! ### for in a def -/
section
variable {X : Cx} {tg iter : Expr} {body : List Stmt} {pos : Pos}
def FoG (n : Nat) (item : Nat → V → Hp → Prop) (g : TG) (tb : TS) (D : Ends) (Hq : Hp) (σ : L2.St) (H1 : Hp) : Prop := ∃ W : Nat → Hp → L2.St → Hp → Prop, W 0 Hq σ H1 ∧ ∀ j Hq σ H, W j Hq σ H → j ≤ n ∧ Same Hq H ∧ (j = n → ∀ H', Same H H' → D.nx σ H') ∧
  (j < n → ∀ x H' Hq', Same H H' → item j x H' → Same Hq' H' → (∀ b o, Hq' b = some o → Hq b = some o ∨ H b = none) → g x σ H' fun σ2 H2 => tb { nx := W (j + 1) Hq', rt := D.rt, ct := W (j + 1) Hq', bk := D.nx } σ2 H2)
def tForG (ti : TGy) (g : TG) (tb : TS) : TS := fun D σ H => ti σ H fun n item Hq H1 => FoG n item g tb D Hq σ H1
theorem held_next {G : Gn} {pins fp1 : List (Addr × Obj)} {gp1 : List (Nat × GenState)} {gs1 : GenState} {j : Nat} {Hq H H' : Hp} {s s' : Shared} {σ' : L2.St} (it : Held G X pins j Hq fp1 gp1 gs1 H s) (su : susp gs1 = true) (sl : Slp s s') (I : Inv X (pins ++ fp1) σ' H' s') : Held G X pins j Hq fp1 gp1 gs1 H' s' := by
  refine ⟨sl.2 _ _ it.at_ su, it.rdy, it.has, fun p hp => ?_, it.ga, fun q hq => ⟨sl.2 _ _ (it.gps q hq).1 (it.gps q hq).2.1, (it.gps q hq).2⟩⟩
  obtain ⟨q1, q2, q3, _⟩ := I.pin p (List.mem_append_right _ (List.mem_append_right _ hp))
  obtain ⟨_, _, r3, r4, r5, r6⟩ := it.fps p hp
  exact ⟨q1, q2, r3, r4, r5, r6⟩
theorem ps_forG {kk : Nat} {ti : TGy} {g : TG} {tb : TS} (hx : ∀ e s, X.xe e s → False) (hi : PGn X kk iter ti) (hr : Room (kk + 1) X.A) (hg : PG X tg g) (hb : PSs X body tb) (hs : ∀ x, foldedSetIterable iter X.env x = pure x := by intro _; rfl) : PS X (.For tg iter body [] pos) (tForG ti g tb) := by
  refine ⟨fun pins s σ H D I h => wpAny_For (thn (hi.run pins s σ H _ I h) fun v s1 h1 => thn (made_iter (M := model X.prog X.w) (E := X.xe) h1) fun itv s2 h2 => ?_) hs⟩
  obtain ⟨G, H2, Hq, fp, gs, rfl, hk2, _, F, I2, hd2, _, _, sm2, W, w0, turn⟩ := h2
  have ro : Room (G.k + 1) X.A := by rw [hk2]; exact hr
  refine codeAny_forLoop_any (fun m s' => ∃ j Hq σ' H' fp gp gs, m = G.n - j ∧ Inv X pins σ' H' s' ∧ Held G X pins j Hq fp gp gs H' s' ∧ W j Hq σ' H') ?_ (G.n - 0) ⟨0, Hq, σ, H2, fp, [], gs, rfl, I2, hd2, w0⟩
  rintro m s3 ⟨j, Hq3, σ3, H3, fp3, gp3, gs3, rfl, I3, hd3, w3⟩
  obtain ⟨t1, t2, t3, t4⟩ := turn j Hq3 σ3 H3 w3
  by_cases hj : j = G.n
  · exact next_done F I3 hd3 t2 hj I3.ok.frames ro fun H4 s4 I4 sm => wpAny_execs_nil ⟨σ3, H4, I4, t3 hj H4 sm⟩
  · refine next_item F I3 hd3 t2 (by omega) I3.ok.frames ro fun u x H4 Hq4 fp4 gp4 gs4 s4 rv it => let_gen F.ok ((it.held.fps _ it.held.ga).1) ?_
    have I5 := held_pin F it.inv it.held
    refine wpAny_mono (pg_slp hx hg I5 rv (t4 (by omega) x H4 Hq4 it.same it.item it.rely it.less)) (fun _ s6 ⟨sl6, σ6, H6, I6, q6⟩ => ?_) fun _ _ z => z
    refine wpAny_mono (run_slp (Q' := SP X (pins ++ fp4) _) I6 (fun z Iz _ => wpAny_mono (hb.run _ z σ6 H6 _ Iz q6) (fun _ _ y => y) hx) (fun a z s' h1 h2 h3 h4 => sp_gens h1 h2 h3 h4)) (fun fl s7 ⟨sl7, q7⟩ => ?_) fun _ _ z => z
    have again : ∀ {σ7 : L2.St} {H7 : Hp}, Inv X (pins ++ fp4) σ7 H7 s7 → W (j + 1) Hq4 σ7 H7 → ∃ m, m < G.n - j ∧ ∃ j Hq σ' H' fp gp gs, m = G.n - j ∧ Inv X pins σ' H' s7 ∧ Held G X pins j Hq fp gp gs H' s7 ∧ W j Hq σ' H' := fun {σ7 H7} I7 w7 =>
      ⟨G.n - (j + 1), by omega, j + 1, Hq4, σ7, H7, fp4, gp4, gs4, rfl, I7.unpinned, held_next it.held it.susp (sl6.trans sl7) I7, w7⟩
    cases fl with
    | next => obtain ⟨σ7, H7, I7, n7⟩ := q7; exact again I7 n7
    | cont => obtain ⟨σ7, H7, I7, n7⟩ := q7; exact again I7 n7
    | brk => obtain ⟨σ7, H7, I7, q7⟩ := q7; exact ⟨σ7, H7, I7.unpinned, q7⟩
    | ret v => obtain ⟨v', σ7, H7, I7, q7⟩ := q7; exact ⟨v', σ7, H7, I7.unpinned, q7⟩
end
end SY

set_option Elab.async false
set_option linter.all false
set_option maxRecDepth 100000
set_option maxHeartbeats 4000000
/-! Generators: list(g). -/
namespace SY
open PySem L2 PySem.Spec PyProof.Rows GenW PySem.W.X SC
section
variable {G : Gn} {X : Cx} {pins : List (Addr × Obj)} {σ : L2.St} {S : Addr}
theorem held_pins {G : Gn} {X : Cx} {p1 p2 : List (Addr × Obj)} {j : Nat} {Hq H : Hp} {fp : List (Addr × Obj)} {gp : List (Nat × GenState)} {gs : GenState} {s s' : Shared} (h : Held G X p1 j Hq fp gp gs H s) (hg : s'.gens = s.gens) (hh : ∀ p ∈ fp, s'.heap.get? p.1 = s.heap.get? p.1) (hp : ∀ q ∈ p2, (∃ q' ∈ p1, q'.1 = q.1) ∨ ∀ p ∈ fp, p.1 ≠ q.1) : Held G X p2 j Hq fp gp gs H s' := by
  refine ⟨by rw [hg]; exact h.at_, h.rdy, h.has, fun p hp' => ?_, h.ga, fun q hq => by rw [hg]; exact h.gps q hq⟩
  obtain ⟨q1, q2, q3, q4, q5, q6⟩ := h.fps p hp'
  refine ⟨by rw [hh p hp']; exact q1, q2, q3, q4, q5, fun q hq => ?_⟩
  rcases List.mem_append.mp hq with hq | hq
  · exact q6 q (List.mem_append_left _ hq)
  · rcases hp q hq with ⟨q', h1, h2⟩ | h1
    · rw [← h2]; exact q6 q' (List.mem_append_right _ h1)
    · exact h1 p hp'
theorem drainY {A : Around} {R : Result → Shared → Prop} {res : Value} {H0 : Hp} (F : Fits G X) (hr : Room (G.k + 2) A) (hA : A.frames = some X.stack) (hn : G.n < sizeLine) (hS0 : X.s_0.heap.objs.size ≤ S) (hSc : ∀ x c, X.env.cells.lookup x = some c → c ≠ S) (hSp : ∀ p ∈ X.pn ++ pins, p.1 ≠ S)
    (hend : ∀ s' H' ys acc c, Inv X (pins ++ [(S, lstObj acc c)]) σ H' s' → Same H0 H' → ys.length = G.n → Vals ys acc.toList → (∀ i x, ys[i]? = some x → G.item i x H') → R (.ok (.ret res)) s') :
    ∀ (r j : Nat) (s : Shared) (H Hq : Hp) (fp : List (Addr × Obj)) (gp : List (Nat × GenState)) (gs : GenState) (ys : List V) (acc : Array Value) (c : Nat), G.n - j = r → j ≤ G.n → Inv X (pins ++ [(S, lstObj acc c)]) σ H s → Held G X (pins ++ [(S, lstObj acc c)]) j Hq fp gp gs H s → Same Hq H → Same H0 H → ys.length = j → Vals ys acc.toList → (∀ i x, ys[i]? = some x → G.item i x H) →
      codeAny (model X.prog X.w) A (.builtin "list.extend.loop" ⟨[.ref S, .ref G.a, res], []⟩) R s := by
  intro r
  induction r with
  | zero =>
    intro j s H Hq fp gp gs ys acc c hj hle I hd hq h0 hl hv hit
    refine codeAny_builtin PySem.F.entry_extend_loop ?_
    rw [Around.under_plainId PySem.F.plain_extend_loop _]
    show wpAny (model X.prog X.w) A.in1 (pyNext (.ref G.a) >>= _) _ _ s
    refine wpAny_bind (next_done F I hd hq (by omega) hA (Room.in1 hr) fun H1 s1 I1 sm => wpAny_pure ?_)
    exact hend s1 H1 ys acc c I1 (h0.trans sm) (by omega) hv fun i x e => F.ok.mono _ _ _ _ sm (hit i x e)
  | succ r ih =>
    intro j s H Hq fp gp gs ys acc c hj hle I hd hq h0 hl hv hit
    refine codeAny_builtin PySem.F.entry_extend_loop ?_
    rw [Around.under_plainId PySem.F.plain_extend_loop _]
    show wpAny (model X.prog X.w) A.in1 (pyNext (.ref G.a) >>= _) _ _ s
    refine wpAny_bind (next_item F I hd hq (by omega) hA (Room.in1 hr) fun u x H1 Hq1 fp1 gp1 gs1 s1 rv it => ?_)
    obtain ⟨eS, nS, lS, fS, _⟩ := it.inv.pin (S, lstObj acc c) (List.mem_append_right _ (List.mem_append_right _ (List.mem_singleton.mpr rfl)))
    have hsz : acc.size = ys.length := by
      have e1 := hv.length
      have e2 : acc.toList.length = acc.size := by simp
      omega
    show wpAny (model X.prog X.w) A.in1 (updateSeq S (·.push u) >>= _) _ _ _
    refine wpAny_bind (wpAny_updateSeq eS rfl (wpAny_pure ⟨plainId_quiet PySem.F.plain_extend_loop _, ?_⟩) (by show acc.size ≤ sizeLine; omega) (by show (acc.push u).size ≤ sizeLine + 1; rw [Array.size_push]; omega))
    have keep : ∀ b o, b ≠ S → s1.heap.get? b = some o → (s1.heap.update S (Obj.mapSeq (·.push u))).get? b = some o := fun b o hb e => (Heap.get?_update_other _ _ (Ne.symm hb)).trans e
    obtain ⟨c', eS'⟩ : ∃ c', (s1.heap.update S (Obj.mapSeq (·.push u))).get? S = some (lstObj (acc.push u) c') := ⟨_, Heap.get?_update_self _ eS rfl⟩
    have I2 : Inv X pins σ H1 { s1 with heap := s1.heap.update S (Obj.mapSeq (·.push u)) } := it.inv.unpinned.turned (t' := s1.toks) keep nS lS (.inr hS0) hSc hSp
    have I3 : Inv X (pins ++ [(S, lstObj (acc.push u) c')]) σ H1 { s1 with heap := s1.heap.update S (Obj.mapSeq (·.push u)) } := I2.pins_of fun p hp => (List.mem_append.mp hp).elim (fun z => I2.pin p (List.mem_append_right _ z)) fun z => by
      rw [List.mem_singleton.mp z]
      exact ⟨eS', nS, lS, fS, fun v q => by cases q⟩
    refine ih (j + 1) _ H1 Hq1 fp1 gp1 gs1 (ys ++ [x]) (acc.push u) c' (by omega) (by omega) I3 (held_pins it.held rfl (fun p hp => ?_) fun q hq => ?_) it.rely (h0.trans it.same) (by simp; omega) ?_ ?_
    · have hne : p.1 ≠ S := (it.held.fps p hp).2.2.2.2.2 (S, lstObj acc c) (List.mem_append_right _ (List.mem_append_right _ (List.mem_singleton.mpr rfl)))
      exact Heap.get?_update_other _ _ (Ne.symm hne)
    · rcases List.mem_append.mp hq with hq | hq
      · exact .inl ⟨q, List.mem_append_left _ hq, rfl⟩
      · rw [List.mem_singleton.mp hq]
        exact .inl ⟨_, List.mem_append_right _ (List.mem_singleton.mpr rfl), rfl⟩
    · rw [Array.toList_push]
      exact hv.append (.cons rv .nil)
    · intro i y e
      by_cases hi : i < ys.length
      · rw [List.getElem?_append_left hi] at e
        exact F.ok.mono _ _ _ _ it.same (hit i y e)
      · have hi' : i = ys.length := by
          have := (List.getElem?_eq_some_iff.mp e).1
          simp at this
          omega
        subst hi'
        rw [List.getElem?_append_right (Nat.le_refl _), Nat.sub_self] at e
        cases e
        rw [hl]
        exact it.item
/-- the list is tracked -/
theorem inv_track {H : Hp} {s : Shared} {ys : List V} {acc : Array Value} {c : Nat} (I : Inv X (pins ++ [(S, lstObj acc c)]) σ H s) (hv : Vals ys acc.toList) (hl : ys.length ≤ sizeLine) (hS0 : X.s_0.heap.objs.size ≤ S) (hSc : ∀ x c, X.env.cells.lookup x = some c → c ≠ S) (hSp : ∀ p ∈ X.pn ++ pins, p.1 ≠ S) : Inv X pins σ (upd H S (.lst ys)) s := by
  obtain ⟨eS, nS, lS, fS, _⟩ := I.pin (S, lstObj acc c) (List.mem_append_right _ (List.mem_append_right _ (List.mem_singleton.mpr rfl)))
  have ne : ∀ b, b ∉ [S] → b ≠ S := fun b hb z => hb (by simp [z])
  refine I.unpinned.step (h' := s.heap) (g' := s.gens) (t' := s.toks) (d' := s.drawn) (ch := [S]) (fun b hb => ?_) (fun b o _ _ _ e _ => e) (fun b o _ _ _ e _ => ⟨o.slots, e⟩) (fun b o hb _ n => by rw [upd_ne (ne b hb)]; exact n) (fun b o _ e => ⟨o, e⟩)
    (fun b xs e => by rw [upd_ne (ne_of_none e nS)]; exact e) (fun b o u e => by rw [upd_ne (ne_of_none e nS)]; exact e) (fun b qs e => ⟨#[], by rw [upd_ne (ne_of_none e nS), e]; simp⟩) (fun m h => h) (fun b u e => ?_) I.bare
  · rw [List.mem_singleton.mp hb]
    exact ⟨.inr hS0, fun z => lS z, hSc, hSp⟩
  · by_cases hb : b = S
    · subst hb
      rw [upd_same] at e
      cases e
      exact ⟨hl, acc.toList, c, hv, by rw [eS]⟩
    · rw [upd_ne hb] at e
      exact (I.hok b u e).stay (fun _ _ _ z => z) (fun d z => by rw [upd_ne (ne_of_none z nS)]; exact z) fun d xs z => by rw [upd_ne (ne_of_none z nS)]; exact z
theorem call_listY {kk lo : Nat} {u : Value} {s : Shared} {Q : VK} {E : Value → Shared → Prop} (hr : Room (kk + 4) X.A)
    (h : Made X pins kk lo σ (fun n item Hq H1 => n < sizeLine ∧ ∀ ys H' p, Same H1 H' → ys.length = n → (∀ i x, ys[i]? = some x → item i x H') → H' p = none → Q (.ref p) (upd H' p (.lst ys))) u s) : wpAny (model X.prog X.w) X.A (call (.type "list") [u]) (EP X pins σ Q) E s := by
  obtain ⟨G, H1, Hq, fp, gs, rfl, hk, _, Fi, I, hd, _, _, sm, hn, hQ⟩ := h
  have ro : Room (G.k + 4) X.A := by rw [hk]; exact hr
  have hga := (hd.fps _ hd.ga).1
  have hSa : s.heap.objs.size ≠ G.a := Nat.ne_of_gt (Heap.lt_size hga)
  refine callType_codes (Q₁ := fun o t => o = .ref s.heap.objs.size ∧ t = { s with heap := s.heap.push { cls := .type "list", data := .seq #[] } }) PySem.F.called_list (PySem.F.typeCall_list_1 _) PySem.F.entry_list_init (code_list_new _ ⟨rfl, rfl⟩) fun o t h1 => ?_
  obtain ⟨rfl, rfl⟩ := h1
  generalize hS : s.heap.objs.size = S at *
  have e1 : (s.heap.push { cls := .type "list", data := .seq #[] }).get? S = some { cls := .type "list", data := .seq #[] } := by rw [← hS]; exact Heap.get?_push_size _ rfl
  refine ⟨⟨_, e1, rfl⟩, PySem.F.args_list_init_2 _ _, ?_⟩
  show wpAny (model X.prog X.w) X.A.in1.in1 (do let old ← Builtin.List.listItems (.ref S); Builtin.List.listUpdate (.ref S) (fun _ => #[]); letGo old.toList.reverse; Builtin.List.listExtendWith (.ref S) (.ref G.a) .none) _ _ _
  unfold Builtin.List.listItems
  refine wpAny_bind (wpAny_bind (wpAny_seqItems e1 rfl (wpAny_pure ?_)))
  show wpAny (model X.prog X.w) X.A.in1.in1 (updateSeq S (fun _ => #[]) >>= fun _ => letGo (#[] : Array Value).toList.reverse >>= fun _ => Builtin.List.listExtendWith (.ref S) (.ref G.a) .none) _ _ _
  have e2 := Heap.get?_update_self (Obj.mapSeq (fun _ => (#[] : Array Value))) e1 rfl
  refine wpAny_bind (wpAny_updateSeq e1 rfl (wpAny_bind (wpAny_letGo ?_)))
  unfold Builtin.List.listExtendWith
  have up : ∀ (h : Heap) (fn : Obj → Obj), (∀ b o, s.heap.get? b = some o → h.get? b = some o) → ∀ b o, s.heap.get? b = some o → (h.update S fn).get? b = some o := fun h fn q b o e => (Heap.get?_update_other _ _ (Ne.symm (Nat.ne_of_lt (by rw [← hS]; exact Heap.lt_size e)))).trans (q b o e)
  have k1 : ∀ b o, s.heap.get? b = some o → (s.heap.push { cls := .type "list", data := .seq #[] }).get? b = some o := fun b o e => Heap.get?_push_of_some _ e
  have k2 := up _ (Obj.mapSeq (fun _ => (#[] : Array Value))) k1
  have gty : ∀ {h : Heap}, (∀ b o, s.heap.get? b = some o → h.get? b = some o) → h.IsGen G.a G.g := fun {h} q => (held_gen Fi hd).keeps q
  refine wpAny_bind (wpAny_typeOf (Heap.IsGen.typeIs (s := { s with heap := _ }) (gty k2)) ?_)
  have b1 : Builtin.List.listSameRef (.ref S) (.ref G.a) = false := by simp [Builtin.List.listSameRef, hSa]
  have b2 : (Value.type "generator" == Value.type "list") = false := by decide
  have b3 : (Value.type "generator" == Value.type "tuple") = false := by decide
  simp only [b1, b2, b3, Bool.or_false, Bool.false_eq_true, if_false]
  refine wpAny_bind (wpAny_pyIter_gen (s := { s with heap := _ }) (gty k2) (wpAny_bind (wpAny_holding ?_)))
  unfold Builtin.List.listLengthHint
  refine wpAny_bind (wpAny_specialOf (Heap.IsGen.typeIs (s := { s with heap := _ }) (gty k2)) PySem.F.gen_no_len ?_)
  show wpAny (model X.prog X.w) X.A.in1.in1 (specialOf (Value.ref G.a) (Str.ofString "__length_hint__") >>= _) _ _ _
  refine wpAny_bind (wpAny_specialOf (Heap.IsGen.typeIs (s := { s with heap := _ }) (gty k2)) PySem.F.gen_no_hint (wpAny_pure ?_))
  show wpAny (model X.prog X.w) X.A.in1.in1 (rule "list.extend.makes-room" >>= fun _ => Builtin.List.listTouch (.ref S) >>= fun _ => again (.builtin "list.extend.loop" ⟨[.ref S, .ref G.a, .none], []⟩)) _ _ _
  refine wpAny_bind (wpAny_rule (wpAny_bind ?_))
  show wpAny (model X.prog X.w) X.A.in1.in1 (updateSeq S (·.push .none) >>= fun _ => updateSeq S (·.pop)) _ _ _
  refine wpAny_bind (wpAny_updateSeq e2 rfl ?_)
  have e3 := Heap.get?_update_self (Obj.mapSeq (·.push Value.none)) e2 rfl
  refine wpAny_updateSeq (hz := by seq_fits) e3 rfl ?_
  have e4 := Heap.get?_update_self (Obj.mapSeq (·.pop)) e3 rfl
  have k4 := up _ (Obj.mapSeq (·.pop)) (up _ (Obj.mapSeq (·.push Value.none)) k2)
  refine wpAny_pure ⟨plainId_quiet PySem.F.plain_extend_loop _, ?_⟩
  have nS : H1 S = none := I.hok.fresh (by rw [hS]; exact Nat.le_refl _)
  have lt : ∀ b o, s.heap.get? b = some o → b ≠ S := fun b o e => Nat.ne_of_lt (by rw [← hS]; exact Heap.lt_size e)
  have hS0 : X.s_0.heap.objs.size ≤ S := by rw [← hS]; exact I.sz
  have hSc : ∀ x c, X.env.cells.lookup x = some c → c ≠ S := fun x c e => by
    obtain ⟨v, o, ho, _⟩ := I.cell x c e
    exact lt c o ho
  have hSp : ∀ p ∈ X.pn ++ pins, p.1 ≠ S := fun p hp => lt p.1 p.2 (I.pin p hp).1
  have lS : S ≠ X.env.locals := Nat.ne_of_gt (by rw [← hS]; exact I.lt)
  have fS : S ∉ X.fs := I.nofs (by rw [hS]; exact Nat.le_refl _)
  have I2 := I.kept (t' := s.toks) k4
  have I3 := I2.pins_of (pins' := pins ++ [(S, lstObj (((#[] : Array Value).push .none).pop) _)]) fun p hp => (List.mem_append.mp hp).elim (fun z => I2.pin p (List.mem_append_right _ z)) fun z => by
    rw [List.mem_singleton.mp z]
    exact ⟨e4, nS, lS, fS, fun v q => by cases q⟩
  refine drainY (pins := pins) (σ := σ) (H0 := H1) (A := X.A.in1) Fi (Room.in1 (ro.mono (by omega))) I.ok.frames hn hS0 hSc hSp (fun s' H' ys acc c Ie sme hle hv hit => ⟨rfl, ?_⟩) _ 0 _ H1 Hq fp [] gs [] _ _ rfl (Nat.zero_le _) I3 (held_pins hd rfl (fun p hp => ?_) fun q hq => ?_) sm (fun _ _ e => e) rfl .nil (fun i x e => by simp at e)
  · exact (k4 p.1 p.2 (hd.fps p hp).1).trans (hd.fps p hp).1.symm
  · rcases List.mem_append.mp hq with hq | hq
    · exact .inl ⟨q, hq, rfl⟩
    · rw [List.mem_singleton.mp hq]
      exact .inr fun p hp => lt p.1 p.2 (hd.fps p hp).1
  · exact ⟨.ref S, _, inv_track Ie hv (by omega) hS0 hSc hSp, rfl, hQ ys H' S sme hle hit (Ie.pin (S, lstObj acc c) (List.mem_append_right _ (List.mem_append_right _ (List.mem_singleton.mpr rfl)))).2.1⟩
def tListY (ti : TGy) : TE := fun σ H Q => ti σ H fun n item Hq H1 => n < sizeLine ∧ ∀ ys H' p, Same H1 H' → ys.length = n → (∀ (i : Nat) x, ys[i]? = some x → item i x H') → H' p = none → Q (.ref p) (upd H' p (.lst ys))
theorem pe_listY {e : Expr} {ti : TGy} {kk : Nat} {nm : Str} {p pos : Pos} (h : PGn X kk e ti) (hr : Room (kk + 4) X.A) (hg : Gl X nm) (hmg : X.mg nm = none) (hv : bootBuiltins nm = some (.type "list")) (hnm : nm ≠ "__name__" := by decide) (hdb : (nm == ("__debug__" : Str)) = false := by decide)
    (he : starEach [e] X.env = (false, eval e X.env) :: starEach [] X.env := by rfl) : PE X (.Call (.Name nm p) [e] [] pos) (tListY ti) := by
  refine ⟨fun pins s σ H Q I hq => wpAny_Call_Name_kw (ld_blt I hg hmg hv (PyProof.Rows.callWith_type1 ?_ he rfl) hnm hdb)⟩
  rw [he]
  exact Calls.spliced_cons (thn (h.run pins s σ H _ I hq) fun u s1 hm => Calls.spliced_nil (call_listY hr hm))
end
end SY

set_option Elab.async false
set_option linter.all false
set_option maxRecDepth 100000
set_option maxHeartbeats 4000000
/-! Generators: [.. for .. in g]. -/
namespace SY
open PySem L2 PySem.Spec PyProof.Rows GenW PySem.W.X SC
section
variable {X : Cx} {pins : List (Addr × Obj)} {σ : L2.St} {H : Hp} {s : Shared}
theorem cells_none : ∀ {names : List (Str × NameKind)} {n : Nat} {acc : List (Str × Addr)}, (∀ y ∈ names, y.2 ≠ .cell) → cellsFrom n names acc = acc
  | [], _, _, _ => rfl
  | (x, k) :: r, n, acc, h => by
    have hk : k ≠ .cell := h (x, k) List.mem_cons_self
    have e : (k == NameKind.cell) = false := by cases k <;> first | rfl | exact absurd rfl hk
    show (if (k == NameKind.cell) = true then _ else cellsFrom n r acc) = acc
    rw [e]
    exact cells_none fun y hy => h y (List.mem_cons_of_mem _ hy)
/-- a block that leans on the older part alone -/
theorem blk_cut {scope : Scope} {ce : Env} {σ' : L2.St} {H' : Hp} {s' : Shared} {L : Nat} {pb : List (Addr × Obj)} (I : Inv (X.blk s H scope ce []) [] σ' H' s') (hL : L ≤ s.heap.objs.size) (hb : X.base.objs.size ≤ L) (hf : ∀ b ∈ frs X.stack, b < L)
    (hp : ∀ p ∈ pb, s'.heap.get? p.1 = some p.2 ∧ H' p.1 = none ∧ p.1 ≠ ce.locals ∧ p.1 ∉ frs X.stack ∧ ∀ v, p.2.data ≠ .cell v) : Inv (X.blk { s with heap := cut s.heap L } H scope ce []) pb σ' H' s' := by
  obtain ⟨ok, h2, h3, h4, h5, h6, h7, h8, h9, h10, h11⟩ := I
  have csz : (cut s.heap L).objs.size = L := by rw [cut_size]; exact Nat.min_eq_left hL
  refine ⟨⟨ok.mod, ok.kind, ok.glob, ok.blt, ?_, ok.inj, ok.has, fun x c e1 e2 => ?_, ok.hd, ok.frames, ok.stk, ok.exf, fun b o e => ?_, ?_, ok.noex, ok.exfs, cut_funs ok.funs hf, ok.frf⟩, h2, h3, ⟨fun b o e => h4.keep b o (of_cut e), fun b o e => h4.slot b o (of_cut e), fun b o e => h4.free b o (of_cut e), fun b o e => h4.there b o (of_cut e), h4.tups, h4.frzs, h4.tbls⟩, h5, h6, h7, h8, fun p hq => hp p (by simpa using hq), h10, h11⟩
  · show (cut s.heap L).objs.size ≤ _
    rw [csz]
    exact Nat.le_trans hL ok.above
  · show (cut s.heap L).objs.size ≤ c
    rw [csz]
    exact Nat.le_trans hL (ok.cab x c e1 e2)
  · refine ⟨?_, (ok.bs b o e).2⟩
    show (cut s.heap L).get? b = some o
    rw [cut_get (Nat.lt_of_lt_of_le (Heap.lt_size e) hb)]
    exact (ok.bs b o e).1
  · show X.base.objs.size ≤ (cut s.heap L).objs.size
    rw [csz]
    exact hb
/-- back behind such a block -/
theorem blk_back {scope : Scope} {ce : Env} {σ' : L2.St} {H' : Hp} {s' : Shared} {L : Nat} (I : Inv X pins σ H s) (Ib : Inv (X.blk { s with heap := cut s.heap L } H scope ce []) (X.pn ++ pins) σ' H' s') (h0 : X.s_0.heap.objs.size ≤ L) (hc : ∀ x c, X.env.cells.lookup x = some c → c < L) (hl : X.env.locals < L) : Inv X pins σ H' s' := by
  have get : ∀ b, b < L → (cut s.heap L).get? b = s.heap.get? b := fun b hb => cut_get hb
  have neL : ∀ b o, X.s_0.heap.get? b = some o → b ≠ X.env.locals := fun b o e => Nat.ne_of_lt (Nat.lt_of_lt_of_le (Heap.lt_size e) I.ok.above)
  have lt : ∀ b o, X.s_0.heap.get? b = some o → b < L := fun b o e => Nat.lt_of_lt_of_le (Heap.lt_size e) h0
  have nofr : ∀ b, b ≠ X.env.locals → b ∉ X.fs → b ∉ frs X.stack := fun b h1 h2 hm => by
    rcases List.mem_cons.mp (I.stkSub b hm) with z | z
    · exact h1 z
    · exact h2 z
  have nex : ∀ b : Addr, b ∉ ([] : List Addr) := fun b => by simp
  have B := Ib.base
  have any : ∀ b o, b < L → s.heap.get? b = some o → H b = none → ∃ sl, s'.heap.get? b = some { o with slots := sl } := fun b o h1 h2 h3 => B.any (show (cut s.heap L).get? b = some o by rw [get b h1]; exact h2) h3 (nex b)
  have keep : ∀ b o, b < L → s.heap.get? b = some o → H b = none → b ∉ frs X.stack → s'.heap.get? b = some o := fun b o h1 h2 h3 h4 => B.keep b o (show (cut s.heap L).get? b = some o by rw [get b h1]; exact h2) h3 h4 (nex b)
  have free : ∀ b o, b < L → s.heap.get? b = some o → H b = none → H' b = none := fun b o h1 h2 h3 => B.free b o (show (cut s.heap L).get? b = some o by rw [get b h1]; exact h2) h3 (nex b)
  have cellK : ∀ x c, X.env.cells.lookup x = some c → ∀ v, s.heap.IsCell c v → s'.heap.IsCell c v := fun x c e v ⟨o, h1, h2⟩ => by
    obtain ⟨sl, q⟩ := any c o (hc x c e) h1 (I.freeC x c e)
    exact ⟨_, q, h2⟩
  refine ⟨I.ok, Ib.os.trans I.os, Ib.bare, ⟨fun b o e n hb hx => ?_, fun b o e n hb hx => ?_, fun b o e n hx => ?_, fun b o e hx => ?_, fun b xs e => B.tups _ _ (I.base.tups b xs e), fun b o xs e => B.frzs _ _ _ (I.base.frzs b o xs e), fun b qs e => ?_⟩, ?_, fun x c e => ?_, ?_, fun x c e => ?_, fun p hp => ?_, Ib.hok, I.len⟩
  · exact keep b o (lt b o e) (I.base.keep b o e n hb hx) (I.base.free b o e n hx) (nofr b (neL b o e) hb)
  · obtain ⟨sl, e1⟩ := I.base.slot b o e n hb hx
    obtain ⟨sl2, e2⟩ := any b _ (lt b o e) e1 (I.base.free b o e n hx)
    exact ⟨sl2, e2⟩
  · obtain ⟨o', e1⟩ := I.base.there b o e hx
    exact free b o' (lt b o e) e1 (I.base.free b o e n hx)
  · obtain ⟨o', e1⟩ := I.base.there b o e hx
    exact B.there b o' (show (cut s.heap L).get? b = some o' by rw [get b (lt b o e)]; exact e1) (nex b)
  · obtain ⟨m1, e1⟩ := I.base.tbls b qs e
    obtain ⟨m2, e2⟩ := B.tbls b _ e1
    exact ⟨m1 ++ m2, by rw [e2, Array.append_assoc]⟩
  · obtain ⟨m, ⟨o, es, ep, h1, h2⟩, hlk⟩ := I.loc
    obtain ⟨sl, q⟩ := any _ o hl h1 I.free
    refine ⟨m, ⟨_, es, ep, q, h2⟩, fun i x v e1 e2 e3 => ?_⟩
    obtain ⟨u, r, l⟩ := hlk i x v e1 e2 e3
    rcases l with l | ⟨k, c, e, z⟩
    · exact ⟨u, r, .inl l⟩
    · exact ⟨u, r, .inr ⟨k, c, e, cellK x c e _ z⟩⟩
  · obtain ⟨v, z⟩ := I.cell x c e
    exact ⟨v, cellK x c e v z⟩
  · obtain ⟨m, ⟨o, es, ep, h1, h2⟩, _⟩ := I.loc
    exact free _ o hl h1 I.free
  · obtain ⟨v, o, h1, h2⟩ := I.cell x c e
    exact free c o (hc x c e) h1 (I.freeC x c e)
  · obtain ⟨q1, q2, q3, q4, q5⟩ := I.pin p hp
    obtain ⟨r1, r2, _⟩ := Ib.pin p (List.mem_append_right _ hp)
    exact ⟨r1, r2, q3, q4, q5⟩
end
section
variable {X : Cx}
def LcG (n : Nat) (item : Nat → V → Hp → Prop) (g : TG) (tt : TT) (te : TE) (vs : List Nat) (Hq : Hp) (σ : L2.St) (H1 : Hp) (Q : VK) : Prop := ∀ D, H1 D = none → ∃ W : Nat → Hp → Hp → Prop, W 0 Hq (upd H1 D (.lst [])) ∧ ∀ j Hq H, W j Hq H → j ≤ n ∧ Same Hq H ∧ (j = n → ∀ H', Same H H' → Q (.ref D) H') ∧
  (j < n → ∀ x H' Hq', Same H H' → item j x H' → Same Hq' H' → (∀ b o, Hq' b = some o → Hq b = some o ∨ H b = none) → g x (wipe σ vs) H' fun σ2 H2 => wipe σ2 vs = wipe σ vs ∧ tt σ2 H2 fun b H3 =>
    if b = true then te σ2 H3 fun y H4 => ∃ acc, H4 D = some (.lst acc) ∧ acc.length < sizeLine ∧ W (j + 1) Hq' (upd H4 D (.lst (acc ++ [y]))) else W (j + 1) Hq' H3)
def tLcG (ti : TGy) (g : TG) (tt : TT) (te : TE) (vs : List Nat) : TE := fun σ H Q => ti σ H fun n item Hq H1 => LcG n item g tt te vs Hq σ H1 Q
theorem lcG_core {pins : List (Addr × Obj)} {s : Shared} {σ : L2.St} {H : Hp} {Q : VK} {elt tg iter : Expr} {ifs : List Expr} {scope : Scope} {own : List (Str × Nat)} {pos pos' : Pos} {kk : Nat} {ti : TGy} {g : TG} {tt : TT} {te : TE} {use : Option (Value → Sem Unit)} {Qf : Value → Shared → Prop}
    (hN : X.N.Nodup) (hro : Room (kk + 1) X.A) (I : Inv X pins σ H s) (hi : PGn X kk iter ti) (ok : BlkOk X.N X.env.scope scope own) (hnc : ∀ y ∈ scope.names, y.2 ≠ .cell)
    (hg : ∀ (s : Shared) (H : Hp) (C : Addr) (cl : List (Str × Addr)) (fp : List Addr), PG (X.blk s H scope (compEnvC scope cl C X.env) fp) tg g) (ht : ∀ (s : Shared) (H : Hp) (C : Addr) (cl : List (Str × Addr)) (fp : List Addr), PTs (X.blk s H scope (compEnvC scope cl C X.env) fp) ifs tt)
    (he : ∀ (s : Shared) (H : Hp) (C : Addr) (cl : List (Str × Addr)) (fp : List Addr), PE (X.blk s H scope (compEnvC scope cl C X.env) fp) elt te) (hs : ∀ x, foldedSetIterable iter X.env x = pure x)
    (h : tLcG ti g tt te (own.map (·.2)) σ H Q)
    (hRR : ∀ D C s' m H', Inv X pins σ H' s' → Q (.ref D) H' → s'.heap.Ns C m → FpOk X pins H' C → compPost (model X.prog X.w) X.A X.xe use Qf (.ref D) C (.ok .next) s') :
    wpAny (model X.prog X.w) X.A (comprehension (.ListComp elt [⟨tg, iter, ifs, 0⟩] scope pos) scope X.env pos' (newList []) false (eval iter X.env) use) Qf X.xe s := by
  have hfree : ∀ y ∈ scope.names, y.2 = .free → ∃ c, X.env.cells.lookup y.1 = some c := fun y hy e => (ok.free y hy e).elim (fun k => I.ok.has _ (.inl k)) fun k => I.ok.has _ (.inr k)
  refine wpAny_comprehension_free (use := use) rfl hs (closure_ok hfree) ok.kind (fun y hy e => by rw [ok.uniq y hy, e]) (thn (hi.run pins s σ H _ I h) fun xv s1 hx => thn (made_iter (M := model X.prog X.w) (E := X.xe) hx) fun itv s2 h2 => ?_)
  obtain ⟨G, H2, Hq, fp, gs, rfl, hk2, _, F, I2, hd2, hfr, hXL, sm2, q⟩ := h2
  have ro : Room (G.k + 1) X.A := by rw [hk2]; exact hro
  refine wpAny_newObj_type (newEnv_comp ?_) (by show 0 ≤ sizeLine; decide)
  generalize hD : s2.heap.objs.size = D
  have hDn : H2 D = none := I2.hok.fresh (Nat.le_of_eq hD)
  obtain ⟨W, w0, turn⟩ := q D hDn
  generalize hs3 : ({ s2 with heap := s2.heap.push { cls := .type "list", data := .seq ([] : List Value).toArray } } : Shared) = s3
  have h3 : s3.heap = s2.heap.push { cls := .type "list", data := .seq ([] : List Value).toArray } := by rw [← hs3]
  have k3 : ∀ b o, s2.heap.get? b = some o → s3.heap.get? b = some o := fun b o e => by rw [h3]; exact Heap.get?_push_of_some _ e
  have I3 : Inv X pins σ (upd H2 D (.lst [])) s3 := by
    rw [← hs3]
    refine I2.laid (t' := s2.toks) (fun b o e => Heap.get?_push_of_some _ e) (Nat.le_of_eq hD) ⟨Nat.zero_le _, [], 0, .nil, by rw [← hD]; exact Heap.get?_push_size _ rfl⟩
  have I4 := block_start (fp := []) I3 ok hN (fun b hb => by simp at hb)
  have hg3 : s3.gens = s2.gens := by rw [← hs3]
  have hD3 : s3.heap.objs.size = D + 1 := by rw [h3, Heap.size_push, hD]
  generalize hH3 : upd H2 D (.lst []) = H3 at I3 I4 w0
  have hga := (hd2.fps _ hd2.ga).1
  have hLD : G.env.locals < D := by rw [← hD]; exact Nat.lt_trans F.ok.la (Heap.lt_size hga)
  have lt2 : ∀ b o, s2.heap.get? b = some o → b ≠ D := fun b o e => Nat.ne_of_lt (by rw [← hD]; exact Heap.lt_size e)
  have hcl : cellsFrom (s3.heap.objs.size + 1) scope.names (cloFrom X.env.cells scope.names []) = cloFrom X.env.cells scope.names [] := cells_none hnc
  show codeAny (model X.prog X.w) _ (.compStart (.ListComp elt [⟨tg, iter, ifs, 0⟩] scope pos) 0 (.ref G.a) (.ref D) (compEnvC scope (cellsFrom (s3.heap.objs.size + 1) scope.names (cloFrom X.env.cells scope.names [])) s3.heap.objs.size X.env)) (compPost (model X.prog X.w) X.A X.xe use Qf (.ref D) s3.heap.objs.size) { s3 with heap := pushCells (s3.heap.push { cls := .type "dict", data := .dict #[] }) scope.names }
  have k4 : ∀ b o, s3.heap.get? b = some o → (pushCells (s3.heap.push { cls := .type "dict", data := .dict #[] }) scope.names).get? b = some o := fun b o e => pushCells_keeps _ _ _ _ (Heap.get?_push_of_some _ e)
  generalize hs4 : ({ s3 with heap := pushCells (s3.heap.push { cls := .type "dict", data := .dict #[] }) scope.names } : Shared) = s4 at I4 ⊢
  have k4' : ∀ b o, s3.heap.get? b = some o → s4.heap.get? b = some o := fun b o e => by rw [← hs4]; exact k4 b o e
  have hg4 : s4.gens = s2.gens := by rw [← hs4]; exact hg3
  have pg := hg { s3 with heap := cut s3.heap G.env.locals } H3 s3.heap.objs.size (cellsFrom (s3.heap.objs.size + 1) scope.names (cloFrom X.env.cells scope.names [])) []
  have pt := ht { s3 with heap := cut s3.heap G.env.locals } H3 s3.heap.objs.size (cellsFrom (s3.heap.objs.size + 1) scope.names (cloFrom X.env.cells scope.names [])) []
  have pe := he { s3 with heap := cut s3.heap G.env.locals } H3 s3.heap.objs.size (cellsFrom (s3.heap.objs.size + 1) scope.names (cloFrom X.env.cells scope.names [])) []
  have cellsB : ∀ x c, (compEnvC scope (cellsFrom (s3.heap.objs.size + 1) scope.names (cloFrom X.env.cells scope.names [])) s3.heap.objs.size X.env).cells.lookup x = some c → c < G.env.locals := fun x c e => by
    have e' : (cloFrom X.env.cells scope.names []).lookup x = some c := by
      rw [← hcl]; exact e
    rcases cloFrom_mem (PySem.mem_of_lookup e') with z | ⟨z1, z2⟩
    · simp at z
    · obtain ⟨c', hc'⟩ := hfree _ z1 rfl
      have hc'' : X.env.cells.lookup x = some c' := hc'
      rw [hc''] at z2
      rw [z2]
      exact F.cells x c' hc''
  generalize hce : compEnvC scope (cellsFrom (s3.heap.objs.size + 1) scope.names (cloFrom X.env.cells scope.names [])) s3.heap.objs.size X.env = ce at I4 pg pt pe cellsB ⊢
  have cL : ce.locals = s3.heap.objs.size := by subst hce; rfl
  have frL : ∀ b ∈ frs X.stack, b < G.env.locals := fun b hb => F.ok.frl b (by rw [← F.stack]; exact hb)
  have hnL : ce.locals ∉ frs X.stack := fun hm => by
    have := frL _ hm
    rw [cL, hD3] at this
    exact absurd (Nat.lt_trans this hLD) (Nat.not_lt_of_le (Nat.le_succ _))
  have pinB : ∀ p ∈ X.pn ++ pins, s4.heap.get? p.1 = some p.2 ∧ H3 p.1 = none ∧ p.1 ≠ ce.locals ∧ p.1 ∉ frs X.stack ∧ ∀ v, p.2.data ≠ .cell v := fun p hp => by
    obtain ⟨q1, q2, q3, q4, q5⟩ := I3.pin p hp
    refine ⟨k4' _ _ q1, q2, fun z => ?_, fun hm => ?_, q5⟩
    · have := Heap.lt_size q1
      rw [z, cL] at this
      exact absurd this (Nat.lt_irrefl _)
    · rcases List.mem_cons.mp (I3.stkSub p.1 hm) with z | z
      · exact q3 z
      · exact q4 z
  have I5 := blk_cut (L := G.env.locals) (pb := X.pn ++ pins) I4 (by rw [hD3]; exact Nat.le_of_lt (Nat.lt_succ_of_lt hLD)) (by rw [F.base]; exact F.ok.bsz) frL pinB
  have FB : Fits G (X.blk { s3 with heap := cut s3.heap G.env.locals } H3 scope ce []) := by
    refine ⟨F.ok, F.prog, F.w, F.K, F.mg, F.base, F.stack, ?_, cellsB, .inr ⟨?_, ?_⟩⟩
    · show (cut s3.heap G.env.locals).objs.size ≤ _
      rw [cut_size]
      exact Nat.min_le_left _ _
    · show G.env.locals < ce.locals
      rw [cL, hD3]
      exact Nat.lt_succ_of_lt hLD
    · rw [← F.stack]; exact hnL
  have hd4 : Held G (X.blk { s3 with heap := cut s3.heap G.env.locals } H3 scope ce []) (X.pn ++ pins) 0 Hq fp [] gs H3 s4 := by
    refine ⟨by rw [hg4]; exact hd2.at_, hd2.rdy, hd2.has, fun p hp => ?_, hd2.ga, fun q hq => by simp at hq⟩
    obtain ⟨q1, q2, q3, q4, q5, q6⟩ := hd2.fps p hp
    refine ⟨k4' _ _ (k3 _ _ q1), by rw [← hH3, upd_ne (lt2 _ _ q1)]; exact q2, q3, q4, fun z => ?_, fun q hq => q6 q (by simpa using hq)⟩
    have := Heap.lt_size (k3 _ _ q1)
    rw [z] at this
    have z' : ce.locals < s3.heap.objs.size := this
    rw [cL] at z'
    exact absurd z' (Nat.lt_irrefl _)
  have loop : codeAny (model X.prog X.w) X.A (.compLoop (.ListComp elt [⟨tg, iter, ifs, 0⟩] scope pos) 0 (.ref G.a) (.ref D) ce) (compPost (model X.prog X.w) X.A X.xe use Qf (.ref D) s3.heap.objs.size) s4 := by
    refine compLoop_any (fun m s' => ∃ j Hq H' fp gp gs, m = G.n - j ∧ Inv (X.blk { s3 with heap := cut s3.heap G.env.locals } H3 scope ce []) (X.pn ++ pins) (wipe σ (own.map (·.2))) H' s' ∧ Held G (X.blk { s3 with heap := cut s3.heap G.env.locals } H3 scope ce []) (X.pn ++ pins) j Hq fp gp gs H' s' ∧ W j Hq H') ?_ (G.n - 0) ⟨0, Hq, H3, fp, [], gs, rfl, I5, hd4, w0⟩
    rintro m s5 ⟨j, Hq5, H5, fp5, gp5, gs5, rfl, J5, hd5, w5⟩
    obtain ⟨t1, t2, t3, t4⟩ := turn j Hq5 H5 w5
    by_cases hj : j = G.n
    · refine next_done (X := X.blk { s3 with heap := cut s3.heap G.env.locals } H3 scope ce []) FB J5 hd5 t2 hj J5.ok.frames ro fun H6 s6 J6 sm => ?_
      have I7 : Inv X pins σ H6 s6 := blk_back (L := G.env.locals) I3 J6 F.s0 F.cells hXL
      have nC : H6 s3.heap.objs.size = none := by
        have z : H6 ce.locals = none := J6.free
        rw [cL] at z
        exact z
      obtain ⟨m, hn, _⟩ := J6.loc
      have hn : s6.heap.Ns ce.locals m := hn
      rw [cL] at hn
      exact hRR D s3.heap.objs.size s6 m H6 I7 (t3 hj H6 sm) hn (I3.fpOk (Nat.le_refl _) nC)
    · refine next_item (X := X.blk { s3 with heap := cut s3.heap G.env.locals } H3 scope ce []) FB J5 hd5 t2 (by omega) J5.ok.frames ro fun u x H6 Hq6 fp6 gp6 gs6 s6 rv it => let_gen F.ok ((it.held.fps _ it.held.ga).1) ?_
      have J6 := held_pin FB it.inv it.held
      refine wpAny_mono (pg_slp (fun _ _ h => h) pg J6 rv (t4 (by omega) x H6 Hq6 it.same it.item it.rely it.less)) (fun _ s7 ⟨sl7, σ7, H7, J7, hw7, q7⟩ => ?_) fun _ _ z => z
      refine wpAny_mono (run_slp (Q' := TP (X.blk { s3 with heap := cut s3.heap G.env.locals } H3 scope ce []) ((X.pn ++ pins) ++ fp6) σ7 _) J7 (fun z Iz _ => pt.run _ z σ7 H7 _ Iz q7) (fun b z s' h1 h2 h3 ⟨H', I', q⟩ => ⟨H', inv_gens I' h1 h2 (h3 I'.bare), q⟩)) (fun b s8 ⟨sl8, H8, J8, q8⟩ => ?_) fun _ _ z => z
      have fin : ∀ {s' : Shared} {H' : Hp}, Slp s6 s' → Inv (X.blk { s3 with heap := cut s3.heap G.env.locals } H3 scope ce []) ((X.pn ++ pins) ++ fp6) σ7 H' s' → W (j + 1) Hq6 H' → ∃ m, m < G.n - j ∧ ∃ j Hq H' fp gp gs, m = G.n - j ∧ Inv (X.blk { s3 with heap := cut s3.heap G.env.locals } H3 scope ce []) (X.pn ++ pins) (wipe σ (own.map (·.2))) H' s' ∧ Held G (X.blk { s3 with heap := cut s3.heap G.env.locals } H3 scope ce []) (X.pn ++ pins) j Hq fp gp gs H' s' ∧ W j Hq H' := fun {s' H'} sl I' w' => by
        have hl : (wipe σ (own.map (·.2))).length = σ7.length := by rw [← hw7, wipe_length]
        refine ⟨G.n - (j + 1), by omega, j + 1, Hq6, H', fp6, gp6, gs6, rfl, (I'.unpinned (pins := X.pn ++ pins)).weak hl (fun i v e => ?_), held_next it.held it.susp sl I', w'⟩
        rw [← hw7] at e
        exact (wipe_some e).1
      cases b with
      | false =>
        simp only [Bool.false_eq_true, if_false] at q8 ⊢
        exact fin (sl7.trans sl8) J8 q8
      | true =>
        simp only [if_true] at q8 ⊢
        refine wpAny_mono (run_slp (Q' := EP (X.blk { s3 with heap := cut s3.heap G.env.locals } H3 scope ce []) ((X.pn ++ pins) ++ fp6) σ7 _) J8 (fun z Iz _ => pe.run _ z σ7 H8 _ Iz q8) (fun a z s' h1 h2 h3 h4 => ep_gens h1 h2 h3 h4)) (fun z s9 ⟨sl9, yv, H9, J9, r9, acc, hD9, hz9, w9⟩ => ?_) fun _ _ z => z
        refine wpAny_mono (run_slp (E := fun _ _ => False) (Q' := fun _ s' => Inv (X.blk { s3 with heap := cut s3.heap G.env.locals } H3 scope ce []) ((X.pn ++ pins) ++ fp6) σ7 (upd H9 D (.lst (acc ++ [yv]))) s') J9 (fun z Iz _ => app_ok (X := X.blk { s3 with heap := cut s3.heap G.env.locals } H3 scope ce []) (E := fun _ _ => False) Iz hD9 hz9 r9 fun s11 I11 => I11) (fun a z s' h1 h2 h3 h4 => inv_gens h4 h1 h2 (h3 h4.bare))) (fun _ s10 ⟨sl10, J10⟩ => ?_) fun _ _ z => z.elim
        exact fin (((sl7.trans sl8).trans sl9).trans sl10) J10 w9
  exact codeAny_compStart_list loop (wpAny_pyIter_gen (held_gen FB hd4) loop)
theorem pe_lcG {elt tg iter : Expr} {ifs : List Expr} {scope : Scope} {own : List (Str × Nat)} {pos : Pos} {kk : Nat} {ti : TGy} {g : TG} {tt : TT} {te : TE} (hN : X.N.Nodup) (hro : Room (kk + 1) X.A) (hi : PGn X kk iter ti) (ok : BlkOk X.N X.env.scope scope own) (hnc : ∀ y ∈ scope.names, y.2 ≠ .cell)
    (hg : ∀ (s : Shared) (H : Hp) (C : Addr) (cl : List (Str × Addr)) (fp : List Addr), PG (X.blk s H scope (compEnvC scope cl C X.env) fp) tg g) (ht : ∀ (s : Shared) (H : Hp) (C : Addr) (cl : List (Str × Addr)) (fp : List Addr), PTs (X.blk s H scope (compEnvC scope cl C X.env) fp) ifs tt)
    (he : ∀ (s : Shared) (H : Hp) (C : Addr) (cl : List (Str × Addr)) (fp : List Addr), PE (X.blk s H scope (compEnvC scope cl C X.env) fp) elt te) (hs : ∀ x, foldedSetIterable iter X.env x = pure x := by intro _; rfl) :
    PE X (.ListComp elt [⟨tg, iter, ifs, 0⟩] scope pos) (tLcG ti g tt te (own.map (·.2))) := by
  refine ⟨fun pins s σ H Q I h => ?_⟩
  rw [eval_ListComp]
  refine lcG_core hN hro I hi ok hnc hg ht he hs h fun D C s' m H' I' q hn fo => ⟨m, hn, fun h2 sb => ?_⟩
  obtain ⟨f0, f1, f2, f3, f4, f5⟩ := fo
  exact ⟨.ref D, H', I'.turned (t' := s'.toks) (fun b o hb e => (sb.2 b hb).trans e) f0 f1 f3 f4 f5, rfl, q⟩
theorem ps_setLcG {i : Nat} {y : Str} {py : Pos} {elt tg iter : Expr} {ifs : List Expr} {scope : Scope} {own : List (Str × Nat)} {pos spos : Pos} {kk : Nat} {ti : TGy} {g : TG} {tt : TT} {te : TE} (hN : X.N.Nodup) (hy : X.N[i]? = some y) (hyl : X.env.scope.names.lookup y = some .local)
    (hsw : swapsWith (.ListComp elt [⟨tg, iter, ifs, 0⟩] scope pos) (some (.Name y py)) spos.line X.env = pure true) (hro : Room (kk + 1) X.A) (hi : PGn X kk iter ti) (ok : BlkOk X.N X.env.scope scope own) (hnc : ∀ y ∈ scope.names, y.2 ≠ .cell)
    (hg : ∀ (s : Shared) (H : Hp) (C : Addr) (cl : List (Str × Addr)) (fp : List Addr), PG (X.blk s H scope (compEnvC scope cl C X.env) fp) tg g) (ht : ∀ (s : Shared) (H : Hp) (C : Addr) (cl : List (Str × Addr)) (fp : List Addr), PTs (X.blk s H scope (compEnvC scope cl C X.env) fp) ifs tt)
    (he : ∀ (s : Shared) (H : Hp) (C : Addr) (cl : List (Str × Addr)) (fp : List Addr), PE (X.blk s H scope (compEnvC scope cl C X.env) fp) elt te) (hs : ∀ x, foldedSetIterable iter X.env x = pure x := by intro _; rfl) :
    PS X (.Assign [.Name y py] (.ListComp elt [⟨tg, iter, ifs, 0⟩] scope pos) spos) (tAsg (tLcG ti g tt te (own.map (·.2))) (gName i)) := by
  refine ⟨fun pins s σ H D I h => ?_⟩
  rw [exec_Assign_Name_used _ _ _ _ hsw]
  refine wpAny_bind (wpAny_standAt (wpAny_bind ?_))
  show wpAny (model X.prog X.w) X.A (do let _ ← comprehension (.ListComp elt [⟨tg, iter, ifs, 0⟩] scope pos) scope X.env (firstIterPos [⟨tg, iter, ifs, 0⟩] pos) (newList []) false (eval iter X.env) (some (assign (.Name y py) X.env))) _ _ s
  have hh : tLcG ti g tt te (own.map (·.2)) σ H (fun x H1 => gName i x σ H1 D.nx) := h
  refine wpAny_bind (thn (lcG_core (Qf := fun _ s' => SP X pins D .next s') hN hro I hi ok hnc hg ht he hs hh fun L C s' m H' I' q hn fo => ?_) fun _ s' hq => wpAny_pure (wpAny_pure hq))
  show wpAny (model X.prog X.w) _ (assign (.Name y py) X.env (.ref L)) _ _ _
  refine wpAny_assign_Name (store_ok2 (v := V.ref L) I' hN hy (.inl hyl) rfl (fun s2 I2 ⟨a, sb, ha⟩ => ?_) (.inr hyl))
  obtain ⟨f0, f1, f2, f3, f4, f5⟩ := fo
  have haC : C ≠ a := ha.elim (fun z => by rw [z]; exact f1) fun z e => f4 y a z e.symm
  exact ⟨m, hn.sameBut sb haC, fun h3 sb3 => ⟨_, H', I2.turned (t' := s2.toks) (fun b o hb e => (sb3.2 b hb).trans e) f0 f1 f3 f4 f5, q⟩⟩
end
end SY

set_option Elab.async false
set_option linter.all false
set_option maxRecDepth 100000
set_option maxHeartbeats 4000000
/-! Schemacheck: the parts of a datum. -/
namespace SC
open PySem L2
def kidsD : PyData → List (Key × PyData)
  | .list ds => rowsL ds
  | .dict es => rowsD es
  | _ => []
def partsN : Nat → PyData → List (List Key × PyData)
  | 0, _ => []
  | n + 1, d => ([], d) :: (kidsD d).flatMap fun q => (partsN n q.2).map fun r => (q.1 :: r.1, r.2)
/-- names are texts, and few -/
def txtD : Nat → PyData → Prop
  | 0, _ => True
  | n + 1, .list ds => ∀ d ∈ ds, txtD n d
  | n + 1, .dict es => es.length ≤ 60 ∧ StrKeys es ∧ ∀ e ∈ es, txtD n e.2
  | _ + 1, _ => True
theorem docD.txt : ∀ {n : Nat} {d : PyData}, docD n d → txtD n d
  | 0, _, h => h.elim
  | n + 1, .list ds, h => fun d hd => (h.2 d hd).txt
  | n + 1, .dict es, h => ⟨Nat.le_trans h.1 (by decide), fun e he => let ⟨x, hx, _⟩ := (h.2 e he).1; ⟨x, hx⟩, fun e he => (h.2 e he).2.txt⟩
  | n + 1, .none, _ => trivial
  | n + 1, .bool _, _ => trivial
  | n + 1, .int _, _ => trivial
  | n + 1, .str _, _ => trivial
  | n + 1, .tuple _, _ => trivial
/-- the parts ahead of the a-th row -/
def offR (n : Nat) (rs : List (Key × PyData)) (a : Nat) : Nat := ((rs.take a).map fun q => (partsN n q.2).length).sum
theorem off_zero (n : Nat) (rs : List (Key × PyData)) : offR n rs 0 = 0 := by simp [offR]
theorem off_succ {n : Nat} {rs : List (Key × PyData)} {a : Nat} {q : Key × PyData} (h : rs[a]? = some q) : offR n rs (a + 1) = offR n rs a + (partsN n q.2).length := by
  simp [offR, List.take_succ, h]
theorem parts_len {n : Nat} {d : PyData} : (partsN (n + 1) d).length = 1 + offR n (kidsD d) (kidsD d).length := by
  simp only [partsN, List.length_cons, offR, List.take_length, List.length_flatMap, List.length_map]
  omega
theorem flat_at {n : Nat} : ∀ {rs : List (Key × PyData)} {a b : Nat} {q : Key × PyData} {r : List Key × PyData}, rs[a]? = some q → (partsN n q.2)[b]? = some r →
    (rs.flatMap fun q => (partsN n q.2).map fun r => (q.1 :: r.1, r.2))[offR n rs a + b]? = some (q.1 :: r.1, r.2)
  | [], _, _, _, _, h, _ => by simp at h
  | p :: rs, 0, b, q, r, h, g => by
    simp at h
    subst h
    have hb := (List.getElem?_eq_some_iff.mp g).1
    rw [off_zero, Nat.zero_add, List.flatMap_cons, List.getElem?_append_left (by simpa using hb), List.getElem?_map, g]
    rfl
  | p :: rs, a + 1, b, q, r, h, g => by
    simp at h
    have e : offR n (p :: rs) (a + 1) = (partsN n p.2).length + offR n rs a := by simp [offR]
    rw [e, List.flatMap_cons, List.getElem?_append_right (by simp; omega)]
    rw [show (partsN n p.2).length + offR n rs a + b - (List.map (fun r => (p.1 :: r.1, r.2)) (partsN n p.2)).length = offR n rs a + b by simp; omega]
    exact flat_at h g
theorem parts_at {n : Nat} {d : PyData} {a b : Nat} {q : Key × PyData} {r : List Key × PyData} (h : (kidsD d)[a]? = some q) (g : (partsN n q.2)[b]? = some r) : (partsN (n + 1) d)[1 + offR n (kidsD d) a + b]? = some (q.1 :: r.1, r.2) := by
  have := flat_at h g
  simp only [partsN]
  rw [show 1 + offR n (kidsD d) a + b = (offR n (kidsD d) a + b) + 1 by omega, List.getElem?_cons_succ]
  exact this
theorem off_le {n : Nat} {rs : List (Key × PyData)} {a : Nat} {q : Key × PyData} (h : rs[a]? = some q) : offR n rs a + (partsN n q.2).length ≤ offR n rs rs.length := by
  rw [← off_succ h]
  have ha := (List.getElem?_eq_some_iff.mp h).1
  unfold offR
  rw [List.take_length]
  have key : ∀ (l : List Nat) (k : Nat), (l.take k).sum ≤ l.sum := fun l k => by
    have : (l.take k).sum + (l.drop k).sum = l.sum := by rw [← List.sum_append, List.take_append_drop]
    omega
  rw [List.map_take]
  exact key _ _
/-- paths are not longer than it is deep -/
theorem parts_path : ∀ {n : Nat} {d : PyData} {r : List Key × PyData}, r ∈ partsN n d → r.1.length < n
  | 0, _, _, h => by simp [partsN] at h
  | n + 1, d, r, h => by
    simp only [partsN, List.mem_cons, List.mem_flatMap, List.mem_map] at h
    rcases h with rfl | ⟨q, _, x, hx, rfl⟩
    · simp
    · have := parts_path hx
      simp
      omega
/-- one item of parts -/
def partIt (n : Nat) (d : PyData) (G : Hp) : Nat → V → Hp → Prop := fun j x H => ∃ t p v q e, x = .ref t ∧ (partsN n d)[j]? = some (q, e) ∧ H t = some (.tup [.ref p, v]) ∧ H p = some (.tup (q.map kV)) ∧ Re G n v e
theorem partIt.mono {n : Nat} {d : PyData} {G : Hp} {j : Nat} {x : V} {H H' : Hp} (s : Same H H') (h : partIt n d G j x H) : partIt n d G j x H' := by
  obtain ⟨t, p, v, q, e, h1, h2, h3, h4, h5⟩ := h
  exact ⟨t, p, v, q, e, h1, h2, s _ _ h3, s _ _ h4, h5⟩
/-- two parts of a heap -/
def join (A B : Hp) : Hp := fun b => match A b with
  | some o => some o
  | none => B b
theorem join_same {A B H : Hp} (a : Same A H) (b : Same B H) : Same (join A B) H := fun c o e => by
  unfold join at e
  cases h : A c with
  | some u => rw [h] at e; exact a c o (by rw [h]; exact e)
  | none => rw [h] at e; exact b c o e
theorem join_l (A B : Hp) : Same A (join A B) := fun c o e => by
  unfold join; rw [e]
theorem join_r {A B H : Hp} (a : Same A H) (b : Same B H) : Same B (join A B) := fun c o e => by
  unfold join
  cases h : A c with
  | some u =>
    have h1 := a c u h
    rw [b c o e] at h1
    exact h1.symm
  | none => exact e
theorem join_or {A B : Hp} {c : Addr} {o : HO} (h : join A B c = some o) : A c = some o ∨ B c = some o := by
  unfold join at h
  cases e : A c with
  | some u => rw [e] at h; exact .inl h
  | none => rw [e] at h; exact .inr h
section
variable {X : Cx} {K : PySem.W.Frag} {tg : Expr}
theorem pi_listK (h : X.K = K) {l : Expr} {tl : TE} (hl : PE X l tl) : PI X tg l (iList K tl) := by subst h; exact pi_list hl
theorem pg_tupK (h : X.K = K) {es : List Expr} {k : Nat} {t : TGs} {n : Nat} {pos : Pos} (hc : X.calm = true) (hp : PGs X es t) (hn : (assignEach es X.env).length = n := by rfl) (hst : (assignEach es X.env).findIdx? (·.1) = none := by rfl) : PG X (.Tuple es k pos) (gTup K n t) := by subst h; exact pg_tup hc hp hn hst
theorem pi_tupK (h : X.K = K) {l : Expr} {tl : TE} (hl : PE X l tl) : PI X tg l (iTup K tl) := by subst h; exact pi_tup hl
end
theorem _root_.SY.rmY {G : SY.Gn} {ω : SY.Wd} {k : Nat} (h : SY.WdOk G ω) (e : G.k = k + 1) : Room k (G.at ω).A := Room.deeper (e ▸ h.room) _
/-- a generator's block cut behind its first statement -/
theorem cutY {t u : SY.TY} {D : SY.GD} {Hg Hw : Hp} {i : Nat} {σ : L2.St} {H : Hp} (M : SY.GK) (h1 : ∀ N : SY.GK, (∀ a b j σ' H', M a b j σ' H' → N a b j σ' H') → t { D with nx := N } Hg Hw i σ H) (h2 : ∀ a b j σ' H', M a b j σ' H' → u D a b j σ' H') : SY.tyThen t u D Hg Hw i σ H := h1 _ h2
def FyR (J : It) (g : TG) (tb : SY.TY) (D : SY.GD) (Hg Hw : Hp) (i : Nat) (σ : L2.St) (H1 : Hp) : Prop := ∃ W : Nat → Nat → SY.GK, (∃ m, W 0 m Hg Hw i σ H1) ∧ ∀ j m Hg Hw i σ H, W j m Hg Hw i σ H →
  (J.stop j H ∧ D.nx Hg Hw i σ H) ∨ (J.go j H ∧ ∃ N : SY.GK, (∀ a b i' σ' H', N a b i' σ' H' → ∃ m', m' < m ∧ W (j + 1) m' a b i' σ' H') ∧ ∀ x H', J.yld j H x H' → g x σ H' fun σ2 H2 => tb { nx := N, ct := N, bk := D.nx } Hg Hw i σ2 H2)
theorem tyFor_eq (wi : TI) (g : TG) (tb : SY.TY) (D : SY.GD) (Hg Hw : Hp) (i : Nat) (σ : L2.St) (H : Hp) : SY.tyFor wi g tb D Hg Hw i σ H = wi σ H fun J H1 => FyR J g tb D Hg Hw i σ H1 := rfl
def FyG (n : Nat) (item : Nat → V → Hp → Prop) (g : TG) (tb : SY.TY) (D : SY.GD) (Hq Hg Hw : Hp) (i : Nat) (σ : L2.St) (H1 : Hp) : Prop := ∃ W : Nat → Hp → SY.GK, W 0 Hq Hg Hw i σ H1 ∧ ∀ j Hq Hg Hw i σ H, W j Hq Hg Hw i σ H → j ≤ n ∧ Same Hq H ∧ (j = n → ∀ H', Same H H' → D.nx Hg Hw i σ H') ∧
  (j < n → ∀ x H' Hq', Same H H' → item j x H' → Same Hq' H' → (∀ b o, Hq' b = some o → Hq b = some o ∨ H b = none) → g x σ H' fun σ2 H2 => tb { nx := W (j + 1) Hq', ct := W (j + 1) Hq', bk := D.nx } Hg Hw i σ2 H2)
theorem tyForG_eq (ti : SY.TGy) (g : TG) (tb : SY.TY) (D : SY.GD) (Hg Hw : Hp) (i : Nat) (σ : L2.St) (H : Hp) : SY.tyForG ti g tb D Hg Hw i σ H = ti σ H fun n item Hq H1 => FyG n item g tb D Hq Hg Hw i σ H1 := rfl
theorem fyG_mk {n : Nat} {item : Nat → V → Hp → Prop} {g : TG} {tb : SY.TY} {D : SY.GD} {Hq Hg Hw : Hp} {i : Nat} {σ : L2.St} {H1 : Hp} (W : Nat → Hp → SY.GK) (h0 : W 0 Hq Hg Hw i σ H1) (hl : ∀ j Hq Hg Hw i σ H, W j Hq Hg Hw i σ H → j ≤ n ∧ Same Hq H) (hd : ∀ Hq Hg Hw i σ H H', W n Hq Hg Hw i σ H → Same H H' → D.nx Hg Hw i σ H')
    (hs : ∀ j Hq Hg Hw i σ H x H' Hq', W j Hq Hg Hw i σ H → j < n → Same H H' → item j x H' → Same Hq' H' → (∀ b o, Hq' b = some o → Hq b = some o ∨ H b = none) → g x σ H' fun σ2 H2 => tb { nx := W (j + 1) Hq', ct := W (j + 1) Hq', bk := D.nx } Hg Hw i σ2 H2) : FyG n item g tb D Hq Hg Hw i σ H1 :=
  ⟨W, h0, fun j Hq Hg Hw i σ H w => ⟨(hl _ _ _ _ _ _ _ w).1, (hl _ _ _ _ _ _ _ w).2, fun e H' s => hd Hq Hg Hw i σ H H' (e ▸ w) s, fun hj x H' Hq' s it sq le => hs j Hq Hg Hw i σ H x H' Hq' w hj s it sq le⟩⟩
/-- for over a list in a generator -/
theorem fy_list {K : PySem.W.Frag} {a : Addr} {xs : List V} {g : TG} {tb : SY.TY} {D : SY.GD} {Hg Hw : Hp} {i : Nat} {σ : L2.St} {H : Hp} (Pv : Nat → SY.GK) (h0 : Pv 0 Hg Hw i σ H) (hl : ∀ j Hg Hw i σ H, j ≤ xs.length → Pv j Hg Hw i σ H → SqL K H a xs)
    (hs : ∀ (j : Nat) x Hg Hw i σ H, xs[j]? = some x → Pv j Hg Hw i σ H → g x σ H fun σ2 H2 => tb { nx := Pv (j + 1), ct := Pv (j + 1), bk := D.nx } Hg Hw i σ2 H2) (hd : ∀ Hg Hw i σ H, Pv xs.length Hg Hw i σ H → D.nx Hg Hw i σ H) : FyR (Itl K a) g tb D Hg Hw i σ H := by
  refine ⟨fun j m Hg Hw i σ H => m = xs.length - j ∧ j ≤ xs.length ∧ Pv j Hg Hw i σ H, ⟨_, rfl, Nat.zero_le _, h0⟩, ?_⟩
  rintro j m Hg Hw i σ H ⟨rfl, hj, p⟩
  have q := hl j Hg Hw i σ H hj p
  by_cases hlt : j < xs.length
  · refine .inr ⟨⟨xs, xs[j], q, by simp [hlt]⟩, Pv (j + 1), fun a b i' σ' H' p' => ⟨xs.length - (j + 1), by omega, rfl, hlt, p'⟩, ?_⟩
    rintro x H' ⟨rfl, hx⟩
    exact hs j x Hg Hw i σ _ (hx xs q) p
  · have e : j = xs.length := by omega
    subst e
    exact .inl ⟨⟨xs, q, Nat.le_refl _⟩, hd Hg Hw i σ H p⟩
/-- the same for consumers in a def -/
theorem tForG_eq (ti : SY.TGy) (g : TG) (tb : TS) (D : Ends) (σ : L2.St) (H : Hp) : SY.tForG ti g tb D σ H = ti σ H fun n item Hq H1 => SY.FoG n item g tb D Hq σ H1 := rfl
theorem foG_mk {n : Nat} {item : Nat → V → Hp → Prop} {g : TG} {tb : TS} {D : Ends} {Hq : Hp} {σ : L2.St} {H1 : Hp} (W : Nat → Hp → L2.St → Hp → Prop) (h0 : W 0 Hq σ H1) (hl : ∀ j Hq σ H, W j Hq σ H → j ≤ n ∧ Same Hq H) (hd : ∀ Hq σ H H', W n Hq σ H → Same H H' → D.nx σ H')
    (hs : ∀ j Hq σ H x H' Hq', W j Hq σ H → j < n → Same H H' → item j x H' → Same Hq' H' → (∀ b o, Hq' b = some o → Hq b = some o ∨ H b = none) → g x σ H' fun σ2 H2 => tb { nx := W (j + 1) Hq', rt := D.rt, ct := W (j + 1) Hq', bk := D.nx } σ2 H2) : SY.FoG n item g tb D Hq σ H1 :=
  ⟨W, h0, fun j Hq σ H w => ⟨(hl _ _ _ _ w).1, (hl _ _ _ _ w).2, fun e H' s => hd Hq σ H H' (e ▸ w) s, fun hj x H' Hq' s it sq le => hs j Hq σ H x H' Hq' w hj s it sq le⟩⟩
theorem tLcG_eq (ti : SY.TGy) (g : TG) (tt : TT) (te : TE) (vs : List Nat) (σ : L2.St) (H : Hp) (Q : VK) : SY.tLcG ti g tt te vs σ H Q = ti σ H fun n item Hq H1 => SY.LcG n item g tt te vs Hq σ H1 Q := rfl
def sp_parts (n : Nat) : SY.SpY := fun vs H m item Hg => ∃ v d, vs = [v] ∧ Re Hg n v d ∧ txtD n d ∧ Same Hg H ∧ n ≤ 100 ∧ m = (partsN n d).length ∧ item = partIt n d Hg
end SC

set_option Elab.async false
set_option linter.all false
set_option maxRecDepth 100000
set_option maxHeartbeats 4000000
/-! Schemacheck: paths compared; lists compared with the empty one; facts of parts. -/
namespace SC
open PySem L2
section
variable {X : Cx} {K : PySem.W.Frag}
def rNeNil (K : PySem.W.Frag) : R2 := fun x y H Q => ∃ a b xs, x = .ref a ∧ y = .ref b ∧ SqL K H a xs ∧ SqL K H b [] ∧ Q (.bl (decide (xs ≠ []))) H
def rEqNil (K : PySem.W.Frag) : R2 := fun x y H Q => ∃ a b xs, x = .ref a ∧ y = .ref b ∧ SqL K H a xs ∧ SqL K H b [] ∧ Q (.bl (decide (xs = []))) H
theorem neNilK (h : X.K = K) (hu : X.A.units + 1 < cLine) : OpR X (compareOp .NotEq) (rNeNil K) := by
  subst h
  intro pins s σ H x y v u Q I rx ry ⟨a, b, xs, e1, e2, ha, hb, q⟩
  subst e1; subst e2
  cases rx; cases ry
  obtain ⟨its, r1, p1, _⟩ := I.list ha
  obtain ⟨its2, r2, p2, _⟩ := I.list hb
  cases r2
  have hl := r1.length
  have hu' : X.A.units < cLine := by omega
  by_cases hx : xs = []
  · subst hx
    cases r1
    exact SeqAt.RcNeAt.lists (e := fun _ => true) p1.isList p2.isList rfl hu' (fun j h1 => by simp at h1) _ _ _ _ ⟨.bl _, H, I, rfl, by simpa using q⟩
  · refine SeqAt.RcNeAt.lists_lengths p1.isList p2.isList ?_ hu' _ _ _ _ ⟨.bl _, H, I, rfl, by simpa [hx] using q⟩
    have : its.length ≠ 0 := fun z => hx (List.eq_nil_of_length_eq_zero (by omega))
    simp only [List.size_toArray, List.length_nil, bne_iff_ne, ne_eq]
    exact this
theorem eqNilK (h : X.K = K) (hu : X.A.units + 1 < cLine) : OpR X (compareOp .Eq) (rEqNil K) := by
  subst h
  intro pins s σ H x y v u Q I rx ry ⟨a, b, xs, e1, e2, ha, hb, q⟩
  subst e1; subst e2
  cases rx; cases ry
  obtain ⟨its, r1, p1, _⟩ := I.list ha
  obtain ⟨its2, r2, p2, _⟩ := I.list hb
  cases r2
  have hl := r1.length
  have hu' : X.A.units < cLine := by omega
  by_cases hx : xs = []
  · subst hx
    cases r1
    exact SeqAt.RcAt.lists (e := fun _ => true) p1.isList p2.isList rfl hu' (fun j h1 => by simp at h1) _ _ _ _ ⟨.bl _, H, I, rfl, by simpa using q⟩
  · refine SeqAt.RcAt.lists_lengths p1.isList p2.isList ?_ hu' _ _ _ _ ⟨.bl _, H, I, rfl, by simpa [hx] using q⟩
    have : its.length ≠ 0 := fun z => hx (List.eq_nil_of_length_eq_zero (by omega))
    simp only [List.size_toArray, List.length_nil, bne_iff_ne, ne_eq]
    exact this
theorem inDK (h : X.K = K) (hu : X.A.units + 65 < cLine) : OpR X (compareOp .In) (rInD K) := by subst h; exact op_inD hu
theorem notInDK (h : X.K = K) (hu : X.A.units + 65 < cLine) : OpR X (compareOp .NotIn) (rNotInD K) := by subst h; exact op_notInD hu
end
/-! ### paths as data -/
def pathD (p : List Key) : PyData := .tuple (p.map kD)
theorem eqv_key (a b : Key) : PyData.eqv (kD a) (kD b) = decide (a = b) := by
  cases a with
  | inl i => cases b with
    | inl j =>
      show (i == j) = _
      by_cases h : i = j
      · subst h; simp
      · simp [h]
    | inr y => simp [kD, PyData.eqv]
  | inr x => cases b with
    | inl j => simp [kD, PyData.eqv]
    | inr y =>
      show (x == y) = _
      by_cases h : x = y
      · subst h; simp
      · simp [h]
theorem eqvAll_map {A : Type} [DecidableEq A] {f : A → PyData} (hf : ∀ a b, PyData.eqv (f a) (f b) = decide (a = b)) : ∀ xs ys : List A, PyData.eqvAll (xs.map f) (ys.map f) = decide (xs = ys)
  | [], [] => rfl
  | [], y :: ys => by simp [PyData.eqvAll]
  | x :: xs, [] => by simp [PyData.eqvAll]
  | x :: xs, y :: ys => by
    show (PyData.eqv (f x) (f y) && PyData.eqvAll (xs.map f) (ys.map f)) = _
    rw [hf, eqvAll_map hf xs ys]
    by_cases h : x = y
    · subst h; simp
    · simp [h]
theorem eqv_path (p q : List Key) : PyData.eqv (pathD p) (pathD q) = decide (p = q) := eqvAll_map eqv_key p q
theorem eqv_paths (ps qs : List (List Key)) : PyData.eqv (.list (ps.map pathD)) (.list (qs.map pathD)) = decide (ps = qs) := eqvAll_map eqv_path ps qs
def keyOkK : Key → Prop
  | .inl _ => True
  | .inr x => PyData.strOk x = true
theorem lay_path {p : List Key} (h : ∀ k ∈ p, keyOkK k) : PyData.canLay0 (pathD p) = true := by
  show PyData.canLayAll0 (p.map kD) = true
  induction p with
  | nil => rfl
  | cons k r ih =>
    show (PyData.canLay0 (kD k) && PyData.canLayAll0 (r.map kD)) = true
    rw [ih fun x hx => h x (by simp [hx]), Bool.and_true]
    have := h k (by simp)
    cases k with
    | inl i => rfl
    | inr x => exact this
theorem depth_path (p : List Key) : (pathD p).depth ≤ 1 := by
  have : PyData.depthAll (p.map kD) ≤ 0 := depthAll_le fun d hd => by
    obtain ⟨k, _, rfl⟩ := List.mem_map.mp hd
    cases k <;> exact Nat.zero_le _
  show PyData.depthAll (p.map kD) + 1 ≤ 1
  omega
theorem shaped_path {p : List Key} (h : ∀ k ∈ p, keyOkK k) : SeqAt.shaped (pathD p) = true := by
  have h1 := lay_path h
  have h2 := depth_path p
  show (PyData.canLay0 (pathD p) && decide ((pathD p).depth ≤ 64)) = true
  rw [h1, decide_eq_true (by omega)]
  rfl
theorem shaped_paths {ps : List (List Key)} (h : ∀ p ∈ ps, ∀ k ∈ p, keyOkK k) : SeqAt.shaped (.list (ps.map pathD)) = true := by
  have h1 : PyData.canLayAll0 (ps.map pathD) = true := by
    induction ps with
    | nil => rfl
    | cons p r ih =>
      show (PyData.canLay0 (pathD p) && PyData.canLayAll0 (r.map pathD)) = true
      rw [lay_path (h p (by simp)), ih fun x hx => h x (by simp [hx])]
      rfl
  have h2 : PyData.depthAll (ps.map pathD) ≤ 1 := depthAll_le fun d hd => by
    obtain ⟨p, _, rfl⟩ := List.mem_map.mp hd
    exact depth_path p
  show (PyData.canLayAll0 (ps.map pathD) && decide (PyData.depthAll (ps.map pathD) + 1 ≤ 64)) = true
  rw [h1, decide_eq_true (by omega)]
  rfl
theorem Dp_key {K : PySem.W.Frag} {H : Hp} : ∀ p : List Key, DpAll K H (p.map kV) (p.map kD)
  | [] => .nil
  | .inl i :: r => .cons (.int i) (Dp_key r)
  | .inr x :: r => .cons (.str x) (Dp_key r)
theorem Dp_path {K : PySem.W.Frag} {H : Hp} {a : Addr} {p : List Key} (h : H a = some (.tup (p.map kV))) : Dp K H (.ref a) (pathD p) := .tup (SqT.of h) (Dp_key p)
theorem Dp_paths {K : PySem.W.Frag} {H : Hp} {a : Addr} {vs : List V} {ps : List (List Key)} (h : H a = some (.lst vs)) (hp : Paired (fun v p => ∃ t, v = V.ref t ∧ H t = some (.tup (p.map kV))) vs ps) : Dp K H (.ref a) (.list (ps.map pathD)) := by
  refine .lst (SqL.of h) ?_
  clear h
  induction hp with
  | nil => exact .nil
  | cons r _ ih =>
    obtain ⟨t, rfl, ht⟩ := r
    exact .cons (Dp_path ht) ih
/-! ### fuel -/
theorem kids_mem {G : Hp} {n : Nat} {v : V} {d : PyData} (r : Re G (n + 1) v d) (htx : txtD (n + 1) d) {q : Key × PyData} (hq : q ∈ kidsD d) : ∃ u, Re G n u q.2 ∧ txtD n q.2 := by
  cases d with
  | list ds =>
    obtain ⟨a, xs, rfl, ha, hb, hp⟩ := r
    simp only [kidsD, rowsL, List.mem_map] at hq
    obtain ⟨⟨x, i⟩, hm, rfl⟩ := hq
    have hx : x ∈ ds := by
      obtain ⟨_, _, h⟩ := List.mem_zipIdx hm
      rw [h]
      exact List.getElem_mem _
    obtain ⟨u, _, hu⟩ := pd_memR hp hx
    exact ⟨u, hu, htx x hx⟩
  | dict es =>
    obtain ⟨a, xs, rfl, ha, hb, hn, hp⟩ := r
    simp only [kidsD, rowsD, List.mem_map] at hq
    obtain ⟨x, hx, rfl⟩ := hq
    have hin : x ∈ keysD es := mem_srt.mp hx
    cases hg : dget es x with
    | none => exact absurd hin (dget_none hg)
    | some d2 =>
      obtain ⟨e, he, hde, _⟩ := dget_mem hg
      obtain ⟨u, _, hu⟩ := pd_memR hp he
      simp only [Option.getD_some]
      rw [← hde]
      exact ⟨_, hu.2, htx.2.2 e he⟩
  | none => simp [kidsD] at hq
  | bool _ => simp [kidsD] at hq
  | int _ => simp [kidsD] at hq
  | str _ => simp [kidsD] at hq
  | tuple _ => simp [kidsD] at hq
theorem flatMap_congr' {A B : Type} {f g : A → List B} : ∀ {l : List A}, (∀ a ∈ l, f a = g a) → l.flatMap f = l.flatMap g
  | [], _ => rfl
  | a :: r, h => by rw [List.flatMap_cons, List.flatMap_cons, h a (by simp), flatMap_congr' fun x hx => h x (by simp [hx])]
theorem parts_up {G : Hp} : ∀ {n : Nat} {v : V} {d : PyData}, Re G n v d → txtD n d → partsN (n + 1) d = partsN n d
  | 0, _, _, r, _ => r.elim
  | n + 1, v, d, r, htx => by
    show _ :: _ = _ :: _
    congr 1
    refine flatMap_congr' fun q hq => ?_
    obtain ⟨u, hu, ht⟩ := kids_mem r htx hq
    rw [parts_up hu ht]
theorem Re.txt_up {G : Hp} : ∀ {n : Nat} {v : V} {d : PyData}, Re G n v d → txtD n d → txtD (n + 1) d
  | 0, _, _, r, _ => r.elim
  | n + 1, v, .list ds, ⟨a, xs, _, _, _, hp⟩, h => fun d hd => by
    obtain ⟨x, _, hx⟩ := pd_memR hp hd
    exact hx.txt_up (h d hd)
  | n + 1, v, .dict es, ⟨a, xs, _, _, _, _, hp⟩, h => ⟨h.1, h.2.1, fun e he => by
    obtain ⟨x, _, hx⟩ := pd_memR hp he
    exact hx.2.txt_up (h.2.2 e he)⟩
  | n + 1, v, .none, _, _ => trivial
  | n + 1, v, .bool _, _, _ => trivial
  | n + 1, v, .int _, _, _ => trivial
  | n + 1, v, .str _, _, _ => trivial
  | n + 1, v, .tuple _, _, _ => trivial
/-- the parts of a part are told with any fuel -/
theorem parts_eq {G : Hp} {n : Nat} {v : V} {d : PyData} (r : Re G n v d) (htx : txtD n d) : partsN n d = ([], d) :: (kidsD d).flatMap fun q => (partsN n q.2).map fun x => (q.1 :: x.1, x.2) := by
  cases n with
  | zero => exact r.elim
  | succ n =>
    show _ :: _ = _ :: _
    congr 1
    refine flatMap_congr' fun q hq => ?_
    obtain ⟨u, hu, ht⟩ := kids_mem r htx hq
    rw [parts_up hu ht]
/-! ### each path once -/
theorem nd_map {A B : Type} {f : A → B} (hf : ∀ a b, f a = f b → a = b) : ∀ {l : List A}, l.Nodup → (l.map f).Nodup
  | [], _ => List.nodup_nil
  | x :: r, h => by
    rw [List.nodup_cons] at h
    rw [List.map_cons, List.nodup_cons]
    refine ⟨fun hm => ?_, nd_map hf h.2⟩
    obtain ⟨y, hy, e⟩ := List.mem_map.mp hm
    rw [hf _ _ e] at hy
    exact h.1 hy
theorem kids_nd {G : Hp} {n : Nat} {v : V} {d : PyData} (r : Re G (n + 1) v d) (htx : txtD (n + 1) d) : ((kidsD d).map (·.1)).Nodup := by
  cases d with
  | list ds =>
    simp only [kidsD, rowsL, List.map_map]
    rw [show ((fun x : Key × PyData => x.1) ∘ fun p : PyData × Nat => ((Sum.inl (p.2 : Int) : Key), p.1)) = fun p : PyData × Nat => (Sum.inl (p.2 : Int) : Key) from rfl]
    have h2 : (ds.zipIdx.map fun p => (Sum.inl (p.2 : Int) : Key)) = (List.range ds.length).map fun i : Nat => (Sum.inl (i : Int) : Key) := by
      apply List.ext_getElem?
      intro i
      simp [List.getElem?_zipIdx, List.getElem?_range]
      by_cases hi : i < ds.length
      · simp [hi]
      · simp [hi]
    rw [h2]
    refine nd_map ?_ List.nodup_range
    intro a b h
    have := Sum.inl.inj h
    omega
  | dict es =>
    obtain ⟨a, xs, rfl, ha, hb, hn, hp⟩ := r
    have nd := keys_nd hp htx.2.1 hn
    simp only [kidsD, rowsD, List.map_map]
    refine nd_map ?_ ((srt_perm (keysD es)).nodup_iff.mpr nd)
    intro a b h
    simp at h
    exact h
  | none => simp [kidsD]
  | bool _ => simp [kidsD]
  | int _ => simp [kidsD]
  | str _ => simp [kidsD]
  | tuple _ => simp [kidsD]
theorem flat_nd {A : Type} : ∀ {l : List (Key × A)} {f : Key × A → List (List Key)}, (l.map (·.1)).Nodup → (∀ q ∈ l, (f q).Nodup) → (l.flatMap fun q => (f q).map fun r => q.1 :: r).Nodup
  | [], _, _, _ => List.nodup_nil
  | q :: l, f, h, g => by
    rw [List.flatMap_cons]
    rw [List.map_cons, List.nodup_cons] at h
    refine List.nodup_append.mpr ⟨?_, flat_nd h.2 fun x hx => g x (by simp [hx]), ?_⟩
    · refine nd_map ?_ (g q (by simp))
      intro a b e
      simp at e
      exact e
    · intro x hx y hy e
      subst e
      obtain ⟨a, _, rfl⟩ := List.mem_map.mp hx
      obtain ⟨q2, hq2, hy⟩ := List.mem_flatMap.mp hy
      obtain ⟨b, _, e⟩ := List.mem_map.mp hy
      simp at e
      exact h.1 (List.mem_map.mpr ⟨q2, hq2, e.1⟩)
theorem parts_nd {G : Hp} : ∀ {n : Nat} {v : V} {d : PyData}, Re G n v d → txtD n d → ((partsN n d).map (·.1)).Nodup
  | 0, _, _, r, _ => r.elim
  | n + 1, v, d, r, htx => by
    have h1 : ((kidsD d).flatMap fun q => (partsN n q.2).map fun x => (q.1 :: x.1, x.2)).map (·.1) = (kidsD d).flatMap fun q => ((partsN n q.2).map (·.1)).map fun x => q.1 :: x := by
      rw [List.map_flatMap]
      refine flatMap_congr' fun q _ => ?_
      rw [List.map_map, List.map_map]
      rfl
    simp only [partsN, List.map_cons]
    rw [h1, List.nodup_cons]
    refine ⟨fun hm => ?_, flat_nd (kids_nd r htx) fun q hq => ?_⟩
    · obtain ⟨q, _, hq⟩ := List.mem_flatMap.mp hm
      obtain ⟨x, _, e⟩ := List.mem_map.mp hq
      cases e
    · obtain ⟨u, hu, ht⟩ := kids_mem r htx hq
      exact parts_nd hu ht
/-- the number of parts -/
theorem parts_cnt : ∀ {n : Nat} {d : PyData}, docD n d → ndD n d → (partsN n d).length = cnt d
  | 0, _, h, _ => h.elim
  | n + 1, .list ds, h, g => by
    rw [parts_len]
    simp only [cnt]
    congr 1
    have key : ∀ (l : List PyData) (i : Nat), (∀ d ∈ l, docD n d ∧ ndD n d) → ((l.zipIdx i).map fun p => (partsN n p.1).length).sum = cntAll l := fun l => by
      induction l with
      | nil => intro i _; rfl
      | cons d r ih =>
        intro i hh
        simp only [List.zipIdx_cons, List.map_cons, List.sum_cons, cntAll]
        rw [ih _ fun x hx => hh x (by simp [hx]), parts_cnt (hh d (by simp)).1 (hh d (by simp)).2]
    have := key ds 0 fun d hd => ⟨h.2 d hd, g d hd⟩
    rw [← this]
    unfold offR
    rw [List.take_length]
    simp only [kidsD, rowsL, List.map_map]
    rfl
  | n + 1, .dict es, h, g => by
    rw [parts_len]
    simp only [cnt]
    congr 1
    unfold offR
    rw [List.take_length]
    simp only [kidsD, rowsD, List.map_map]
    have h1 : (((srt (keysD es)).map fun x => (partsN n ((dget es x).getD .none)).length)).sum = ((keysD es).map fun x => (partsN n ((dget es x).getD .none)).length).sum := ((srt_perm (keysD es)).map _).sum_nat
    refine Eq.trans h1 ?_
    have key : ∀ (l : List (PyData × PyData)), (∀ e ∈ l, docD n e.2 ∧ ndD n e.2 ∧ dget es (strD e.1) = some e.2) → (l.map fun e => (partsN n ((dget es (strD e.1)).getD .none)).length).sum = cntKv l := fun l => by
      induction l with
      | nil => intro _; rfl
      | cons e r ih =>
        intro hh
        obtain ⟨k, d⟩ := e
        obtain ⟨h2, h3, h4⟩ := hh (k, d) (by simp)
        simp only [List.map_cons, List.sum_cons, cntKv, h4, Option.getD_some]
        rw [ih fun x hx => hh x (by simp [hx]), parts_cnt h2 h3]
    rw [show (keysD es).map (fun x => (partsN n ((dget es x).getD .none)).length) = es.map fun e => (partsN n ((dget es (strD e.1)).getD .none)).length by simp [keysD]]
    exact key es fun e he => ⟨(h.2 e he).2, g.2 e he, dget_nd g.1 he⟩
  | n + 1, .none, _, _ => rfl
  | n + 1, .bool _, _, _ => rfl
  | n + 1, .int _, _, _ => rfl
  | n + 1, .str _, _, _ => rfl
  | n + 1, .tuple _, h, _ => h.elim
/-- the parts of a document are documents; names on paths -/
theorem parts_doc : ∀ {n : Nat} {d : PyData} {r : List Key × PyData}, docD n d → r ∈ partsN n d → docD n r.2 ∧ ∀ k ∈ r.1, leafD (kD k) ∧ keyOkK k
  | 0, _, _, h, _ => h.elim
  | n + 1, d, r, h, hr => by
    simp only [partsN, List.mem_cons, List.mem_flatMap, List.mem_map] at hr
    rcases hr with rfl | ⟨q, hq, x, hx, rfl⟩
    · exact ⟨h, by simp⟩
    · have hk : docD n q.2 ∧ leafD (kD q.1) ∧ keyOkK q.1 := by
        cases d with
        | list ds =>
          simp only [kidsD, rowsL, List.mem_map] at hq
          obtain ⟨⟨y, i⟩, hm, rfl⟩ := hq
          obtain ⟨_, hi, hy⟩ := List.mem_zipIdx hm
          refine ⟨by rw [hy]; exact h.2 _ (List.getElem_mem _), ?_, trivial⟩
          have := h.1
          show -10 ^ 30 ≤ (i : Int) ∧ (i : Int) ≤ 10 ^ 30
          omega
        | dict es =>
          simp only [kidsD, rowsD, List.mem_map] at hq
          obtain ⟨y, hy, rfl⟩ := hq
          have hin : y ∈ keysD es := mem_srt.mp hy
          cases hg : dget es y with
          | none => exact absurd hin (dget_none hg)
          | some d2 =>
            obtain ⟨e, he, hde, hse⟩ := dget_mem hg
            obtain ⟨⟨z, hz, hz1, hz2⟩, hd2⟩ := h.2 e he
            rw [hz] at hse
            have : z = y := hse
            subst this
            simp only [Option.getD_some]
            rw [← hde]
            exact ⟨hd2, ⟨hz1, hz2⟩, strOk_of hz2⟩
        | none => simp [kidsD] at hq
        | bool _ => simp [kidsD] at hq
        | int _ => simp [kidsD] at hq
        | str _ => simp [kidsD] at hq
        | tuple _ => simp [kidsD] at hq
      obtain ⟨h1, h2⟩ := parts_doc hk.1 hx
      refine ⟨h1.up1, fun k hk' => ?_⟩
      rcases List.mem_cons.mp hk' with rfl | hk'
      · exact hk.2
      · exact h2 k hk'
theorem lcG_mk {n : Nat} {item : Nat → V → Hp → Prop} {g : TG} {tt : TT} {te : TE} {vs : List Nat} {Hq : Hp} {σ : L2.St} {H1 : Hp} {Q : VK} (W : Addr → Nat → Hp → Hp → Prop) (h0 : ∀ D, H1 D = none → W D 0 Hq (upd H1 D (.lst []))) (hl : ∀ D j Hq H, W D j Hq H → j ≤ n ∧ Same Hq H) (hd : ∀ D Hq H H', H1 D = none → W D n Hq H → Same H H' → Q (.ref D) H')
    (hs : ∀ D j Hq H x H' Hq', H1 D = none → W D j Hq H → j < n → Same H H' → item j x H' → Same Hq' H' → (∀ b o, Hq' b = some o → Hq b = some o ∨ H b = none) → g x (wipe σ vs) H' fun σ2 H2 => wipe σ2 vs = wipe σ vs ∧ tt σ2 H2 fun b H3 => if b = true then te σ2 H3 fun y H4 => ∃ acc, H4 D = some (.lst acc) ∧ acc.length < sizeLine ∧ W D (j + 1) Hq' (upd H4 D (.lst (acc ++ [y]))) else W D (j + 1) Hq' H3) : SY.LcG n item g tt te vs Hq σ H1 Q :=
  fun D hD => ⟨W D, h0 D hD, fun j Hq H w => ⟨(hl _ _ _ _ w).1, (hl _ _ _ _ w).2, fun e H' s => hd D Hq H H' hD (e ▸ w) s, fun hj x H' Hq' s it sq le => hs D j Hq H x H' Hq' hD w hj s it sq le⟩⟩
theorem hu65_of {k : Nat} {A : Around} (r : Room k A) : A.units + 65 < cLine := by have := r.un; omega
theorem isiTup {K : PySem.W.Frag} {H : Hp} {a : Addr} {xs : List V} {Q : VK} (h : H a = some (.tup xs)) (q : Q (.bl true) H) : rIsi K [.ref a, .ty "tuple"] H Q :=
  ⟨.ref a, .ty "tuple", _, _, true, rfl, .ty _, .base (.tup h), kit_ty (kit_isT .tuple (.tuple [])), q⟩
end SC

/-! Schemacheck: one document with its names in another order. -/
set_option linter.all false
set_option maxHeartbeats 1000000
namespace SC
open PySem L2
def tw : Nat → PyData → PyData → Prop
  | 0, _, _ => False
  | n + 1, .list xs, .list ys => Paired (tw n) xs ys
  | n + 1, .dict es, .dict fs => (fs.map (·.1)).Perm (es.map (·.1)) ∧ ∀ f ∈ fs, ∃ e ∈ es, e.1 = f.1 ∧ tw n e.2 f.2
  | _ + 1, d, e => d = e
/-- each key once -/
def nuD : Nat → PyData → Prop
  | 0, _ => True
  | n + 1, .list ds => ∀ d ∈ ds, nuD n d
  | n + 1, .dict es => (es.map (·.1)).Nodup ∧ ∀ e ∈ es, nuD n e.2
  | _ + 1, _ => True
theorem kv_fst {F : V → PyData → Prop} {kvs : List (Key × V)} {es : List (PyData × PyData)} (hp : Paired (KvR F) kvs es) : es.map (·.1) = (kvs.map (·.1)).map kD := by
  induction hp with
  | nil => rfl
  | cons a _ ih => simp only [List.map_cons, a.1, ih]
theorem Re.nu {H : Hp} : ∀ {n : Nat} {v : V} {d : PyData}, Re H n v d → nuD n d
  | 0, _, _, _ => trivial
  | n + 1, v, .list ds, ⟨a, xs, _, _, _, hp⟩ => fun d hd => by
    obtain ⟨x, _, h⟩ := pd_memR hp hd
    exact h.nu
  | n + 1, v, .dict es, ⟨a, xs, _, _, _, hn, hp⟩ => by
    refine ⟨?_, fun e he => ?_⟩
    · rw [kv_fst hp]
      exact nd_map (fun a b => kD_inj) hn
    · obtain ⟨x, _, h⟩ := pd_memR hp he
      exact h.2.nu
  | n + 1, v, .none, _ => trivial
  | n + 1, v, .bool _, _ => trivial
  | n + 1, v, .int _, _ => trivial
  | n + 1, v, .str _, _ => trivial
  | n + 1, v, .tuple _, _ => trivial
theorem pd_memL {A B : Type} {F : A → B → Prop} {xs : List A} {ys : List B} (h : Paired F xs ys) : ∀ {x : A}, x ∈ xs → ∃ y, y ∈ ys ∧ F x y := by
  induction h with
  | nil => intro x hx; cases hx
  | cons a _ ih =>
    intro x hx
    rcases List.mem_cons.mp hx with rfl | hx
    · exact ⟨_, by simp, a⟩
    · obtain ⟨y, hy, h⟩ := ih hx
      exact ⟨y, by simp [hy], h⟩
theorem tw_doc : ∀ {n : Nat} {d e : PyData}, docD n d → tw n d e → docD n e
  | 0, _, _, h, _ => h.elim
  | n + 1, .list xs, .list ys, h, t => ⟨by rw [← pd_len t]; exact h.1, fun y hy => by
    obtain ⟨x, hx, h1⟩ := pd_memR t hy
    exact tw_doc (h.2 x hx) h1⟩
  | n + 1, .dict es, .dict fs, h, t => ⟨by have := t.1.length_eq; simp at this; rw [this]; exact h.1, fun f hf => by
    obtain ⟨e, he, h1, h2⟩ := t.2 f hf
    have := h.2 e he
    rw [h1] at this
    exact ⟨this.1, tw_doc this.2 h2⟩⟩
  | n + 1, .none, _, h, t => by cases t; exact h
  | n + 1, .bool _, _, h, t => by cases t; exact h
  | n + 1, .int _, _, h, t => by cases t; exact h
  | n + 1, .str _, _, h, t => by cases t; exact h
  | n + 1, .tuple _, _, h, t => by cases t; exact h
  | n + 1, .list _, .none, h, t => by cases t
  | n + 1, .list _, .bool _, h, t => by cases t
  | n + 1, .list _, .int _, h, t => by cases t
  | n + 1, .list _, .str _, h, t => by cases t
  | n + 1, .list _, .tuple _, h, t => by cases t
  | n + 1, .list _, .dict _, h, t => by cases t
  | n + 1, .dict _, .none, h, t => by cases t
  | n + 1, .dict _, .bool _, h, t => by cases t
  | n + 1, .dict _, .int _, h, t => by cases t
  | n + 1, .dict _, .str _, h, t => by cases t
  | n + 1, .dict _, .tuple _, h, t => by cases t
  | n + 1, .dict _, .list _, h, t => by cases t
/-- the shapes of two such -/
theorem tw_inv {n : Nat} {d e : PyData} (t : tw (n + 1) d e) : (∃ xs ys, d = .list xs ∧ e = .list ys ∧ Paired (tw n) xs ys) ∨ (∃ es fs, d = .dict es ∧ e = .dict fs ∧ (fs.map (·.1)).Perm (es.map (·.1)) ∧ ∀ f ∈ fs, ∃ e ∈ es, e.1 = f.1 ∧ tw n e.2 f.2) ∨ (d = e ∧ isT .list d = false ∧ isT .dict d = false) := by
  cases d <;> cases e <;> first | exact .inl ⟨_, _, rfl, rfl, t⟩ | exact .inr (.inl ⟨_, _, rfl, rfl, t⟩) | (cases t; exact .inr (.inr ⟨rfl, rfl, rfl⟩)) | cases t
theorem tw_small : ∀ {n : Nat} {d e : PyData}, smallD n d → tw n d e → smallD n e
  | 0, _, _, _, t => t.elim
  | n + 1, d, e, h, t => by
    rcases tw_inv t with ⟨xs, ys, rfl, rfl, t⟩ | ⟨es, fs, rfl, rfl, t1, t2⟩ | ⟨rfl, _⟩
    · intro y hy
      obtain ⟨x, hx, h1⟩ := pd_memR t hy
      exact tw_small (h x hx) h1
    · refine ⟨by have := t1.length_eq; simp at this; rw [this]; exact h.1, fun f hf => ?_⟩
      obtain ⟨e, he, h1, h2⟩ := t2 f hf
      have := h.2 e he
      rw [h1] at this
      exact ⟨this.1, tw_small this.2 h2⟩
    · exact h
/-- keys and what they lead to -/
theorem tw_keys {es fs : List (PyData × PyData)} (p : (fs.map (·.1)).Perm (es.map (·.1))) : (keysD fs).Perm (keysD es) := by
  have h : ∀ l : List (PyData × PyData), keysD l = (l.map (·.1)).map strD := fun l => by simp [keysD, List.map_map, Function.comp_def]
  rw [h, h]
  exact p.map _
theorem keys_nu {es : List (PyData × PyData)} (hn : (es.map (·.1)).Nodup) (hs : StrKeys es) : (keysD es).Nodup := by
  induction es with
  | nil => exact List.nodup_nil
  | cons e r ih =>
    obtain ⟨h1, h2⟩ := List.nodup_cons.mp hn
    obtain ⟨x, hx⟩ := hs e (by simp)
    refine List.nodup_cons.mpr ⟨fun hm => ?_, ih h2 fun e he => hs e (by simp [he])⟩
    obtain ⟨e', he', hk⟩ := List.mem_map.mp hm
    obtain ⟨y, hy⟩ := hs e' (by simp [he'])
    refine h1 (List.mem_map.mpr ⟨e', he', ?_⟩)
    have hk' : strD e'.1 = strD e.1 := hk
    show e'.1 = e.1
    rw [hx, hy] at hk' ⊢
    simpa [strD] using hk'
theorem str_perm {es fs : List (PyData × PyData)} (p : (fs.map (·.1)).Perm (es.map (·.1))) (hs : StrKeys es) : StrKeys fs := fun f hf => by
  obtain ⟨e, he, h⟩ := List.mem_map.mp (p.mem_iff.mp (List.mem_map.mpr ⟨f, hf, rfl⟩))
  rw [← h]
  exact hs e he
theorem tw_get {F : PyData → PyData → Prop} {es fs : List (PyData × PyData)} (p : (fs.map (·.1)).Perm (es.map (·.1))) (t : ∀ f ∈ fs, ∃ e ∈ es, e.1 = f.1 ∧ F e.2 f.2) (hs : StrKeys es) (hn : (es.map (·.1)).Nodup) {x : Str} (hx : x ∈ keysD es) :
    ∃ d e, dget es x = some d ∧ dget fs x = some e ∧ F d e ∧ (∃ q ∈ es, q.1 = .str x ∧ q.2 = d) ∧ ∃ q ∈ fs, q.1 = .str x ∧ q.2 = e := by
  have hf : (fs.map (·.1)).Nodup := p.nodup_iff.mpr hn
  have hsf := str_perm p hs
  obtain ⟨f, hf1, hf2⟩ := List.mem_map.mp ((tw_keys p).mem_iff.mpr hx)
  obtain ⟨e, he, h1, h2⟩ := t f hf1
  have a := dget_nd (keys_nu hf hsf) hf1
  have b := dget_nd (keys_nu hn hs) he
  rw [h1, hf2] at b
  rw [hf2] at a
  obtain ⟨y, hy⟩ := hsf f hf1
  have hyx : y = x := by rw [hy] at hf2; exact hf2
  exact ⟨_, _, b, a, h2, ⟨e, he, by rw [h1, hy, hyx], rfl⟩, ⟨f, hf1, by rw [hy, hyx], rfl⟩⟩
theorem tw_srt {es fs : List (PyData × PyData)} (p : (fs.map (·.1)).Perm (es.map (·.1))) : srt (keysD fs) = srt (keysD es) := srt_congr (tw_keys p)
/-- the rows of the parts -/
theorem tw_rows {F : PyData → PyData → Prop} {es fs : List (PyData × PyData)} (p : (fs.map (·.1)).Perm (es.map (·.1))) (t : ∀ f ∈ fs, ∃ e ∈ es, e.1 = f.1 ∧ F e.2 f.2) (hs : StrKeys es) (hn : (es.map (·.1)).Nodup) :
    Paired (fun (a b : Key × PyData) => a.1 = b.1 ∧ F a.2 b.2 ∧ ∃ q ∈ es, q.2 = a.2) (rowsD es) (rowsD fs) := by
  unfold rowsD
  rw [tw_srt p]
  have : ∀ l : List Str, (∀ x ∈ l, x ∈ keysD es) → Paired (fun (a b : Key × PyData) => a.1 = b.1 ∧ F a.2 b.2 ∧ ∃ q ∈ es, q.2 = a.2) (l.map fun x => ((.inr x : Key), (dget es x).getD .none)) (l.map fun x => ((.inr x : Key), (dget fs x).getD .none)) := fun l => by
    induction l with
    | nil => intro _; exact .nil
    | cons x r ih =>
      intro h
      obtain ⟨d, e, h1, h2, h3, ⟨q, hq, _, hqd⟩, _⟩ := tw_get p t hs hn (h x (by simp))
      exact .cons ⟨rfl, by simp only [h1, h2, Option.getD_some]; exact h3, q, hq, by simp only [h1, Option.getD_some]; exact hqd⟩ (ih fun y hy => h y (by simp [hy]))
  exact this _ fun x hx => mem_srt.mp hx
theorem tw_rowsL {F : PyData → PyData → Prop} {xs ys : List PyData} (h : Paired F xs ys) : Paired (fun (a b : Key × PyData) => a.1 = b.1 ∧ F a.2 b.2 ∧ a.2 ∈ xs) (rowsL xs) (rowsL ys) := by
  refine pd_of (by simp [rowsL, pd_len h]) fun i a b ha hb => ?_
  simp only [rowsL, List.getElem?_map, Option.map_eq_some_iff, List.getElem?_zipIdx] at ha hb
  obtain ⟨⟨x, j⟩, ⟨x', hx, e1⟩, rfl⟩ := ha
  obtain ⟨⟨y, k⟩, ⟨y', hy, e2⟩, rfl⟩ := hb
  cases e1
  cases e2
  obtain ⟨z, hz, hf⟩ := pd_get h hx
  rw [hy] at hz
  cases hz
  exact ⟨rfl, hf, List.mem_of_getElem? hx⟩
theorem fst_pd {f g : PyData → Option (List Key)} {rs qs : List (Key × PyData)} (h : Paired (fun (a b : Key × PyData) => a.1 = b.1 ∧ f a.2 = g b.2) rs qs) : fstR f rs = fstR g qs := by
  induction h with
  | nil => rfl
  | @cons a b _ _ r _ ih =>
    obtain ⟨k, d⟩ := a
    obtain ⟨k', d'⟩ := b
    obtain ⟨h1, h2⟩ := r
    simp only at h1 h2
    subst h1
    simp only [fstR, h2, ih]
theorem tw_fw : ∀ {n : Nat} {d e : PyData}, nuD n d → tw n d e → fwN n d = fwN n e
  | 0, _, _, _, t => t.elim
  | n + 1, d, e, h, t => by
    rcases tw_inv t with ⟨xs, ys, rfl, rfl, t⟩ | ⟨es, fs, rfl, rfl, t1, t2⟩ | ⟨rfl, _⟩
    · simp only [fwN]
      exact fst_pd (pd_imp (tw_rowsL t) fun a b _ _ ⟨h1, h2, h3⟩ => ⟨h1, tw_fw (h _ h3) h2⟩)
    · simp only [fwN]
      have e1 : (es.all fun e => isTextD e.1) = fs.all fun e => isTextD e.1 := by
        have h1 : ∀ l : List (PyData × PyData), (l.all fun e => isTextD e.1) = (l.map (·.1)).all isTextD := fun l => by rw [List.all_map]; rfl
        rw [h1, h1]
        exact (t1.all_eq).symm
      rw [e1]
      cases e2 : fs.all fun e => isTextD e.1 with
      | false => rfl
      | true =>
        rw [e2] at e1
        have hs : StrKeys es := fun e he => by
          have := List.all_eq_true.mp e1 e he
          cases e3 : e.1 <;> rw [e3] at this <;> first | exact ⟨_, rfl⟩ | cases this
        simp only [if_true]
        exact fst_pd (pd_imp (tw_rows t1 t2 hs h.1) fun a b _ _ ⟨h1, h2, q, hq, hqe⟩ => ⟨h1, tw_fw (hqe ▸ h.2 q hq) h2⟩)
    · rfl
theorem flat_pd {A B C : Type} {F : A → B → Prop} {G : C → C → Prop} {f : A → List C} {g : B → List C} {xs : List A} {ys : List B} (h : Paired F xs ys) (hf : ∀ a b, F a b → Paired G (f a) (g b)) : Paired G (xs.flatMap f) (ys.flatMap g) := by
  induction h with
  | nil => exact .nil
  | cons a _ ih =>
    rw [List.flatMap_cons, List.flatMap_cons]
    exact pd_app (hf _ _ a) ih
theorem map_pd {A B C D : Type} {F : A → B → Prop} {G : C → D → Prop} {f : A → C} {g : B → D} {xs : List A} {ys : List B} (h : Paired F xs ys) (hf : ∀ a b, F a b → G (f a) (g b)) : Paired G (xs.map f) (ys.map g) := by
  induction h with
  | nil => exact .nil
  | cons a _ ih => exact .cons (hf _ _ a) ih
theorem tw_up : ∀ {n : Nat} {d e : PyData}, tw n d e → tw (n + 1) d e
  | 0, _, _, t => t.elim
  | n + 1, d, e, t => by
    rcases tw_inv t with ⟨xs, ys, rfl, rfl, t⟩ | ⟨es, fs, rfl, rfl, t1, t2⟩ | ⟨rfl, h1, h2⟩
    · exact pd_imp t fun _ _ _ _ h => tw_up h
    · exact ⟨t1, fun f hf => by
        obtain ⟨e, he, h1, h2⟩ := t2 f hf
        exact ⟨e, he, h1, tw_up h2⟩⟩
    · cases d <;> first | rfl | (cases h1; done) | (cases h2; done)
theorem tw_parts : ∀ {n : Nat} {d e : PyData}, docD n d → nuD n d → tw n d e → Paired (fun (a b : List Key × PyData) => a.1 = b.1 ∧ tw n a.2 b.2) (partsN n d) (partsN n e)
  | 0, _, _, h, _, _ => h.elim
  | n + 1, d, e, h, u, t => by
    refine .cons ⟨rfl, t⟩ ?_
    have key : Paired (fun (a b : Key × PyData) => a.1 = b.1 ∧ tw n a.2 b.2 ∧ docD n a.2 ∧ nuD n a.2) (kidsD d) (kidsD e) := by
      rcases tw_inv t with ⟨xs, ys, rfl, rfl, t⟩ | ⟨es, fs, rfl, rfl, t1, t2⟩ | ⟨rfl, h1, h2⟩
      · exact pd_imp (tw_rowsL t) fun a b _ _ ⟨h1, h2, h3⟩ => ⟨h1, h2, h.2 _ h3, u _ h3⟩
      · exact pd_imp (tw_rows t1 t2 h.keys u.1) fun a b _ _ ⟨h1, h2, q, hq, hqe⟩ => ⟨h1, h2, hqe ▸ (h.2 q hq).2, hqe ▸ u.2 q hq⟩
      · have : kidsD d = [] := by cases d <;> first | rfl | (cases h1; done) | (cases h2; done)
        rw [this]
        exact .nil
    exact flat_pd key fun a b ⟨h1, h2, h3, h4⟩ => map_pd (tw_parts h3 h4 h2) fun x y ⟨g1, g2⟩ => ⟨by rw [h1, g1], tw_up g2⟩
theorem tw_same : ∀ {n : Nat} {d e : PyData}, docD n d → nuD n d → tw n d e → sameN n e d = true
  | 0, _, _, h, _, _ => h.elim
  | n + 1, d, e, h, u, t => by
    rcases tw_inv t with ⟨xs, ys, rfl, rfl, t⟩ | ⟨es, fs, rfl, rfl, t1, t2⟩ | ⟨rfl, h1, h2⟩
    · simp only [sameN, Bool.and_eq_true, decide_eq_true_eq, List.all_eq_true]
      refine ⟨(pd_len t).symm, fun b hb => ?_⟩
      obtain ⟨i, hi⟩ := List.getElem?_of_mem hb
      obtain ⟨y, x, hy, hx, rfl⟩ := List.getElem?_zipWith_eq_some.mp hi
      obtain ⟨y', hy', ht⟩ := pd_get t hx
      rw [hy] at hy'
      cases hy'
      exact tw_same (h.2 _ (List.mem_of_getElem? hx)) (u _ (List.mem_of_getElem? hx)) ht
    · simp only [sameN, Bool.and_eq_true, decide_eq_true_eq, List.all_eq_true]
      refine ⟨tw_srt t1, fun b hb => ?_⟩
      obtain ⟨f, hf, rfl⟩ := List.mem_map.mp hb
      obtain ⟨e, he, h1, h2⟩ := t2 f hf
      have b := dget_nd (keys_nu u.1 h.keys) he
      rw [h1] at b
      rw [b]
      exact tw_same (h.2 e he).2 (u.2 e he) h2
    · cases d <;> first | exact sameL_refl h | (cases h1; done) | (cases h2; done)
/-- one more entry, or another in its place -/
theorem putK_pd {F : V → PyData → Prop} {kvs : List (Key × V)} {es : List (PyData × PyData)} {k : Key} {v : V} {d : PyData} (hp : Paired (KvR F) kvs es) (hv : F v d) : ∃ es', Paired (KvR F) (putK kvs k v) es' ∧ (∀ e ∈ es', e ∈ es ∨ e = (kD k, d)) ∧ es'.length ≤ es.length + 1 := by
  unfold putK
  split
  · rename_i hany
    clear hany
    have key : ∃ es', Paired (KvR F) (kvs.map fun kv => if kv.1 = k then (kv.1, v) else kv) es' ∧ (∀ e ∈ es', e ∈ es ∨ e = (kD k, d)) ∧ es'.length = es.length := by
      induction hp with
      | nil => exact ⟨[], .nil, by simp, rfl⟩
      | @cons a b _ _ r _ ih =>
        obtain ⟨es', h1, h2, h3⟩ := ih
        by_cases hk : a.1 = k
        · refine ⟨(kD k, d) :: es', ?_, fun e he => ?_, by simp [h3]⟩
          · rw [List.map_cons, if_pos hk]
            exact .cons ⟨by rw [hk], hv⟩ h1
          · rcases List.mem_cons.mp he with rfl | he
            · exact .inr rfl
            · rcases h2 e he with h | h
              · exact .inl (by simp [h])
              · exact .inr h
        · refine ⟨b :: es', ?_, fun e he => ?_, by simp [h3]⟩
          · rw [List.map_cons, if_neg hk]
            exact .cons r h1
          · rcases List.mem_cons.mp he with rfl | he
            · exact .inl (by simp)
            · rcases h2 e he with h | h
              · exact .inl (by simp [h])
              · exact .inr h
    obtain ⟨es', h1, h2, h3⟩ := key
    exact ⟨es', h1, h2, by omega⟩
  · exact ⟨es ++ [(kD k, d)], pd_app hp (.cons ⟨rfl, hv⟩ .nil), by simp, by simp⟩
theorem putK_nd {kvs : List (Key × V)} {k : Key} {v : V} (hn : (kvs.map (·.1)).Nodup) : ((putK kvs k v).map (·.1)).Nodup := by
  by_cases h : (kvs.any fun kv => decide (kv.1 = k)) = true
  · unfold putK
    rw [if_pos h, List.map_map]
    have : ((fun x : Key × V => x.1) ∘ fun kv => if kv.1 = k then (kv.1, v) else kv) = fun x => x.1 := by
      funext x
      simp only [Function.comp]
      split <;> rfl
    rw [this]
    exact hn
  · unfold putK
    rw [if_neg h, List.map_append]
    refine List.nodup_append.mpr ⟨hn, by simp, fun a ha b hb e => ?_⟩
    simp at hb
    subst hb
    subst e
    obtain ⟨x, hx, rfl⟩ := List.mem_map.mp ha
    exact h (List.any_eq_true.mpr ⟨x, hx, by simp⟩)
theorem tw_same' : ∀ {n : Nat} {d e : PyData}, docD n d → nuD n d → tw n d e → sameN n d e = true
  | 0, _, _, h, _, _ => h.elim
  | n + 1, d, e, h, u, t => by
    rcases tw_inv t with ⟨xs, ys, rfl, rfl, t⟩ | ⟨es, fs, rfl, rfl, t1, t2⟩ | ⟨rfl, h1, h2⟩
    · simp only [sameN, Bool.and_eq_true, decide_eq_true_eq, List.all_eq_true]
      refine ⟨pd_len t, fun b hb => ?_⟩
      obtain ⟨i, hi⟩ := List.getElem?_of_mem hb
      obtain ⟨x, y, hx, hy, rfl⟩ := List.getElem?_zipWith_eq_some.mp hi
      obtain ⟨y', hy', ht⟩ := pd_get t hx
      rw [hy] at hy'
      cases hy'
      exact tw_same' (h.2 _ (List.mem_of_getElem? hx)) (u _ (List.mem_of_getElem? hx)) ht
    · simp only [sameN, Bool.and_eq_true, decide_eq_true_eq, List.all_eq_true]
      refine ⟨(tw_srt t1).symm, fun b hb => ?_⟩
      obtain ⟨e, he, rfl⟩ := List.mem_map.mp hb
      have hx : strD e.1 ∈ keysD es := List.mem_map.mpr ⟨e, he, rfl⟩
      obtain ⟨d1, d2, g1, g2, g3, _⟩ := tw_get t1 t2 h.keys u.1 hx
      rw [dget_nd (keys_nu u.1 h.keys) he] at g1
      cases g1
      rw [g2]
      exact tw_same' (h.2 e he).2 (u.2 e he) g3
    · cases d <;> first | exact sameL_refl h | (cases h1; done) | (cases h2; done)
theorem kid_step {n : Nat} {d : PyData} {q : Key × PyData} (h : docD (n + 1) d) (hq : q ∈ kidsD d) : stepN d q.1 = some q.2 ∧ docD n q.2 := by
  cases d with
  | list ds =>
    simp only [kidsD, rowsL, List.mem_map] at hq
    obtain ⟨⟨x, i⟩, hm, rfl⟩ := hq
    have hi := List.mem_zipIdx' hm
    have hx : ds[i]? = some x := by rw [hi.2]; exact List.getElem?_eq_getElem _
    refine ⟨?_, h.2 _ (List.mem_of_getElem? hx)⟩
    simp only [stepN]
    rw [if_pos (by omega)]
    simpa using hx
  | dict es =>
    simp only [kidsD, rowsD, List.mem_map] at hq
    obtain ⟨x, hm, rfl⟩ := hq
    simp only
    cases e : dget es x with
    | none => exact absurd (mem_srt.mp hm) (dget_none e)
    | some d' =>
      obtain ⟨e', he', hde, _⟩ := dget_mem e
      refine ⟨by simp [stepN, e], ?_⟩
      simp only [Option.getD_some]
      rw [← hde]
      exact (h.2 _ he').2
  | _ => simp [kidsD] at hq
theorem parts_walk : ∀ {n : Nat} {d : PyData} {r : List Key × PyData}, docD n d → r ∈ partsN n d → walkD d r.1 = some r.2
  | 0, _, _, h, _ => h.elim
  | n + 1, d, r, h, hr => by
    simp only [partsN, List.mem_cons, List.mem_flatMap, List.mem_map] at hr
    rcases hr with rfl | ⟨q, hq, x, hx, rfl⟩
    · rfl
    · obtain ⟨h1, h2⟩ := kid_step h hq
      simp only [walkD, h1, Option.bind_some]
      exact parts_walk h2 hx
end SC

/-! Schemacheck: another part put at a path. -/
set_option linter.all false
set_option maxHeartbeats 1000000
namespace SC
open PySem L2
/-- either of two readings of one statement -/
theorem ps_either {X : Cx} {st : Stmt} {t u : TS} (h : PS X st t) (g : PS X st u) : PS X st (fun D σ H => t D σ H ∨ u D σ H) :=
  ⟨fun pins s σ H D I q => q.elim (h.run pins s σ H D I) (g.run pins s σ H D I)⟩
theorem slAK {X : Cx} {K : PySem.W.Frag} (h : X.K = K) : SlR X (rSlA K) := by subst h; exact sl_tupA
def putN : PyData → List Key → PyData → PyData
  | _, [], x => x
  | .list ds, .inl i :: r, x => .list (ds.set i.toNat (putN (ds[i.toNat]?.getD .none) r x))
  | .dict es, .inr y :: r, x => .dict (es.map fun e => if strD e.1 = y then (e.1, putN e.2 r x) else e)
  | d, _ :: _, _ => d
theorem put_keys (es : List (PyData × PyData)) (y : Str) (f : PyData → PyData) : keysD (es.map fun e => if strD e.1 = y then (e.1, f e.2) else e) = keysD es := by
  unfold keysD
  rw [List.map_map]
  refine List.map_congr_left fun e _ => ?_
  simp only [Function.comp]
  split <;> rfl
theorem put_get : ∀ (es : List (PyData × PyData)) (y z : Str) (f : PyData → PyData), dget (es.map fun e => if strD e.1 = y then (e.1, f e.2) else e) z = (dget es z).map fun d => if z = y then f d else d
  | [], y, z, f => rfl
  | e :: r, y, z, f => by
    have ih := put_get r y z f
    unfold dget at ih ⊢
    rw [List.map_cons, List.find?_cons, List.find?_cons]
    have h1 : strD (if strD e.1 = y then (e.1, f e.2) else e).1 = strD e.1 := by split <;> rfl
    rw [h1]
    by_cases hz : strD e.1 = z
    · rw [decide_eq_true hz]
      simp only [Option.map_some, Option.some.injEq]
      by_cases hy : strD e.1 = y
      · rw [if_pos hy, if_pos (hz ▸ hy)]
      · rw [if_neg hy, if_neg (hz ▸ hy)]
    · rw [decide_eq_false hz]
      exact ih
/-- the parts below, one replaced -/
theorem kids_put {d : PyData} {s : Key} {r : List Key} {x e : PyData} (h : stepN d s = some e) : kidsD (putN d (s :: r) x) = (kidsD d).map fun q => if q.1 = s then (q.1, putN q.2 r x) else q := by
  cases d with
  | list ds =>
    cases s with
    | inr y => simp [stepN] at h
    | inl i =>
      simp only [stepN] at h
      split at h
      · rename_i h0
        have hi : i.toNat < ds.length := (List.getElem?_eq_some_iff.mp h).1
        simp only [putN, kidsD, rowsL, h, Option.getD_some]
        refine List.ext_getElem? fun j => ?_
        simp only [List.getElem?_map, List.getElem?_zipIdx, List.getElem?_set, Nat.zero_add, Option.map_map]
        by_cases hj : i.toNat = j
        · subst hj
          rw [if_pos rfl, if_pos hi, h]
          have : ((i.toNat : Nat) : Int) = i := by omega
          simp [this]
        · rw [if_neg hj]
          cases ds[j]? with
          | none => rfl
          | some z =>
            have : ¬ ((j : Nat) : Int) = i := by omega
            simp [this]
      · cases h
  | dict es =>
    cases s with
    | inl i => simp [stepN] at h
    | inr y =>
      simp only [putN, kidsD, rowsD]
      rw [put_keys es y fun d => putN d r x, List.map_map]
      refine List.map_congr_left fun z hz => ?_
      rw [put_get es y z fun d => putN d r x]
      simp only [Function.comp, Sum.inr.injEq]
      cases hd : dget es z with
      | none => exact absurd (mem_srt.mp hz) (dget_none hd)
      | some d' =>
        by_cases hy : z = y
        · subst hy; simp
        · simp [hy]
  | _ => simp [stepN] at h
theorem step_put {d : PyData} {s : Key} {r : List Key} {x e : PyData} (h : stepN d s = some e) : stepN (putN d (s :: r) x) s = some (putN e r x) := by
  cases d with
  | list ds =>
    cases s with
    | inr y => simp [stepN] at h
    | inl i =>
      simp only [stepN] at h
      split at h
      · rename_i h0
        have hi : i.toNat < ds.length := (List.getElem?_eq_some_iff.mp h).1
        simp only [putN, stepN, h, Option.getD_some]
        rw [if_pos h0, List.getElem?_set, if_pos rfl, if_pos hi]
      · cases h
  | dict es =>
    cases s with
    | inl i => simp [stepN] at h
    | inr y =>
      simp only [stepN] at h
      simp only [putN, stepN]
      rw [put_get es y y fun d => putN d r x, h]
      simp
  | _ => simp [stepN] at h
theorem walk_put : ∀ {p : List Key} {d e x : PyData}, walkD d p = some e → walkD (putN d p x) p = some x
  | [], d, e, x, _ => by cases d <;> rfl
  | s :: r, d, e, x, h => by
    simp only [walkD] at h
    cases hs : stepN d s with
    | none => rw [hs] at h; cases h
    | some d' =>
      rw [hs] at h
      simp only [walkD, step_put hs, Option.bind_some]
      exact walk_put h
theorem put_nil (d x : PyData) : putN d [] x = x := by cases d <;> rfl
theorem put_doc : ∀ {p : List Key} {n k : Nat} {d x : PyData}, docD n d → docD k x → docD (n + k) (putN d p x)
  | [], n, k, d, x, _, hx => by
    rw [put_nil]
    exact docD.up hx (by omega)
  | s :: r, 0, k, d, x, hd, hx => hd.elim
  | s :: r, n + 1, k, d, x, hd, hx => by
    rw [show n + 1 + k = (n + k) + 1 by omega]
    have up : docD (n + k + 1) d := docD.up hd (by omega)
    cases d with
    | list ds =>
      cases s with
      | inr y => exact up
      | inl i =>
        refine ⟨by simp; exact hd.1, fun z hz => ?_⟩
        rcases List.mem_or_eq_of_mem_set hz with hz | rfl
        · exact docD.up (hd.2 z hz) (by omega)
        · cases hs : ds[i.toNat]? with
          | none =>
            have : ds.set i.toNat (putN (Option.getD none PyData.none) r x) = ds := by
              rw [List.set_eq_of_length_le]
              exact List.getElem?_eq_none_iff.mp hs
            rw [hs, this] at hz
            exact docD.up (hd.2 _ hz) (by omega)
          | some d' => exact put_doc (hd.2 _ (List.mem_of_getElem? hs)) hx
    | dict es =>
      cases s with
      | inl i => exact up
      | inr y =>
        refine ⟨by simp; exact hd.1, fun z hz => ?_⟩
        obtain ⟨e', he', rfl⟩ := List.mem_map.mp hz
        have hde := hd.2 e' he'
        split
        · exact ⟨hde.1, put_doc hde.2 hx⟩
        · exact ⟨hde.1, docD.up hde.2 (by omega)⟩
    | none => cases s <;> exact up
    | bool _ => cases s <;> exact up
    | int _ => cases s <;> exact up
    | str _ => cases s <;> exact up
    | tuple _ => cases s <;> exact up
/-! ### the parts of the whole -/
theorem parts_upD : ∀ {n : Nat} {d : PyData}, docD n d → partsN (n + 1) d = partsN n d
  | 0, _, h => h.elim
  | n + 1, d, h => by
    show _ :: _ = _ :: _
    congr 1
    refine flatMap_congr' fun q hq => ?_
    rw [parts_upD (kid_step h hq).2]
theorem parts_to {n m : Nat} {d : PyData} (h : docD n d) (hl : n ≤ m) : partsN m d = partsN n d := by
  induction hl with
  | refl => rfl
  | step hl ih => rw [parts_upD (h.up hl), ih]
theorem kid_nd {n : Nat} {d : PyData} {q : Key × PyData} (hd : docD (n + 1) d) (h : ndD (n + 1) d) (hq : q ∈ kidsD d) : ndD n q.2 := by
  cases d with
  | list ds =>
    simp only [kidsD, rowsL, List.mem_map] at hq
    obtain ⟨⟨x, i⟩, hm, rfl⟩ := hq
    exact h _ (List.fst_mem_of_mem_zipIdx hm)
  | dict es =>
    simp only [kidsD, rowsD, List.mem_map] at hq
    obtain ⟨x, hm, rfl⟩ := hq
    simp only
    cases e : dget es x with
    | none => exact absurd (mem_srt.mp hm) (dget_none e)
    | some d' =>
      obtain ⟨e', he', hde, _⟩ := dget_mem e
      simp only [Option.getD_some]
      rw [← hde]
      exact h.2 _ he'
  | _ => simp [kidsD] at hq
theorem kids_ndD {n : Nat} {d : PyData} (hd : docD (n + 1) d) (h : ndD (n + 1) d) : ((kidsD d).map (·.1)).Nodup := by
  cases d with
  | list ds =>
    have : (kidsD (.list ds)).map (·.1) = (List.range ds.length).map fun i => (.inl (i : Nat) : Key) := by
      refine List.ext_getElem? fun j => ?_
      simp only [kidsD, rowsL, List.getElem?_map, List.getElem?_zipIdx, Option.map_map, Nat.zero_add]
      by_cases hj : j < ds.length
      · simp [hj]
      · simp [hj]
    rw [this]
    exact nd_map (fun a b e => by have := Sum.inl.inj e; omega) List.nodup_range
  | dict es =>
    have : (kidsD (.dict es)).map (·.1) = (srt (keysD es)).map Sum.inr := by simp [kidsD, rowsD]
    rw [this]
    exact nd_map (fun a b e => by simpa using e) (srt_nd h.1)
  | _ => simp [kidsD]
/-- one of the parts below, by its key -/
theorem flat_one {B : Type} {s : Key} {L : List B} {f : Key × PyData → List B} : ∀ {l : List (Key × PyData)}, (l.map (·.1)).Nodup → (∀ q ∈ l, q.1 ≠ s → f q = []) → ∀ {e : PyData}, (s, e) ∈ l → f (s, e) = L → l.flatMap f = L
  | [], _, _, _, h, _ => by cases h
  | q :: l, hn, h0, e, h, hf => by
    obtain ⟨h1, h2⟩ := List.nodup_cons.mp hn
    rw [List.flatMap_cons]
    rcases List.mem_cons.mp h with rfl | h
    · have : l.flatMap f = [] := List.flatMap_eq_nil_iff.mpr fun z hz => h0 z (by simp [hz]) fun e' => h1 (List.mem_map.mpr ⟨z, hz, e'⟩)
      rw [hf, this, List.append_nil]
    · have hq : q.1 ≠ s := fun e' => h1 (List.mem_map.mpr ⟨_, h, e'.symm⟩)
      rw [h0 q (by simp) hq, List.nil_append]
      exact flat_one h2 (fun z hz => h0 z (by simp [hz])) h hf
theorem step_kid {n : Nat} {d : PyData} {s : Key} {e : PyData} (hd : docD (n + 1) d) (h : stepN d s = some e) : (s, e) ∈ kidsD d := by
  cases d with
  | list ds =>
    cases s with
    | inr y => simp [stepN] at h
    | inl i =>
      simp only [stepN] at h
      split at h
      · rename_i h0
        simp only [kidsD, rowsL, List.mem_map]
        obtain ⟨hi, he⟩ := List.getElem?_eq_some_iff.mp h
        refine ⟨(e, i.toNat), ?_, by simp; omega⟩
        rw [List.mem_zipIdx_iff_getElem?]
        exact h
      · cases h
  | dict es =>
    cases s with
    | inl i => simp [stepN] at h
    | inr y =>
      simp only [stepN] at h
      simp only [kidsD, rowsD, List.mem_map]
      refine ⟨y, mem_srt.mpr ?_, by simp [h]⟩
      obtain ⟨e', he', _, hk⟩ := dget_mem h
      exact List.mem_map.mpr ⟨e', he', hk⟩
  | _ => simp [stepN] at h
def preB (p r : List Key) : Bool := decide (r.take p.length = p)
def besB (p r : List Key) : Bool := decide (r.take p.length ≠ p) && decide (p.take r.length ≠ r)
theorem told_is : ∀ {p : List Key} {n k : Nat} {d e x : PyData}, docD n d → ndD n d → walkD d p = some e → docD k x →
    (partsN (n + k) (putN d p x)).filter (fun r => preB p r.1) = (partsN (n + k) x).map fun r => (p ++ r.1, r.2)
  | [], n, k, d, e, x, _, _, _, _ => by
    rw [put_nil]
    have h1 : (fun r : List Key × PyData => preB [] r.1) = fun _ => true := by funext r; simp [preB]
    rw [h1, List.filter_eq_self.mpr fun _ _ => rfl]
    simp
  | s :: r, 0, k, d, e, x, hd, _, _, _ => hd.elim
  | s :: r, n + 1, k, d, e, x, hd, nd, h, hx => by
    simp only [walkD] at h
    cases hs : stepN d s with
    | none => rw [hs] at h; cases h
    | some d' =>
      rw [hs] at h
      have hk := step_kid hd hs
      have hdk := (kid_step hd hk).2
      rw [parts_to hx (by omega), show n + 1 + k = (n + k) + 1 by omega]
      show List.filter _ (_ :: _) = _
      rw [List.filter_cons_of_neg (by simp [preB]), List.filter_flatMap, kids_put hs, List.flatMap_map]
      refine flat_one (s := s) (kids_ndD hd nd) (fun q hq hne => ?_) hk ?_
      · rw [if_neg hne, List.filter_map]
        rw [List.map_eq_nil_iff, List.filter_eq_nil_iff]
        intro z _
        simp only [Function.comp, preB, List.length_cons, List.take_succ_cons, decide_eq_true_eq, List.cons.injEq, not_and]
        intro e'
        exact absurd e' hne
      · simp only [if_true]
        rw [List.filter_map]
        have h2 : ((fun r_1 : List Key × PyData => preB (s :: r) r_1.1) ∘ fun r : List Key × PyData => (s :: r.1, r.2)) = fun r_1 => preB r r_1.1 := by
          funext z
          simp [preB]
        have h3 := told_is hdk (kid_nd hd nd hk) h hx
        simp only at h3
        rw [h2, h3, parts_to hx (by omega), List.map_map]
        rfl
theorem beside_is : ∀ {p : List Key} {n k : Nat} {d e x : PyData}, docD n d → walkD d p = some e → docD k x →
    (partsN (n + k) (putN d p x)).filter (fun r => besB p r.1) = (partsN (n + k) d).filter fun r => besB p r.1
  | [], n, k, d, e, x, _, _, _ => by
    have h1 : ∀ l : List (List Key × PyData), l.filter (fun r => besB [] r.1) = [] := fun l => by
      rw [List.filter_eq_nil_iff]
      intro z _
      simp [besB]
    rw [h1, h1]
  | s :: r, 0, k, d, e, x, hd, _, _ => hd.elim
  | s :: r, n + 1, k, d, e, x, hd, h, hx => by
    simp only [walkD] at h
    cases hs : stepN d s with
    | none => rw [hs] at h; cases h
    | some d' =>
      rw [hs] at h
      rw [show n + 1 + k = (n + k) + 1 by omega]
      show List.filter _ (_ :: _) = List.filter _ (_ :: _)
      rw [List.filter_cons_of_neg (by simp [besB]), List.filter_cons_of_neg (by simp [besB]), List.filter_flatMap, List.filter_flatMap, kids_put hs, List.flatMap_map]
      refine flatMap_congr' fun q hq => ?_
      by_cases hqs : q.1 = s
      · rw [if_pos hqs]
        simp only
        rw [List.filter_map, List.filter_map]
        have h2 : ((fun z : List Key × PyData => besB (s :: r) z.1) ∘ fun z : List Key × PyData => (q.1 :: z.1, z.2)) = fun z => besB r z.1 := by
          funext z
          simp [besB, hqs]
        rw [h2]
        obtain ⟨q1, hq2⟩ := kid_step hd hq
        rw [hqs, hs] at q1
        cases q1
        rw [beside_is hq2 h hx]
      · rw [if_neg hqs]
theorem cntAll_set : ∀ {ds : List PyData} {i : Nat} {d x : PyData} {c : Nat}, ds[i]? = some d → cnt x ≤ cnt d + c → cntAll (ds.set i x) ≤ cntAll ds + c
  | [], _, _, _, _, h, _ => by simp at h
  | a :: r, 0, d, x, c, h, hc => by
    simp at h
    subst h
    simp only [List.set_cons_zero, cntAll]
    omega
  | a :: r, i + 1, d, x, c, h, hc => by
    have := cntAll_set (ds := r) (i := i) (by simpa using h) hc
    simp only [List.set_cons_succ, cntAll]
    omega
theorem cntKv_put {y : Str} {f : PyData → PyData} {c : Nat} : ∀ {es : List (PyData × PyData)}, (keysD es).Nodup → (∀ e ∈ es, strD e.1 = y → cnt (f e.2) ≤ cnt e.2 + c) → cntKv (es.map fun e => if strD e.1 = y then (e.1, f e.2) else e) ≤ cntKv es + c
  | [], _, _ => by simp [cntKv]
  | (a, b) :: r, hn, h => by
    have hn' : strD a ∉ keysD r ∧ (keysD r).Nodup := List.nodup_cons.mp hn
    rw [List.map_cons]
    by_cases hy : strD a = y
    · have hr : (r.map fun e => if strD e.1 = y then (e.1, f e.2) else e) = r := by
        rw [List.map_congr_left (g := id) fun e he => ?_, List.map_id]
        have : strD e.1 ≠ y := fun z => hn'.1 (by rw [hy, ← z]; exact List.mem_map.mpr ⟨e, he, rfl⟩)
        simp [this]
      have hc : cnt (f b) ≤ cnt b + c := h (a, b) (by simp) hy
      rw [hr]
      simp only [hy, if_true, cntKv]
      omega
    · have := cntKv_put hn'.2 fun e he => h e (by simp [he])
      simp only [hy, if_false, cntKv]
      omega
theorem put_cnt : ∀ {p : List Key} {n : Nat} {d x : PyData}, docD n d → ndD n d → cnt (putN d p x) ≤ cnt d + cnt x
  | [], n, d, x, _, _ => by rw [put_nil]; omega
  | s :: r, 0, d, x, hd, _ => hd.elim
  | s :: r, n + 1, d, x, hd, nd => by
    cases d with
    | list ds =>
      cases s with
      | inr y => show cnt (.list ds) ≤ _; omega
      | inl i =>
        show 1 + cntAll _ ≤ 1 + cntAll ds + cnt x
        cases hs : ds[i.toNat]? with
        | none =>
          rw [List.set_eq_of_length_le (List.getElem?_eq_none_iff.mp hs)]
          omega
        | some d' =>
          have hm := List.mem_of_getElem? hs
          have := cntAll_set (c := cnt x) hs (put_cnt (p := r) (x := x) (hd.2 _ hm) (nd _ hm))
          simp only [Option.getD_some]
          omega
    | dict es =>
      cases s with
      | inl i => show cnt (.dict es) ≤ _; omega
      | inr y =>
        show 1 + cntKv _ ≤ 1 + cntKv es + cnt x
        have := cntKv_put (y := y) (f := fun d => putN d r x) (c := cnt x) nd.1 fun e he _ => put_cnt (p := r) (x := x) (hd.2 e he).2 (nd.2 e he)
        omega
    | _ => cases s <;> exact Nat.le_add_right _ _
theorem put_put : ∀ {p : List Key} {n : Nat} {d e x : PyData}, docD n d → ndD n d → walkD d p = some e → putN (putN d p x) p e = d
  | [], n, d, e, x, _, _, h => by
    rw [put_nil]
    simp only [walkD] at h
    cases h
    rfl
  | s :: r, 0, d, e, x, hd, _, _ => hd.elim
  | s :: r, n + 1, d, e, x, hd, nd, h => by
    simp only [walkD] at h
    cases hs : stepN d s with
    | none => rw [hs] at h; cases h
    | some d' =>
      rw [hs] at h
      cases d with
      | list ds =>
        cases s with
        | inr y => simp [stepN] at hs
        | inl i =>
          simp only [stepN] at hs
          split at hs
          · have hi : i.toNat < ds.length := (List.getElem?_eq_some_iff.mp hs).1
            have hm := List.mem_of_getElem? hs
            simp only [putN, hs, Option.getD_some, List.getElem?_set, if_true, hi]
            rw [put_put (hd.2 _ hm) (nd _ hm) h, List.set_set]
            congr 1
            refine List.ext_getElem? fun j => ?_
            rw [List.getElem?_set]
            by_cases hj : i.toNat = j
            · subst hj; rw [if_pos rfl, if_pos hi, hs]
            · rw [if_neg hj]
          · cases hs
      | dict es =>
        cases s with
        | inl i => simp [stepN] at hs
        | inr y =>
          simp only [stepN] at hs
          simp only [putN, List.map_map]
          congr 1
          rw [List.map_congr_left (g := id) fun e' he' => ?_, List.map_id]
          simp only [Function.comp, id]
          by_cases hy : strD e'.1 = y
          · have h2 := dget_nd nd.1 he'
            rw [hy, hs] at h2
            cases h2
            rw [if_pos hy]
            simp only [hy, if_true]
            rw [put_put (hd.2 e' he').2 (nd.2 e' he') h]
          · rw [if_neg hy, if_neg hy]
      | _ => simp [stepN] at hs
theorem same_symm1 : ∀ {n : Nat} {d e : PyData}, docD n d → docD n e → ndD n d → ndD n e → sameN n d e = true → sameN n e d = true
  | 0, _, _, h, _, _, _, _ => h.elim
  | n + 1, .list xs, .list ys, hd, he, nd, ne, h => by
    simp only [sameN, Bool.and_eq_true, decide_eq_true_eq, List.all_eq_true] at h ⊢
    refine ⟨h.1.symm, fun b hb => ?_⟩
    obtain ⟨i, hi⟩ := List.getElem?_of_mem hb
    obtain ⟨y, x, hy, hx, rfl⟩ := List.getElem?_zipWith_eq_some.mp hi
    have h1 : (List.zipWith (sameN n) xs ys)[i]? = some (sameN n x y) := List.getElem?_zipWith_eq_some.mpr ⟨x, y, hx, hy, rfl⟩
    have h2 := h.2 _ (List.mem_of_getElem? h1)
    exact same_symm1 (hd.2 _ (List.mem_of_getElem? hx)) (he.2 _ (List.mem_of_getElem? hy)) (nd _ (List.mem_of_getElem? hx)) (ne _ (List.mem_of_getElem? hy)) h2
  | n + 1, .dict es, .dict fs, hd, he, nd, ne, h => by
    simp only [sameN, Bool.and_eq_true, decide_eq_true_eq, List.all_eq_true] at h ⊢
    refine ⟨h.1.symm, fun b hb => ?_⟩
    obtain ⟨f, hf, rfl⟩ := List.mem_map.mp hb
    have hk : strD f.1 ∈ keysD es := mem_srt.mp (by rw [h.1]; exact mem_srt.mpr (List.mem_map.mpr ⟨f, hf, rfl⟩))
    obtain ⟨e, he1, hek⟩ := List.mem_map.mp hk
    have h3 := h.2 _ (List.mem_map.mpr ⟨e, he1, rfl⟩)
    have g1 := dget_nd ne.1 hf
    have g2 := dget_nd nd.1 he1
    rw [hek] at g2 h3
    rw [g1] at h3
    rw [g2]
    exact same_symm1 (hd.2 e he1).2 (he.2 f hf).2 (nd.2 e he1) (ne.2 f hf) h3
  | n + 1, .none, e, _, _, _, _, h => by cases e <;> first | exact h | cases h
  | n + 1, .bool a, e, _, _, _, _, h => by cases e <;> first | (simp [sameN, sameL] at h ⊢; first | exact h.symm | exact h) | cases h
  | n + 1, .int a, e, _, _, _, _, h => by cases e <;> first | (simp [sameN, sameL] at h ⊢; first | exact h.symm | exact h) | cases h
  | n + 1, .str a, e, _, _, _, _, h => by cases e <;> first | (simp [sameN, sameL] at h ⊢; first | exact h.symm | exact h) | cases h
  | n + 1, .tuple _, _, hd, _, _, _, _ => hd.elim
  | n + 1, .list _, .none, _, _, _, _, h => by cases h
  | n + 1, .list _, .bool _, _, _, _, _, h => by cases h
  | n + 1, .list _, .int _, _, _, _, _, h => by cases h
  | n + 1, .list _, .str _, _, _, _, _, h => by cases h
  | n + 1, .list _, .tuple _, _, he, _, _, h => he.elim
  | n + 1, .list _, .dict _, _, _, _, _, h => by cases h
  | n + 1, .dict _, .none, _, _, _, _, h => by cases h
  | n + 1, .dict _, .bool _, _, _, _, _, h => by cases h
  | n + 1, .dict _, .int _, _, _, _, _, h => by cases h
  | n + 1, .dict _, .str _, _, _, _, _, h => by cases h
  | n + 1, .dict _, .tuple _, _, he, _, _, h => he.elim
  | n + 1, .dict _, .list _, _, _, _, _, h => by cases h
theorem same_symm {n : Nat} {d e : PyData} (hd : docD n d) (he : docD n e) (nd : ndD n d) (ne : ndD n e) : sameN n d e = sameN n e d := by
  cases h : sameN n d e with
  | true => rw [same_symm1 hd he nd ne h]
  | false =>
    cases h2 : sameN n e d with
    | false => rfl
    | true => rw [same_symm1 he hd ne nd h2] at h; cases h
theorem step_doc {n : Nat} {d e : PyData} {s : Key} (hd : docD (n + 1) d) (h : stepN d s = some e) : docD n e := (kid_step hd (step_kid hd h)).2
theorem walk_doc : ∀ {p : List Key} {n : Nat} {d e : PyData}, docD n d → walkD d p = some e → docD n e
  | [], n, d, e, hd, h => by cases h; exact hd
  | s :: r, 0, d, e, hd, h => hd.elim
  | s :: r, n + 1, d, e, hd, h => by
    simp only [walkD] at h
    cases hs : stepN d s with
    | none => rw [hs] at h; cases h
    | some d' =>
      rw [hs] at h
      exact (walk_doc (step_doc hd hs) h).up1
theorem all_set {N : Nat} : ∀ {ds : List PyData} {i : Nat} {d z : PyData}, ds[i]? = some d → (∀ x ∈ ds, sameN N x x = true) → (List.zipWith (sameN N) (ds.set i z) ds).all id = sameN N z d
  | [], _, _, _, h, _ => by simp at h
  | a :: r, 0, d, z, h, hr => by
    simp at h
    subst h
    have : (List.zipWith (sameN N) r r).all id = true := by
      rw [List.all_eq_true]
      intro b hb
      rw [List.zipWith_self] at hb
      obtain ⟨x, hx, rfl⟩ := List.mem_map.mp hb
      exact hr x (by simp [hx])
    simp only [List.set_cons_zero, List.zipWith_cons_cons, List.all_cons, this, id, Bool.and_true]
  | a :: r, i + 1, d, z, h, hr => by
    have := all_set (N := N) (ds := r) (i := i) (z := z) (by simpa using h) fun x hx => hr x (by simp [hx])
    simp only [List.set_cons_succ, List.zipWith_cons_cons, List.all_cons, this, id, hr a (by simp), Bool.true_and]
theorem all_kv {N : Nat} {y : Str} {f : PyData → PyData} {d : PyData} {es : List (PyData × PyData)} (hn : (keysD es).Nodup) (hg : dget es y = some d) (hr : ∀ e ∈ es, sameN N e.2 e.2 = true) :
    ((es.map fun e => if strD e.1 = y then (e.1, f e.2) else e).map fun e => optB (dget es (strD e.1)) (sameN N e.2)).all id = sameN N (f d) d := by
  rw [List.map_map, Bool.eq_iff_iff, List.all_eq_true]
  constructor
  · intro h
    obtain ⟨e, he, hed, hek⟩ := dget_mem hg
    have h1 := h _ (List.mem_map.mpr ⟨e, he, rfl⟩)
    simp only [Function.comp, hek, if_true, hg, hed, id] at h1
    exact h1
  · intro h b hb
    obtain ⟨e, he, rfl⟩ := List.mem_map.mp hb
    have g := dget_nd hn he
    simp only [Function.comp, id]
    by_cases hy : strD e.1 = y
    · rw [hy] at g
      rw [hg] at g
      cases g
      simp only [hy, if_true, hg]
      exact h
    · simp only [hy, if_false, g]
      exact hr e he
theorem same_put : ∀ {p : List Key} {n k : Nat} {d e x : PyData}, docD n d → ndD n d → walkD d p = some e → docD k x → sameN (n + k) (putN d p x) d = sameN (n + k) x e
  | [], n, k, d, e, x, _, _, h, _ => by
    rw [put_nil]
    cases h
    rfl
  | s :: r, 0, k, d, e, x, hd, _, _, _ => hd.elim
  | s :: r, n + 1, k, d, e, x, hd, nd, h, hx => by
    simp only [walkD] at h
    cases hs : stepN d s with
    | none => rw [hs] at h; cases h
    | some d' =>
      rw [hs] at h
      have h : walkD d' r = some e := h
      have hk := step_kid hd hs
      have hd' := step_doc hd hs
      have nd' := kid_nd hd nd hk
      have ih := same_put (k := k) (x := x) hd' nd' h hx
      have hup : sameN (n + 1 + k) x e = sameN (n + k) x e := by
        have he := walk_doc hd' h
        rw [show n + 1 + k = k + (n + 1) by omega, sameN_up hx (he.up (show n ≤ n + k by omega)) (by omega) (n + 1), show n + k = k + n by omega, sameN_up hx (he.up (show n ≤ n + k by omega)) (by omega) n]
      rw [hup, ← ih, show n + 1 + k = (n + k) + 1 by omega]
      cases d with
      | list ds =>
        cases s with
        | inr y => simp [stepN] at hs
        | inl i =>
          simp only [stepN] at hs
          split at hs
          · simp only [putN, sameN, hs, Option.getD_some, List.length_set, decide_true, Bool.true_and]
            exact all_set hs fun z hz => by
              have hz1 := hd.2 z hz
              have hz2 := nd z hz
              rw [sameN_up hz1 hz1 (Nat.le_refl _) k]
              exact sameN_refl hz1 hz2
          · cases hs
      | dict es =>
        cases s with
        | inl i => simp [stepN] at hs
        | inr y =>
          simp only [stepN] at hs
          simp only [putN, sameN]
          rw [put_keys es y fun d => putN d r x]
          simp only [decide_true, Bool.true_and]
          exact all_kv (f := fun d => putN d r x) nd.1 hs fun z hz => by
            have hz1 := (hd.2 z hz).2
            have hz2 := nd.2 z hz
            rw [sameN_up hz1 hz1 (Nat.le_refl _) k]
            exact sameN_refl hz1 hz2
      | _ => simp [stepN] at hs
/-! ### how much is shown -/
theorem kids_sum {n : Nat} {d : PyData} (hd : docD (n + 1) d) (nd : ndD (n + 1) d) : 1 + ((kidsD d).map fun q => cnt q.2).sum = cnt d := by
  have h := parts_cnt hd nd
  rw [← h]
  show _ = List.length (_ :: _)
  rw [List.length_cons, List.length_flatMap, Nat.add_comm]
  congr 2
  refine List.map_congr_left fun q hq => ?_
  rw [List.length_map, parts_cnt (kid_step hd hq).2 (kid_nd hd nd hq)]
theorem sum_le {A : Type} {f g : A → Nat} : ∀ {l : List A}, (∀ a ∈ l, f a ≤ g a) → (l.map f).sum ≤ (l.map g).sum
  | [], _ => Nat.le_refl _
  | a :: r, h => by
    have h1 := h a (by simp)
    have h2 := sum_le (l := r) fun x hx => h x (by simp [hx])
    simp only [List.map_cons, List.sum_cons]
    omega
theorem sum_mul {A : Type} {f : A → Nat} {c : Nat} : ∀ {l : List A}, (l.map fun a => c * f a).sum = c * (l.map f).sum
  | [] => rfl
  | a :: r => by
    simp only [List.map_cons, List.sum_cons, Nat.mul_add, sum_mul (l := r)]
theorem sum_flat {A : Type} {f : A → List Nat} : ∀ {l : List A}, (l.flatMap f).sum = (l.map fun a => (f a).sum).sum
  | [] => rfl
  | a :: r => by rw [List.flatMap_cons, List.sum_append, List.map_cons, List.sum_cons, sum_flat (l := r)]
theorem parts_sum : ∀ {n : Nat} {d : PyData}, docD n d → ndD n d → ((partsN n d).map fun r => cnt r.2).sum ≤ n * cnt d
  | 0, _, h, _ => h.elim
  | n + 1, d, h, g => by
    have h1 := kids_sum h g
    have h2 : (((kidsD d).flatMap fun q => (partsN n q.2).map fun r => (q.1 :: r.1, r.2)).map fun r => cnt r.2).sum ≤ n * ((kidsD d).map fun q => cnt q.2).sum := by
      rw [← sum_mul, List.map_flatMap, sum_flat]
      refine sum_le fun q hq => ?_
      rw [List.map_map]
      exact parts_sum (kid_step h hq).2 (kid_nd h g hq)
    show List.sum (cnt d :: _) ≤ _
    rw [List.sum_cons, Nat.succ_mul]
    have h3 : n * ((kidsD d).map fun q => cnt q.2).sum ≤ n * cnt d := Nat.mul_le_mul_left _ (by omega)
    omega
/-! ### slices of paths -/
theorem sl_tail {K : PySem.W.Frag} {H : Hp} {t : Addr} {s : Key} {r : List Key} {Q : VK} (ht : H t = some (.tup ((s :: r).map kV))) (q : ∀ t' H', Same H H' → H' t' = some (.tup (r.map kV)) → Q (.ref t') H') : rSlA K (.ref t) (some 1) none H Q := by
  have h1 : HT.sIx ((s :: r).map kV).length 0 (some 1) = 1 := by
    rw [show (1 : Int) = ((1 : Nat) : Int) from rfl, HT.sIx_nat]
    simp
  refine ⟨t, _, rfl, SqT.of ht, fun h => ?_, fun _ p np => ?_⟩
  · rw [h1] at h
    exact absurd h.1 (by decide)
  · refine q p _ (same_new np _) ?_
    rw [upd_same, show (1 : Int) = ((1 : Nat) : Int) from rfl, cut_drop _ _ (by simp)]
    rfl
theorem sl_take {K : PySem.W.Frag} {H : Hp} {t : Addr} {p : List Key} {m : Nat} {Q : VK} (ht : H t = some (.tup (p.map kV))) (q : ∀ t' H', Same H H' → H' t' = some (.tup ((p.take m).map kV)) → Q (.ref t') H') : rSlA K (.ref t) none (some (m : Int)) H Q := by
  refine ⟨t, _, rfl, SqT.of ht, fun h => ?_, fun h l nl => ?_⟩
  · refine q t H (Same.refl _) ?_
    have h2 := h.2
    rw [HT.sIx_nat] at h2
    simp at h2
    rw [List.take_of_length_le (by omega)]
    exact ht
  · refine q l _ (same_new nl _) ?_
    rw [upd_same]
    congr 2
    unfold cutV
    rw [HT.sIx_none, HT.sIx_nat]
    simp only [List.drop_zero, Nat.sub_zero, ← List.map_take]
    congr 1
    rw [List.take_eq_take_iff]
    simp
theorem docD.small : ∀ {n : Nat} {d : PyData}, docD n d → smallD n d
  | 0, _, h => h.elim
  | n + 1, .list ds, h => fun d hd => (h.2 d hd).small
  | n + 1, .dict es, h => ⟨Nat.le_trans h.1 (by decide), fun e he => ⟨fun x hx => by
      obtain ⟨⟨y, hy, hn⟩, _⟩ := h.2 e he
      rw [hy] at hx; cases hx
      exact ⟨Nat.le_trans hn.1 (by decide), hn.2⟩, (h.2 e he).2.small⟩⟩
  | n + 1, .none, _ => trivial
  | n + 1, .bool _, _ => trivial
  | n + 1, .int _, _ => trivial
  | n + 1, .str x, h => Nat.le_trans h.1 (by decide)
  | n + 1, .tuple _, h => h.elim
theorem fw_docD : ∀ {n : Nat} {d : PyData}, docD n d → fwN n d = none
  | 0, _, h => h.elim
  | n + 1, .list ds, h => fstR_none fun q hq => by
    simp only [rowsL, List.mem_map] at hq
    obtain ⟨p, hp, rfl⟩ := hq
    exact fw_docD (h.2 _ (List.fst_mem_of_mem_zipIdx hp))
  | n + 1, .dict es, h => by
    have ht : (es.all fun e => isTextD e.1) = true := by
      rw [List.all_eq_true]
      intro e he
      obtain ⟨⟨y, hy, hn⟩, _⟩ := h.2 e he
      rw [hy]; simp [isTextD, hn.1]
    rw [fwN, if_pos ht]
    refine fstR_none fun q hq => ?_
    simp only [rowsD, List.mem_map] at hq
    obtain ⟨x, _, rfl⟩ := hq
    cases hd : dget es x with
    | none => cases n <;> rfl
    | some d =>
      obtain ⟨e, he, rfl, _⟩ := dget_mem hd
      exact fw_docD (h.2 e he).2
  | n + 1, .none, _ => rfl
  | n + 1, .bool _, _ => rfl
  | n + 1, .int i, h => if_pos h
  | n + 1, .str x, h => if_pos h.1
  | n + 1, .tuple _, h => h.elim
end SC

set_option Elab.async false
set_option linter.all false
set_option maxRecDepth 100000
set_option maxHeartbeats 4000000
/-! Schemacheck: match statements over a text: written texts, several of them, and the rest. -/
namespace SC
open PySem L2 PySem.Calls PyProof.Rows
section
variable {X : Cx}
/-- a pattern that takes the texts p, and binds nothing -/
def PP (X : Cx) (pat : Pattern) (p : Str → Bool) : Prop := ∀ (pins : List (Addr × Obj)) (s : Shared) (σ : L2.St) (H : Hp) (x : Str) (u : Value) (Q : Option (List (Str × Value)) → Shared → Prop), Inv X pins σ H s → L2.RelV (.str x) u →
  (∀ s', Inv X pins σ H s' → Q (if p x = true then some [] else none) s') → wpAny (model X.prog X.w) X.A (matchPattern pat X.env u) Q X.xe s
theorem pp_val {z : Str} {j : Nat} {p1 p2 : Pos} : PP X (.MatchValue (.Constant (.str z) j p1) p2) (fun x => decide (x = z)) := by
  intro pins s σ H x u Q I r q
  refine wpAny_matchPattern_Value (thn ((pe_str (X := X) (x := z) (j := j) (pos := p1)).run pins s σ H (fun v H1 => v = .str z ∧ H1 = H) I ⟨rfl, rfl⟩) fun w s1 ⟨v, H1, I1, r1, ev, eH⟩ => ?_)
  subst ev
  rw [eH] at I1
  refine thn (op_eq pins s1 σ H (.str x) (.str z) u w (fun b H2 => b = .bl (decide (x = z)) ∧ H2 = H) I1 r r1 ⟨rfl, by congr 1; exact decide_eq_decide.mpr (by rw [V.str.injEq]), rfl⟩) fun b s2 ⟨v, H2, I2, rb, eb, eH2⟩ => ?_
  subst eb
  rw [eH2] at I2
  obtain rfl : b = Value.bool (decide (x = z)) := rb
  refine wpAny_truthy_bool ?_
  have h := q _ I2
  show (if decide (x = z) = true then Q (some []) s2 else Q none s2)
  by_cases hd : x = z
  · simp only [hd, decide_true, if_true] at h ⊢
    exact h
  · simp only [hd, decide_false, Bool.false_eq_true, if_false] at h ⊢
    exact h
theorem pp_any {p2 : Pos} : PP X (.MatchAs none none p2) (fun _ => true) := fun pins s σ H x u Q I r q => wpAny_matchPattern_Capture (q _ I)
/-- patterns one after the other -/
def PPs (X : Cx) (ps : List Pattern) (p : Str → Bool) : Prop := ∀ (pins : List (Addr × Obj)) (s : Shared) (σ : L2.St) (H : Hp) (x : Str) (u : Value) (Q : Option (List (Str × Value)) → Shared → Prop), Inv X pins σ H s → L2.RelV (.str x) u →
  (∀ s', Inv X pins σ H s' → Q (if p x = true then some [] else none) s') → wpAny (model X.prog X.w) X.A (matchFirst ps X.env u) Q X.xe s
theorem pps_nil : PPs X [] (fun _ => false) := fun pins s σ H x u Q I r q => wpAny_matchFirst_nil (q _ I)
theorem pps_cons {pat : Pattern} {ps : List Pattern} {p p' : Str → Bool} (h : PP X pat p) (h' : PPs X ps p') : PPs X (pat :: ps) (fun x => p x || p' x) := by
  intro pins s σ H x u Q I r q
  refine wpAny_matchFirst_cons (h pins s σ H x u _ I r fun s1 I1 => ?_)
  cases hp : p x with
  | true =>
    have := q s1 I1
    simp only [hp, Bool.true_or, if_true] at this ⊢
    exact this
  | false =>
    refine h' pins s1 σ H x u _ I1 r fun s2 I2 => ?_
    have := q s2 I2
    simp only [hp, Bool.false_or] at this
    exact this
theorem pp_or {ps : List Pattern} {p : Str → Bool} {p2 : Pos} (h : PPs X ps p) : PP X (.MatchOr ps p2) p := by
  intro pins s σ H x u Q I r q
  refine wpAny_matchPattern_Or (h pins s σ H x u _ I r fun s1 I1 => ?_)
  have := q s1 I1
  cases hp : p x with
  | true =>
    rw [hp] at this
    simp only [if_true] at this ⊢
    rw [show ((namesOfAll (ps.take 1)).filterMap fun n => (([] : List (Str × Value)).lookup n).map (n, ·)) = [] from by
      generalize namesOfAll (ps.take 1) = l
      induction l with
      | nil => rfl
      | cons a r ih => rw [List.filterMap_cons]; exact ih]
    exact this
  | false => rw [hp] at this; exact this
/-- the cases -/
def PM (X : Cx) (cs : List MatchCase) (tc : Str → TS) : Prop := ∀ (pins : List (Addr × Obj)) (s : Shared) (σ : L2.St) (H : Hp) (x : Str) (u : Value) (first : Bool) (D : Ends), Inv X pins σ H s → L2.RelV (.str x) u → tc x D σ H →
  wpAny (model X.prog X.w) X.A (matchCases cs X.env u first) (SP X pins D) X.xe s
theorem pm_nil : PM X [] (fun _ D σ H => D.nx σ H) := fun pins s σ H x u first D I r h => wpAny_matchCases_nil ⟨σ, H, I, h⟩
theorem pm_cons {pat : Pattern} {body : List Stmt} {cs : List MatchCase} {p : Str → Bool} {tb : TS} {tc : Str → TS} (hp : PP X pat p) (hb : PSs X body tb) (hc : PM X cs tc) : PM X (⟨pat, none, body⟩ :: cs) (fun x D σ H => if p x = true then tb D σ H else tc x D σ H) := by
  intro pins s σ H x u first D I r h
  refine wpAny_matchCases_cons (hp pins s σ H x u _ I r fun s1 I1 => ?_)
  cases hq : p x with
  | true =>
    rw [hq] at h
    exact wpAny_pure (hb.run pins s1 σ H D I1 h)
  | false =>
    rw [hq] at h
    exact hc pins s1 σ H x u false D I1 r h
def tMatch (te : TE) (tc : Str → TS) : TS := fun D σ H => te σ H fun v H1 => ∃ x, v = .str x ∧ tc x D σ H1
theorem ps_match {e : Expr} {te : TE} {cs : List MatchCase} {tc : Str → TS} {pos : Pos} (he : PE X e te) (hc : PM X cs tc) : PS X (.Match e cs pos) (tMatch te tc) := by
  refine ⟨fun pins s σ H D I h => ?_⟩
  refine wpAny_Match (thn (he.run pins s σ H _ I h) fun u s1 ⟨v, H1, I1, r, x, ev, q⟩ => ?_)
  subst ev
  exact hc pins s1 σ H1 x u true D I1 r q
end
end SC

set_option Elab.async false
set_option linter.all false
set_option maxRecDepth 100000
set_option maxHeartbeats 4000000
/-! Schemacheck: module constants that are tuples of pairs of texts (TABLE). -/
namespace SC
open PySem L2 PySem.Calls PyProof.Rows
def itsOf (K : PySem.W.Frag) (a : Addr) : Option (List Value) := (K.lookup a).bind fun o => if (o.cls == Value.type "tuple") = true then (match o.data with | .seq its _ => if its.size ≤ 1000 then some its.toList else none | _ => none) else none
def rowB (K : PySem.W.Frag) (a : Addr) (r : Str × Str) : Bool := match itsOf K a with
  | some [.str x _, .str y _] => decide (x = r.1) && decide (y = r.2)
  | _ => false
def rowsB (K : PySem.W.Frag) : List Value → List (Str × Str) → Bool
  | [], [] => true
  | .ref a :: l, r :: rs => rowB K a r && rowsB K l rs
  | _, _ => false
def tabB (K : PySem.W.Frag) (ta : Addr) (rows : List (Str × Str)) : Bool := match itsOf K ta with
  | some l => rowsB K l rows
  | none => false
theorem sq_of {K : PySem.W.Frag} {a : Addr} {l : List Value} {xs : List V} (h : itsOf K a = some l) (r : Vals xs l) (H : Hp) : SqT K H a xs := by
  unfold itsOf at h
  cases hk : K.lookup a with
  | none => rw [hk] at h; cases h
  | some o =>
    rw [hk, Option.bind_some] at h
    split at h
    · rename_i hc
      cases hd : o.data with
      | seq its n =>
        rw [hd] at h
        simp only at h
        split at h
        · rename_i hz
          cases h
          exact .inr ⟨o, its, n, hk, beq_iff_eq.mp hc, hd, Nat.le_trans hz (by rw [sizeLine_eq]; omega), r⟩
        · cases h
      | _ => rw [hd] at h; cases h
    · cases h
theorem row_ok {K : PySem.W.Frag} {a : Addr} {r : Str × Str} (h : rowB K a r = true) (H : Hp) : SqT K H a [.str r.1, .str r.2] := by
  unfold rowB at h
  split at h
  · rename_i x t y u he
    simp only [Bool.and_eq_true, decide_eq_true_eq] at h
    rw [← h.1, ← h.2]
    exact sq_of (xs := [.str x, .str y]) he (.cons ⟨_, rfl⟩ (.cons ⟨_, rfl⟩ .nil)) H
  · cases h
theorem rows_ok {K : PySem.W.Frag} : ∀ {l : List Value} {rows : List (Str × Str)}, rowsB K l rows = true → ∃ as : List Addr, Vals (as.map V.ref) l ∧ Paired (fun a r => ∀ H : Hp, SqT K H a [.str r.1, .str r.2]) as rows
  | [], [], _ => ⟨[], .nil, .nil⟩
  | .ref a :: l, r :: rs, h => by
    simp only [rowsB, Bool.and_eq_true] at h
    obtain ⟨as, h1, h2⟩ := rows_ok h.2
    exact ⟨a :: as, .cons rfl h1, .cons (row_ok h.1) h2⟩
  | [], _ :: _, h => by cases h
  | .ref _ :: _, [], h => by cases h
  | .none :: _, _, h => by cases ‹List (Str × Str)› <;> cases h
  | .ellipsis :: _, _, h => by cases ‹List (Str × Str)› <;> cases h
  | .notImplemented :: _, _, h => by cases ‹List (Str × Str)› <;> cases h
  | .bool _ :: _, _, h => by cases ‹List (Str × Str)› <;> cases h
  | .int _ _ :: _, _, h => by cases ‹List (Str × Str)› <;> cases h
  | .float _ _ :: _, _, h => by cases ‹List (Str × Str)› <;> cases h
  | .str _ _ :: _, _, h => by cases ‹List (Str × Str)› <;> cases h
  | .bytes _ _ :: _, _, h => by cases ‹List (Str × Str)› <;> cases h
  | .type _ :: _, _, h => by cases ‹List (Str × Str)› <;> cases h
  | .builtin _ :: _, _, h => by cases ‹List (Str × Str)› <;> cases h
/-- a constant that is a tuple of pairs of texts, read -/
theorem tab_ok {K : PySem.W.Frag} {ta : Addr} {rows : List (Str × Str)} (h : tabB K ta rows = true) : ∃ as : List Addr, (∀ H : Hp, SqT K H ta (as.map V.ref)) ∧ Paired (fun a r => ∀ H : Hp, SqT K H a [.str r.1, .str r.2]) as rows := by
  unfold tabB at h
  cases he : itsOf K ta with
  | none => rw [he] at h; cases h
  | some l =>
    rw [he] at h
    obtain ⟨as, h1, h2⟩ := rows_ok h
    exact ⟨as, fun H => sq_of he h1 H, h2⟩
end SC

set_option Elab.async false
set_option linter.all false
set_option maxRecDepth 100000
set_option maxHeartbeats 4000000
/-! Schemacheck: len(set(x)) of a list of texts, or of a text. -/
namespace SC
open PySem L2 PySem.Calls PyProof.Rows
/-- the texts met, each once -/
def met (xs : List Str) : List Str := xs.foldl (fun a x => if x ∈ a then a else x :: a) []
theorem met_snoc (xs : List Str) (x : Str) : met (xs ++ [x]) = if x ∈ met xs then met xs else x :: met xs := by
  unfold met
  rw [List.foldl_append]
  rfl
theorem met_le (xs : List Str) : (met xs).length ≤ xs.length := by
  have : ∀ (l a : List Str), (l.foldl (fun a x => if x ∈ a then a else x :: a) a).length ≤ a.length + l.length := by
    intro l
    induction l with
    | nil => intro a; simp
    | cons y r ih =>
      intro a
      simp only [List.foldl_cons, List.length_cons]
      refine Nat.le_trans (ih _) ?_
      split <;> simp <;> omega
  have := this xs []
  simpa [met] using this
theorem met_mem (xs : List Str) (y : Str) : y ∈ met xs ↔ y ∈ xs := by
  have : ∀ (l a : List Str), y ∈ l.foldl (fun a x => if x ∈ a then a else x :: a) a ↔ y ∈ a ∨ y ∈ l := by
    intro l
    induction l with
    | nil => intro a; simp
    | cons z r ih =>
      intro a
      simp only [List.foldl_cons]
      rw [ih]
      split
      · rename_i h
        constructor
        · rintro (h1 | h1)
          · exact .inl h1
          · exact .inr (List.mem_cons_of_mem _ h1)
        · rintro (h1 | h1)
          · exact .inl h1
          · rcases List.mem_cons.mp h1 with rfl | h1
            · exact .inl h
            · exact .inr h1
      · simp only [List.mem_cons]
        constructor
        · rintro ((h1 | h1) | h1)
          · exact .inr (.inl h1)
          · exact .inl h1
          · exact .inr (.inr h1)
        · rintro (h1 | h1 | h1)
          · exact .inl (.inr h1)
          · exact .inl (.inl h1)
          · exact .inr h1
  have := this xs []
  simpa [met] using this
/-- how many differ: as many as there are exactly if none comes twice -/
theorem met_nd (xs : List Str) : (met xs).length = xs.length ↔ xs.Nodup := by
  have : ∀ (l a : List Str), (∀ x ∈ l, x ∉ a) → ((l.foldl (fun a x => if x ∈ a then a else x :: a) a).length = a.length + l.length ↔ l.Nodup) ∧ (l.foldl (fun a x => if x ∈ a then a else x :: a) a).length ≤ a.length + l.length := by
    intro l
    induction l with
    | nil => intro a _; simp
    | cons y r ih =>
      intro a ha
      simp only [List.foldl_cons, List.length_cons]
      rw [if_neg (ha y (by simp))]
      by_cases hy : y ∈ r
      · have lt : ∀ (q b : List Str), y ∈ q → y ∈ b → (q.foldl (fun a x => if x ∈ a then a else x :: a) b).length < b.length + q.length := by
          intro q
          have le : ∀ (q b : List Str), (q.foldl (fun a x => if x ∈ a then a else x :: a) b).length ≤ b.length + q.length := by
            intro q
            induction q with
            | nil => intro b; simp
            | cons z t ih2 =>
              intro b
              simp only [List.foldl_cons, List.length_cons]
              refine Nat.le_trans (ih2 _) ?_
              split <;> simp <;> omega
          induction q with
          | nil => intro b h; cases h
          | cons z t ih2 =>
            intro b h1 h2
            simp only [List.foldl_cons, List.length_cons]
            by_cases hz : y = z
            · subst hz
              rw [if_pos h2]
              have := le t b
              omega
            · have h3 : y ∈ t := by rcases List.mem_cons.mp h1 with h | h; exact absurd h hz; exact h
              split
              · have := ih2 b h3 h2; omega
              · have := ih2 (z :: b) h3 (List.mem_cons_of_mem _ h2)
                simp only [List.length_cons] at this
                omega
        have := lt r (y :: a) hy (by simp)
        simp only [List.length_cons] at this
        refine ⟨⟨fun h => by omega, fun h => absurd hy (List.nodup_cons.mp h).1⟩, by omega⟩
      · have := ih (y :: a) fun x hx => by
          intro h
          rcases List.mem_cons.mp h with rfl | h
          · exact hy hx
          · exact ha x (by simp [hx]) h
        simp only [List.length_cons] at this
        refine ⟨⟨fun h => List.nodup_cons.mpr ⟨hy, this.1.mp (by omega)⟩, fun h => ?_⟩, by omega⟩
        have := this.1.mpr (List.nodup_cons.mp h).2
        omega
  have := (this xs [] (by simp)).1
  simpa [met] using this

section
variable {P : Program} {w : World} {A : Around} {R : Result → Shared → Prop} {I S : Addr} {fp wr : List Addr} {G : Array GenState → Array GenState → Prop} {n : Nat} {Pv : Nat → Value → Prop} {St : Nat → Shared → Prop}
abbrev Holds (P : Program) (w : World) (h : Heap) (S : Addr) (xs : List Str) : Prop := h.SetOf (PySem.strKind P w) S (fun y => decide (y ∈ met xs)) (met xs).length
theorem Holds.keep {h h' : Heap} {xs : List Str} (H : Holds P w h S xs) (k : ∀ o, h.get? S = some o → h'.get? S = some o) : Holds P w h' S xs := by
  obtain ⟨o, es, ep, tb, ho, q⟩ := H
  exact ⟨o, es, ep, tb, k o ho, q⟩
theorem set_fill (W : WalksS P w A.in1 I fp wr G n Pv St) (nS : S ∉ fp) (xs : List Str) (en : n = xs.length) (hv : ∀ i v, Pv i v → ∃ t, v = .str (xs.getD i Str.empty) t) (hb : xs.length + 1 < scanBound) :
    ∀ (k i : Nat) (s : Shared), i + k = n → St i s → Holds P w s.heap S (xs.take i) → (∀ s', Moved (S :: wr) G s s' → Holds P w s'.heap S xs → R (.ok (.ret .none)) s') → codeAny (model P w) A (.builtin "set.update.loop" ⟨[.ref S, .ref I], []⟩) R s := by
  have nW : S ∉ wr := fun h => nS (W.sub _ h)
  have more : ∀ b ∈ wr, b ∈ S :: wr := fun b h => List.mem_cons_of_mem _ h
  intro k
  induction k with
  | zero =>
    intro i s hk st hS hR
    refine codeAny_builtin PyProof.Rows.F.entry_set_update_loop ?_
    rw [Around.under_plainId PyProof.Rows.F.plain_set_update_loop _]
    have : i = n := by omega
    subst this
    refine wpAny_bind (W.done s _ _ st fun s' hm => wpAny_pure (hR s' (hm.mono more) ?_))
    rw [en, List.take_length] at hS
    exact hS.keep fun o e => hm.heap S o nW e
  | succ k ih =>
    intro i s hk st hS hR
    refine codeAny_builtin PyProof.Rows.F.entry_set_update_loop ?_
    rw [Around.under_plainId PyProof.Rows.F.plain_set_update_loop _]
    refine wpAny_bind (W.item i s _ _ (by omega) st fun v s' hP st' hm => ?_)
    obtain ⟨t, ev⟩ := hv i v hP
    have hx : xs[i]? = some (xs.getD i Str.empty) := by
      rw [List.getD_eq_getElem?_getD]
      rw [List.getElem?_eq_getElem (by omega)]
      rfl
    generalize xs.getD i Str.empty = x at ev hx
    subst ev
    have hS' : Holds P w s'.heap S (xs.take i) := hS.keep fun o e => hm.heap S o nW e
    have key : (PySem.strKind P w).is x (.str x t) = true := PySem.strKind_is P w x t
    refine wpAny_bind (wpAny_holding (wpAny_holding (wpAny_bind ((PySem.strKind P w).pyHash key ?_))))
    have hl := met_le (xs.take i)
    rw [List.length_take] at hl
    refine wpAny_setAddHashed_of (s := { s' with toks := s'.toks + 1 }) key rfl hS' (by omega) fun h2 sb hS2 => ?_
    have nxt : xs.take (i + 1) = xs.take i ++ [x] := by rw [List.take_succ, hx]; rfl
    have hS3 : Holds P w h2 S (xs.take (i + 1)) := by
      refine PyProof.Rows.SetOf_congr hS2 (fun y => ?_) ?_
      · rw [nxt, Bool.eq_iff_iff, Bool.or_eq_true, decide_eq_true_eq, decide_eq_true_eq, decide_eq_true_eq, met_mem, met_mem, List.mem_append, List.mem_singleton]
      · rw [nxt, met_snoc]
        by_cases hm2 : x ∈ met (xs.take i)
        · rw [if_pos (decide_eq_true hm2), if_pos hm2]
        · rw [if_neg (by simpa using hm2), if_neg hm2]; rfl
    refine wpAny_pure ⟨plainId_quiet PyProof.Rows.F.plain_set_update_loop _, ih (i + 1) _ (by omega) (W.frame _ s' _ _ st' (Nat.le_succ _) fun b hb o e => ?_) hS3 fun s3 m3 hS4 => hR s3 (Moved.trans W.gtrans ((hm.mono more).then_heap (Nat.le_succ _) fun b o hb e => ?_) m3) hS4⟩
    · exact (sb.2 b fun z => nS (z ▸ hb)).trans e
    · exact (sb.2 b fun z => hb (by rw [z]; simp)).trans e
end

/-! ### the set itself -/
def signsOf (x : Str) : List Str := x.cps.toList.map fun c => ⟨#[c]⟩
abbrev bare (led : Bool) : Obj := { cls := .type "set", dict := none, data := .set #[] 0 (.fresh 0 0 led) }
theorem no_set_str : isSubtype (.type "str") (.type "set") = pure false := by rw [isSubtype_type]; kernel_rfl
theorem no_fset_str : isSubtype (.type "str") (.type "frozenset") = pure false := by rw [isSubtype_type]; kernel_rfl
/-- where the texts come from: a list, or a text's signs -/
inductive Src (h : Heap) : Value → List Str → Prop where
  | lst {l : Addr} {items : Array Value} {xs : List Str} (hl : h.IsList l items) (n : items.size = xs.length) (hv : ∀ (i : Nat) u, items[i]? = some u → ∃ t, u = .str (xs.getD i Str.empty) t) : Src h (.ref l) xs
  | str (x : Str) (t : Tok) : Src h (.str x t) (signsOf x)
section
variable {P : Program} {w : World} {A : Around} {E : Value → Shared → Prop} {s : Shared}
theorem empty_holds {h : Heap} {S : Addr} {led : Bool} (e : h.get? S = some (bare led)) : Holds P w h S ([] : List Str) :=
  PyProof.Rows.SetOf_congr ((PyProof.Rows.setObjOf_fresh (knd := PySem.strKind P w) led).setOf e (by unfold scanBound; omega)) (fun _ => rfl) rfl
set_option maxHeartbeats 8000000 in
theorem set_of {v : Value} {xs : List Str} {Q : Value → Shared → Prop} (hh : A.handled = none) (hv : Src s.heap v xs) (hb : xs.length + 1 < scanBound)
    (h : ∀ (h' : Heap) (tk : Nat), Holds P w h' s.heap.objs.size xs → (∀ b o, b < s.heap.objs.size → s.heap.get? b = some o → h'.get? b = some o) → Q (.ref s.heap.objs.size) { s with heap := h', toks := tk }) :
    wpAny (model P w) A (call (.type "set") [v]) Q E s := by
  obtain ⟨c, tl, hmro⟩ := PySem.F.called_set.mro
  have g1 := PySem.F.called_set.made
  have g2 := PySem.F.called_set.sub
  have g3 := PySem.F.called_set.notType
  have g4 := PySem.F.called_set.canCreate
  have g5 := PySem.F.typeCall_set_1 v
  refine wpAny_call (codeAny_of_tree ?_)
  refine wpAny_pure ⟨Code.quiet_builtin _ (by decide +kernel), codeAny_builtin PySem.F.entry_type_call ?_⟩
  rw [Around.under_plain (weight_type_call_type "set" [v] []) rfl]
  repeat (any_goals (first | assumption | wp_step))
  have born : ∀ led : Bool, (s.heap.push (bare led)).get? s.heap.objs.size = some (bare led) := fun led => Heap.get?_push_size _ rfl
  refine codeAny_mono (code_set_new_1 v (E := E) (Q₁ := fun o s₁ => ∃ led : Bool, o = .ref s.heap.objs.size ∧ s₁ = { s with heap := s.heap.push (bare led) }) fun led => ⟨led, rfl, rfl⟩) fun r s₁ hr => ?_
  cases r with
  | error e => exact hr
  | ok fl =>
  cases fl with
  | ret o =>
    obtain ⟨led, rfl, rfl⟩ := hr
    have hS := born led
    have g6 : Shared.TypeIs { s with heap := s.heap.push (bare led) } (.ref s.heap.objs.size) "set" := ⟨_, hS, rfl⟩
    have g7 := PySem.F.called_set.init.lookup
    have g8 := PySem.F.called_set.init.bind (.ref s.heap.objs.size)
    repeat (any_goals (first | assumption | wp_step))
    refine codeAny_mono (codeAny_call_builtin (R := wants (fun r s₂ => r = .none ∧ ∃ h' tk, s₂ = { s with heap := h', toks := tk } ∧ Holds P w h' s.heap.objs.size xs ∧ ∀ b o, b < s.heap.objs.size → s.heap.get? b = some o → h'.get? b = some o) E) PySem.F.called_set.init.plain PySem.F.entry_set_init (check_set_init_1 g6 ?_)) fun r₂ s₂ hr₂ => ?_
    · have hh3 : A.in1.in1.in1.handled = none := by simp [hh]
      have last : ∀ (wr : List Addr) (G : Array GenState → Array GenState → Prop) (s0 s' : Shared) (hm : Moved (s.heap.objs.size :: wr) G s0 s') (e1 : s'.gens = s.gens) (e2 : s'.drawn = s.drawn) (e3 : s'.os = s.os) (hS' : Holds P w s'.heap s.heap.objs.size xs) (k : ∀ b o, b < s.heap.objs.size → s.heap.get? b = some o → s'.heap.get? b = some o),
          ∃ h' tk, s' = { s with heap := h', toks := tk } ∧ Holds P w h' s.heap.objs.size xs ∧ ∀ b o, b < s.heap.objs.size → s.heap.get? b = some o → h'.get? b = some o := by
        intro wr G s0 s' hm e1 e2 e3 hS' k
        obtain ⟨h', g', d', tk', os'⟩ := s'
        simp only at e1 e2 e3
        subst e1; subst e2; subst e3
        exact ⟨h', tk', rfl, hS', k⟩
      cases hv with
      | lst hl n hv =>
        rename_i l items
        obtain ⟨⟨cl, dd, dt, sl⟩, ho, hc, k, hd⟩ := hl
        simp only at hc hd
        subst hc; subst hd
        have ho' := Heap.get?_push_of_some (bare led) ho
        have k1 := PySem.F.sub_list_set
        have k2 := PySem.F.sub_list_frozenset
        have k3 : (Value.type "list" == Value.type "dict") = false := by decide
        have hl1 : (s.heap.push (bare led)).IsList l items := ⟨_, ho', rfl, k, rfl⟩
        unfold Builtin.«set.__init__» noKeywords Builtin.Frozenset.updateFrom
        generalize hPI : pyIter = PI
        wp_walk
        subst hPI
        refine wpAny_pyIter_list hl1 (wpAny_bind (wpAny_runValue ?_))
        have lt : l < s.heap.objs.size := Heap.lt_size ho
        have sz : (s.heap.push (bare led)).objs.size = s.heap.objs.size + 1 := Heap.size_push ..
        refine set_fill (I := (s.heap.push (bare led)).objs.size) ((Walks.list hh3 _ l (by rw [sz]; exact Nat.ne_of_lt (Nat.lt_succ_of_lt lt)) items).toS) (by rw [sz]; simp only [List.mem_cons, List.not_mem_nil, or_false, not_or]; exact ⟨Nat.ne_of_lt (Nat.lt_succ_self _), Nat.ne_of_gt lt⟩) xs n hv hb _ 0 _ (Nat.zero_add _) ⟨⟨_, Heap.get?_push_size _ rfl, rfl, rfl⟩, hl1.push _⟩ (empty_holds (led := led) (Heap.get?_push_of_some _ hS)) fun s' hm hS' => ?_
        refine wpAny_pure (wpAny_pure ⟨rfl, last _ _ _ _ hm hm.gens hm.drawn hm.os hS' fun b o hb2 e => ?_⟩)
        exact hm.heap b o (by simp only [sz, List.mem_cons, List.not_mem_nil, or_false, not_or]; exact ⟨Nat.ne_of_lt hb2, Nat.ne_of_lt (Nat.lt_succ_of_lt hb2)⟩) (Heap.get?_push_of_some _ (Heap.get?_push_of_some _ e))
      | str x t =>
        have k1 := no_set_str
        have k2 := no_fset_str
        have k3 : (Value.type "str" == Value.type "dict") = false := by decide
        unfold Builtin.«set.__init__» noKeywords Builtin.Frozenset.updateFrom
        generalize hPI : pyIter = PI
        wp_walk
        subst hPI
        refine wpAny_pyIter_str fun o St W st0 => ?_
        refine wpAny_bind (wpAny_runValue ?_)
        have sz : (s.heap.push (bare led)).objs.size = s.heap.objs.size + 1 := Heap.size_push ..
        refine set_fill ((W _ hh3).toS) (by rw [sz]; simp) (signsOf x) (by simp [signsOf]) (fun i v ⟨c, u, hc, ev⟩ => ⟨u, ?_⟩) hb _ 0 _ (Nat.zero_add _) st0 (empty_holds (led := led) (Heap.get?_push_of_some _ hS)) fun s' hm hS' => ?_
        · rw [ev]
          congr 1
          rw [List.getD_eq_getElem?_getD]
          unfold signsOf
          rw [List.getElem?_map, Array.getElem?_toList, hc]
          rfl
        refine wpAny_pure (wpAny_pure ⟨rfl, last _ _ _ _ hm hm.gens hm.drawn hm.os hS' fun b o hb2 e => ?_⟩)
        exact hm.heap b o (by simp only [sz, List.mem_cons, List.not_mem_nil, or_false, not_or]; exact ⟨Nat.ne_of_lt hb2, Nat.ne_of_lt (Nat.lt_succ_of_lt hb2)⟩) (Heap.get?_push_of_some _ (Heap.get?_push_of_some _ e))
    · cases r₂ with
      | error e => exact hr₂
      | ok fl =>
      cases fl with
      | ret r =>
        obtain ⟨rfl, h', tk, rfl, hS', k⟩ := hr₂
        repeat (any_goals (first | assumption | wp_step))
        exact h _ _ hS' k
      | _ => exact hr₂.elim
  | _ => exact hr.elim
end
section
variable {X : Cx} {K : PySem.W.Frag}
/-- len(set(x)) -/
def tLenSetS (K : PySem.W.Frag) (ta : TE) : TE := fun σ H Q => ta σ H fun x H1 => ((∃ l xs, x = .ref l ∧ SqL K H1 l (xs.map V.str) ∧ xs.length ≤ 1000 ∧ Q (.int (met xs).length) H1) ∨ ∃ z, x = .str z ∧ z.length ≤ 1000 ∧ Q (.int (met (signsOf z)).length) H1)
theorem pe_lenSetK {a : Expr} {ta : TE} {p p2 q pos : Pos} (hK : X.K = K) (hc : X.calm = true) (hg : Gl X "len") (hm : X.mg "len" = none) (hg2 : Gl X "set") (hm2 : X.mg "set" = none) (ha : PE X a ta)
    (na : starEach [a] X.env = (false, eval a X.env) :: starEach [] X.env := by rfl) : PE X (.Call (.Name "len" p) [.Call (.Name "set" p2) [a] [] q] [] pos) (tLenSetS K ta) := by
  subst hK
  constructor
  intro pins s σ H Q I h
  refine Call_ (ld_blt I hg hm boot_len (PyProof.Rows.callWith_builtin1 (PyProof.Rows.args_cons (Call_ (ld_blt I hg2 hm2 boot_set (PyProof.Rows.callWith_type1 (PyProof.Rows.args_cons (thn (ha.run pins s σ H _ I h) ?_) na) na rfl))) rfl) rfl rfl))
  rintro v s1 ⟨x, H1, I1, r1, q1⟩
  refine PyProof.Rows.args_nil ?_
  have fin : ∀ (xs : List Str) (u : Value), RelV x u → Src s1.heap u xs → xs.length ≤ 1000 → Q (.int (met xs).length) H1 → wpAny (model X.prog X.w) X.A (call (.type "set") [u]) (fun o s₂ => wpAny (model X.prog X.w) X.A (spliced (backTo pos (starEach [] X.env))) (fun vs s₃ => wpAny (model X.prog X.w) X.A (call (.builtin "len") (o :: vs)) (EP X pins σ Q) X.xe s₃) X.xe s₂) X.xe s1 := by
    intro xs u _ hs hl hq
    refine set_of (I1.ok.hd hc) hs (by unfold scanBound; omega) fun h' tk hS k => PyProof.Rows.args_nil ?_
    obtain ⟨o, es, ep, t, ho, hex, hd, _, _, _, hf, hn⟩ := hS
    have I2 : Inv X pins σ H1 { s1 with heap := h', toks := tk } := I1.kept fun b o e => k b o (Heap.lt_size e) e
    have := met_le xs
    exact call_len_set ho hex hd hf (by rw [hn]; omega) ⟨.int (met xs).length, H1, I2.tok _, ⟨_, by rw [hn]⟩, hq⟩
  rcases q1 with ⟨l, xs, rfl, hq, hl, q1⟩ | ⟨z, rfl, hl, q1⟩
  · obtain ⟨its, r, pl, hz⟩ := I1.list hq
    cases r1
    have ln : its.length = xs.length := by rw [← r.length, List.length_map]
    refine fin xs _ rfl (.lst pl.isList (by rw [List.size_toArray, ln]) fun i u hu => ?_) hl q1
    have hi : i < its.length := by
      have := (Array.getElem?_eq_some_iff.mp hu).1
      simpa using this
    have hx : (xs.map V.str)[i]? = some (.str (xs.getD i Str.empty)) := by
      rw [List.getElem?_map, List.getD_eq_getElem?_getD, List.getElem?_eq_getElem (by omega)]
      rfl
    obtain ⟨u', hu', t, rfl⟩ := r.get hx
    rw [List.getElem?_toArray, hu'] at hu
    cases hu
    exact ⟨t, rfl⟩
  · obtain ⟨t, rfl⟩ := r1
    refine fin (signsOf z) _ ⟨t, rfl⟩ (.str z t) ?_ q1
    have : (signsOf z).length = z.length := by simp [signsOf, Str.length]
    omega
end
end SC

set_option Elab.async false
set_option linter.all false
set_option maxRecDepth 100000
set_option maxHeartbeats 4000000
/-! Schemacheck: a dict's keys that pass a test. -/
namespace SC
open PySem L2 PySem.Calls PyProof.Rows
/-- [k for k in d if ..], d not locked -/
theorem lcU_keysF {a : Addr} {kvs : List (Key × V)} {tt : TT} {i j : Nat} {σ : L2.St} {H : Hp} {Q : VK} (ha : H a = some (.dK kvs)) (hi : σ[i]? = some (some (.ref a))) (hj : j < σ.length) (p : Key → Bool) (hz : kvs.length ≤ 100000)
    (step : ∀ k v H' (N : Bool → Hp → Prop), (k, v) ∈ kvs → LSame H H' → Rd H' a (.dK kvs) → (∀ H4, Same H' H4 → N (p k) H4) → tt ((wipe σ [j]).set j (some (kV k))) H' N)
    (done : ∀ D H', H D = none → Same H H' → H' D = some (.lst (((kvs.map (·.1)).filter p).map kV)) → Q (.ref D) H') : tLockE (tLc (iKeys (tVar i)) (gName j) tt (tVar j) [j]) σ H Q := by
  refine ⟨a, .dK kvs, ha, trivial, fun od => ?_⟩
  have e1 : upd H a (.frz od (.dK kvs)) a = some (.frz od (.dK kvs)) := upd_same
  have ls : LSame H (upd H a (.frz od (.dK kvs))) := fun b o e => by
    by_cases hb : b = a
    · subst hb
      rw [ha] at e
      cases e
      exact .inr ⟨kvs, od, rfl, upd_same⟩
    · exact .inl (by rw [upd_ne hb]; exact e)
  rw [tLc_eq]
  refine ⟨_, hi, a, od, rfl, .inl ⟨kvs, e1, ?_⟩⟩
  refine lc_itR walk_keys (fun D i H' => Same (upd H a (.frz od (.dK kvs))) H' ∧ H' D = some (.lst ((((kvs.map (·.1)).take i).filter p).map kV))) (fun D hD => ⟨same_new hD _, by rw [upd_same]; rfl⟩) (fun _ _ _ _ _ h => h.1 _ _ e1) ?_ ?_
  · rintro D i x H1 H' hD hi' ⟨s, e⟩ ⟨rfl, k, v, hk, rfl⟩
    refine ⟨wipe1, step k v _ _ (List.mem_of_getElem? hk) (ls.trans (.of s)) (.inr ⟨od, s _ _ e1⟩) fun H4 s4 => ?_⟩
    have hk' : (kvs.map (·.1))[i]? = some k := by rw [List.getElem?_map, hk]; rfl
    have ht : (kvs.map (·.1)).take (i + 1) = (kvs.map (·.1)).take i ++ [k] := by rw [List.take_succ, hk']; rfl
    rw [ht, List.filter_append]
    split
    · rename_i hp
      refine ⟨kV k, ?_, _, s4 _ _ e, ?_, same_mut (s.trans s4) hD, ?_⟩
      · show (((σ.set j none).set j (some _)))[j]? = _
        rw [List.getElem?_set_self (by rw [List.length_set]; exact hj)]
      · rw [List.length_map]
        refine sz5l (Nat.lt_of_le_of_lt (List.length_filter_le _ _) ?_)
        rw [List.length_take]
        omega
      · rw [upd_same, List.filter_cons_of_pos hp]
        simp
    · rename_i hp
      refine ⟨s.trans s4, ?_⟩
      rw [List.filter_cons_of_neg (by simpa using hp)]
      simpa using s4 _ _ e
  · rintro D H' nD ⟨s, e⟩
    rw [List.take_of_length_le (by simp)] at e
    have hDa : D ≠ a := fun z => by rw [z, upd_same] at nD; cases nD
    have nD' : H D = none := by rw [upd_ne hDa] at nD; exact nD
    exact ⟨s _ _ e1, done D _ nD' (same_lock ha s) (by rw [upd_ne hDa]; exact e)⟩
end SC

set_option Elab.async false
set_option linter.all false
set_option maxRecDepth 100000
set_option maxHeartbeats 4000000
/-! Schemacheck: displays: what an expression of literals makes, as a datum. -/
namespace SC
open PySem L2 PySem.Calls PyProof.Rows
/-- all that H0 knows is known in H -/
def Dom (H0 H : Hp) : Prop := ∀ a, H0 a ≠ none → H a ≠ none
theorem Dom.refl (H : Hp) : Dom H H := fun _ h => h
theorem Dom.same {H0 H H' : Hp} (d : Dom H0 H) (s : Same H H') : Dom H0 H' := fun a h => by
  cases e : H a with
  | none => exact absurd e (d a h)
  | some o => rw [s _ _ e]; simp
theorem Dom.free {H0 H : Hp} {a : Addr} (d : Dom H0 H) (h : H a = none) : H0 a = none := by
  cases e : H0 a with
  | none => rfl
  | some o => exact absurd h (d a (by rw [e]; simp))
/-- what G knows, H0 does not -/
def Apart (G H0 : Hp) : Prop := ∀ a, G a ≠ none → H0 a = none
theorem news_at0 {H H' : Hp} {a : Addr} (h : H a = none) : news H H' a = H' a := news_at h
theorem news_grow {H0 H H' : Hp} (s : Same H H') : Same (news H0 H) (news H0 H') := fun a o e => by
  cases h : H0 a with
  | none => rw [news_at h] at e ⊢; exact s _ _ e
  | some u => rw [news_no h] at e; cases e
theorem news_put {H0 H : Hp} {p : Addr} {o : HO} (h0 : H0 p = none) (h : H p = none) : Same (news H0 H) (news H0 (upd H p o)) := news_grow (same_new h o)
theorem news_here {H0 H : Hp} {p : Addr} {o : HO} (h0 : H0 p = none) (h : H p = some o) : news H0 H p = some o := by rw [news_at h0]; exact h
theorem same_apart {G H0 H : Hp} (s : Same G H) (a : Apart G H0) : Same G (news H0 H) := fun b o e => by
  rw [news_at (a b (by rw [e]; simp))]
  exact s _ _ e
/-- the expression t makes the datum d, at most n deep, of what is new since H0 and of G -/
def Mk (G : Hp) (σ : L2.St) (t : TE) (n : Nat) (d : PyData) : Prop := ∀ (H0 H : Hp) (Q : VK), Dom H0 H → Apart G H0 → Same G H → (∀ v H', Same H H' → Re (news H0 H') n v d → Q v H') → t σ H Q
def MkA (G : Hp) (σ : L2.St) (t : TA) (n : Nat) (ds : List PyData) : Prop := ∀ (H0 H : Hp) (Q : List V → Hp → Prop), Dom H0 H → Apart G H0 → Same G H → (∀ vs H', Same H H' → Paired (Re (news H0 H') n) vs ds → Q vs H') → t σ H Q
section
variable {G : Hp} {σ : L2.St} {n : Nat}
theorem mk_str (x : Str) : Mk G σ (tC (.str x)) (n + 1) (.str x) := fun H0 H Q _ _ _ q => q _ _ (Same.refl _) rfl
theorem mk_int (i : Int) : Mk G σ (tC (.int i)) (n + 1) (.int i) := fun H0 H Q _ _ _ q => q _ _ (Same.refl _) rfl
theorem mk_bl (b : Bool) : Mk G σ (tC (.bl b)) (n + 1) (.bool b) := fun H0 H Q _ _ _ q => q _ _ (Same.refl _) rfl
theorem mk_non : Mk G σ (tC .non) (n + 1) .none := fun H0 H Q _ _ _ q => q _ _ (Same.refl _) rfl
/-- a name whose value is known -/
theorem mk_var (i : Nat) {v : V} {d : PyData} (h : σ[i]? = some (some v)) (r : Re G n v d) : Mk G σ (tVar i) n d := fun H0 H Q _ a s q => ⟨v, h, q _ _ (Same.refl _) (r.imp (same_apart s a))⟩
theorem mk_up {t : TE} {d : PyData} (h : Mk G σ t n d) {m : Nat} (l : n ≤ m) : Mk G σ t m d := fun H0 H Q d' a s q => h H0 H Q d' a s fun v H' s' r => q v H' s' (r.up l)
theorem mka_nil : MkA G σ tNil n [] := fun H0 H Q _ _ _ q => q _ _ (Same.refl _) .nil
theorem mka_cons {te : TE} {ta : TA} {d : PyData} {ds : List PyData} (h : Mk G σ te n d) (hs : MkA G σ ta n ds) : MkA G σ (tCons te ta) n (d :: ds) := fun H0 H Q dm ap s q =>
  h H0 H _ dm ap s fun v H1 s1 r => hs H0 H1 _ (dm.same s1) ap (s.trans s1) fun vs H2 s2 rs => q _ _ (s1.trans s2) (.cons (r.imp (news_grow s2)) rs)
theorem mk_lst {ta : TA} {ds : List PyData} (h : MkA G σ ta n ds) (hl : ds.length ≤ 10000 := by simp) : Mk G σ (tLst ta) (n + 1) (.list ds) := fun H0 H Q dm ap s q =>
  h H0 H _ dm ap s fun vs H1 s1 rs => ⟨sz5 (by have := pd_len rs; omega), fun p np => q _ _ (s1.trans (same_new np _)) ⟨p, vs, rfl, news_here ((dm.same s1).free np) upd_same, by have := pd_len rs; omega, pd_imp rs fun _ _ _ _ r => r.imp (news_put ((dm.same s1).free np) np)⟩⟩
theorem mk_tup {ta : TA} {ds : List PyData} (h : MkA G σ ta n ds) (hl : ds.length ≤ 10000 := by simp) : Mk G σ (tTup ta) (n + 1) (.tuple ds) := fun H0 H Q dm ap s q =>
  h H0 H _ dm ap s fun vs H1 s1 rs => ⟨sz5 (by have := pd_len rs; omega), fun p np => q _ _ (s1.trans (same_new np _)) ⟨p, vs, rfl, news_here ((dm.same s1).free np) upd_same, by have := pd_len rs; omega, pd_imp rs fun _ _ _ _ r => r.imp (news_put ((dm.same s1).free np) np)⟩⟩
theorem mk_dnew : Mk G σ tDNewK (n + 1) (.dict []) := fun H0 H Q dm ap s q p np => q _ _ (same_new np _) ⟨p, [], rfl, news_here (dm.free np) upd_same, by simp, by simp, .nil⟩
/-- text times number -/
theorem mk_mul (x : Str) (k : Int) (h : MulOk x k := by exact mul_ok (by decide +kernel) (by decide) (by decide)) : Mk G σ (tOp (fun x y H Q => ∃ z n, x = .str z ∧ y = .int n ∧ MulOk z n ∧ Q (.str (Txt.mul z n)) H) (tC (.str x)) (tC (.int k))) (n + 1) (.str (Txt.mul x k)) := fun H0 H Q _ _ _ q => ⟨x, k, rfl, rfl, h, q _ _ (Same.refl _) rfl⟩
theorem mk_subE {ta tb : TE} {a b : Int} (h1 : Mk G σ ta (n + 1) (.int a)) (h2 : Mk G σ tb (n + 1) (.int b)) : Mk G σ (tOp (rI0 fun i j => .int (i - j)) ta tb) (n + 1) (.int (a - b)) := fun H0 H Q dm ap s q =>
  h1 H0 H _ dm ap s fun v H1 s1 r1 => h2 H0 H1 _ (dm.same s1) ap (s.trans s1) fun u H2 s2 r2 => ⟨a, b, r1, r2, q _ _ (s1.trans s2) rfl⟩
theorem mk_addE {ta tb : TE} {a b : Int} (h1 : Mk G σ ta (n + 1) (.int a)) (h2 : Mk G σ tb (n + 1) (.int b)) : Mk G σ (tOp (rI0 fun i j => .int (i + j)) ta tb) (n + 1) (.int (a + b)) := fun H0 H Q dm ap s q =>
  h1 H0 H _ dm ap s fun v H1 s1 r1 => h2 H0 H1 _ (dm.same s1) ap (s.trans s1) fun u H2 s2 r2 => ⟨a, b, r1, r2, q _ _ (s1.trans s2) rfl⟩
theorem mk_pow (a b : Int) (h : CPow a b := by exact ⟨by decide, by decide, by decide⟩) : Mk G σ (tOp (rI CPow fun i j => .int (i ^ j.toNat)) (tC (.int a)) (tC (.int b))) (n + 1) (.int (a ^ b.toNat)) := fun H0 H Q _ _ _ q => ⟨a, b, rfl, rfl, h, q _ _ (Same.refl _) rfl⟩
theorem mk_negE {ta : TE} {a : Int} (h1 : Mk G σ ta (n + 1) (.int a)) : Mk G σ (tUn (rU fun i => .int (-i)) ta) (n + 1) (.int (-a)) := fun H0 H Q dm ap s q => h1 H0 H _ dm ap s fun v H1 s1 r1 => ⟨a, r1, q _ _ s1 rfl⟩
/-- pairs of keys and values; the dict p stands empty meanwhile -/
def MkP (G : Hp) (σ : L2.St) (trs : List (TE × TE)) (n : Nat) (es : List (PyData × PyData)) : Prop := ∀ (H0 H : Hp) (Q : List (V × V) → Hp → Prop), Dom H0 H → Apart G H0 → Same G H →
  (∀ (kvs : List (Key × V)) H', Same H H' → Paired (KvR (Re (news H0 H') n)) kvs es → Q (kvs.map fun kv => (kV kv.1, kv.2)) H') → tPairs trs σ H Q
theorem mkp_nil : MkP G σ [] n [] := fun H0 H Q _ _ _ q => q [] _ (Same.refl _) .nil
theorem mkp_str {te : TE} {trs : List (TE × TE)} (x : Str) {d : PyData} {es : List (PyData × PyData)} (h : Mk G σ te n d) (hs : MkP G σ trs n es) : MkP G σ ((tC (.str x), te) :: trs) n ((.str x, d) :: es) := fun H0 H Q dm ap s q =>
  h H0 H _ dm ap s fun v H1 s1 r => hs H0 H1 _ (dm.same s1) ap (s.trans s1) fun kvs H2 s2 rs => q ((.inr x, v) :: kvs) _ (s1.trans s2) (.cons ⟨rfl, r.imp (news_grow s2)⟩ rs)
theorem mkp_int {te : TE} {trs : List (TE × TE)} (i : Int) {d : PyData} {es : List (PyData × PyData)} (h : Mk G σ te n d) (hs : MkP G σ trs n es) : MkP G σ ((tC (.int i), te) :: trs) n ((.int i, d) :: es) := fun H0 H Q dm ap s q =>
  h H0 H _ dm ap s fun v H1 s1 r => hs H0 H1 _ (dm.same s1) ap (s.trans s1) fun kvs H2 s2 rs => q ((.inl i, v) :: kvs) _ (s1.trans s2) (.cons ⟨rfl, r.imp (news_grow s2)⟩ rs)
/-- a key that is a text times a number -/
theorem mkp_mul {te : TE} {trs : List (TE × TE)} (x : Str) (k : Int) {d : PyData} {es : List (PyData × PyData)} (hk : MulOk x k) (h : Mk G σ te n d) (hs : MkP G σ trs n es) :
    MkP G σ ((tOp (fun x y H Q => ∃ z n, x = .str z ∧ y = .int n ∧ MulOk z n ∧ Q (.str (Txt.mul z n)) H) (tC (.str x)) (tC (.int k)), te) :: trs) n ((.str (Txt.mul x k), d) :: es) := fun H0 H Q dm ap s q =>
  ⟨x, k, rfl, rfl, hk, h H0 H _ dm ap s fun v H1 s1 r => hs H0 H1 _ (dm.same s1) ap (s.trans s1) fun kvs H2 s2 rs => q ((.inr (Txt.mul x k), v) :: kvs) _ (s1.trans s2) (.cons ⟨rfl, r.imp (news_grow s2)⟩ rs)⟩
/-- a key that stands in a name -/
theorem mkp_var {te : TE} {trs : List (TE × TE)} (i : Nat) (x : Str) {d : PyData} {es : List (PyData × PyData)} (hi : σ[i]? = some (some (.str x))) (h : Mk G σ te n d) (hs : MkP G σ trs n es) : MkP G σ ((tVar i, te) :: trs) n ((.str x, d) :: es) := fun H0 H Q dm ap s q =>
  ⟨_, hi, h H0 H _ dm ap s fun v H1 s1 r => hs H0 H1 _ (dm.same s1) ap (s.trans s1) fun kvs H2 s2 rs => q ((.inr x, v) :: kvs) _ (s1.trans s2) (.cons ⟨rfl, r.imp (news_grow s2)⟩ rs)⟩
theorem merge_nd : ∀ (more kvs : List (Key × V)), ((kvs ++ more).map (·.1)).Nodup → mergeK kvs more = kvs ++ more
  | [], kvs, _ => by simp [mergeK]
  | q :: r, kvs, h => by
    have h1 : valV kvs q.1 = none := valV_no fun hm => by
      rw [List.map_append, List.nodup_append] at h
      exact h.2.2 _ hm _ (by simp) rfl
    have : mergeK kvs (q :: r) = mergeK (kvs ++ [(q.1, q.2)]) r := by
      show mergeK (putK kvs q.1 q.2) r = _
      rw [putK_new _ h1]
    rw [this, merge_nd r _ (by simpa using h)]
    simp
def keyOfD : PyData → Key
  | .str x => .inr x
  | .int i => .inl i
  | _ => .inl 0
theorem keyOf_kD (k : Key) : keyOfD (kD k) = k := by cases k <;> rfl
theorem mk_disp {trs : List (TE × TE)} {es : List (PyData × PyData)} (h : MkP G σ trs n es) (hl : es.length ≤ 15 := by simp) (hn : (es.map fun e => keyOfD e.1).Nodup := by simp only [List.map_cons, List.map_nil, keyOfD]; decide +kernel) : Mk G σ (tDisp trs) (n + 1) (.dict es) := by
  intro H0 H Q dm ap s q p np
  have n0 := dm.free np
  refine h (upd H0 p (.dK [])) (upd H p (.dK [])) _ (fun a ha => ?_) (fun a ha => ?_) (s.trans (same_new np _)) fun kvs H2 s2 rs => ?_
  · by_cases e : a = p
    · subst e; rw [upd_same]; simp
    · rw [upd_ne e] at ha ⊢; exact dm a ha
  · have e : a ≠ p := fun z => by
      subst z
      cases hg : G a with
      | none => exact ha hg
      | some o => rw [s _ _ hg] at np; cases np
    rw [upd_ne e]
    exact ap a ha
  have ep : H2 p = some (.dK []) := s2 _ _ upd_same
  have hk : kvs.map (·.1) = es.map fun e => keyOfD e.1 := by
    clear ep s2 q hl hn h
    induction rs with
    | nil => rfl
    | @cons a b _ _ r _ ih => rw [List.map_cons, List.map_cons, ih, r.1, keyOf_kD]
  have hlk := pd_len rs
  refine ⟨ep, kvs, rfl, by omega, ?_⟩
  rw [merge_nd kvs [] (by rw [List.nil_append, hk]; exact hn), List.nil_append]
  refine q _ _ (same_mut ((same_new np (.dK [])).trans s2) np) ⟨p, kvs, rfl, news_here n0 upd_same, by omega, by rw [hk]; exact hn, pd_imp rs fun a b _ _ r => ⟨r.1, r.2.imp fun c o e => ?_⟩⟩
  by_cases hc : c = p
  · subst hc
    rw [news_no (H' := H2) (upd_same (H := H0) (a := c) (o := .dK []))] at e
    cases e
  · cases h0 : H0 c with
    | some u => rw [news_no (by rw [upd_ne hc]; exact h0)] at e; cases e
    | none =>
      rw [news_at (by rw [upd_ne hc]; exact h0)] at e
      rw [news_at h0, upd_ne hc]
      exact e
end
/-! ### a display, made here -/
/-- without anything known ahead -/
def emptyHp : Hp := fun _ => none
theorem Mk.run {σ : L2.St} {t : TE} {n : Nat} {d : PyData} (h : Mk emptyHp σ t n d) {H : Hp} {Q : VK} (q : ∀ v H', Same H H' → Re (news H H') n v d → Q v H') : t σ H Q :=
  h H H Q (Dom.refl _) (fun a ha => absurd rfl ha) (fun a o e => by cases e) q
theorem MkA.run {σ : L2.St} {t : TA} {n : Nat} {ds : List PyData} (h : MkA emptyHp σ t n ds) {H : Hp} {Q : List V → Hp → Prop} (q : ∀ vs H', Same H H' → Paired (Re (news H H') n) vs ds → Q vs H') : t σ H Q :=
  h H H Q (Dom.refl _) (fun a ha => absurd rfl ha) (fun a o e => by cases e) q
/-- lists of texts, of ints -/
theorem texts_pd {G : Hp} {n : Nat} : ∀ {ys : List V} (xs : List Str), Paired (Re G n) ys (xs.map .str) → ys = xs.map V.str
  | _, [], .nil => rfl
  | _, x :: xs, .cons r rs => by
    rw [texts_pd xs rs]
    cases n with
    | zero => exact r.elim
    | succ n => cases r; rfl
theorem texts_of {G : Hp} {n : Nat} {v : V} (xs : List Str) (r : Re G n v (.list (xs.map .str))) : ∃ p, v = .ref p ∧ G p = some (.lst (xs.map V.str)) := by
  cases n with
  | zero => exact r.elim
  | succ n =>
  obtain ⟨p, ys, rfl, hp, _, hpr⟩ := r
  rw [texts_pd xs hpr] at hp
  exact ⟨p, rfl, hp⟩
theorem ints_pd {G : Hp} {n : Nat} : ∀ {ys : List V} (xs : List Int), Paired (Re G n) ys (xs.map .int) → ys = xs.map V.int
  | _, [], .nil => rfl
  | _, x :: xs, .cons r rs => by
    rw [ints_pd xs rs]
    cases n with
    | zero => exact r.elim
    | succ n => cases r; rfl
theorem ints_of {G : Hp} {n : Nat} {v : V} (xs : List Int) (r : Re G n v (.list (xs.map .int))) : ∃ p, v = .ref p ∧ G p = some (.lst (xs.map V.int)) := by
  cases n with
  | zero => exact r.elim
  | succ n =>
  obtain ⟨p, ys, rfl, hp, _, hpr⟩ := r
  rw [ints_pd xs hpr] at hp
  exact ⟨p, rfl, hp⟩
/-- the two lists in a row -/
theorem cat_at {H : Hp} {p q : Addr} {xs ys : List V} {N : VK} (hp : H p = some (.lst xs)) (hq : H q = some (.lst ys)) (hl : xs.length + ys.length ≤ 100000) (k : ∀ r H', Same H H' → H r = none → H' r = some (.lst (xs ++ ys)) → N (.ref r) H') : rCat (.ref p) (.ref q) H N :=
  ⟨p, q, xs, ys, rfl, rfl, hp, hq, sz5 hl, fun r nr => k r _ (same_new nr _) nr upd_same⟩
theorem str_in (x : Str) (ys : List Str) : inV (.str x) (ys.map V.str) = decide (x ∈ ys) := by
  unfold inV
  rw [List.any_map, Bool.eq_iff_iff, List.any_eq_true, decide_eq_true_eq]
  constructor
  · rintro ⟨y, hy, e⟩
    have : y = x := by simpa [eqV] using e
    rw [← this]; exact hy
  · intro h
    exact ⟨x, h, by simp [eqV]⟩
theorem strs_flat (ys : List Str) : (ys.map V.str).all flatV = true := by
  rw [List.all_map, List.all_eq_true]
  intro y _
  rfl
/-- x in (texts) -/
theorem in_lit {K : PySem.W.Frag} {σ : L2.St} {t : TE} {H : Hp} {N : VK} {i : Nat} {x : Str} (xs : List Str) (h : Mk emptyHp σ t 2 (.tuple (xs.map .str))) (hi : σ[i]? = some (some (.str x))) (q : ∀ H', Same H H' → N (.bl (decide (x ∈ xs))) H') : tOp (rIn K false) (tVar i) t σ H N :=
  ⟨_, hi, h.run fun v H1 s1 r1 => by
    obtain ⟨p, ys, rfl, hp, _, hpr⟩ := r1
    rw [texts_pd xs hpr] at hp
    refine ⟨p, _, rfl, .inr (SqT.of (news_sub _ _ _ _ hp)), rfl, strs_flat _, ?_⟩
    rw [str_in]
    exact q _ s1⟩
/-- a list of texts and some more -/
theorem cat_lit {σ : L2.St} {t : TE} {H : Hp} {N : VK} {i : Nat} {p : Addr} {xs : List Str} (ys : List Str) (h : Mk emptyHp σ t 2 (.list (ys.map .str))) (hi : σ[i]? = some (some (.ref p))) (hp : H p = some (.lst (xs.map V.str))) (hl : xs.length + ys.length ≤ 100000) (q : ∀ r H', Same H H' → H r = none → H' r = some (.lst ((xs ++ ys).map V.str)) → N (.ref r) H') : tOp rCat (tVar i) t σ H N :=
  ⟨_, hi, h.run fun v H1 s1 r1 => by
    obtain ⟨r, rfl, hr⟩ := texts_of ys r1
    have nr : H r = none := by
      cases e : H r with
      | none => rfl
      | some o => rw [news_no e] at hr; cases hr
    refine cat_at (s1 _ _ hp) (news_sub _ _ _ _ hr) (by simpa using hl) fun u H2 s2 nu hu => q u H2 (s1.trans s2) ?_ (by rw [List.map_append]; exact hu)
    cases e : H u with
    | none => rfl
    | some o => rw [s1 _ _ e] at nu; cases nu⟩
/-- list(range(k)) -/
theorem mk_listRg {G : Hp} {σ : L2.St} {n : Nat} (k : Nat) (hk : k ≤ 1000) : Mk G σ (tLstRg (tRg1 (tC (.int (k : Nat))))) (n + 2) (.list ((List.range k).map fun i => .int (i : Nat))) := fun H0 H Q dm ap s q => by
  refine ⟨(k : Int), rfl, ⟨by decide, by decide, by omega, by omega, by omega⟩, fun p np => ?_⟩
  have e : rgV 0 (k : Int) = ((List.range k).map fun i : Nat => (i : Int)).map V.int := by
    unfold rgV
    rw [List.map_map, show ((k : Int) - 0).toNat = k by omega]
    refine List.map_congr_left fun i _ => ?_
    show V.int (0 + (i : Int)) = V.int (i : Int)
    rw [Int.zero_add]
  rw [e]
  refine q _ _ (same_new np _) ⟨p, _, rfl, news_here (dm.free np) upd_same, by simp; omega, ?_⟩
  have : ∀ l : List Nat, Paired (Re (news H0 (upd H p (.lst (((List.range k).map fun i : Nat => (i : Int)).map V.int)))) (n + 1)) ((l.map fun i : Nat => (i : Int)).map V.int) (l.map fun i => PyData.int (i : Nat)) := by
    intro l
    induction l with
    | nil => exact .nil
    | cons a r ih => exact .cons rfl ih
  exact this _
end SC

set_option Elab.async false
set_option linter.all false
set_option maxRecDepth 100000
set_option maxHeartbeats 4000000
/-! Schemacheck: dicts under construction, as data. -/
namespace SC
open PySem L2 PySem.Calls PyProof.Rows
/-- a datum put under a key -/
def isK (k : Key) (x : PyData) : Bool := match k, x with
  | .inr z, .str y => decide (y = z)
  | .inl i, .int j => decide (j = i)
  | _, _ => false
theorem isK_kD (k l : Key) : isK k (kD l) = decide (l = k) := by
  cases k <;> cases l <;> simp [isK, kD]
def putE (es : List (PyData × PyData)) (k : Key) (d : PyData) : List (PyData × PyData) := if (es.any fun e => isK k e.1) = true then es.map fun e => if isK k e.1 = true then (kD k, d) else e else es ++ [(kD k, d)]
theorem putE_mem {es : List (PyData × PyData)} {k : Key} {d : PyData} {e : PyData × PyData} (h : e ∈ putE es k d) : e ∈ es ∨ e = (kD k, d) := by
  unfold putE at h
  split at h
  · obtain ⟨x, hx, rfl⟩ := List.mem_map.mp h
    split
    · exact .inr rfl
    · exact .inl hx
  · simpa using h
theorem putE_len (es : List (PyData × PyData)) (k : Key) (d : PyData) : (putE es k d).length ≤ es.length + 1 := by
  unfold putE
  split <;> simp
theorem isK_is {k : Key} {x : PyData} (h : isK k x = true) : x = kD k := by
  cases k <;> cases x <;> first | (cases h; done) | skip
  · rw [show _ = _ from of_decide_eq_true h]; rfl
  · rw [show _ = _ from of_decide_eq_true h]; rfl
theorem isK_self (k : Key) : isK k (kD k) = true := by rw [isK_kD]; simp
theorem putE_in (es : List (PyData × PyData)) (k : Key) (d : PyData) : (kD k, d) ∈ putE es k d := by
  unfold putE
  split
  · rename_i h
    obtain ⟨e, he, hk⟩ := List.any_eq_true.mp h
    exact List.mem_map.mpr ⟨e, he, if_pos hk⟩
  · simp
theorem putE_keep {es : List (PyData × PyData)} {k : Key} {d : PyData} {e : PyData × PyData} (h : e ∈ es) : ∃ e' ∈ putE es k d, e'.1 = e.1 := by
  unfold putE
  split
  · by_cases hk : isK k e.1 = true
    · exact ⟨_, List.mem_map.mpr ⟨e, h, rfl⟩, by rw [if_pos hk, isK_is hk]⟩
    · exact ⟨_, List.mem_map.mpr ⟨e, h, rfl⟩, by rw [if_neg hk]⟩
  · exact ⟨e, List.mem_append_left _ h, rfl⟩
theorem putE_new {es : List (PyData × PyData)} {k : Key} {d : PyData} (h : (es.any fun e => isK k e.1) = false) : putE es k d = es ++ [(kD k, d)] := by
  unfold putE
  rw [if_neg (by rw [h]; simp)]
theorem putE_pd {F : V → PyData → Prop} {kvs : List (Key × V)} {es : List (PyData × PyData)} {k : Key} {v : V} {d : PyData} (hp : Paired (KvR F) kvs es) (hv : F v d) : Paired (KvR F) (putK kvs k v) (putE es k d) := by
  have e : (kvs.any fun kv => decide (kv.1 = k)) = es.any fun e => isK k e.1 := by
    induction hp with
    | nil => rfl
    | @cons a b _ _ r _ ih => rw [List.any_cons, List.any_cons, ih, r.1, isK_kD]
  unfold putK putE
  rw [e]
  split
  · rename_i hh
    clear e hh
    induction hp with
    | nil => exact .nil
    | @cons a b _ _ r _ ih =>
      rw [List.map_cons, List.map_cons]
      refine .cons ?_ ih
      rw [r.1, isK_kD]
      by_cases hk : a.1 = k
      · rw [if_pos hk, if_pos (decide_eq_true hk)]
        exact ⟨by rw [hk], hv⟩
      · rw [if_neg hk, if_neg (by simpa using hk)]
        exact r
  · exact pd_app hp (.cons ⟨rfl, hv⟩ .nil)
/-- Re in less of the heap: a part does not hold the whole -/
theorem Re.less {G : Hp} {a : Addr} {m : Nat} {D : PyData} (hD : Re G m (.ref a) D) {n : Nat} {v : V} {d : PyData} (hs : sizeOf d < sizeOf D) (h : Re G n v d) : Re (del G a) n v d := Re.of (del_sub _ _) h (Rp.del hD.rp hs h.rp)
/-- the dict at D, new since H0, with the data es, at most n deep -/
structure Bld (H0 H : Hp) (D : Addr) (n : Nat) (es : List (PyData × PyData)) : Prop where
  li : ∃ kvs, H D = some (.dK kvs) ∧ H0 D = none ∧ (kvs.map (·.1)).Nodup ∧ kvs.length ≤ 9000 ∧ Paired (KvR (Re (del (news H0 H) D) n)) kvs es
theorem Bld.new {H0 H : Hp} {D : Addr} {n : Nat} (h : H D = none) (dm : Dom H0 H) : Bld H0 (upd H D (.dK [])) D n [] := ⟨[], upd_same, dm.free h, by simp, by simp, .nil⟩
theorem Bld.of {H0 H : Hp} {D : Addr} {n : Nat} {es : List (PyData × PyData)} (h : Re (news H0 H) (n + 1) (.ref D) (.dict es)) (hl : es.length ≤ 9000) : Bld H0 H D n es := by
  obtain ⟨a, kvs, e, ha, hb, hn, hp⟩ := id h
  cases e
  refine ⟨kvs, news_sub _ _ _ _ ha, ?_, hn, by have := pd_len hp; omega, pd_imp hp fun p q _ hq r => ⟨r.1, Re.less h (size_kv hq) r.2⟩⟩
  cases e : H0 D with
  | none => rfl
  | some o => rw [news_no e] at ha; cases ha
theorem Bld.re {H0 H : Hp} {D : Addr} {n : Nat} {es : List (PyData × PyData)} (h : Bld H0 H D n es) : Re (news H0 H) (n + 1) (.ref D) (.dict es) := by
  obtain ⟨kvs, h1, h2, h3, h4, h5⟩ := h.li
  exact ⟨D, kvs, rfl, news_here h2 h1, by omega, h3, pd_imp h5 fun p q _ _ r => ⟨r.1, r.2.imp (del_sub _ _)⟩⟩
theorem Bld.len {H0 H : Hp} {D : Addr} {n : Nat} {es : List (PyData × PyData)} (h : Bld H0 H D n es) : es.length ≤ 9000 := by
  obtain ⟨kvs, h1, h2, h3, h4, h5⟩ := h.li
  have := pd_len h5
  omega
/-- all but some places, known to H0, is as it was -/
theorem news_keep {S : List Addr} {H0 H H' : Hp} (k : Keep S H H') (hs : ∀ a ∈ S, H0 a ≠ none) : Same (news H0 H) (news H0 H') := news_mono k hs
theorem del_mono {G G' : Hp} {a : Addr} (s : Same G G') : Same (del G a) (del G' a) := fun b o e => by
  by_cases hb : b = a
  · subst hb; rw [del_at] at e; cases e
  · rw [del_ne hb] at e ⊢; exact s _ _ e
theorem Bld.keep {S : List Addr} {H0 H H' : Hp} {D : Addr} {n : Nat} {es : List (PyData × PyData)} (h : Bld H0 H D n es) (k : Keep S H H') (hs : ∀ a ∈ S, H0 a ≠ none) : Bld H0 H' D n es := by
  obtain ⟨kvs, h1, h2, h3, h4, h5⟩ := h.li
  exact ⟨kvs, k _ _ h1 fun z => hs D z h2, h2, h3, h4, pd_imp h5 fun p q _ _ r => ⟨r.1, r.2.imp (del_mono (news_keep k hs))⟩⟩
theorem Bld.same {H0 H H' : Hp} {D : Addr} {n : Nat} {es : List (PyData × PyData)} (h : Bld H0 H D n es) (s : Same H H') : Bld H0 H' D n es := h.keep (S := []) (.of s) (by simp)
theorem Bld.up {H0 H : Hp} {D : Addr} {n m : Nat} {es : List (PyData × PyData)} (h : Bld H0 H D n es) (l : n ≤ m) : Bld H0 H D m es := by
  obtain ⟨kvs, h1, h2, h3, h4, h5⟩ := h.li
  exact ⟨kvs, h1, h2, h3, h4, pd_imp h5 fun p q _ _ r => ⟨r.1, r.2.up l⟩⟩
/-- a value made since H, put under a key -/
theorem Bld.put {S : List Addr} {H0 H H1 : Hp} {D : Addr} {n : Nat} {es : List (PyData × PyData)} (h : Bld H0 H D n es) (k : Keep S H H1) (hs : ∀ a ∈ S, H0 a ≠ none) (dm : Dom H0 H) {v : V} {d : PyData} (r : Re (news H H1) n v d) (key : Key) (hl : es.length < 9000) :
    ∃ H2, DPut H1 D (kV key) v H2 ∧ Bld H0 H2 D n (putE es key d) ∧ Keep (D :: S) H H2 ∧ ∀ b, b ≠ D → H2 b = H1 b := by
  obtain ⟨kvs, h1, h2, h3, h4, h5⟩ := (h.keep k hs).li
  have hlk := pd_len h5
  obtain ⟨kvs0, g1, _⟩ := h.li
  refine ⟨_, DPut.k h1 (sz5l (by omega)), ⟨_, upd_same, h2, putK_nd h3, ?_, ?_⟩, (k.sub fun b hb => List.mem_cons_of_mem _ hb).mut (by simp), fun b hb => upd_ne hb⟩
  · have : (putK kvs key v).length ≤ kvs.length + 1 := by unfold putK; split <;> simp
    omega
  · have s1 : Same (del (news H0 H1) D) (del (news H0 (upd H1 D (.dK (putK kvs key v)))) D) := fun b o e => by
      by_cases hb : b = D
      · subst hb; rw [del_at] at e; cases e
      · rw [del_ne hb] at e ⊢
        cases h0 : H0 b with
        | some u => rw [news_no h0] at e; cases e
        | none => rw [news_at h0] at e ⊢; rw [upd_ne hb]; exact e
    refine putE_pd (pd_imp h5 fun p q _ _ r => ⟨r.1, r.2.imp s1⟩) ((r.imp fun b o e => ?_).imp s1)
    have hb : b ≠ D := fun z => by
      subst z
      rw [news_no g1] at e
      cases e
    rw [del_ne hb]
    cases h0 : H b with
    | some u => rw [news_no h0] at e; cases e
    | none =>
      rw [news_at h0] at e
      rw [news_at (dm.free h0)]
      exact e
/-- whether a key is there -/
theorem any_pd {F : V → PyData → Prop} {kvs : List (Key × V)} {es : List (PyData × PyData)} (hp : Paired (KvR F) kvs es) (k : Key) : (valV kvs k).isSome = es.any fun e => isK k e.1 := by
  induction hp with
  | nil => rfl
  | @cons a b _ _ r _ ih =>
    rw [List.any_cons, r.1, isK_kD, ← ih]
    unfold valV
    rw [List.find?_cons]
    by_cases hk : a.1 = k
    · rw [decide_eq_true hk]; rfl
    · rw [decide_eq_false hk]; rfl
theorem Bld.has {H0 H : Hp} {D : Addr} {n : Nat} {es : List (PyData × PyData)} (h : Bld H0 H D n es) (k : Key) : ∃ o, DGet H D (kV k) o ∧ o.isSome = es.any fun e => isK k e.1 := by
  obtain ⟨kvs, h1, h2, h3, h4, h5⟩ := h.li
  exact ⟨_, DGet.k h1, any_pd h5 k⟩
theorem get_pd {F : V → PyData → Prop} {kvs : List (Key × V)} {es : List (PyData × PyData)} {k : Key} {d : PyData} (hp : Paired (KvR F) kvs es) (hn : (kvs.map (·.1)).Nodup) (h : (kD k, d) ∈ es) : ∃ v, valV kvs k = some v ∧ F v d := by
  obtain ⟨x, hx, r⟩ := pd_memR hp h
  obtain ⟨i, hi⟩ := List.mem_iff_getElem?.mp hx
  obtain ⟨a, b⟩ := x
  have : a = k := (kD_inj r.1).symm
  subst this
  exact ⟨b, valV_at hn hi, r.2⟩
theorem Bld.get {H0 H : Hp} {D : Addr} {n : Nat} {es : List (PyData × PyData)} (h : Bld H0 H D n es) {k : Key} {d : PyData} (hd : (kD k, d) ∈ es) : ∃ v, DGet H D (kV k) (some v) ∧ Re (del (news H0 H) D) n v d := by
  obtain ⟨kvs, h1, h2, h3, h4, h5⟩ := h.li
  obtain ⟨v, g1, g2⟩ := get_pd h5 h3 hd
  exact ⟨v, by rw [← g1]; exact DGet.k h1, g2⟩
/-- the list at D, new since H0, with the data ds -/
structure BldL (H0 H : Hp) (D : Addr) (n : Nat) (ds : List PyData) : Prop where
  li : ∃ vs, H D = some (.lst vs) ∧ H0 D = none ∧ vs.length ≤ 9000 ∧ Paired (Re (del (news H0 H) D) n) vs ds
theorem BldL.new {H0 H : Hp} {D : Addr} {n : Nat} (h : H D = none) (dm : Dom H0 H) : BldL H0 (upd H D (.lst [])) D n [] := ⟨[], upd_same, dm.free h, by simp, .nil⟩
theorem BldL.re {H0 H : Hp} {D : Addr} {n : Nat} {ds : List PyData} (h : BldL H0 H D n ds) : Re (news H0 H) (n + 1) (.ref D) (.list ds) := by
  obtain ⟨vs, h1, h2, h3, h5⟩ := h.li
  exact ⟨D, vs, rfl, news_here h2 h1, by omega, pd_imp h5 fun p q _ _ r => r.imp (del_sub _ _)⟩
theorem BldL.of {H0 H : Hp} {D : Addr} {n : Nat} {ds : List PyData} (h : Re (news H0 H) (n + 1) (.ref D) (.list ds)) (hl : ds.length ≤ 9000) : BldL H0 H D n ds := by
  obtain ⟨a, vs, e, ha, hb, hp⟩ := id h
  cases e
  refine ⟨vs, news_sub _ _ _ _ ha, ?_, by have := pd_len hp; omega, pd_imp hp fun p q _ hq r => Re.less h (size_item hq) r⟩
  cases e : H0 D with
  | none => rfl
  | some o => rw [news_no e] at ha; cases ha
theorem BldL.keep {S : List Addr} {H0 H H' : Hp} {D : Addr} {n : Nat} {ds : List PyData} (h : BldL H0 H D n ds) (k : Keep S H H') (hs : ∀ a ∈ S, H0 a ≠ none) : BldL H0 H' D n ds := by
  obtain ⟨vs, h1, h2, h3, h5⟩ := h.li
  exact ⟨vs, k _ _ h1 fun z => hs D z h2, h2, h3, pd_imp h5 fun p q _ _ r => r.imp (del_mono (news_keep k hs))⟩
theorem BldL.len {H0 H : Hp} {D : Addr} {n : Nat} {ds : List PyData} (h : BldL H0 H D n ds) : ds.length ≤ 9000 := by
  obtain ⟨vs, h1, h2, h3, h5⟩ := h.li
  have := pd_len h5
  omega
/-- one more, made since H -/
theorem BldL.snoc {S : List Addr} {H0 H H1 : Hp} {D : Addr} {n : Nat} {ds : List PyData} (h : BldL H0 H D n ds) (k : Keep S H H1) (hs : ∀ a ∈ S, H0 a ≠ none) (dm : Dom H0 H) {v : V} {d : PyData} (r : Re (news H H1) n v d) (hl : ds.length < 9000) :
    ∃ vs, H1 D = some (.lst vs) ∧ vs.length < 9000 ∧ BldL H0 (upd H1 D (.lst (vs ++ [v]))) D n (ds ++ [d]) ∧ Keep (D :: S) H (upd H1 D (.lst (vs ++ [v]))) := by
  obtain ⟨vs, h1, h2, h3, h5⟩ := (h.keep k hs).li
  have hlk := pd_len h5
  obtain ⟨vs0, g1, _⟩ := h.li
  refine ⟨vs, h1, by omega, ⟨_, upd_same, h2, by simp; omega, ?_⟩, (k.sub fun b hb => List.mem_cons_of_mem _ hb).mut (by simp)⟩
  have s1 : Same (del (news H0 H1) D) (del (news H0 (upd H1 D (.lst (vs ++ [v])))) D) := fun b o e => by
    by_cases hb : b = D
    · subst hb; rw [del_at] at e; cases e
    · rw [del_ne hb] at e ⊢
      cases h0 : H0 b with
      | some u => rw [news_no h0] at e; cases e
      | none => rw [news_at h0] at e ⊢; rw [upd_ne hb]; exact e
  refine pd_app (pd_imp h5 fun p q _ _ r => r.imp s1) (.cons ((r.imp fun b o e => ?_).imp s1) .nil)
  have hb : b ≠ D := fun z => by
    subst z
    rw [news_no g1] at e
    cases e
  rw [del_ne hb]
  cases h0 : H b with
  | some u => rw [news_no h0] at e; cases e
  | none =>
    rw [news_at h0] at e
    rw [news_at (dm.free h0)]
    exact e
theorem mk_ivar {G : Hp} {σ : L2.St} {n : Nat} (i : Nat) {w : Int} (h : σ[i]? = some (some (.int w))) : Mk G σ (tVar i) (n + 1) (.int w) := mk_var i h rfl
theorem mk_svar {G : Hp} {σ : L2.St} {n : Nat} (i : Nat) {w : Str} (h : σ[i]? = some (some (.str w))) : Mk G σ (tVar i) (n + 1) (.str w) := mk_var i h rfl
/-- x in (texts), x an expression -/
theorem in_litE {K : PySem.W.Frag} {σ : L2.St} {t te : TE} {H : Hp} {N : VK} {x : Str} (xs : List Str) (h : Mk emptyHp σ t 2 (.tuple (xs.map .str))) (he : ∀ N' : VK, N' (.str x) H → te σ H N') (q : ∀ H', Same H H' → N (.bl (decide (x ∈ xs))) H') : tOp (rIn K false) te t σ H N :=
  he _ (h.run fun v H1 s1 r1 => by
    obtain ⟨p, ys, rfl, hp, _, hpr⟩ := r1
    rw [texts_pd xs hpr] at hp
    refine ⟨p, _, rfl, .inr (SqT.of (news_sub _ _ _ _ hp)), rfl, strs_flat _, ?_⟩
    rw [str_in]
    exact q _ s1)
/-- d[k] = what is made -/
theorem put_lit {H0 H : Hp} {D : Addr} {n : Nat} {es : List (PyData × PyData)} {σ : L2.St} {t : TE} {i : Nat} {k : Str} {d : PyData} {Z : Ends} (hB : Bld H0 H D n es) (dm : Dom H0 H) (hi : σ[i]? = some (some (.ref D))) (h : Mk emptyHp σ t n d) (hl : es.length < 9000)
    (q : ∀ H', Bld H0 H' D n (putE es (.inr k) d) → Keep [D] H H' → Dom H0 H' → Z.nx σ H') : sDPut (tVar i) (tC (.str k)) t Z σ H :=
  h.run fun v H1 s1 r1 => ⟨_, hi, by
    obtain ⟨H2, g1, g2, g3, g4⟩ := hB.put (S := []) (.of s1) (by simp) dm r1 (.inr k) hl
    refine ⟨D, H2, rfl, g1, q H2 g2 g3 fun a ha => ?_⟩
    by_cases hb : a = D
    · subst hb
      obtain ⟨kvs, b1, _⟩ := g2.li
      rw [b1]; simp
    · rw [g4 a hb]
      exact (dm.same s1) a ha⟩
theorem Dom.keep {S : List Addr} {H0 H H' : Hp} (d : Dom H0 H) (k : Keep S H H') (hs : ∀ a ∈ S, H' a ≠ none) : Dom H0 H' := fun a ha => by
  by_cases h : a ∈ S
  · exact hs a h
  · cases e : H a with
    | none => exact absurd e (d a ha)
    | some o => rw [k _ _ e h]; simp
/-- [z + str(k) for k in range(n)] -/
theorem mk_nk {G : Hp} {σ : L2.St} {n : Nat} (z : Str) (k j : Nat) (hj : j < σ.length) (hz : z.length ≤ 100) (hk : k ≤ 1000) : Mk G σ (tLc (iRng1 (tCons (tC (.int (k : Nat))) tNil)) (gName j) tYes (tOp (fun x y H Q => ∃ i j, x = .str i ∧ y = .str j ∧ i.length + j.length ≤ sizeLine ∧ Q (.str (i ++ j)) H) (tC (.str z)) (tCB (fun xs H Q => ∃ i, xs = [.int i] ∧ i.natAbs.log2 < 1920 ∧ Q (.str (Str.ofString (toString i))) H) (tCons (tVar j) tNil))) [j]) (n + 2)
    (.list ((List.range k).map fun i : Nat => .str (z ++ Str.ofString (toString (i : Int))))) := by
  intro H0 H Q dm ap s q
  rw [tLc_eq]
  simp only [iRng1, tCons, tC, tNil]
  refine ⟨(k : Int), rfl, by omega, by omega, ?_⟩
  rw [show (k : Int).toNat = k by omega]
  refine lcP_range (((List.range k).map fun i : Nat => z ++ Str.ofString (toString (i : Int))).map V.str) (by simp) (by omega) ?_ ?_
  · intro i x y H' N ex hy s' N'
    simp only [List.getElem?_map, Option.map_eq_some_iff] at hy
    obtain ⟨w, ⟨i', hi', rfl⟩, rfl⟩ := hy
    obtain ⟨hi1, hi2⟩ := List.getElem?_eq_some_iff.mp hi'
    rw [List.getElem_range] at hi2
    subst hi2
    rw [List.length_range] at hi1
    subst ex
    have hb : -10 ^ 30 ≤ (i : Int) ∧ (i : Int) ≤ 10 ^ 30 := ⟨by omega, by omega⟩
    refine ⟨V.int (0 + (i : Nat)), ?_, (i : Int), by rw [Int.zero_add], int_log hb, z, _, rfl, rfl, ?_, N' _ (Same.refl _)⟩
    · show (((σ.set j none).set j (some _)))[j]? = _
      rw [List.getElem?_set_self (by rw [List.length_set]; exact hj)]
    · have := int_len hb
      exact sz5 (by omega)
  · intro D' H' nD s' e
    refine q _ _ s' ⟨D', _, rfl, news_here (dm.free nD) e, by simp; omega, ?_⟩
    have : ∀ l : List Str, Paired (Re (news H0 H') (n + 1)) (l.map V.str) (l.map PyData.str) := by
      intro l
      induction l with
      | nil => exact .nil
      | cons a r ih => exact .cons rfl ih
    have h2 := this ((List.range k).map fun i : Nat => z ++ Str.ofString (toString (i : Int)))
    rw [List.map_map (f := fun i : Nat => z ++ Str.ofString (toString (i : Int))) (g := PyData.str)] at h2
    exact h2
/-- is, is not of truth values -/
def rIsB (neg : Bool) : R2 := fun x y H Q => ∃ b c, x = .bl b ∧ y = .bl c ∧ Q (.bl (if neg then !decide (b = c) else decide (b = c))) H
theorem op_notB {X : Cx} : OpR X (compareOp .IsNot) (rIsB true) := by
  intro pins s σ H x y v u Q I rx ry h
  obtain ⟨b, c, rfl, rfl, q⟩ := h
  cases rx
  cases ry
  refine wpAny_isNot_plain (by cases b <;> cases c <;> rfl) ⟨.bl _, H, I, ?_, q⟩
  cases b <;> cases c <;> rfl
theorem op_isB {X : Cx} : OpR X (compareOp .Is) (rIsB false) := by
  intro pins s σ H x y v u Q I rx ry h
  obtain ⟨b, c, rfl, rfl, q⟩ := h
  cases rx
  cases ry
  refine wpAny_is_plain (by cases b <;> cases c <;> rfl) ⟨.bl _, H, I, ?_, q⟩
  cases b <;> cases c <;> rfl
/-- a list of data and some more -/
theorem cat_litD {G H0 H : Hp} {σ : L2.St} {t : TE} {i n : Nat} {p : Addr} {vs : List V} {ds ds2 : List PyData} {N : VK} (h : Mk G σ t (n + 1) (.list ds2)) (dm : Dom H0 H) (ap : Apart G H0) (sG : Same G H) (hi : σ[i]? = some (some (.ref p))) (hp : H p = some (.lst vs)) (hv : Paired (Re (news H0 H) n) vs ds) (hl : ds.length + ds2.length ≤ 10000)
    (q : ∀ r H' vs', Same H H' → H' r = some (.lst vs') → Paired (Re (news H0 H') n) vs' (ds ++ ds2) → N (.ref r) H') : tOp rCat (tVar i) t σ H N :=
  ⟨_, hi, h H0 H _ dm ap sG fun v H1 s1 r1 => by
    obtain ⟨r, ys, rfl, hr, _, hpr⟩ := r1
    have l1 := pd_len hv
    have l2 := pd_len hpr
    refine cat_at (s1 _ _ hp) (news_sub _ _ _ _ hr) (by omega) fun u H2 s2 nu hu => q u H2 _ (s1.trans s2) hu (pd_app (pd_imp hv fun _ _ _ _ r => r.imp (news_grow (s1.trans s2))) (pd_imp hpr fun _ _ _ _ r => r.imp (news_grow s2)))⟩
theorem apart_none {H0 : Hp} : Apart emptyHp H0 := fun a ha => absurd rfl ha
theorem same_emp {H : Hp} : Same emptyHp H := fun a o e => by cases e
theorem apart_news {H0 H : Hp} : Apart (news H0 H) H0 := fun a ha => by
  cases e : H0 a with
  | none => rfl
  | some o => rw [news_no e] at ha; exact absurd rfl ha
/-- a constant that is a tuple of texts -/
def strB : List Value → List Str → Bool
  | [], [] => true
  | .str x _ :: l, y :: r => decide (x = y) && strB l r
  | _, _ => false
def strsB (K : PySem.W.Frag) (ta : Addr) (xs : List Str) : Bool := match itsOf K ta with
  | some l => strB l xs
  | none => false
theorem strB_ok : ∀ {l : List Value} {xs : List Str}, strB l xs = true → Vals (xs.map V.str) l
  | [], [], _ => .nil
  | .str x t :: l, y :: r, h => by
    simp only [strB, Bool.and_eq_true, decide_eq_true_eq] at h
    rw [← h.1]
    exact .cons ⟨t, rfl⟩ (strB_ok h.2)
  | [], _ :: _, h => by cases h
  | .str _ _ :: _, [], h => by cases h
  | .ref _ :: _, _, h => by cases ‹List Str› <;> cases h
  | .none :: _, _, h => by cases ‹List Str› <;> cases h
  | .ellipsis :: _, _, h => by cases ‹List Str› <;> cases h
  | .notImplemented :: _, _, h => by cases ‹List Str› <;> cases h
  | .bool _ :: _, _, h => by cases ‹List Str› <;> cases h
  | .int _ _ :: _, _, h => by cases ‹List Str› <;> cases h
  | .float _ _ :: _, _, h => by cases ‹List Str› <;> cases h
  | .bytes _ _ :: _, _, h => by cases ‹List Str› <;> cases h
  | .type _ :: _, _, h => by cases ‹List Str› <;> cases h
  | .builtin _ :: _, _, h => by cases ‹List Str› <;> cases h
theorem strs_tup {K : PySem.W.Frag} {ta : Addr} {xs : List Str} (h : strsB K ta xs = true) (H : Hp) : SqT K H ta (xs.map V.str) := by
  unfold strsB at h
  cases he : itsOf K ta with
  | none => rw [he] at h; cases h
  | some l => rw [he] at h; exact sq_of he (strB_ok h) H
/-- any value is a truth value, or not -/
def rIsA (neg : Bool) : R2 := fun x y H Q => ∃ c, y = .bl c ∧ Q (.bl (if neg then !decide (x = .bl c) else decide (x = .bl c))) H
theorem plainIs_bool {x : V} {v : Value} (r : RelV x v) (c : Bool) : plainIs v (.bool c) = true := by
  cases x <;> first
    | (cases r; rfl)
    | (obtain ⟨t, rfl⟩ := r; rfl)
theorem eq_bool {x : V} {v : Value} (r : RelV x v) (c : Bool) : (v == Value.bool c) = decide (x = .bl c) := by
  cases x with
  | bl b =>
    cases r
    cases b <;> cases c <;> rfl
  | _ =>
    first
      | (cases r; rfl)
      | (obtain ⟨t, rfl⟩ := r; rfl)
theorem op_isA {X : Cx} : OpR X (compareOp .Is) (rIsA false) := by
  intro pins s σ H x y v u Q I rx ry h
  obtain ⟨c, rfl, q⟩ := h
  cases ry
  refine wpAny_is_plain (plainIs_bool rx c) ⟨.bl _, H, I, ?_, q⟩
  rw [eq_bool rx]
  rfl
theorem op_notA {X : Cx} : OpR X (compareOp .IsNot) (rIsA true) := by
  intro pins s σ H x y v u Q I rx ry h
  obtain ⟨c, rfl, q⟩ := h
  cases ry
  refine wpAny_isNot_plain (plainIs_bool rx c) ⟨.bl _, H, I, ?_, q⟩
  rw [eq_bool rx]
  rfl
/-- an older value, put under a key -/
theorem Bld.putG {S : List Addr} {H0 H H1 : Hp} {D : Addr} {n : Nat} {es : List (PyData × PyData)} (h : Bld H0 H D n es) (k : Keep S H H1) (hs : ∀ a ∈ S, H0 a ≠ none) {v : V} {d : PyData} (r : Re (del (news H0 H1) D) n v d) (key : Key) (hl : es.length < 9000) :
    ∃ H2, DPut H1 D (kV key) v H2 ∧ Bld H0 H2 D n (putE es key d) ∧ Keep (D :: S) H H2 ∧ ∀ b, b ≠ D → H2 b = H1 b := by
  obtain ⟨kvs, h1, h2, h3, h4, h5⟩ := (h.keep k hs).li
  have hlk := pd_len h5
  refine ⟨_, DPut.k h1 (sz5l (by omega)), ⟨_, upd_same, h2, putK_nd h3, ?_, ?_⟩, (k.sub fun b hb => List.mem_cons_of_mem _ hb).mut (by simp), fun b hb => upd_ne hb⟩
  · have : (putK kvs key v).length ≤ kvs.length + 1 := by unfold putK; split <;> simp
    omega
  · have s1 : Same (del (news H0 H1) D) (del (news H0 (upd H1 D (.dK (putK kvs key v)))) D) := fun b o e => by
      by_cases hb : b = D
      · subst hb; rw [del_at] at e; cases e
      · rw [del_ne hb] at e ⊢
        cases h0 : H0 b with
        | some u => rw [news_no h0] at e; cases e
        | none => rw [news_at h0] at e ⊢; rw [upd_ne hb]; exact e
    exact putE_pd (pd_imp h5 fun p q _ _ r => ⟨r.1, r.2.imp s1⟩) (r.imp s1)
/-- what was there before D was made does not hold it -/
theorem news_old {S : List Addr} {H0 H H1 : Hp} {D : Addr} (hD : H D = none) (k : Keep S H H1) (hs : ∀ a ∈ S, H0 a ≠ none) : Same (news H0 H) (del (news H0 H1) D) := fun b o e => by
  have hb : b ≠ D := fun z => by
    subst z
    cases h0 : H0 b with
    | some u => rw [news_no h0] at e; cases e
    | none => rw [news_at h0, hD] at e; cases e
  rw [del_ne hb]
  exact news_keep k hs _ _ e
/-- [x for x in texts if ..] -/
theorem lcF_texts {K : PySem.W.Frag} {a : Addr} {xs : List Str} {tt : TT} {j : Nat} {σ : L2.St} {H1 : Hp} {Q : VK} (p : Str → Bool) (ha : H1 a = some (.lst (xs.map V.str))) (hz : xs.length ≤ 1000) (hj : j < σ.length)
    (step : ∀ x H' (N : Bool → Hp → Prop), x ∈ xs → Same H1 H' → (∀ H4, Same H' H4 → N (p x) H4) → tt ((wipe σ [j]).set j (some (.str x))) H' N)
    (done : ∀ D H', H1 D = none → Same H1 H' → H' D = some (.lst ((xs.filter p).map V.str)) → Q (.ref D) H') : LcR (Itl K a) (gName j) tt (tVar j) [j] σ H1 Q := by
  refine lc_itR (walk_list (xs := xs.map V.str)) (fun D i H' => Same H1 H' ∧ H' D = some (.lst (((xs.take i).filter p).map V.str))) (fun D hD => ⟨same_new hD _, by rw [upd_same]; rfl⟩) (fun D i H' _ _ h => SqL.of (h.1 _ _ ha)) ?_ ?_
  · rintro D i x H H' hD hi ⟨s, e⟩ ⟨rfl, hx⟩
    rw [List.getElem?_map, Option.map_eq_some_iff] at hx
    obtain ⟨z, hz', rfl⟩ := hx
    have hi' : i < xs.length := by rw [List.length_map] at hi; exact hi
    refine ⟨wipe1, step z _ _ (List.mem_of_getElem? hz') s fun H4 s4 => ?_⟩
    have ht : xs.take (i + 1) = xs.take i ++ [z] := by rw [List.take_succ, hz']; rfl
    rw [ht, List.filter_append]
    split
    · rename_i hp
      refine ⟨.str z, ?_, _, s4 _ _ e, ?_, same_mut (s.trans s4) hD, ?_⟩
      · show (((σ.set j none).set j (some _)))[j]? = _
        rw [List.getElem?_set_self (by rw [List.length_set]; exact hj)]
      · rw [List.length_map]
        refine sz5l (Nat.lt_of_le_of_lt (List.length_filter_le _ _) ?_)
        rw [List.length_take]
        omega
      · rw [upd_same, List.filter_cons_of_pos hp]
        simp
    · rename_i hp
      refine ⟨s.trans s4, ?_⟩
      rw [List.filter_cons_of_neg (by simpa using hp)]
      simpa using s4 _ _ e
  · rintro D H' hD ⟨s, e⟩
    rw [List.take_of_length_le (by simp)] at e
    exact done D H' hD s e
/-- a display of one pair -/
theorem Bld.first {S : List Addr} {H0 H H1 : Hp} {D : Addr} {n : Nat} (h : Bld H0 H D n []) (e : H D = some (.dK [])) (k : Keep S H H1) (hs : ∀ a ∈ S, H0 a ≠ none) (hD : D ∉ S) (dm : Dom H0 H) {v : V} {d : PyData} (r : Re (news H H1) n v d) (key : Key) :
    H1 D = some (.dK []) ∧ Bld H0 (upd H1 D (.dK (mergeK [] [(key, v)]))) D n [(kD key, d)] := by
  have e1 := k _ _ e hD
  obtain ⟨H2, g1, g2, _, _⟩ := h.put k hs dm r key (by simp)
  have e2 : H2 = upd H1 D (.dK (mergeK [] [(key, v)])) := by
    rcases g1 with ⟨kvs, k', a1, a2, _, a3⟩ | ⟨kvs, k', b, a1, _⟩
    · rw [e1] at a1
      cases a1
      have : k' = key := by
        cases k' <;> cases key <;> first | (cases a2; rfl) | cases a2
      rw [a3, this]
      rfl
    · rw [e1] at a1; cases a1
  rw [← e2]
  exact ⟨e1, g2⟩
end SC

set_option Elab.async false
set_option linter.all false
set_option maxRecDepth 100000
set_option maxHeartbeats 4000000
/-! Schemacheck: for k in D of a dict of the module; list.count of a text. -/
namespace SC
open PySem L2 PySem.Calls PyProof.Rows
/-! ### a dict of the module, walked -/
def Itm (ks : List Str) : It :=
  ⟨fun i H => i < ks.length, fun i H x H' => H' = H ∧ ∃ z, ks[i]? = some z ∧ x = .str z, fun i H => ks.length ≤ i⟩
/-- its keys, in order -/
structure KeysM (es : Array DictEntry) (ks : List Str) : Prop where
  sz : es.size = ks.length
  at_ : ∀ i (hi : i < es.size), ∃ z t, ks[i]? = some z ∧ es[i].key = .str z t
theorem turn_kd {P : Program} {w : World} {K : PySem.W.Frag} {tg : Expr} {d : Addr} {es : Array DictEntry} {n : Nat} {ks : List Str} (it : Addr) (D : KDict K w d es n) (hk : KeysM es ks) : Turn P w K tg (Itm ks) [it] it (fun i h => h.IsKeyIter it d i es.size n) where
  mem := by simp
  obj := fun i h st b hb => by
    have e : b = it := by simpa using hb
    subst e
    obtain ⟨oi, e, c, dd⟩ := st
    exact ⟨oi, e, fun v z => by rw [dd] at z; cases z⟩
  keep := fun i h h' st k => st.at fun oi e => k it (by simp) oi e
  item := by
    intro X hP hw hK hc i pins s σ H E I hf st hg
    subst hP hw hK
    obtain ⟨f0, f1, f2, f3, f4, f5⟩ := hf it (by simp)
    have hm : s.heap.DictRaw d es n := ⟨_, I.kIn _ _ D.at_, ⟨rfl, rfl, rfl⟩, rfl⟩
    have hi : i < es.size := by rw [hk.sz]; exact hg
    refine wpAny_pyNext_keys_item_raw st hm hi fun h' st' sb => ?_
    have I1 : Inv X pins σ H { s with heap := h' } := I.turned (t' := s.toks) (fun b ob hb e => (sb.2 b hb).trans e) f0 f1 f3 f4 f5
    obtain ⟨oi, e, c, dd⟩ := id st'
    obtain ⟨z, t, hz, hx⟩ := hk.at_ i hi
    exact ⟨es[i].key, rfl, go_of (s := { s with heap := h' }) e c dd (by decide) ⟨.str z, H, I1, ⟨t, hx⟩, ⟨rfl, z, hz, rfl⟩, st', fun b hb => (hf b hb).1⟩⟩
  done := by
    intro X hP hw hK hc i pins s σ H E I hf st hg
    subst hP hw hK
    obtain ⟨f0, f1, f2, f3, f4, f5⟩ := hf it (by simp)
    have hm : s.heap.DictRaw d es n := ⟨_, I.kIn _ _ D.at_, ⟨rfl, rfl, rfl⟩, rfl⟩
    exact wpAny_pyNext_keys_end_raw (I.ok.hd hc) st hm (by rw [hk.sz]; exact hg) fun h' eb => ⟨rfl, I.turned (t' := s.toks) (fun b ob hb e => eb b ob hb e) f0 f1 f3 f4 f5⟩
  self := fun A i s Q E st h => wpAny_pyIter_keyiter st h
def iKd (d : Addr) (ks : List Str) (td : TE) : TI := fun σ H R => td σ H fun x H1 => x = .ref d ∧ R (Itm ks) H1
theorem pi_kd {X : Cx} {K : PySem.W.Frag} {w : World} {tg e : Expr} {td : TE} {d : Addr} {es : Array DictEntry} {n : Nat} {ks : List Str} (hK : X.K = K) (hw : X.w = w) (D : KDict K w d es n) (hk : KeysM es ks) (he : PE X e td) : PI X tg e (iKd d ks td) := by
  subst hK hw
  refine ⟨fun pins s σ H R I h => ?_⟩
  refine thn (he.run pins s σ H _ I h) fun u s1 ⟨x, H1, I1, rx, ex, q⟩ => ?_
  subst ex
  obtain rfl : u = Value.ref d := rx
  exact wpAny_pyIter_dict_raw D.low ⟨_, I1.kIn _ _ D.at_, ⟨rfl, rfl, rfl⟩, rfl⟩ (pi_one (tk := s1.toks) I1 _ (turn_kd _ D hk) ⟨_, Heap.get?_push_size _ rfl, rfl, rfl⟩ q)
theorem walk_kd {ks : List Str} : Walk (Itm ks) ks.length (fun H => True) (fun i H x H' => H' = H ∧ ∃ z, ks[i]? = some z ∧ x = .str z) :=
  ⟨fun _ _ hi q => hi, fun _ q => Nat.le_refl _, fun _ _ _ _ _ _ y => y⟩
/-! ### list.count of a text -/
theorem strs_count {k : Str} : ∀ {us : List Value} {xs : List Str}, StrsAre us xs → us.countP (isStrOf k) = xs.count k
  | _, _, .nil => rfl
  | _, _, .cons n u h => by
    have ih := strs_count (k := k) h
    rw [List.countP_cons, List.count_cons, ih]
    rfl
def rCntS (K : PySem.W.Frag) : V → List V → Hp → VK → Prop := fun x xs H Q => ∃ (p : Addr) (ys : List Str) (k : Str), x = .ref p ∧ xs = [.str k] ∧ SqL K H p (ys.map V.str) ∧ Q (.int (ys.count k : Nat)) H
theorem mt_scount {X : Cx} : MtR X "list.count" (rCntS X.K) := by
  intro pins s σ H x xs v us Q I rx rxs h
  obtain ⟨p, ys, k, rfl, rfl, hs, q⟩ := h
  cases rx
  obtain ⟨u, rfl, ru⟩ := rxs.one
  obtain ⟨t, rfl⟩ := ru
  obtain ⟨its, rv, ⟨⟨cls, dd, data, sl⟩, n, ho, hc, hdn, hd⟩, hlen⟩ := I.list hs
  simp only at hc hd
  subst hc hd
  have hi := strs_of_vals rv
  refine call_meets PySem.F.slot_list_count ⟨_, ho, rfl⟩ PySem.F.entry_list_count (PySem.F.args_list_count_2 _ _)
    (SeqAt.list_countAt p its.toArray n dd sl (.str k t) (isStrOf k)) ⟨ho, fun y hy => (eq_isStrOf k t hi y (by simpa using hy)).at _ _, ?_⟩
  have ec : its.toArray.toList.countP (isStrOf k) = ys.count k := strs_count hi
  refine ⟨.int (ys.count k : Nat), H, I.tok _, ⟨s.toks, ?_⟩, q⟩
  show Value.int ((its.toArray.toList.countP (isStrOf k) : Nat) : Int) s.toks = Value.int ((ys.count k : Nat) : Int) s.toks
  rw [ec]
theorem mtS {X : Cx} {K : PySem.W.Frag} (h : X.K = K) : MtR X "list.count" (rCntS K) := by subst h; exact mt_scount
end SC

set_option Elab.async false
set_option linter.all false
set_option maxRecDepth 100000
/-! SJ: list.count of a path in a list of paths; == of nested lists, tuples and dicts. -/
namespace SC
open PySem PySem.Spec PyProof.Rows L2
theorem plain_key (k : Key) : (kD k).plain = true := by cases k <;> rfl
theorem plain_path (p : List Key) : (pathD p).plain = true := by
  show PyData.plainAll (p.map kD) = true
  induction p with
  | nil => rfl
  | cons k r ih =>
    show ((kD k).plain && PyData.plainAll (r.map kD)) = true
    rw [plain_key, ih]
    rfl
theorem plain_paths (ps : List (List Key)) : PyData.plainAll (ps.map pathD) = true := by
  induction ps with
  | nil => rfl
  | cons k r ih =>
    show ((pathD k).plain && PyData.plainAll (r.map pathD)) = true
    rw [plain_path, ih]
    rfl
def rCntP (K : PySem.W.Frag) : V → List V → Hp → VK → Prop := fun x xs H Q => ∃ (a t : Addr) (vs : List V) (ps : List (List Key)) (p : List Key), x = .ref a ∧ xs = [.ref t] ∧ SqL K H a vs ∧ DpAll K H vs (ps.map pathD) ∧ SqT K H t (p.map kV) ∧ Q (.int (ps.countP (fun y => decide (y = p)) : Nat)) H
theorem count_paths {p : List Key} (ps : List (List Key)) : (ps.map pathD).countP (fun y => PyData.eqv y (pathD p)) = ps.countP fun y => decide (y = p) := by
  rw [List.countP_map]
  refine List.countP_congr fun x _ => ?_
  simp only [Function.comp, eqv_path]
theorem mt_pcount {X : Cx} (hu : X.A.units + 65 < cLine) : MtR X "list.count" (rCntP X.K) := by
  intro pins s σ H x xs v us Q I rx rxs h
  obtain ⟨a, t, vs, ps, p, rfl, rfl, hs, hd, ht, q⟩ := h
  cases rx
  obtain ⟨u, rfl, ru⟩ := rxs.one
  obtain ⟨as, r1⟩ := Dp.reads I (pathD p) (.ref t) u (.tup ht (Dp_key p)) ru
  obtain ⟨its, rv, ⟨o, n, ho, hc, hdn, hd2⟩, hlen⟩ := I.list hs
  obtain ⟨bs, r2⟩ := Dp.readsAll I _ _ its hd rv
  refine SeqAt.count_list_data (vs := its.toArray) ⟨o, ho, hc, n, hd2⟩ (by simpa using r2) r1 (plain_paths ps) (plain_path p) ?_ ?_
  · have := depth_path p
    omega
  · rw [count_paths]
    exact ⟨.int (ps.countP (fun y => decide (y = p)) : Nat), H, I.tok _, ⟨s.toks, rfl⟩, q⟩
theorem mtP {X : Cx} {K : PySem.W.Frag} (h : X.K = K) (hu : X.A.units + 65 < cLine) : MtR X "list.count" (rCntP K) := by subst h; exact mt_pcount hu
/-- equal: leaves, lists, tuples, dicts, nested at most n deep -/
def EqT (K : PySem.W.Frag) (H : Hp) : Nat → V → V → Prop
  | 0, x, y => x = y ∧ flatB x = true
  | n + 1, x, y => (x = y ∧ flatB x = true) ∨ (∃ a b xs ys, x = .ref a ∧ y = .ref b ∧ SqL K H a xs ∧ SqL K H b ys ∧ Paired (EqT K H n) xs ys) ∨
    (∃ a b xs ys, x = .ref a ∧ y = .ref b ∧ SqT K H a xs ∧ SqT K H b ys ∧ Paired (EqT K H n) xs ys) ∨
    ∃ a b ks ls, x = .ref a ∧ y = .ref b ∧ H a = some (.dK ks) ∧ H b = some (.dK ls) ∧ ks.length = ls.length ∧ ∀ p ∈ ks, ∃ u, valV ls p.1 = some u ∧ EqT K H n p.2 u
theorem kv_mem {ks : List (Key × V)} {va : List (Key × Value)} (h : KV ks va) {k : Key} {v : Value} (hm : (k, v) ∈ va) : ∃ p ∈ ks, p.1 = k ∧ RelV p.2 v := by
  unfold KV at h
  induction h with
  | nil => cases hm
  | @cons p q ps qs h1 _ ih =>
    rcases List.mem_cons.mp hm with rfl | hm
    · exact ⟨p, by simp, h1.1, h1.2⟩
    · obtain ⟨z, hz, h2⟩ := ih hm
      exact ⟨z, by simp [hz], h2⟩
theorem items_tree {P : Program} {w : World} {s : Shared} {n : Nat} {F : V → V → Prop} (ih : ∀ x y v u, F x y → RelV x v → RelV y u → PySem.W.EqTree P w s n v u true) {xs ys : List V} (hp : Paired F xs ys) :
    ∀ {us ws : List Value}, Vals xs us → Vals ys ws → ∀ j (h1 : j < us.length) (h2 : j < ws.length), PySem.W.EqTree P w s n us[j] ws[j] true := by
  induction hp with
  | nil =>
    intro us ws r1 r2 j h1 h2
    cases r1
    exact absurd h1 (Nat.not_lt_zero j)
  | cons h _ k =>
    intro us ws r1 r2 j h1 h2
    cases r1 with
    | cons a1 b1 =>
      cases r2 with
      | cons a2 b2 =>
        cases j with
        | zero => exact ih _ _ _ _ h a1 a2
        | succ j => exact k b1 b2 j (Nat.lt_of_succ_lt_succ h1) (Nat.lt_of_succ_lt_succ h2)
theorem all_true (n : Nat) : ((List.range n).all fun _ => true) = true := List.all_eq_true.mpr fun _ _ => rfl
theorem eqT_tree {X : Cx} {pins : List (Addr × Obj)} {σ : L2.St} {H : Hp} {s : Shared} (I : Inv X pins σ H s) : ∀ (n : Nat) (x y : V) (v u : Value), EqT X.K H n x y → RelV x v → RelV y u → PySem.W.EqTree X.prog X.w s n v u true
  | 0, x, y, v, u, ⟨e, f⟩, rx, ry => by
    subst e
    exact .leaf fun A _ => eqAt_same rx ry f
  | n + 1, x, y, v, u, h, rx, ry => by
    rcases h with ⟨rfl, f⟩ | ⟨a, b, xs, ys, rfl, rfl, ha, hb, hp⟩ | ⟨a, b, xs, ys, rfl, rfl, ha, hb, hp⟩ | ⟨a, b, ks, ls, rfl, rfl, ha, hb, hl, hp⟩
    · exact .leaf fun A _ => eqAt_same rx ry f
    · cases (show v = Value.ref a from rx)
      cases (show u = Value.ref b from ry)
      by_cases hab : a = b
      · subst hab; exact .same
      obtain ⟨us, r1, p1, _⟩ := I.list ha
      obtain ⟨ws, r2, p2, _⟩ := I.list hb
      have hsz : us.toArray.size = ws.toArray.size := by
        rw [List.size_toArray, List.size_toArray, ← r1.length, ← r2.length]
        exact Paired.length hp
      have t := PySem.W.EqTree.lists (n := n) (e := fun _ => true) hab p1.isList p2.isList hsz fun j h1 h2 => by
        have k := items_tree (eqT_tree I n) hp r1 r2 j (by simpa using h1) (by simpa using h2)
        simpa using k
      rw [all_true] at t
      exact t
    · cases (show v = Value.ref a from rx)
      cases (show u = Value.ref b from ry)
      by_cases hab : a = b
      · subst hab; exact .same
      obtain ⟨us, r1, p1, _⟩ := I.tuple ha
      obtain ⟨ws, r2, p2, _⟩ := I.tuple hb
      have hsz : us.toArray.size = ws.toArray.size := by
        rw [List.size_toArray, List.size_toArray, ← r1.length, ← r2.length]
        exact Paired.length hp
      have t := PySem.W.EqTree.tuples (n := n) (e := fun _ => true) hab p1 p2 fun j h1 h2 => by
        have k := items_tree (eqT_tree I n) hp r1 r2 j (by simpa using h1) (by simpa using h2)
        simpa using k
      rw [all_true, hsz] at t
      simpa using t
    · cases (show v = Value.ref a from rx)
      cases (show u = Value.ref b from ry)
      by_cases hab : a = b
      · subst hab; exact .same
      obtain ⟨_, ya, va, ra, da⟩ := (show ObjOk X.prog X.w H s.heap a (.dK ks) from I.hok a _ ha)
      obtain ⟨_, yb, vb, rb, db⟩ := (show ObjOk X.prog X.w H s.heap b (.dK ls) from I.hok b _ hb)
      have hit : ∀ k v, (k, v) ∈ va → ∃ y, valueAt vb k = some y ∧ PySem.W.EqTree X.prog X.w s n v y true := fun k v hm => by
        obtain ⟨p, hpm, rfl, rp⟩ := kv_mem ra hm
        obtain ⟨u, e, f⟩ := hp p hpm
        have rr : RelO (some u) (valueAt vb p.1) := by rw [← e]; exact rb.val p.1
        obtain ⟨y, hy, ry⟩ := rr.some_of
        exact ⟨y, hy, eqT_tree I n _ _ _ _ f rp ry⟩
      have t := PySem.W.EqTree.dicts (n := n) (knd := mixKind X.prog X.w) (e := fun _ => true) hab ya yb da db fun k v y hm hv => by
        obtain ⟨y', hy', ht⟩ := hit k v hm
        rw [hv] at hy'
        cases hy'
        exact ht
      have e : va.length = vb.length := by rw [← ra.length, ← rb.length]; exact hl
      have e2 : (va.all fun p => (valueAt vb p.1).isSome && true) = true := List.all_eq_true.mpr fun p hpm => by
        obtain ⟨y, hy, _⟩ := hit p.1 p.2 hpm
        rw [hy]
        rfl
      rw [e2, e] at t
      simpa using t
/-- xs == ys, two lists that are equal -/
def rEqTL (K : PySem.W.Frag) : R2 := fun x y H Q => ∃ n a b xs ys, n ≤ 50 ∧ x = .ref a ∧ y = .ref b ∧ SqL K H a xs ∧ SqL K H b ys ∧ Paired (EqT K H n) xs ys ∧ Q (.bl true) H
theorem op_eqTL {X : Cx} (hu : X.A.units + 65 < cLine) : OpR X (compareOp .Eq) (rEqTL X.K) := by
  intro pins s σ H x y v u Q I rx ry h
  obtain ⟨n, a, b, xs, ys, hn, rfl, rfl, ha, hb, hp, q⟩ := h
  cases (show v = Value.ref a from rx)
  cases (show u = Value.ref b from ry)
  obtain ⟨us, r1, p1, _⟩ := I.list ha
  obtain ⟨ws, r2, p2, _⟩ := I.list hb
  have hsz : us.toArray.size = ws.toArray.size := by
    rw [List.size_toArray, List.size_toArray, ← r1.length, ← r2.length]
    exact Paired.length hp
  refine PySem.W.eq_listsT (n := n) (e := fun _ => true) p1.isList p2.isList hsz (fun j h1 h2 => ?_) (by omega) ?_
  · have k := items_tree (eqT_tree I n) hp r1 r2 j (by simpa using h1) (by simpa using h2)
    simpa using k
  · rw [all_true]
    exact ⟨.bl true, H, I, rfl, q⟩
theorem eqTLK {X : Cx} {K : PySem.W.Frag} (h : X.K = K) (hu : X.A.units + 65 < cLine) : OpR X (compareOp .Eq) (rEqTL K) := by subst h; exact op_eqTL hu
end SC

set_option Elab.async false
set_option linter.all false
set_option maxRecDepth 100000
set_option maxHeartbeats 4000000
/-! SOD: a dict whose keys are texts and None, made by a display, known from then on, never written. -/
namespace SC
open PySem PySem.Spec PyProof.Rows L2
def okV : Option Str → V
  | none => .non
  | some x => .str x
def okL : Option Str → PySem.Leaf
  | none => .none
  | some x => .text x
theorem okL_inj : ∀ {a b : Option Str}, okL a = okL b → a = b
  | none, none, _ => rfl
  | none, some _, e => nomatch e
  | some _, none, e => nomatch e
  | some _, some _, e => by injection e with e; rw [e]
theorem okV_is {P : Program} {w : World} {k : Option Str} {u : Value} (r : RelV (okV k) u) : (leafKind P w).is (okL k) u = true := by
  cases k with
  | none => obtain rfl : u = Value.none := r; rfl
  | some x =>
    obtain ⟨t, e⟩ := (show ∃ t, u = Value.str x t from r)
    subst e
    show Value.isStrOf x (.str x t) = true
    simp [Value.isStrOf]
theorem okV_rel {P : Program} {w : World} {k : Option Str} {u : Value} (h : (leafKind P w).is (okL k) u = true) : RelV (okV k) u := by
  cases k with
  | none =>
    have h : PySem.Leaf.isOf .none u = true := h
    cases u <;> first | rfl | exact absurd h Bool.false_ne_true
  | some x =>
    obtain ⟨t, rfl⟩ := Value.isStrOf_shape (show Value.isStrOf x u = true from h)
    exact ⟨t, rfl⟩
abbrev OV : List (Option Str × V) → List (PySem.Leaf × Value) → Prop := Paired fun p q => okL p.1 = q.1 ∧ RelV p.2 q.2
/-- what the object is -/
structure OddO (P : Program) (w : World) (o : Obj) (kvs : List (Option Str × V)) : Prop where
  cls : o.ExactDict
  dat : ∃ es ep vs, o.data = .dict es ep ∧ KeysOf (leafKind P w) es ∧ Pairs (leafKind P w) es.toList vs ∧ (vs.map (·.1)).Nodup ∧ OV kvs vs
def oddH (o : Obj) : HO := .frz o (.ext fun _ => True)
structure IsOdd (P : Program) (w : World) (H : Hp) (a : Addr) (kvs : List (Option Str × V)) : Prop where
  li : ∃ o, (a == sysModules) = false ∧ H a = some (oddH o) ∧ OddO P w o kvs
theorem IsOdd.imp {P : Program} {w : World} {H H' : Hp} {a : Addr} {kvs : List (Option Str × V)} (s : Same H H') (h : IsOdd P w H a kvs) : IsOdd P w H' a kvs := by
  obtain ⟨o, h1, h2, h3⟩ := h.li
  exact ⟨o, h1, s _ _ h2, h3⟩
theorem IsOdd.dict {X : Cx} {pins : List (Addr × Obj)} {σ : L2.St} {H : Hp} {s : Shared} {a : Addr} {kvs : List (Option Str × V)} (I : Inv X pins σ H s) (h : IsOdd X.prog X.w H a kvs) : (a == sysModules) = false ∧ ∃ vs, OV kvs vs ∧ s.heap.DictOf (leafKind X.prog X.w) a vs := by
  obtain ⟨o, h1, h2, h3⟩ := h.li
  obtain ⟨e, _⟩ := (show ObjOk X.prog X.w H s.heap a (.frz o (.ext fun _ => True)) from I.hok a _ h2)
  obtain ⟨es, ep, vs, d1, d2, d3, d4, d5⟩ := h3.dat
  exact ⟨h1, vs, d5, o, es, ep, e, h3.cls, d1, d2, d3, d4⟩
/-! ### the display -/
theorem carries_odd {P : Program} {w : World} : ∀ {kvs : List (Option Str × V)} {ws : List (Value × Value)}, VV (kvs.map fun kv => (okV kv.1, kv.2)) ws → ∃ rs, Carries (leafKind P w) ws rs ∧ OV kvs rs
  | [], _, r => by rw [List.map_nil] at r; cases r; exact ⟨[], True.intro, .nil⟩
  | p :: kvs, _, r => by
    rw [List.map_cons] at r
    cases r with
    | @cons a b as bs h t =>
      obtain ⟨rs, c, q⟩ := carries_odd (P := P) (w := w) t
      obtain ⟨b1, b2⟩ := b
      exact ⟨(okL p.1, b2) :: rs, ⟨okV_is h.1, rfl, c⟩, .cons ⟨rfl, h.2⟩ q⟩
theorem ov_keys : ∀ {kvs : List (Option Str × V)} {vs : List (PySem.Leaf × Value)}, OV kvs vs → vs.map (·.1) = kvs.map fun p => okL p.1
  | _, _, .nil => rfl
  | _, _, .cons h t => by rw [List.map_cons, List.map_cons, ov_keys t, h.1]
theorem merged_nd {K : Type} [DecidableEq K] : ∀ {more kvs : List (K × Value)}, ((kvs ++ more).map (·.1)).Nodup → merged kvs more = kvs ++ more
  | [], kvs, _ => by simp [merged]
  | p :: r, kvs, h => by
    have hn : (kvs.any fun kv => kv.1 = p.1) = false := by
      rw [List.any_eq_false]
      intro x hx
      simp only [decide_eq_true_eq]
      intro e
      rw [List.map_append, List.nodup_append] at h
      exact h.2.2 _ (List.mem_map.mpr ⟨x, hx, rfl⟩) _ (List.mem_map.mpr ⟨p, by simp, rfl⟩) e
    have e1 : stored kvs p.1 p.2 = kvs ++ [p] := by
      unfold stored
      rw [if_neg (by rw [hn]; simp)]
    show merged (stored kvs p.1 p.2) r = _
    rw [e1, merged_nd (by rw [List.append_assoc]; exact h), List.append_assoc]
    rfl
def tDispO (P : Program) (w : World) (trs : List (TE × TE)) : TE := fun σ H Q => ∀ p, H p = none → tPairs trs σ (upd H p (.dK [])) fun ps H2 => H2 p = some (.dK []) ∧ ∃ kvs : List (Option Str × V), ps = kvs.map (fun kv => (okV kv.1, kv.2)) ∧ (kvs.map (·.1)).Nodup ∧ kvs.length ≤ 15 ∧
  ∀ o, (p == sysModules) = false → OddO P w o kvs → Q (.ref p) (upd H2 p (oddH o))
theorem pe_dispO {X : Cx} {P : Program} {w : World} {pos : Pos} {keys : List (Option Expr)} {values : List Expr} {trs : List (TE × TE)} (hP : X.prog = P) (hw : X.w = w) (h : L2.PPs X pos keys values trs) (hall : keys.all (·.isSome) = true) (hl : keys.length = values.length) (h0 : keys ≠ [])
    (h15 : keys.length ≤ 15) : PE X (.Dict keys values pos) (tDispO P w trs) := by
  subst hP hw
  refine ⟨fun pins s σ H Q I q => ?_⟩
  have hn := I.hok.fresh (Nat.le_refl s.heap.objs.size)
  have I1 := I.laid (a := s.heap.objs.size) (o := .dK []) (h' := s.heap.push { cls := .type "dict", data := .dict #[] }) (t' := s.toks) (fun _ _ q => Heap.get?_push_of_some _ q) (Nat.le_refl _) (dk_empty s.heap I.big)
  refine wpAny_Dict_walk (knd := leafKind X.prog X.w) hall hl h0 h15 (thn (h.run pins _ σ _ _ I1 (q _ hn)) fun ws s2 ⟨ps, H2, I2, rel, e, kvs, ep, nd, lk, q2⟩ => ?_)
  subst ep
  obtain ⟨rs, c, rk⟩ := carries_odd (P := X.prog) (w := X.w) rel
  obtain ⟨z, hd, vs0, r0, dd⟩ := dk_of I2.hok e
  cases r0
  have dd0 : s2.heap.DictOf (leafKind X.prog X.w) s.heap.objs.size [] := by
    obtain ⟨o, es, ep, h1, h2, h3, h4, h5, h6⟩ := dd
    have he : es.toList = [] := by
      have := h5.length
      simpa using this
    have he2 : es = #[] := by
      cases es with
      | mk l => simp at he; rw [he]
    subst he2
    exact ⟨o, #[], ep, h1, h2, h3, fun e hm => absurd hm (by simp), .nil, List.nodup_nil⟩
  refine ⟨rs, c, dd0, fun h' dd' hs => ?_⟩
  have hnd : (rs.map (·.1)).Nodup := by
    rw [ov_keys rk, show (fun p : Option Str × V => okL p.1) = okL ∘ (·.1) from rfl, ← List.map_map]
    exact List.pairwise_map.mpr (List.Pairwise.imp (fun hab e => hab (okL_inj e)) nd)
  rw [merged_nd (kvs := []) (by simpa using hnd), List.nil_append] at dd'
  obtain ⟨o, es, ep, h1, h2, h3, h4, h5, h6⟩ := dd'
  have O : OddO X.prog X.w o kvs := ⟨h2, es, ep, rs, h3, h4, h5, h6, rk⟩
  refine ⟨.ref s.heap.objs.size, _, ?_, rfl, q2 o hd O⟩
  exact d_write I2 (by rw [e]; exact True.intro) hs ⟨o, h1⟩ ⟨h1, True.intro, ⟨o, h1⟩, fun _ _ _ _ => True.intro⟩
/-! ### walked -/
def Ito (kvs : List (Option Str × V)) : It :=
  ⟨fun i H => i < kvs.length, fun i H x H' => H' = H ∧ ∃ k v, kvs[i]? = some (k, v) ∧ x = okV k, fun i H => kvs.length ≤ i⟩
theorem ov_len {kvs : List (Option Str × V)} {vs : List (PySem.Leaf × Value)} (h : OV kvs vs) : kvs.length = vs.length := Paired.length h
theorem ov_get : ∀ {kvs : List (Option Str × V)} {vs : List (PySem.Leaf × Value)} {i : Nat} {k : Option Str} {v : V}, OV kvs vs → kvs[i]? = some (k, v) → ∃ u, vs[i]? = some (okL k, u) ∧ RelV v u
  | _, _, 0, k, v, .cons (b := b) h t, e => by
    simp at e
    subst e
    obtain ⟨b1, b2⟩ := b
    obtain ⟨h1, h2⟩ := h
    simp only at h1 h2
    subst h1
    exact ⟨b2, rfl, h2⟩
  | _, _, i + 1, k, v, .cons _ t, e => by
    simp at e
    obtain ⟨u, h1, h2⟩ := ov_get t e
    exact ⟨u, by simpa using h1, h2⟩
theorem turn_odd {P : Program} {w : World} {K : PySem.W.Frag} {tg : Expr} {d : Addr} {o : Obj} {es : Array DictEntry} {n : Nat} {vs : List (PySem.Leaf × Value)} {kvs : List (Option Str × V)} (it : Addr) (hc : o.ExactDict) (hdat : o.data = .dict es n) (hp : Pairs (leafKind P w) es.toList vs) (hv : OV kvs vs) :
    Turn P w K tg ⟨fun i H => H d = some (oddH o) ∧ i < kvs.length, fun i H x H' => H' = H ∧ ∃ k v, kvs[i]? = some (k, v) ∧ x = okV k, fun i H => H d = some (oddH o) ∧ kvs.length ≤ i⟩ [it] it (fun i h => h.IsKeyIter it d i es.size n) where
  mem := by simp
  obj := fun i h st b hb => by
    have e : b = it := by simpa using hb
    subst e
    obtain ⟨oi, e, c, dd⟩ := st
    exact ⟨oi, e, fun v z => by rw [dd] at z; cases z⟩
  keep := fun i h h' st k => st.at fun oi e => k it (by simp) oi e
  item := by
    intro X hP hw hK hcalm i pins s σ H E I hf st hg
    subst hP hw hK
    obtain ⟨hH, hi⟩ := hg
    obtain ⟨f0, f1, f2, f3, f4, f5⟩ := hf it (by simp)
    obtain ⟨he, _⟩ := (show ObjOk X.prog X.w H s.heap d (.frz o (.ext fun _ => True)) from I.hok d _ hH)
    have hm : s.heap.DictRaw d es n := ⟨o, he, hc, hdat⟩
    have hsz : es.size = kvs.length := by
      have h1 := hp.length
      have h2 := ov_len hv
      simp at h1
      omega
    have hi2 : i < es.size := by omega
    refine wpAny_pyNext_keys_item_raw st hm hi2 fun h' st' sb => ?_
    have I1 : Inv X pins σ H { s with heap := h' } := I.turned (t' := s.toks) (fun b ob hb e => (sb.2 b hb).trans e) f0 f1 f3 f4 f5
    obtain ⟨oi, e, c, dd⟩ := id st'
    obtain ⟨u, hu, ru⟩ := ov_get hv (show kvs[i]? = some ((kvs[i]).1, (kvs[i]).2) from List.getElem?_eq_getElem hi)
    have hk := (hp.get? (e := es[i]) (by simp [hi2]) hu).1
    exact ⟨es[i].key, rfl, go_of (s := { s with heap := h' }) e c dd (by decide) ⟨okV (kvs[i]).1, H, I1, okV_rel hk, ⟨rfl, _, _, List.getElem?_eq_getElem hi, rfl⟩, st', fun b hb => (hf b hb).1⟩⟩
  done := by
    intro X hP hw hK hcalm i pins s σ H E I hf st hg
    subst hP hw hK
    obtain ⟨hH, hi⟩ := hg
    obtain ⟨f0, f1, f2, f3, f4, f5⟩ := hf it (by simp)
    obtain ⟨he, _⟩ := (show ObjOk X.prog X.w H s.heap d (.frz o (.ext fun _ => True)) from I.hok d _ hH)
    have hm : s.heap.DictRaw d es n := ⟨o, he, hc, hdat⟩
    have hsz : es.size = kvs.length := by
      have h1 := hp.length
      have h2 := ov_len hv
      simp at h1
      omega
    exact wpAny_pyNext_keys_end_raw (I.ok.hd hcalm) st hm (by omega) fun h' eb => ⟨rfl, I.turned (t' := s.toks) (fun b ob hb e => eb b ob hb e) f0 f1 f3 f4 f5⟩
  self := fun A i s Q E st h => wpAny_pyIter_keyiter st h
/-- the walker of the dict at d -/
def Itod (d : Addr) (o : Obj) (kvs : List (Option Str × V)) : It :=
  ⟨fun i H => H d = some (oddH o) ∧ i < kvs.length, fun i H x H' => H' = H ∧ ∃ k v, kvs[i]? = some (k, v) ∧ x = okV k, fun i H => H d = some (oddH o) ∧ kvs.length ≤ i⟩
def iOdd (P : Program) (w : World) (td : TE) : TI := fun σ H R => td σ H fun x H1 => ∃ d o kvs, x = .ref d ∧ (d == sysModules) = false ∧ H1 d = some (oddH o) ∧ OddO P w o kvs ∧ R (Itod d o kvs) H1
theorem pi_odd {X : Cx} {P : Program} {w : World} {tg e : Expr} {td : TE} (hP : X.prog = P) (hw : X.w = w) (he : PE X e td) : PI X tg e (iOdd P w td) := by
  subst hP hw
  refine ⟨fun pins s σ H R I h => ?_⟩
  refine thn (he.run pins s σ H _ I h) fun u s1 ⟨x, H1, I1, rx, d, o, kvs, ex, hd, hH, O, q⟩ => ?_
  subst ex
  obtain rfl : u = Value.ref d := rx
  obtain ⟨e1, _⟩ := (show ObjOk X.prog X.w H1 s1.heap d (.frz o (.ext fun _ => True)) from I1.hok d _ hH)
  obtain ⟨es, ep, vs, d1, d2, d3, d4, d5⟩ := O.dat
  exact wpAny_pyIter_dict_raw hd ⟨o, e1, O.cls, d1⟩ (pi_one (tk := s1.toks) I1 _ (turn_odd _ O.cls d1 d3 d5) ⟨_, Heap.get?_push_size _ rfl, rfl, rfl⟩ q)
theorem walk_odd {d : Addr} {o : Obj} {kvs : List (Option Str × V)} : Walk (Itod d o kvs) kvs.length (fun H => H d = some (oddH o)) (fun i H x H' => H' = H ∧ ∃ k v, kvs[i]? = some (k, v) ∧ x = okV k) :=
  ⟨fun _ _ hi q => ⟨q, hi⟩, fun _ q => ⟨q, Nat.le_refl _⟩, fun _ _ _ _ _ _ y => y⟩
/-! ### d[k] -/
theorem valueAt_nd {K : Type} [DecidableEq K] : ∀ {vs : List (K × Value)} {i : Nat} {k : K} {u : Value}, (vs.map (·.1)).Nodup → vs[i]? = some (k, u) → valueAt vs k = some u
  | (a, b) :: r, 0, k, u, _, h => by
    simp at h
    obtain ⟨rfl, rfl⟩ := h
    simp [valueAt]
  | (a, b) :: r, i + 1, k, u, hn, h => by
    simp at h
    rw [List.map_cons, List.nodup_cons] at hn
    have hne : ¬ a = k := fun e => hn.1 (List.mem_map.mpr ⟨(k, u), List.mem_of_getElem? h, e.symm⟩)
    have := valueAt_nd hn.2 h
    unfold valueAt at this ⊢
    rw [List.find?_cons]
    simp only [hne, decide_false]
    exact this
def tDGetO (P : Program) (w : World) (td ty : TE) : TE := fun σ H Q => td σ H fun x H1 => ty σ H1 fun y H2 => ∃ (a : Addr) (kvs : List (Option Str × V)) (i : Nat) (k : Option Str) (v : V), x = .ref a ∧ y = okV k ∧ IsOdd P w H2 a kvs ∧ kvs[i]? = some (k, v) ∧ Q v H2
theorem pe_dgetO {X : Cx} {P : Program} {w : World} {o i : Expr} {td ty : TE} {pos : Pos} (hP : X.prog = P) (hw : X.w = w) (ho : PE X o td) (hi : PE X i ty) (hs : NoSl i) : PE X (.Subscript o i pos) (tDGetO P w td ty) := by
  subst hP hw
  refine ⟨fun pins s σ H Q I h => ?_⟩
  refine subD_of PySem.F.slot_dict_getitem.lookup hs (thn (ho.run pins s σ H _ I h) fun u s1 ⟨x, H1, I1, rx, q1⟩ => thn (hi.run pins s1 σ H1 _ I1 q1) fun iv s2 ⟨y, H2, I2, ry, a, kvs, j, k, v, ex, ey, O, hj, q2⟩ => ?_)
  subst ex ey
  obtain rfl : u = Value.ref a := rx
  obtain ⟨_, vs, ov, dd⟩ := O.dict I2
  obtain ⟨u, hu, ru⟩ := ov_get ov hj
  have hnd : (vs.map (·.1)).Nodup := by
    obtain ⟨_, _, _, _, _, _, _, _, h6⟩ := dd
    exact h6
  exact ⟨dd.typeIs, wpAny_getItem_of (okV_is ry) dd.mapOf (valueAt_nd hnd hu) ⟨v, H2, I2.tok _, ru, q2⟩⟩
/-! ### isinstance -/
def rIsiO (K : PySem.W.Frag) : List V → Hp → VK → Prop := fun xs H Q => rIsi K xs H Q ∨ ∃ (a : Addr) (o : Obj) (T : String) (b : Bool), xs = [.ref a, .ty T] ∧ H a = some (oddH o) ∧ o.ExactDict ∧ kitB "dict" T = some b ∧ Q (.bl b) H
theorem call_isiO {X : Cx} : CallR X (.builtin "isinstance") (rIsiO X.K) := by
  intro pins s σ H xs us Q I r h
  rcases h with h | ⟨a, o, T, b, rfl, hH, hc, hk, q⟩
  · exact call_isi pins s σ H xs us Q I r h
  obtain ⟨u1, u2, rfl, r1, r2⟩ := vals2 r
  cases (show u1 = Value.ref a from r1)
  cases (show u2 = Value.type T from r2)
  obtain ⟨e1, _⟩ := (show ObjOk X.prog X.w H s.heap a (.frz o (.ext fun _ => True)) from I.hok a _ hH)
  exact PySem.W.kia_one PySem.W.kitx_dict I.kIn ⟨o, e1, hc.1⟩ (kit_ty hk) (fun z => nomatch z) fun tk => ⟨.bl b, H, I.tok tk, rfl, q⟩
theorem isiOK {X : Cx} {K : PySem.W.Frag} (h : X.K = K) : CallR X (.builtin "isinstance") (rIsiO K) := by subst h; exact call_isiO
end SC

set_option Elab.async false
set_option linter.all false
set_option maxRecDepth 100000
set_option maxHeartbeats 4000000
/-! SN0: dicts whose keys are None, bools, ints, texts and tuples of such, mixed: looked into and written (the model's side). -/
namespace SC
open PySem PySem.Spec PyProof.Rows L2
open Sem (wp)
abbrev NX := NestedKey × Value × Value
def entN (w : World) (x : NX) : DictEntry := ⟨x.1.hash w, x.2.1, x.2.2⟩
def KeysN (h : Heap) (xs : List NX) : Prop := ∀ x ∈ xs, NestedIs h x.1 x.2.1 ∧ x.1.depth ≤ 8
section
variable {prog : Program} {w : World} {A : Around} {E : Value → Shared → Prop} {s : Shared}
theorem eqN {x y : NestedKey} {u v : Value} {Q : Bool → Shared → Prop} (hu : A.units + 8 < cLine) (hx : NestedIs s.heap x u) (hy : NestedIs s.heap y v) (hd : y.depth ≤ 8) (q : Q (decide (x = y)) s) : wpAny (model prog w) A (eqBool u v) Q E s :=
  eqAt_key x y A s _ _ hx hy (by omega) _ _ _ _ (by rw [← NestedKey.decide_eq]; exact q)
theorem quietN {k : NestedKey} {v : Value} {Q : Bool → Shared → Prop} (hk : NestedIs s.heap k v) (hd : k.depth ≤ 8) (q : Q true s) : wpAny (model prog w) A (eqIsQuiet 8 v) Q E s := quiet_key k _ 8 s hk hd A E Q q
theorem mayTellN {k : NestedKey} {v : Value} {stored : List Value} {Q : Bool → Shared → Prop} (hk : NestedIs s.heap k v) (hd : k.depth ≤ 8) (hst : ∀ u ∈ stored, ∃ k', NestedIs s.heap k' u ∧ k'.depth ≤ 8) (q : Q false s) : wpAny (model prog w) A (tableMayTell v stored) Q E s := by
  unfold tableMayTell
  split
  · exact wpAny_pure q
  · refine wpAny_bind (quietN hk hd ?_)
    simp only [Bool.not_true, Bool.false_eq_true, if_false]
    refine wpAny_bind ?_
    refine wpAny_forIn_list _ (fun rest r s' => s' = s ∧ r = (none, ()) ∧ ∀ u ∈ rest, ∃ k', NestedIs s.heap k' u ∧ k'.depth ≤ 8) _ ?_ ?_ _ _ ⟨rfl, rfl, hst⟩
    · rintro x rest r s' ⟨rfl, rfl, hr⟩
      obtain ⟨k', h1, h2⟩ := hr x List.mem_cons_self
      refine wpAny_bind (quietN h1 h2 ?_)
      simp only [Bool.not_true, Bool.false_eq_true, if_false]
      exact wpAny_pure ⟨rfl, rfl, fun v hv => hr v (List.mem_cons_of_mem _ hv)⟩
    · rintro r s' ⟨rfl, rfl, _⟩
      exact wpAny_pure q
theorem ent_at {es : Array DictEntry} {xs : List NX} (he : es.toList = xs.map (entN w)) (j : Nat) : es[j]? = (xs[j]?).map (entN w) := by rw [← Array.getElem?_toList, he, List.getElem?_map]
theorem ent_size {es : Array DictEntry} {xs : List NX} (he : es.toList = xs.map (entN w)) : es.size = xs.length := by rw [← Array.length_toList, he, List.length_map]
theorem nd_at {xs : List NX} (hn : (xs.map (·.1)).Nodup) {i j : Nat} {k : NestedKey} {p q : Value × Value} (hi : xs[i]? = some (k, p)) (hj : xs[j]? = some (k, q)) : i = j := by
  have hi' : (xs.map (·.1))[i]? = some k := by rw [List.getElem?_map, hi]; rfl
  have hj' : (xs.map (·.1))[j]? = some k := by rw [List.getElem?_map, hj]; rfl
  exact (List.getElem?_inj (List.getElem?_eq_some_iff.mp hi').1 hn).mp (hi'.trans hj'.symm)
/-- what a look into the dict has found among the first i entries -/
def Found (xs : List NX) (k : NestedKey) (i : Nat) (hit : Option Nat) : Prop := (hit = none ∧ ∀ j p, j < i → xs[j]? ≠ some (k, p)) ∨ ∃ j p, hit = some j ∧ j < i ∧ xs[j]? = some (k, p)
theorem Found.skip {xs : List NX} {k : NestedKey} {i x : Nat} {hit : Option Nat} {es : Array DictEntry} (he : es.toList = xs.map (entN w)) (h : Found xs k i hit) (hix : i ≤ x) (hs : ∀ j, i ≤ j → j < x → ((es[j]?.map (·.hash)) == some (k.hash w)) = false) : Found xs k x hit := by
  rcases h with ⟨h0, hno⟩ | ⟨j, p, h1, hji, hj⟩
  · refine .inl ⟨h0, fun j p hjx hj => ?_⟩
    rcases Nat.lt_or_ge j i with h | h
    · exact hno j p h hj
    · have := hs j h hjx
      rw [ent_at he j, hj] at this
      simp [entN] at this
  · exact .inr ⟨j, p, h1, by omega, hj⟩
theorem Found.step {xs : List NX} {k k' : NestedKey} {x : Nat} {hit : Option Nat} {p : Value × Value} (h : Found xs k x hit) (hx : xs[x]? = some (k', p)) (hne : k' ≠ k) : Found xs k (x + 1) hit := by
  rcases h with ⟨h0, hno⟩ | ⟨j, p, h1, hjx, hj⟩
  · refine .inl ⟨h0, fun j q hjx hj => ?_⟩
    rcases Nat.lt_or_ge j x with h | h
    · exact hno j q h hj
    · obtain rfl : j = x := by omega
      rw [hx] at hj
      cases hj
      exact hne rfl
  · exact .inr ⟨j, p, h1, by omega, hj⟩
theorem Found.none {xs : List NX} {k : NestedKey} {i : Nat} (h : Found xs k i none) (hi : xs.length ≤ i) : k ∉ xs.map (·.1) := by
  rcases h with ⟨_, hno⟩ | ⟨j, p, h1, _⟩
  · intro hm
    obtain ⟨x, hx, rfl⟩ := List.mem_map.mp hm
    obtain ⟨j, hj⟩ := List.mem_iff_getElem?.mp hx
    exact hno j x.2 (Nat.lt_of_lt_of_le (List.getElem?_eq_some_iff.mp hj).1 hi) hj
  · cases h1
theorem findN {d : Addr} {o : Obj} {es : Array DictEntry} {ep : Nat} {xs : List NX} {k : NestedKey} {key : Value} {Q : Option Nat → Shared → Prop} (hu : A.units + 8 < cLine) (hkey : NestedIs s.heap k key) (hdp : k.depth ≤ 8)
    (ho : s.heap.get? d = some o) (hd : o.data = .dict es ep) (he : es.toList = xs.map (entN w)) (hks : KeysN s.heap xs) (hn : (xs.map (·.1)).Nodup)
    (hnone : k ∉ xs.map (·.1) → Q none s) (hsome : ∀ j p, xs[j]? = some (k, p) → Q (some j) s) : wpAny (model prog w) A (dictFind d key (k.hash w)) Q E s := by
  have hsz := ent_size he
  have hat : ∀ {x}, x < es.size → ∃ k' b v', xs[x]? = some (k', b, v') ∧ es[x]? = some ⟨k'.hash w, b, v'⟩ ∧ NestedIs s.heap k' b ∧ k'.depth ≤ 8 := fun {x} hx => by
    obtain ⟨⟨k', b, v'⟩, hkv⟩ : ∃ y, xs[x]? = some y := ⟨xs[x]'(by rw [← hsz]; exact hx), List.getElem?_eq_getElem _⟩
    obtain ⟨h1, h2⟩ := hks _ (List.mem_of_getElem? hkv)
    exact ⟨k', b, v', hkv, by rw [ent_at he x, hkv]; rfl, h1, h2⟩
  have hst : ∀ v ∈ (placesWithHash es.size (fun i => es[i]?.map (·.hash)) (k.hash w)).filterMap (fun i => es[i]?.map (·.key)), ∃ k', NestedIs s.heap k' v ∧ k'.depth ≤ 8 := by
    intro v hv
    obtain ⟨i, _, hi⟩ := List.mem_filterMap.mp hv
    cases hei : es[i]? with
    | none => rw [hei] at hi; cases hi
    | some e =>
      obtain ⟨k', b, v', _, h2, h3, h4⟩ := hat (Array.getElem?_eq_some_iff.mp hei).1
      rw [h2] at hi
      obtain rfl : b = v := by simpa using hi
      exact ⟨k', h3, h4⟩
  have hany : ∀ a, key = .ref a → ¬ (es.any fun e => e.key == key && e.hash != k.hash w) = true := by
    intro a ha
    rw [← Array.any_toList, List.any_eq_true]
    rintro ⟨e, hin, hc⟩
    rw [he] at hin
    obtain ⟨x, hx, rfl⟩ := List.mem_map.mp hin
    simp only [entN, Bool.and_eq_true, bne_iff_ne, ne_eq] at hc
    obtain ⟨hxa, hne⟩ := hc
    have hxa' : x.2.1 = key := beq_iff_eq.mp hxa
    have hx1 := (hks x hx).1
    rw [hxa'] at hx1
    exact hne (by rw [NestedIs.inj _ _ _ hx1 hkey])
  -- the plain walk
  have plain : wpAny (model prog w) A (dictWalkPlain d key (k.hash w) es (placesWithHash es.size (fun i => es[i]?.map (·.hash)) (k.hash w))) Q E s := by
    refine wpAny_bind ?_
    refine wpAny_forIn_list _
      (fun rest b s' => s' = s ∧ b = (none, ()) ∧ ∃ i, rest = (List.range' i (es.size - i)).filter (fun i => (es[i]?.map (·.hash)) == some (k.hash w)) ∧ i ≤ es.size ∧ Found xs k i none) _ ?_ ?_ _ _
      ⟨rfl, rfl, 0, by rw [placesWithHash, List.range_eq_range', Nat.sub_zero], Nat.zero_le _, .inl ⟨rfl, fun _ _ h => absurd h (Nat.not_lt_zero _)⟩⟩
    · rintro x rest b s' ⟨rfl, rfl, i, hr, hi, hF⟩
      obtain ⟨hix, hxn, hpx, hskip, hrest⟩ := filter_range'_cons _ _ _ _ _ hr.symm
      have hlt : x < es.size := by omega
      have hrest' : rest = (List.range' (x + 1) (es.size - (x + 1))).filter (fun i => (es[i]?.map (·.hash)) == some (k.hash w)) := by rw [hrest]; congr 2; omega
      obtain ⟨k', b, v', hkv, hex, hib, hdb⟩ := hat hlt
      have hFx := Found.skip he hF hix hskip
      rw [hex]
      dsimp only
      by_cases hh : (k'.hash w == k.hash w) = true
      · rw [if_pos hh]
        refine wpAny_bind (wpAny_dictEpoch ho hd (wpAny_bind (eqN hu hib hkey hdp (wpAny_bind (wpAny_dictEpoch ho hd ?_)))))
        show wpAny _ _ (if (ep != ep) = true then _ else _) _ E _
        rw [if_neg (by simp)]
        by_cases hkk : k' = k
        · rw [decide_eq_true hkk]
          subst hkk
          exact wpAny_bind (wpAny_rule (wpAny_pure (wpAny_pure (hsome x _ hkv))))
        · rw [decide_eq_false hkk]
          exact wpAny_bind (wpAny_rule (wpAny_pure ⟨rfl, rfl, x + 1, hrest', hlt, hFx.step hkv hkk⟩))
      · rw [if_neg hh]
        refine wpAny_pure ⟨rfl, rfl, x + 1, hrest', hlt, hFx.step hkv fun e => ?_⟩
        rw [e] at hh
        simp at hh
    · rintro b s' ⟨rfl, rfl, i, hr, hi, hF⟩
      have hall : ∀ j, i ≤ j → j < es.size → ((es[j]?.map (·.hash)) == some (k.hash w)) = false := by
        intro j h1 h2
        have := List.filter_eq_nil_iff.mp hr.symm j (List.mem_range'_1.mpr ⟨h1, by omega⟩)
        simpa using this
      exact wpAny_pure (hnone ((Found.skip he hF hi hall).none (by omega)))
  -- texts among texts
  have fbv : ∀ x t, key = .str x t → (es.all fun e => isExactStrKey e.key) = true → wpAny (model prog w) A (foundByValue d key es x) Q E s := by
    intro x t hx hall
    subst hx
    obtain rfl : k = .text x := NestedIs.inj _ _ _ hkey (.text x t)
    have his : ∀ {j : Nat} {k' : NestedKey} {b v' : Value}, xs[j]? = some (k', b, v') → (b.isStr x = true ↔ k' = NestedKey.text x) := by
      intro j k' b v' hj
      have hj' : es[j]? = some ⟨k'.hash w, b, v'⟩ := by rw [ent_at he j, hj]; rfl
      have hb := (hks _ (List.mem_of_getElem? hj)).1
      have hs : isExactStrKey b = true := by
        have := Array.all_eq_true.mp hall j (Array.getElem?_eq_some_iff.mp hj').1
        rw [(Array.getElem?_eq_some_iff.mp hj').2] at this
        exact this
      cases b with
      | str y u =>
        have hb' : NestedIs s.heap k' (.str y u) := hb
        obtain rfl : k' = .text y := NestedIs.inj _ _ _ hb' (.text y u)
        constructor
        · intro h
          have : x = y ∨ y = x := by
            simp [Value.isStr] at h
            first | exact .inl h | exact .inr h
          rcases this with rfl | rfl <;> rfl
        · intro h
          cases h
          simp [Value.isStr]
      | _ => exact absurd hs (by simp [isExactStrKey])
    unfold foundByValue
    cases hf : es.findIdx? (fun e => e.key.isStr x) with
    | none =>
      refine wpAny_pure (hnone fun hm => ?_)
      obtain ⟨y, hy, hyk⟩ := List.mem_map.mp hm
      obtain ⟨j, hj⟩ := List.mem_iff_getElem?.mp hy
      obtain ⟨k', b, v'⟩ := y
      have hj' : es[j]? = some ⟨k'.hash w, b, v'⟩ := by rw [ent_at he j, hj]; rfl
      have := Array.findIdx?_eq_none_iff.mp hf _ (Array.mem_of_getElem? hj')
      simp only at hyk
      rw [(his hj).mpr hyk] at this
      cases this
    | some i =>
      obtain ⟨hlt, hi, _⟩ := Array.findIdx?_eq_some_iff_getElem.mp hf
      obtain ⟨k', b, v', hkv, hex, hib, hdb⟩ := hat hlt
      have hei : es[i] = ⟨k'.hash w, b, v'⟩ := (Array.getElem?_eq_some_iff.mp hex).2
      rw [hei] at hi
      obtain rfl := (his hkv).mp hi
      simp only [hex]
      refine wpAny_bind (wpAny_dictEpoch ho hd (wpAny_bind (eqN hu hib hkey hdp (wpAny_bind (wpAny_dictEpoch ho hd ?_)))))
      show wpAny _ _ (if (ep != ep) = true then _ else _) _ E _
      rw [if_neg (by simp), decide_eq_true rfl]
      exact wpAny_bind (wpAny_rule (wpAny_pure (hsome _ _ hkv)))
  -- the walk by the table
  unfold dictFind
  try with_reducible refine wpAny_holding ?_
  refine wpAny_bind (wpAny_dictEntries ho hd ?_)
  by_cases hcv : ((key :: (placesWithHash es.size (fun i => es[i]?.map (·.hash)) (k.hash w)).filterMap (fun i => es[i]?.map (·.key))).all carriedByValue) = true
  · cases hkey with
    | none => dsimp only; rw [if_pos hcv]; exact plain
    | bool e => dsimp only; rw [if_pos hcv]; exact plain
    | int i t => dsimp only; rw [if_pos hcv]; exact plain
    | text x t =>
      dsimp only
      by_cases hstr : (es.all fun e => isExactStrKey e.key) = true
      · rw [if_pos hstr]; exact fbv x t rfl hstr
      · rw [if_neg hstr, if_pos hcv]; exact plain
    | tup h1 h2 h3 h4 => simp [carriedByValue] at hcv
  · cases key <;> dsimp only
    case' str x t =>
      by_cases hstr : (es.all fun e => isExactStrKey e.key) = true
      · rw [if_pos hstr]; exact fbv x t rfl hstr
      rw [if_neg hstr]
    all_goals rw [if_neg hcv]
    case' ref a => rw [if_neg (hany _ rfl)]
    all_goals clear plain fbv hany
    all_goals
      generalize hst0 : (placesWithHash es.size (fun i => es[i]?.map (·.hash)) (k.hash w)).filterMap (fun i => es[i]?.map (·.key)) = stored at hst ⊢
    all_goals clear hst0 hcv
    all_goals
      generalize hone : (stored == [_]) = one
    all_goals
      cases one
    all_goals (first | rw [if_pos rfl] | rw [if_neg (by decide)])
    all_goals (first | refine wpAny_bind (wpAny_pure ?_) | refine wpAny_bind (mayTellN hkey hdp hst ?_))
    all_goals rw [if_neg (by simp)]
    all_goals refine wpAny_bind ?_
    all_goals
      refine wpAny_forIn_list _
        (fun rest b s' => s' = s ∧ ∃ i hit, b = (none, hit) ∧ rest = (List.range' i (es.size - i)).filter (fun i => (es[i]?.map (·.hash)) == some (k.hash w)) ∧ i ≤ es.size ∧ Found xs k i hit) _ ?_ ?_ _ _
        ⟨rfl, 0, none, rfl, by rw [placesWithHash, List.range_eq_range', Nat.sub_zero], Nat.zero_le _, .inl ⟨rfl, fun _ _ h => absurd h (Nat.not_lt_zero _)⟩⟩
    all_goals try
      (rintro b s' ⟨rfl, i, hit, rfl, hr, hi, hF⟩
       have hall : ∀ j, i ≤ j → j < es.size → ((es[j]?.map (·.hash)) == some (k.hash w)) = false := by
         intro j h1 h2
         have := List.filter_eq_nil_iff.mp hr.symm j (List.mem_range'_1.mpr ⟨h1, by omega⟩)
         simpa using this
       have hF2 := Found.skip he hF hi hall
       rcases hF2 with ⟨rfl, hno⟩ | ⟨j, p, rfl, _, hj⟩
       · exact wpAny_pure (hnone (Found.none (.inl ⟨rfl, hno⟩) (by omega)))
       · exact wpAny_pure (hsome j p hj))
    all_goals
      (rintro x rest b s' ⟨rfl, i, hit, rfl, hr, hi, hF⟩
       obtain ⟨hix, hxn, hpx, hskip, hrest⟩ := filter_range'_cons _ _ _ _ _ hr.symm
       have hlt : x < es.size := by omega
       have hrest' : rest = (List.range' (x + 1) (es.size - (x + 1))).filter (fun i => (es[i]?.map (·.hash)) == some (k.hash w)) := by rw [hrest]; congr 2; omega
       obtain ⟨k', b, v', hkv, hex, hib, hdb⟩ := hat hlt
       have hFx := Found.skip he hF hix hskip
       rw [hex]
       dsimp only
       by_cases hh : (k'.hash w == k.hash w) = true
       · rw [if_pos hh]
         refine wpAny_bind (wpAny_dictEpoch ho hd (wpAny_bind (eqN hu hib hkey hdp (wpAny_bind (wpAny_dictEpoch ho hd ?_)))))
         show wpAny _ _ (if (ep != ep) = true then _ else _) _ E _
         rw [if_neg (by simp)]
         by_cases hkk : k' = k
         · rw [decide_eq_true hkk]
           subst hkk
           rcases hFx with ⟨rfl, _⟩ | ⟨j, p, _, hjx, hj⟩
           · first | rw [if_pos rfl] | skip
             simp only [Option.isSome_none, Bool.false_eq_true, if_false]
             first | refine wpAny_bind (wpAny_pure ?_) | skip
             refine wpAny_bind (wpAny_rule ?_)
             by_cases h2 : stored.length < 2
             · rw [if_pos h2]
               exact wpAny_pure (wpAny_pure (hsome x _ hkv))
             · rw [if_neg h2]
               exact wpAny_pure ⟨rfl, x + 1, some x, rfl, hrest', hlt, .inr ⟨x, _, rfl, Nat.lt_succ_self x, hkv⟩⟩
           · exact absurd (nd_at hn hj hkv) (by omega)
         · rw [decide_eq_false hkk]
           simp only [Bool.false_eq_true, if_false]
           refine wpAny_bind (wpAny_rule ?_)
           first | rw [if_neg (by simp)] | skip
           first
             | exact wpAny_pure ⟨rfl, x + 1, hit, rfl, hrest', hlt, hFx.step hkv hkk⟩
             | exact wpAny_bind (wpAny_pure (wpAny_pure ⟨rfl, x + 1, hit, rfl, hrest', hlt, hFx.step hkv hkk⟩))
       · rw [if_neg hh]
         refine wpAny_pure ⟨rfl, x + 1, hit, rfl, hrest', hlt, hFx.step hkv fun e => ?_⟩
         rw [e] at hh
         simp at hh)
end
end SC

set_option Elab.async false
set_option linter.all false
set_option maxRecDepth 100000
set_option maxHeartbeats 4000000
/-! SN1: get, set, look, walk and display of such dicts (the model's side). -/
namespace SC
open PySem PySem.Spec PyProof.Rows L2
open Sem (wp)
section
variable {prog : Program} {w : World} {A : Around} {E : Value → Shared → Prop} {s : Shared} {d : Addr} {xs : List NX} {k : NestedKey} {key : Value}
/-- at d stands a dict with the entries xs -/
def DictN (w : World) (h : Heap) (d : Addr) (xs : List NX) : Prop := ∃ o es ep, h.get? d = some o ∧ o.ExactDict ∧ o.data = .dict es ep ∧ es.toList = xs.map (entN w) ∧ KeysN h xs ∧ (xs.map (·.1)).Nodup
theorem DictN.typeIs (hm : DictN w s.heap d xs) : s.TypeIs (.ref d) "dict" := let ⟨o, _, _, ho, hc, _⟩ := hm; ⟨o, ho, hc.1⟩
theorem keys_same {h h' : Heap} {o : Obj} {es : Array DictEntry} {ep : Nat} (ho : h.get? d = some o) (hd : o.data = .dict es ep) (hs : Heap.SameBut d h h') : ∀ a o vs n, h.get? a = some o → o.data = .seq vs n → h'.get? a = some o := fun a o' vs n h1 h2 => by
  have hne : a ≠ d := by
    rintro rfl
    rw [ho] at h1
    cases h1
    rw [hd] at h2
    cases h2
  exact (hs.2 a hne).trans h1
theorem keysN_same {h h' : Heap} {o : Obj} {es : Array DictEntry} {ep : Nat} (ho : h.get? d = some o) (hd : o.data = .dict es ep) (hs : Heap.SameBut d h h') (hk : KeysN h xs) : KeysN h' xs := fun x hx => ⟨NestedIs.at (keys_same ho hd hs) _ _ (hk x hx).1, (hk x hx).2⟩
theorem getN {Q : Option Value → Shared → Prop} (hu : A.units + 8 < cLine) (hkey : NestedIs s.heap k key) (hdp : k.depth ≤ 8) (hm : DictN w s.heap d xs)
    (hnone : k ∉ xs.map (·.1) → ∀ tk, Q none { s with toks := tk }) (hsome : ∀ (j : Nat) (u v : Value), xs[j]? = some (k, u, v) → ∀ tk, Q (some v) { s with toks := tk }) : wpAny (model prog w) A (dictGet d key) Q E s := by
  obtain ⟨o, es, ep, ho, _, hd, he, hks, hn⟩ := hm
  unfold dictGet
  try with_reducible refine wpAny_holding ?_
  refine wpAny_bind (pyHash_key k key A s _ hkey (by omega) (wpAny_bind (findN (s := { s with toks := s.toks + k.draws }) hu hkey hdp ho hd he hks hn ?_ ?_)))
  · intro hno
    exact wpAny_pure (hnone hno _)
  · rintro j ⟨u, v⟩ hj
    refine wpAny_bind (wpAny_dictEntries (s := { s with toks := s.toks + k.draws }) ho hd ?_)
    rw [ent_at he j, hj]
    exact wpAny_pure (hsome j u v hj _)
theorem map_modify {u v v' : Value} : ∀ {xs : List NX} {j : Nat}, xs[j]? = some (k, u, v) → (xs.map (entN w)).modify j (fun e => { e with val := v' }) = (xs.set j (k, u, v')).map (entN w)
  | [], j, h => by simp at h
  | x :: xs, 0, h => by
    simp at h
    subst h
    rfl
  | x :: xs, j + 1, h => by
    have := map_modify (v' := v') (xs := xs) (j := j) (by simpa using h)
    simpa using this
theorem set_keys {u v v' : Value} : ∀ {xs : List NX} {j : Nat}, xs[j]? = some (k, u, v) → (xs.set j (k, u, v')).map (·.1) = xs.map (·.1)
  | [], j, h => by simp at h
  | x :: xs, 0, h => by
    simp at h
    subst h
    rfl
  | x :: xs, j + 1, h => by
    have := set_keys (v' := v') (xs := xs) (j := j) (by simpa using h)
    simpa using this
theorem setN {v : Value} {Q : Unit → Shared → Prop} (hu : A.units + 8 < cLine) (hkey : NestedIs s.heap k key) (hdp : k.depth ≤ 8) (hm : DictN w s.heap d xs) (hsz : xs.length ≤ sizeLine)
    (hnew : k ∉ xs.map (·.1) → ∀ h' tk, DictN w h' d (xs ++ [(k, key, v)]) → Heap.SameBut d s.heap h' → Q () { s with heap := h', toks := tk })
    (hold : ∀ (j : Nat) (u v0 : Value), xs[j]? = some (k, u, v0) → ∀ h' tk, DictN w h' d (xs.set j (k, u, v)) → Heap.SameBut d s.heap h' → Q () { s with heap := h', toks := tk }) : wpAny (model prog w) A (dictSet d key v) Q E s := by
  obtain ⟨o, es, ep, ho, hc, hd, he, hks, hn⟩ := hm
  unfold dictSet
  try with_reducible refine wpAny_holding ?_
  refine wpAny_bind (pyHash_key k key A s _ hkey (by omega) ?_)
  unfold dictSetHashed
  try with_reducible refine wpAny_holding ?_
  refine wpAny_bind (findN (s := { s with toks := s.toks + k.draws }) hu hkey hdp ho hd he hks hn ?_ ?_)
  · intro hno
    refine wpAny_bind (wpAny_rule (wpAny_updateDictKeys (hz := by have e := ent_size he; omega) (s := { s with toks := s.toks + k.draws }) ho hd (hnew hno _ _ ⟨_, _, ep + 1, Heap.get?_update_self _ ho (Obj.isFreed_of_dict (Obj.data_mapDictKeys hd _)),
      hc.mapDictKeys _, Obj.data_mapDictKeys hd _, ?_, ?_, ?_⟩ (Heap.SameBut.update ..))))
    · simp [he, entN]
    · intro x hx
      rcases List.mem_append.mp hx with hx | hx
      · exact keysN_same ho hd (Heap.SameBut.update ..) hks x hx
      · simp only [List.mem_singleton] at hx
        subst hx
        exact ⟨NestedIs.at (keys_same ho hd (Heap.SameBut.update ..)) _ _ hkey, hdp⟩
    · rw [List.map_append, List.nodup_append]
      refine ⟨hn, by simp, ?_⟩
      intro x hx y hy
      simp only [List.map_cons, List.map_nil, List.mem_singleton] at hy
      subst hy
      exact fun e => hno (e ▸ hx)
  · rintro j ⟨u, v0⟩ hj
    refine wpAny_bind (wpAny_rule (wpAny_bind (wpAny_updateDict (s := { s with toks := s.toks + k.draws }) ho hd (wpAny_point (hold j u v0 hj _ _ ⟨_, _, ep, Heap.get?_update_self _ ho (Obj.isFreed_of_dict (Obj.data_mapDict hd _)),
      hc.mapDict _, Obj.data_mapDict hd _, ?_, ?_, ?_⟩ (Heap.SameBut.update ..))))))
    · have := map_modify (w := w) (v' := v) hj
      rw [← he] at this
      obtain ⟨l⟩ := es
      simpa using this
    · intro x hx
      rcases List.mem_or_eq_of_mem_set hx with hx | hx
      · exact keysN_same ho hd (Heap.SameBut.update ..) hks x hx
      · subst hx
        exact keysN_same ho hd (Heap.SameBut.update ..) hks (k, u, v0) (List.mem_of_getElem? hj)
    · rw [set_keys hj]
      exact hn
theorem getItemN {Q : Value → Shared → Prop} (hu : A.units + 9 < cLine) (hkey : NestedIs s.heap k key) (hdp : k.depth ≤ 8) (hm : DictN w s.heap d xs) {j : Nat} {u v : Value} (hj : xs[j]? = some (k, u, v)) (h : ∀ tk, Q v { s with toks := tk }) :
    wpAny (model prog w) A (getItem (.ref d) key) Q E s := by
  unfold getItem
  try with_reducible refine wpAny_holding ?_
  refine wpAny_bind (wpAny_sequenceKey hm.typeIs (by decide) ?_)
  refine wpAny_bind (wpAny_callSpecial?_slot (name := Str.ofString "__getitem__") hm.typeIs slot_dict_getitem
    (wpAny_call_entry slot_dict_getitem hm.typeIs entry_dict_getitem ?_ (args_dict_getitem _ _)))
  show wpAny _ _ (dictGet d key >>= _) _ _ s
  obtain ⟨_, _, _, _, _, _, _, _, hn⟩ := id hm
  refine wpAny_bind (getN (by show A.units + 1 + 8 < cLine; omega) hkey hdp hm (fun hno => absurd (List.mem_map.mpr ⟨_, List.mem_of_getElem? hj, rfl⟩) hno) fun j' u' v' hj' tk => ?_)
  have := nd_at hn hj hj'
  subst this
  rw [hj] at hj'
  cases hj'
  exact wpAny_pure ⟨v, rfl, wpAny_pure (h _)⟩
theorem setItemN {v : Value} {Q : Unit → Shared → Prop} (hu : A.units + 9 < cLine) (hkey : NestedIs s.heap k key) (hdp : k.depth ≤ 8) (hm : DictN w s.heap d xs) (hsz : xs.length ≤ sizeLine)
    (hnew : k ∉ xs.map (·.1) → ∀ h' tk, DictN w h' d (xs ++ [(k, key, v)]) → Heap.SameBut d s.heap h' → Q () { s with heap := h', toks := tk })
    (hold : ∀ (j : Nat) (u v0 : Value), xs[j]? = some (k, u, v0) → ∀ h' tk, DictN w h' d (xs.set j (k, u, v)) → Heap.SameBut d s.heap h' → Q () { s with heap := h', toks := tk }) : wpAny (model prog w) A (setItem (.ref d) key v) Q E s := by
  unfold setItem
  try with_reducible refine wpAny_holding ?_
  refine wpAny_bind (wpAny_sequenceKey hm.typeIs (by decide) ?_)
  refine wpAny_bind (wpAny_callSpecial?_slot (name := Str.ofString "__setitem__") hm.typeIs slot_dict_setitem
    (wpAny_call_entry slot_dict_setitem hm.typeIs entry_dict_setitem ?_ (args_dict_setitem _ _ _)))
  show wpAny _ _ (Builtin.Dict.notOrdered "__setitem__" ⟨[.ref d, key, v], []⟩ >>= _) _ _ s
  refine wpAny_bind (wpAny_notOrdered_dict hm.typeIs ?_)
  show wpAny _ _ (dictSet d key v >>= _) _ _ s
  exact wpAny_bind (setN (by show A.units + 1 + 8 < cLine; omega) hkey hdp hm hsz (fun hno h' tk hm' hs' => wpAny_pure ⟨.none, rfl, wpAny_pure (hnew hno h' tk hm' hs')⟩) fun j u v0 hj h' tk hm' hs' => wpAny_pure ⟨.none, rfl, wpAny_pure (hold j u v0 hj h' tk hm' hs')⟩)
/-! ### the display -/
/-- the pairs that are stored: fresh keys -/
def CarN (h : Heap) : List (Value × Value) → List NX → Prop
  | [], [] => True
  | (key, v) :: vs, (k, key', v') :: ps => key' = key ∧ v' = v ∧ NestedIs h k key ∧ k.depth ≤ 8 ∧ CarN h vs ps
  | _, _ => False
theorem CarN.length {h : Heap} : ∀ {vs : List (Value × Value)} {ps : List NX}, CarN h vs ps → ps.length = vs.length
  | [], [], _ => rfl
  | (_, _) :: _, (_, _, _) :: _, c => by rw [List.length_cons, List.length_cons, CarN.length c.2.2.2.2]
  | [], _ :: _, c => c.elim
  | _ :: _, [], c => c.elim
theorem CarN.at {h h' : Heap} (hk : ∀ a o vs n, h.get? a = some o → o.data = .seq vs n → h'.get? a = some o) : ∀ {vs : List (Value × Value)} {ps : List NX}, CarN h vs ps → CarN h' vs ps
  | [], [], _ => trivial
  | (_, _) :: _, (_, _, _) :: _, c => ⟨c.1, c.2.1, NestedIs.at hk _ _ c.2.2.1, c.2.2.2.1, CarN.at hk c.2.2.2.2⟩
  | [], _ :: _, c => c.elim
  | _ :: _, [], c => c.elim
theorem storeAllN (hu : A.units + 8 < cLine) : ∀ (vs : List (Value × Value)) (ps acc : List NX) (s : Shared) (Q : PUnit → Shared → Prop), CarN s.heap vs ps → DictN w s.heap d acc → acc.length + ps.length ≤ sizeLine → ((acc ++ ps).map (·.1)).Nodup →
    (∀ h' tk, DictN w h' d (acc ++ ps) → Heap.SameBut d s.heap h' → Q PUnit.unit { s with heap := h', toks := tk }) →
    wpAny (model prog w) A (forIn vs PUnit.unit fun (x : Value × Value) (_ : PUnit) => (do dictSet d x.1 x.2; pure (ForInStep.yield PUnit.unit) : Sem (ForInStep PUnit))) Q E s
  | [], [], acc, s, Q, _, hm, _, _, hQ => by
    rw [List.forIn_nil]
    exact wpAny_pure (hQ s.heap s.toks (by simpa using hm) (Heap.SameBut.refl _ _))
  | (key, v) :: vs, (k, key', v') :: ps, acc, s, Q, hc, hm, hsz, hnd, hQ => by
    obtain ⟨e1, e2, hkey, hdp, hc'⟩ := hc
    subst e1 e2
    rw [List.length_cons] at hsz
    rw [List.forIn_cons]
    have hmem : k ∉ acc.map (·.1) := fun hx => by
      rw [List.map_append, List.nodup_append] at hnd
      exact hnd.2.2 _ hx k (by simp) rfl
    refine wpAny_bind (wpAny_bind (setN hu hkey hdp hm (by omega) (fun _ h₁ tk hm₁ hs₁ => wpAny_pure ?_) fun j u v0 hj => absurd (List.mem_map.mpr ⟨_, List.mem_of_getElem? hj, rfl⟩) hmem))
    obtain ⟨o, es, ep, ho, _, hd, _⟩ := hm
    refine storeAllN hu vs ps (acc ++ [(k, key', v')]) _ Q (hc'.at (keys_same ho hd hs₁)) hm₁ (by simp; omega) (by simpa using hnd) fun h' tk' hm' hs' => hQ h' tk' (by simpa using hm') (hs₁.trans hs')
  | [], _ :: _, _, _, _, hc, _, _, _, _ => hc.elim
  | _ :: _, [], _, _, _, hc, _, _, _, _ => hc.elim
theorem subDictN {pairs : List (Sem Value × Sem Value)} {Q : Addr → Shared → Prop} (hu : A.units + 8 < cLine) (hlen : pairs.length ≤ 15)
    (h : wpAny (model prog w) A (evalPairs pairs) (fun vs s₁ => ∃ ps, CarN s₁.heap vs ps ∧ (ps.map (·.1)).Nodup ∧ DictN w s₁.heap s.heap.objs.size [] ∧
      ∀ h' tk, DictN w h' s.heap.objs.size ps → Heap.SameBut s.heap.objs.size s₁.heap h' → Q s.heap.objs.size { s₁ with heap := h', toks := tk }) E
      { s with heap := s.heap.push { cls := .type "dict", data := .dict #[] } }) :
    wpAny (model prog w) A (subDict pairs) Q E s := by
  unfold subDict
  refine wpAny_bind (wpAny_alloc ?_)
  refine wpAny_bind (wpAny_holding ?_)
  rw [if_pos hlen]
  refine wpAny_bind (wpAny_mono (wpAny_evalPairs_len h) (fun vs s₁ h₁ => ?_) fun _ _ e => e)
  obtain ⟨hvl, ps, hc, hnd, hm, hQ⟩ := h₁
  have hsz : ([] : List NX).length + ps.length ≤ sizeLine := by
    have e := hc.length
    rw [sizeLine_eq, List.length_nil]; omega
  refine wpAny_holding ?_
  exact wpAny_bind (storeAllN hu vs ps [] s₁ _ hc hm hsz (by simpa using hnd) fun h' tk hm' hs' => wpAny_pure (wpAny_pure (hQ h' tk (by simpa using hm') hs')))
theorem Dict_walkN {env : Env} {keys : List (Option Expr)} {values : List Expr} {pos : Pos} {Q : Value → Shared → Prop} (hu : A.units + 8 < cLine)
    (hall : keys.all (·.isSome) = true) (hl : keys.length = values.length) (h0 : keys ≠ []) (hlen : keys.length ≤ 15)
    (h : wpAny (model prog w) A (evalPairs (pairTrees keys values env pos)) (fun vs s₁ => ∃ ps, CarN s₁.heap vs ps ∧ (ps.map (·.1)).Nodup ∧ DictN w s₁.heap s.heap.objs.size [] ∧
      ∀ h' tk, DictN w h' s.heap.objs.size ps → Heap.SameBut s.heap.objs.size s₁.heap h' → Q (.ref s.heap.objs.size) { s₁ with heap := h', toks := tk }) E
      { s with heap := s.heap.push { cls := .type "dict", data := .dict #[] } }) :
    wpAny (model prog w) A (eval (.Dict keys values pos) env) Q E s := by
  have hn := pairTrees_length keys values env pos hall hl
  rw [arm_eval_Dict, zip_pairTrees keys values env pos hall hl, dictDisplay_pairs _ (fun he => by rw [he] at hn; exact h0 (List.length_eq_zero_iff.mp hn.symm)) (by omega)]
  exact wpAny_bind (wpAny_standAt (wpAny_bind (subDictN (Q := fun d s' => wpAny (model prog w) A (pure (Value.ref d)) Q E s') hu (by omega)
    (wpAny_mono h (fun vs s₁ h₁ => by obtain ⟨ps, hc, hnd, hm, hq⟩ := h₁; exact ⟨ps, hc, hnd, hm, fun h' tk a b => wpAny_pure (hq h' tk a b)⟩) fun _ _ e => e))))
end
end SC

set_option Elab.async false
set_option linter.all false
set_option maxRecDepth 100000
set_option maxHeartbeats 4000000
/-! SBD: great powers; C() of an own class whose __init__ has **kw alone; such an instance as a value. -/
namespace SC
open PySem PySem.Spec PyProof.Rows L2
/-! ### powers -/
def CPowB (i j : Int) : Prop := 0 ≤ j ∧ (Builtin.Int.intBits i : Int) * j ≤ 2 ^ 27
theorem op_powB {X : Cx} : OpR X (binaryOp .Pow) (rI CPowB fun i j => .int (i ^ j.toNat)) := opI fun _ _ _ _ _ _ _ hc q => pow_int hc.1 hc.2 q
/-! ### C() -/
section
variable {CX : CXT} {P : Program} {w : World} {K : PySem.W.Frag} {mg : Str → Option Value} {base : Heap} {k : Nat} {f : Addr} {name qual : Str} {params : Arguments} {body : List Stmt} {scope : Scope} {dV kV doc pm cdv ct oc : Value} {an od : Option Addr}
  {osl : Array (Option Value)} {N ps : List Str} {sp : Sp}
/-- def f(a, .., **d), called without keywords: an empty dict -/
theorem fn_kw0 {pd : Str} (lk : K.lookup f = some ⟨oc, od, .func (PySem.W.fnOf name qual params body scope dV kV doc pm an cdv ct), osl⟩) (hcd : PySem.W.codeIn K cdv qual = true) (S : FnScope N (ps ++ [pd]) scope) (hCX : StX.CXUp CX)
    (hb : ∀ us : List Value, us.length = ps.length → bindArgs (PySem.W.fnOf name qual params body scope dV kV doc pm an cdv ct) ⟨us, []⟩ = ((alloc ({ cls := .type "dict", data := .dict #[] } : Obj) : Sem Addr) >>= fun d => pure (ps.zip us ++ [(pd, Value.ref d)])))
    (hbody : ∀ (A : Around) (outer : List Env) (s : Shared) (H : Hp) (vs : List V) (Q : VK) (E : XK), Room k (A.deeper (envOfC qual scope s.heap.objs.size f cdv)) → sp vs H Q E →
      ∃ t, PSs (cxOf CX P w K mg base N qual scope f cdv A outer s H E) body t ∧ t { nx := fun _ H' => Q .non H', rt := Q } (start N vs) H) :
    FnR P w K mg base CX (k + 1) f (fun vs H Q E => vs.length = ps.length ∧ ∀ d, H d = Option.none → sp (vs ++ [V.ref d]) (upd H d (.dK [])) Q E) := by
  intro A outer s H us vs Q E hr e0 r hsp
  obtain ⟨hl, hq⟩ := hsp
  have hn : H s.heap.objs.size = Option.none := e0.hok.fresh (Nat.le_refl _)
  have hl1 : us.length = ps.length := by rw [← r.length]; exact hl
  refine StX.run_bnd lk hcd S hr e0 (G := fun xs H2 => ∃ d, H d = Option.none ∧ xs = vs ++ [V.ref d] ∧ H2 = upd H d (.dK [])) (fun A' Ex Q' h => ?_) fun s2 H2 xs ⟨d, hd, ex, eH⟩ hr' => ?_
  · rw [hb us hl1]
    refine wpAny_bind (wpAny_alloc (wpAny_pure ?_))
    have e2 := StX.env0_laid (u := .dK []) (o := ({ cls := .type "dict", data := .dict #[] } : Obj)) e0 (dk_empty _ (StX.env0_big e0))
    have un := StX.un_laid (fs := frs outer) (s := s) (o := ({ cls := .type "dict", data := .dict #[] } : Obj)) (u := .dK []) hn
    have z := h _ _ (vs ++ [V.ref s.heap.objs.size]) (us ++ [Value.ref s.heap.objs.size]) e2 un rfl (fun e s' => hCX outer s H _ _ E e s' un (fun b o q => Heap.get?_push_of_some _ q) rfl) (r.append (.cons rfl .nil))
      (by rw [List.length_append, List.length_append, hl] <;> rfl) ⟨_, hn, rfl, rfl⟩
    rw [List.zip_append hl1.symm] at z
    exact z
  · subst ex eH
    exact hbody A outer s2 _ _ Q E hr' (hq d hd)
end
section
variable {X : Cx} {CX : CXT} {k : Nat} {f C : Addr} {sp : Sp} {E : XK} {x : Str} {p pos : Pos}
theorem pe_makeR0 (M : L2.Mk X.K C f) (F : FnR X.prog X.w X.K X.mg X.base CX k f sp) (hr : Room (k + 1) X.A) (hg : Gl X x) (hm : X.mg x = some (.ref C)) (hx : Passes CX X E) (hdb : (x == ("__debug__" : Str)) = false := by decide) :
    PE X (.Call (.Name x p) [] [] pos) (StX.tMakeR C sp E tNil) := by
  refine ⟨fun pins s σ H Q I h => ?_⟩
  refine wpAny_Call_Name_kw (ld_glob I hg hm ?_ hdb)
  exact PySem.W.callWith_K0 I.kIn M.kp (StX.run_makeR (us := []) M F hr hx I .nil h)
end
/-- what an own class must have so that isinstance of its instances answers no for the built-in types -/
structure InsT (K : PySem.W.Frag) (C : Addr) : Prop where
  cl : Cls K C
  ha : PySem.W.findIn K (.ref C) "__class__" = some (some (.builtin "object.__class__"))
  hn : PySem.W.specialIn K (.builtin "object.__class__") "__get__" = some (some (.builtin "getset_descriptor.__get__"))
  htk : PySem.W.takesIn K (.builtin "object.__class__") = some true
  hm : PySem.W.mroIn K C (.type "object") = some true
  no : ∀ T : Ty, PySem.W.kitOne K (.ref C) (.type T.nm) = some false
theorem isi_ins {K : PySem.W.Frag} {H : Hp} {a C dx : Addr} {fs : List (Str × V)} (T : Ty) (h : InsT K C) (e : H a = some (.ins C dx fs)) {Q : VK} (q : Q (.bl false) H) : rIsi K [.ref a, .ty T.nm] H Q :=
  ⟨.ref a, .ty T.nm, _, _, false, rfl, .ty T.nm, .base (.ins e h.cl h.ha h.hn h.htk h.hm), h.no T, q⟩
/-! ### len of an odd dict -/
def rLenO (P : Program) (w : World) (K : PySem.W.Frag) : List V → Hp → VK → Prop := fun xs H Q => rLenA K xs H Q ∨ ∃ a kvs, xs = [V.ref a] ∧ IsOdd P w H a kvs ∧ kvs.length ≤ 1000 ∧ Q (.int (kvs.length : Nat)) H
theorem lenOK {X : Cx} {P : Program} {w : World} {K : PySem.W.Frag} (h : X.K = K) (hP : X.prog = P) (hw : X.w = w) : CallR X (.builtin "len") (rLenO P w K) := by
  subst hP hw
  intro pins s σ H xs us Q I r h'
  rcases h' with h' | ⟨a, kvs, rfl, e, hz, q⟩
  · exact lenAK h pins s σ H xs us Q I r h'
  · cases r with
    | cons r rr =>
      cases rr
      cases r
      obtain ⟨hd, vs, ov, dd⟩ := e.dict I
      have hl := ov_len ov
      refine call_len_dict hd dd (by omega) ?_
      rw [← hl]
      exact ⟨.int kvs.length, H, I.tok _, ⟨_, rfl⟩, q⟩
end SC

set_option Elab.async false
set_option linter.all false
set_option maxRecDepth 100000
set_option maxHeartbeats 4000000
/-! SN2: dicts with keys of many kinds, over the abstract heap: being built (BdN), known (FzN). -/
namespace SC
open PySem PySem.Spec PyProof.Rows L2
open Sem (wp)
abbrev NV := NestedKey × V × V
/-! ### keys -/
def KL : NestedKey → V → Prop
  | .none, v => v = .non
  | .num i, v => v = .int i ∨ ∃ b : Bool, v = .bl b ∧ i = if b = true then 1 else 0
  | .text x, v => v = .str x
  | .tup _, _ => False
def KR (H : Hp) : NestedKey → V → Prop
  | .tup ks, v => ∃ a xs, v = .ref a ∧ H a = some (.tup xs) ∧ Paired KL ks xs
  | .none, v => KL .none v
  | .num i, v => KL (.num i) v
  | .text x, v => KL (.text x) v
theorem KL.is {h : Heap} : ∀ {k : NestedKey} {v : V} {u : Value}, KL k v → RelV v u → NestedIs h k u ∧ k.depth = 0
  | .none, _, _, e, r => by cases e; cases r; exact ⟨.none, rfl⟩
  | .num i, _, _, e, r => by
    rcases e with e | ⟨b, e, q⟩
    · cases e; obtain ⟨t, rfl⟩ := r; exact ⟨.int i t, rfl⟩
    · cases e; cases r; exact ⟨.bool q, rfl⟩
  | .text x, _, _, e, r => by cases e; obtain ⟨t, rfl⟩ := r; exact ⟨.text x t, rfl⟩
  | .tup _, _, _, e, _ => e.elim
theorem KL.all {h : Heap} : ∀ {ks : List NestedKey} {vs : List V} {us : List Value}, Paired KL ks vs → Vals vs us → NestedAll h ks us ∧ NestedKey.depthAll ks = 0
  | _, _, _, .nil, .nil => ⟨.nil, rfl⟩
  | _, _, _, .cons a b, .cons c d => by
    obtain ⟨h1, h2⟩ := a.is (h := h) c
    obtain ⟨h3, h4⟩ := KL.all (h := h) b d
    exact ⟨.cons h1 h3, by simp [NestedKey.depthAll, h2, h4]⟩
theorem KR.is {P : Program} {w : World} {H : Hp} {h : Heap} (ok : HOk P w H h) : ∀ {k : NestedKey} {v : V} {u : Value}, KR H k v → RelV v u → NestedIs h k u ∧ k.depth ≤ 8
  | .tup ks, v, u, ⟨a, xs, e, ha, hp⟩, r => by
    subst e; cases r
    obtain ⟨_, its, rv, o, ho, hc, m, hd⟩ := ok a _ ha
    obtain ⟨h1, h2⟩ := KL.all (h := h) hp rv
    exact ⟨.tup ho hc hd (by simpa using h1), by simp [NestedKey.depth, h2]⟩
  | .none, _, _, e, r => let q := KL.is (k := .none) e r; ⟨q.1, by rw [q.2]; omega⟩
  | .num i, _, _, e, r => let q := KL.is (k := .num i) e r; ⟨q.1, by rw [q.2]; omega⟩
  | .text x, _, _, e, r => let q := KL.is (k := .text x) e r; ⟨q.1, by rw [q.2]; omega⟩
theorem KR.mono {H H' : Hp} (ht : ∀ b xs, H b = some (.tup xs) → H' b = some (.tup xs)) : ∀ {k : NestedKey} {v : V}, KR H k v → KR H' k v
  | .tup ks, v, ⟨a, xs, e, ha, hp⟩ => ⟨a, xs, e, ht _ _ ha, hp⟩
  | .none, _, e => e
  | .num i, _, e => e
  | .text x, _, e => e
abbrev PX : List NV → List NX → Prop := Paired fun p x => p.1 = x.1 ∧ RelV p.2.1 x.2.1 ∧ RelV p.2.2 x.2.2
theorem px_keys : ∀ {kvs : List NV} {xs : List NX}, PX kvs xs → kvs.map (·.1) = xs.map (·.1)
  | _, _, .nil => rfl
  | _, _, .cons h t => by rw [List.map_cons, List.map_cons, px_keys t, h.1]
theorem px_get : ∀ {kvs : List NV} {xs : List NX} {i : Nat} {p : NV}, PX kvs xs → kvs[i]? = some p → ∃ x, xs[i]? = some x ∧ p.1 = x.1 ∧ RelV p.2.1 x.2.1 ∧ RelV p.2.2 x.2.2
  | _, _, 0, p, .cons h t, e => by
    simp at e
    subst e
    exact ⟨_, rfl, h⟩
  | _, _, i + 1, p, .cons _ t, e => by
    simp at e
    obtain ⟨u, h1, h2⟩ := px_get t e
    exact ⟨u, by simpa using h1, h2⟩
theorem px_getR : ∀ {kvs : List NV} {xs : List NX} {i : Nat} {x : NX}, PX kvs xs → xs[i]? = some x → ∃ p, kvs[i]? = some p ∧ p.1 = x.1 ∧ RelV p.2.1 x.2.1 ∧ RelV p.2.2 x.2.2
  | _, _, 0, p, .cons h t, e => by
    simp at e
    subst e
    exact ⟨_, rfl, h⟩
  | _, _, i + 1, p, .cons _ t, e => by
    simp at e
    obtain ⟨u, h1, h2⟩ := px_getR t e
    exact ⟨u, by simpa using h1, h2⟩
theorem px_app : ∀ {kvs : List NV} {xs : List NX} {p : NV} {x : NX}, PX kvs xs → (p.1 = x.1 ∧ RelV p.2.1 x.2.1 ∧ RelV p.2.2 x.2.2) → PX (kvs ++ [p]) (xs ++ [x])
  | _, _, _, _, .nil, q => .cons q .nil
  | _, _, _, _, .cons h t, q => .cons h (px_app t q)
theorem px_set : ∀ {kvs : List NV} {xs : List NX} {p : NV} {x : NX} (i : Nat), PX kvs xs → (p.1 = x.1 ∧ RelV p.2.1 x.2.1 ∧ RelV p.2.2 x.2.2) → PX (kvs.set i p) (xs.set i x)
  | _, _, _, _, _, .nil, q => .nil
  | _, _, _, _, 0, .cons h t, q => .cons q t
  | _, _, _, _, i + 1, .cons h t, q => .cons h (px_set i t q)
def KsR (H : Hp) (kvs : List NV) : Prop := ∀ p ∈ kvs, KR H p.1 p.2.1
/-! ### what the object is -/
structure OddN (w : World) (o : Obj) (kvs : List NV) : Prop where
  cls : o.ExactDict
  dat : ∃ es ep xs, o.data = .dict es ep ∧ es.toList = xs.map (entN w) ∧ PX kvs xs ∧ (kvs.map (·.1)).Nodup
theorem OddN.dictN {P : Program} {w : World} {H : Hp} {h : Heap} {o : Obj} {a : Addr} {kvs : List NV} (ok : HOk P w H h) (O : OddN w o kvs) (hk : KsR H kvs) (ho : h.get? a = some o) : ∃ xs, PX kvs xs ∧ DictN w h a xs := by
  obtain ⟨es, ep, xs, h1, h2, h3, h4⟩ := O.dat
  refine ⟨xs, h3, o, es, ep, ho, O.cls, h1, h2, ?_, by rw [← px_keys h3]; exact h4⟩
  intro x hx
  obtain ⟨i, hi⟩ := List.mem_iff_getElem?.mp hx
  obtain ⟨p, hp, e1, r1, _⟩ := px_getR h3 hi
  have := (hk p (List.mem_of_getElem? hp)).is ok r1
  rw [e1] at this
  exact this
def oddE (w : World) (a : Addr) (kvs : List NV) : HO := .ext fun h => ∃ o, h.get? a = some o ∧ OddN w o kvs
/-- being built -/
structure BdN (w : World) (H : Hp) (a : Addr) (kvs : List NV) : Prop where
  ne : (a == sysModules) = false
  li : H a = some (oddE w a kvs)
  ks : KsR H kvs
/-- known -/
structure FzN (w : World) (H : Hp) (a : Addr) (kvs : List NV) : Prop where
  ne : (a == sysModules) = false
  li : ∃ o, H a = some (oddH o) ∧ OddN w o kvs
  ks : KsR H kvs
theorem FzN.imp {w : World} {H H' : Hp} {a : Addr} {kvs : List NV} (s : Same H H') (h : FzN w H a kvs) : FzN w H' a kvs := by
  obtain ⟨o, h1, h2⟩ := h.li
  exact ⟨h.ne, ⟨o, s _ _ h1, h2⟩, fun p hp => (h.ks p hp).mono fun b xs e => s _ _ e⟩
theorem FzN.lk {w : World} {H H' : Hp} {a : Addr} {kvs : List NV} (ls : LSame H H') (h : FzN w H a kvs) : FzN w H' a kvs := by
  obtain ⟨o, h1, h2⟩ := h.li
  refine ⟨h.ne, ⟨o, ?_, h2⟩, fun p hp => (h.ks p hp).mono fun b xs e => ?_⟩
  · rcases ls _ _ h1 with h | ⟨_, _, h, _⟩
    · exact h
    · cases h
  · rcases ls _ _ e with h | ⟨_, _, h, _⟩
    · exact h
    · cases h
theorem BdN.imp {w : World} {H H' : Hp} {a : Addr} {kvs : List NV} (s : Same H H') (h : BdN w H a kvs) : BdN w H' a kvs := ⟨h.ne, s _ _ h.li, fun p hp => (h.ks p hp).mono fun b xs e => s _ _ e⟩
theorem FzN.dict {X : Cx} {pins : List (Addr × Obj)} {σ : L2.St} {H : Hp} {s : Shared} {a : Addr} {kvs : List NV} (I : Inv X pins σ H s) (h : FzN X.w H a kvs) : ∃ xs, PX kvs xs ∧ DictN X.w s.heap a xs := by
  obtain ⟨o, h2, h3⟩ := h.li
  obtain ⟨e, _⟩ := (show ObjOk X.prog X.w H s.heap a (.frz o (.ext fun _ => True)) from I.hok a _ h2)
  exact h3.dictN I.hok h.ks e
theorem BdN.obj {X : Cx} {pins : List (Addr × Obj)} {σ : L2.St} {H : Hp} {s : Shared} {a : Addr} {kvs : List NV} (I : Inv X pins σ H s) (h : BdN X.w H a kvs) : ∃ o, s.heap.get? a = some o ∧ OddN X.w o kvs :=
  (show ObjOk X.prog X.w H s.heap a (oddE X.w a kvs) from I.hok a _ h.li).1
theorem BdN.dict {X : Cx} {pins : List (Addr × Obj)} {σ : L2.St} {H : Hp} {s : Shared} {a : Addr} {kvs : List NV} (I : Inv X pins σ H s) (h : BdN X.w H a kvs) : ∃ xs, PX kvs xs ∧ DictN X.w s.heap a xs := by
  obtain ⟨o, e, h3⟩ := h.obj I
  exact h3.dictN I.hok h.ks e
theorem oddE_ok {P : Program} {w : World} {H : Hp} {h : Heap} {a : Addr} {o : Obj} {kvs : List NV} (e : h.get? a = some o) (O : OddN w o kvs) : ObjOk P w H h a (oddE w a kvs) :=
  ⟨⟨o, e, O⟩, ⟨o, e⟩, fun h1 h2 ⟨o1, e1, r1⟩ f => ⟨o1, f _ e1, r1⟩⟩
theorem oddH_ok {P : Program} {w : World} {H : Hp} {h : Heap} {a : Addr} {o : Obj} (e : h.get? a = some o) : ObjOk P w H h a (oddH o) :=
  ⟨e, True.intro, ⟨o, e⟩, fun _ _ _ _ => True.intro⟩
theorem OddN.of {w : World} {h : Heap} {a : Addr} {xs : List NX} {kvs : List NV} (px : PX kvs xs) (dn : DictN w h a xs) : ∃ o, h.get? a = some o ∧ OddN w o kvs := by
  obtain ⟨o, es, ep, ho, hc, hd, he, hks, hn⟩ := dn
  exact ⟨o, ho, hc, es, ep, xs, hd, he, px, by rw [px_keys px]; exact hn⟩
theorem BdN.write {X : Cx} {pins : List (Addr × Obj)} {σ : L2.St} {H : Hp} {s : Shared} {a : Addr} {kvs kvs' : List NV} {xs : List NX} {h' : Heap} {t' : Nat} (B : BdN X.w H a kvs) (I : Inv X pins σ H s) (hs : Heap.SameBut a s.heap h') (px : PX kvs' xs) (dn : DictN X.w h' a xs) :
    Inv X pins σ (upd H a (oddE X.w a kvs')) { s with heap := h', toks := t' } := by
  obtain ⟨o, ho, O⟩ := OddN.of px dn
  exact d_write I (by rw [B.li]; exact True.intro) hs ⟨o, ho⟩ (oddE_ok ho O)
theorem BdN.put {w : World} {H : Hp} {a : Addr} {kvs kvs' : List NV} (B : BdN w H a kvs) (hk : KsR H kvs') : BdN w (upd H a (oddE w a kvs')) a kvs' :=
  ⟨B.ne, upd_same, fun p hp => (hk p hp).mono fun b xs e => by rw [upd_ne (ne_of e B.li (fun z => nomatch z))]; exact e⟩
theorem BdN.known {w : World} {H : Hp} {a : Addr} {kvs : List NV} {o : Obj} (B : BdN w H a kvs) (O : OddN w o kvs) : FzN w (upd H a (oddH o)) a kvs :=
  ⟨B.ne, ⟨o, upd_same, O⟩, fun p hp => (B.ks p hp).mono fun b xs e => by rw [upd_ne (ne_of e B.li (fun z => nomatch z))]; exact e⟩
/-! ### d[k] = v -/
def rSetN (w : World) : TSet := fun o i v H Q => ∃ a kvs k, o = .ref a ∧ BdN w H a kvs ∧ KR H k i ∧ kvs.length ≤ 1000 ∧ (k ∉ kvs.map (·.1) → Q (upd H a (oddE w a (kvs ++ [(k, i, v)])))) ∧ ∀ j u v0, kvs[j]? = some (k, u, v0) → Q (upd H a (oddE w a (kvs.set j (k, u, v))))
theorem set_oddN {X : Cx} {w : World} (hw : X.w = w) (hu : X.A.units + 9 < cLine) : PSet X (rSetN w) := by
  subst hw
  intro pins s σ H o i v ov iv u Q I ro ri rv h
  obtain ⟨a, kvs, k, eo, B, hk, hz, q1, q2⟩ := h
  subst eo
  cases (show ov = Value.ref a from ro)
  obtain ⟨xs, px, dn⟩ := B.dict I
  obtain ⟨ki, kd⟩ := hk.is I.hok ri
  refine setItemN hu ki kd dn (by have := Paired.length px; rw [sizeLine_eq]; omega) (fun hno h' tk dn' hs => ⟨_, ?_, q1 (by rw [px_keys px]; exact hno)⟩) fun j u0 v0 hj h' tk dn' hs => ?_
  · exact B.write I hs (px_app px (p := (k, i, v)) (x := (k, iv, u)) ⟨rfl, ri, rv⟩) dn'
  · obtain ⟨⟨k', u', v'⟩, hj', e1, r1, r2⟩ := px_getR px hj
    simp only at e1 r1
    subst e1
    exact ⟨_, B.write I hs (px_set j px (p := (k', u', v)) (x := (k', u0, u)) ⟨rfl, r1, rv⟩) dn', q2 j u' v' hj'⟩
/-- either of two settings -/
theorem set_either {X : Cx} {t u : TSet} (h : PSet X t) (g : PSet X u) : PSet X (fun o i v H Q => t o i v H Q ∨ u o i v H Q) := fun pins s σ H o i v ov iv x Q I r1 r2 r3 z => z.elim (h pins s σ H o i v ov iv x Q I r1 r2 r3) (g pins s σ H o i v ov iv x Q I r1 r2 r3)
/-! ### the empty dict to be one; from then on it is known -/
def tThawN (w : World) (te : TE) : TE := fun σ H Q => te σ H fun v H1 => ∃ a, v = .ref a ∧ H1 a = some (.dK []) ∧ (BdN w (upd H1 a (oddE w a [])) a [] → Q v (upd H1 a (oddE w a [])))
theorem pe_thawN {X : Cx} {w : World} {e : Expr} {te : TE} (hw : X.w = w) (he : PE X e te) : PE X e (tThawN w te) := by
  subst hw
  refine ⟨fun pins s σ H Q I h => ?_⟩
  refine thn (he.run pins s σ H _ I h) fun u s1 ⟨v, H1, I1, rv, a, ev, ha, q⟩ => ?_
  subst ev
  obtain ⟨z, hd, vs0, r0, dd⟩ := dk_of I1.hok ha
  cases r0
  obtain ⟨o, es, ep, h1, h2, h3, h4, h5, h6⟩ := dd
  have he2 : es = #[] := by
    have := h5.length
    cases es with
    | mk l => simp at this; rw [this]
  subst he2
  have O : OddN X.w o [] := ⟨h2, #[], ep, [], h3, rfl, .nil, List.nodup_nil⟩
  exact ⟨.ref a, _, I1.write (x := a) (e := a) (h' := s1.heap) (t' := s1.toks) (by rw [ha]; exact True.intro) (.inl rfl) (fun b q _ z => z) ⟨o, h1⟩ (oddE_ok h1 O), rv, q ⟨hd, upd_same, fun p hp => by cases hp⟩⟩
def tFreezeN (w : World) (te : TE) : TE := fun σ H Q => te σ H fun v H1 => ∃ a kvs, v = .ref a ∧ BdN w H1 a kvs ∧ ∀ o, OddN w o kvs → Q v (upd H1 a (oddH o))
theorem pe_freezeN {X : Cx} {w : World} {e : Expr} {te : TE} (hw : X.w = w) (he : PE X e te) : PE X e (tFreezeN w te) := by
  subst hw
  refine ⟨fun pins s σ H Q I h => ?_⟩
  refine thn (he.run pins s σ H _ I h) fun u s1 ⟨v, H1, I1, rv, a, kvs, ev, B, q⟩ => ?_
  subst ev
  obtain ⟨o, ho, O⟩ := B.obj I1
  exact ⟨.ref a, _, I1.write (x := a) (e := a) (h' := s1.heap) (t' := s1.toks) (by rw [B.li]; exact True.intro) (.inl rfl) (fun b q _ z => z) ⟨o, ho⟩ (oddH_ok ho), rv, q o O⟩
/-! ### the display -/
theorem carN_of {P : Program} {w : World} {H : Hp} {h : Heap} (ok : HOk P w H h) : ∀ {kvs : List NV} {ws : List (Value × Value)}, KsR H kvs → VV (kvs.map (·.2)) ws → ∃ ps, CarN h ws ps ∧ PX kvs ps
  | [], _, _, r => by rw [List.map_nil] at r; cases r; exact ⟨[], True.intro, .nil⟩
  | p :: kvs, _, hk, r => by
    rw [List.map_cons] at r
    cases r with
    | @cons a b as bs h1 t =>
      obtain ⟨ps, c, q⟩ := carN_of ok (fun p hp => hk p (List.mem_cons_of_mem _ hp)) t
      obtain ⟨b1, b2⟩ := b
      obtain ⟨ki, kd⟩ := (hk p List.mem_cons_self).is ok h1.1
      exact ⟨(p.1, b1, b2) :: ps, ⟨rfl, rfl, ki, kd, c⟩, .cons ⟨rfl, h1.1, h1.2⟩ q⟩
def tDispN (w : World) (trs : List (TE × TE)) : TE := fun σ H Q => ∀ p, H p = none → tPairs trs σ (upd H p (.dK [])) fun ps H2 => H2 p = some (.dK []) ∧ ∃ kvs : List NV, ps = kvs.map (·.2) ∧ KsR H2 kvs ∧ (kvs.map (·.1)).Nodup ∧
  ∀ o, FzN w (upd H2 p (oddH o)) p kvs → Q (.ref p) (upd H2 p (oddH o))
theorem pe_dispN {X : Cx} {w : World} {pos : Pos} {keys : List (Option Expr)} {values : List Expr} {trs : List (TE × TE)} (hw : X.w = w) (hu : X.A.units + 8 < cLine) (h : L2.PPs X pos keys values trs) (hall : keys.all (·.isSome) = true) (hl : keys.length = values.length) (h0 : keys ≠ [])
    (h15 : keys.length ≤ 15) : PE X (.Dict keys values pos) (tDispN w trs) := by
  subst hw
  refine ⟨fun pins s σ H Q I q => ?_⟩
  have hn := I.hok.fresh (Nat.le_refl s.heap.objs.size)
  have I1 := I.laid (a := s.heap.objs.size) (o := .dK []) (h' := s.heap.push { cls := .type "dict", data := .dict #[] }) (t' := s.toks) (fun _ _ q => Heap.get?_push_of_some _ q) (Nat.le_refl _) (dk_empty s.heap I.big)
  refine Dict_walkN (w := X.w) hu hall hl h0 h15 (thn (h.run pins _ σ _ _ I1 (q _ hn)) fun ws s2 ⟨ps, H2, I2, rel, e, kvs, ep, hks, nd, q2⟩ => ?_)
  subst ep
  obtain ⟨rs, c, px⟩ := carN_of I2.hok hks rel
  obtain ⟨z, hd, vs0, r0, dd⟩ := dk_of I2.hok e
  cases r0
  have dd0 : DictN X.w s2.heap s.heap.objs.size [] := by
    obtain ⟨o, es, ep, h1, h2, h3, h4, h5, h6⟩ := dd
    have he2 : es = #[] := by
      have := h5.length
      cases es with
      | mk l => simp at this; rw [this]
    subst he2
    exact ⟨o, #[], ep, h1, h2, h3, rfl, (fun x hx => nomatch hx), List.nodup_nil⟩
  refine ⟨rs, c, by rw [← px_keys px]; exact nd, dd0, fun h' tk dd' hs => ?_⟩
  obtain ⟨o, ho, O⟩ := OddN.of px dd'
  refine ⟨.ref s.heap.objs.size, _, ?_, rfl, q2 o ⟨hd, ⟨o, upd_same, O⟩, fun p hp => (hks p hp).mono fun b xs e' => by rw [upd_ne (ne_of e' e (fun z => nomatch z))]; exact e'⟩⟩
  exact d_write I2 (by rw [e]; exact True.intro) hs ⟨o, ho⟩ (oddH_ok ho)
/-! ### walked -/
def Iton (d : Addr) (o : Obj) (kvs : List NV) : It :=
  ⟨fun i H => H d = some (oddH o) ∧ i < kvs.length, fun i H x H' => H' = H ∧ ∃ k v, kvs[i]? = some (k, x, v), fun i H => H d = some (oddH o) ∧ kvs.length ≤ i⟩
theorem turn_N {P : Program} {w : World} {K : PySem.W.Frag} {tg : Expr} {d : Addr} {o : Obj} {es : Array DictEntry} {n : Nat} {xs : List NX} {kvs : List NV} (it : Addr) (hc : o.ExactDict) (hdat : o.data = .dict es n) (he : es.toList = xs.map (entN w)) (px : PX kvs xs) :
    Turn P w K tg (Iton d o kvs) [it] it (fun i h => h.IsKeyIter it d i es.size n) where
  mem := by simp
  obj := fun i h st b hb => by
    have e : b = it := by simpa using hb
    subst e
    obtain ⟨oi, e, c, dd⟩ := st
    exact ⟨oi, e, fun v z => by rw [dd] at z; cases z⟩
  keep := fun i h h' st k => st.at fun oi e => k it (by simp) oi e
  item := by
    intro X hP hw hK hcalm i pins s σ H E I hf st hg
    subst hP hw hK
    obtain ⟨hH, hi⟩ := hg
    obtain ⟨f0, f1, f2, f3, f4, f5⟩ := hf it (by simp)
    obtain ⟨ho, _⟩ := (show ObjOk X.prog X.w H s.heap d (.frz o (.ext fun _ => True)) from I.hok d _ hH)
    have hm : s.heap.DictRaw d es n := ⟨o, ho, hc, hdat⟩
    have hsz : es.size = kvs.length := by
      have h1 := ent_size he
      have h2 := Paired.length px
      omega
    have hi2 : i < es.size := by omega
    refine wpAny_pyNext_keys_item_raw st hm hi2 fun h' st' sb => ?_
    have I1 : Inv X pins σ H { s with heap := h' } := I.turned (t' := s.toks) (fun b ob hb e => (sb.2 b hb).trans e) f0 f1 f3 f4 f5
    obtain ⟨oi, e, c, dd⟩ := id st'
    obtain ⟨⟨k, u, v⟩, hp⟩ : ∃ p, kvs[i]? = some p := ⟨kvs[i], List.getElem?_eq_getElem hi⟩
    obtain ⟨x, hx, e1, r1, r2⟩ := px_get px hp
    have hk : es[i].key = x.2.1 := by
      have := ent_at he i
      rw [hx, Array.getElem?_eq_getElem hi2] at this
      simp only [Option.map_some, Option.some.injEq] at this
      rw [this]
      rfl
    exact ⟨es[i].key, rfl, go_of (s := { s with heap := h' }) e c dd (by decide) ⟨u, H, I1, by rw [hk]; exact r1, ⟨rfl, k, v, hp⟩, st', fun b hb => (hf b hb).1⟩⟩
  done := by
    intro X hP hw hK hcalm i pins s σ H E I hf st hg
    subst hP hw hK
    obtain ⟨hH, hi⟩ := hg
    obtain ⟨f0, f1, f2, f3, f4, f5⟩ := hf it (by simp)
    obtain ⟨ho, _⟩ := (show ObjOk X.prog X.w H s.heap d (.frz o (.ext fun _ => True)) from I.hok d _ hH)
    have hm : s.heap.DictRaw d es n := ⟨o, ho, hc, hdat⟩
    have hsz : es.size = kvs.length := by
      have h1 := ent_size he
      have h2 := Paired.length px
      omega
    exact wpAny_pyNext_keys_end_raw (I.ok.hd hcalm) st hm (by omega) fun h' eb => ⟨rfl, I.turned (t' := s.toks) (fun b ob hb e => eb b ob hb e) f0 f1 f3 f4 f5⟩
  self := fun A i s Q E st h => wpAny_pyIter_keyiter st h
def iN (w : World) (td : TE) : TI := fun σ H R => td σ H fun x H1 => ∃ d kvs, x = .ref d ∧ FzN w H1 d kvs ∧ ∀ o, H1 d = some (oddH o) → R (Iton d o kvs) H1
theorem pi_N {X : Cx} {w : World} {tg e : Expr} {td : TE} (hw : X.w = w) (he : PE X e td) : PI X tg e (iN w td) := by
  subst hw
  refine ⟨fun pins s σ H R I h => ?_⟩
  refine thn (he.run pins s σ H _ I h) fun u s1 ⟨x, H1, I1, rx, d, kvs, ex, F, q⟩ => ?_
  subst ex
  obtain rfl : u = Value.ref d := rx
  obtain ⟨o, hH, O⟩ := F.li
  obtain ⟨e1, _⟩ := (show ObjOk X.prog X.w H1 s1.heap d (.frz o (.ext fun _ => True)) from I1.hok d _ hH)
  obtain ⟨es, ep, xs, d1, d2, d3, d4⟩ := O.dat
  exact wpAny_pyIter_dict_raw F.ne ⟨o, e1, O.cls, d1⟩ (pi_one (tk := s1.toks) I1 _ (turn_N _ O.cls d1 d2 d3) ⟨_, Heap.get?_push_size _ rfl, rfl, rfl⟩ (q o hH))
theorem walk_N {d : Addr} {o : Obj} {kvs : List NV} : Walk (Iton d o kvs) kvs.length (fun H => H d = some (oddH o)) (fun i H x H' => H' = H ∧ ∃ k v, kvs[i]? = some (k, x, v)) :=
  ⟨fun _ _ hi q => ⟨q, hi⟩, fun _ q => ⟨q, Nat.le_refl _⟩, fun _ _ _ _ _ _ y => y⟩
/-! ### for i, k in enumerate(d) -/
def Itne (d : Addr) (o : Obj) (kvs : List NV) : It :=
  ⟨fun i H => H d = some (oddH o) ∧ i < kvs.length, fun i H v H' => ∃ T k u x, kvs[i]? = some (k, u, x) ∧ v = .ref T ∧ H T = none ∧ H' = upd H T (.tup [.int (i : Nat), u]), fun i H => H d = some (oddH o) ∧ kvs.length ≤ i⟩
theorem turn_enumN {P : Program} {w : World} {K : PySem.W.Frag} {elts : List Expr} {kk : Nat} {tpos : Pos} {d : Addr} {o : Obj} {es : Array DictEntry} {ep : Nat} {xs : List NX} {kvs : List NV} (e it : Addr) (hod : o.data = .dict es ep) (hes : es.toList = xs.map (entN w)) (px : PX kvs xs) (hde : d ≠ e) (hdi : d ≠ it) :
    Turn P w K (.Tuple elts kk tpos) (Itne d o kvs) [e, it] e (fun i h => (∃ old, IsEnum h e it ((i : Nat) : Int) old) ∧ h.IsKeyIter it d i es.size ep ∧ e ≠ it) where
  mem := by simp
  obj := fun i h st b hb => by
    obtain ⟨⟨old, he⟩, ⟨o, ho, hc, hd⟩, _⟩ := st
    have e' : b = e ∨ b = it := by simpa using hb
    rcases e' with z | z
    · rw [z]; exact ⟨_, he, fun v q => nomatch q⟩
    · rw [z]; exact ⟨o, ho, fun v q => by rw [hd] at q; cases q⟩
  keep := fun i h h' st k => let ⟨⟨old, he⟩, hi, hne⟩ := st; ⟨⟨old, k e (by simp) _ he⟩, hi.at fun o q => k it (by simp) o q, hne⟩
  item := by
    intro X hP hw hK hc i pins s σ H E I hf st hg
    subst hP hw hK
    obtain ⟨⟨old, he⟩, hit, hne⟩ := st
    obtain ⟨hd, hi⟩ := hg
    obtain ⟨hgd, _⟩ := (show ObjOk X.prog X.w H s.heap d (.frz o (.ext fun _ => True)) from I.hok d _ hd)
    have hsz : es.size = kvs.length := by
      have h1 := ent_size hes
      have h2 := Paired.length px
      omega
    obtain ⟨⟨k, u0, v⟩, hkv⟩ : ∃ p, kvs[i]? = some p := ⟨kvs[i], List.getElem?_eq_getElem hi⟩
    obtain ⟨x0, hx0, e1, r1, r2⟩ := px_get px hkv
    have hel : e < s.heap.objs.size := Heap.lt_size he
    have hil : it < s.heap.objs.size := by obtain ⟨_, q, _⟩ := hit; exact Heap.lt_size q
    have hh : X.A.in1.handled = none := I.ok.hd hc
    refine wpAny_pyNext_enum_itemD (draws_keys hh it d hdi o es ep hod) he ⟨hit, hgd⟩ (by omega) hne (by simp [hne, hde.symm]) fun x h' tk ⟨en, hen, hkx⟩ ho st' hT hsz2 hk => ?_
    refine ⟨_, rfl, wpAny_letOwnedTupleGo_enum (s := { s with heap := h', toks := tk + 1 }) ho fun h'' he' sb => ?_⟩
    have hkey : RelV u0 x := by
      rw [← hkx]
      have := ent_at hes i
      rw [hx0, hen] at this
      simp only [Option.map_some, Option.some.injEq] at this
      rw [this]
      exact r1
    have hT2 : h''.get? s.heap.objs.size = some { cls := .type "tuple", data := .seq #[.int i tk, x] } := (sb.2 _ (Nat.ne_of_gt hel)).trans hT
    have new : ObjOk X.prog X.w (upd H s.heap.objs.size (.tup [.int (i : Nat), u0])) h'' s.heap.objs.size (.tup [.int (i : Nat), u0]) :=
      ⟨by show 2 ≤ sizeLine; decide, [.int i tk, x], .cons ⟨_, rfl⟩ (.cons hkey .nil), ⟨_, hT2, rfl, _, rfl⟩⟩
    have I1 : Inv X pins σ (upd H s.heap.objs.size (.tup [.int (i : Nat), u0])) { s with heap := h'', toks := tk + 1 } :=
      I.turnedNew (ch := [e, it]) (fun b ob hb q => (sb.2 b (fun z => hb (by simp [z]))).trans (hk b ob (fun z => hb (by simp [z])) (fun z => hb (by simp [z])) q)) hf (Nat.le_refl _) new
    refine ⟨.ref s.heap.objs.size, _, I1, rfl, ⟨_, k, u0, v, hkv, rfl, I.hok.fresh (Nat.le_refl _), rfl⟩, ⟨⟨x, ?_⟩, st'.1.at fun o q => (sb.2 it (Ne.symm hne)).trans q, hne⟩, fun b hb => ?_⟩
    · have e1 : ((i + 1 : Nat) : Int) = (i : Int) + 1 := by omega
      rw [e1]; exact he'
    · have hb' : b < s.heap.objs.size := by
        have e' : b = e ∨ b = it := by simpa using hb
        rcases e' with z | z
        · rw [z]; exact hel
        · rw [z]; exact hil
      rw [upd_ne (Nat.ne_of_lt hb')]
      exact (hf b hb).1
  done := by
    intro X hP hw hK hc i pins s σ H E I hf st hg
    subst hP hw hK
    obtain ⟨⟨old, he⟩, hit, hne⟩ := st
    obtain ⟨hd, hi⟩ := hg
    obtain ⟨hgd, _⟩ := (show ObjOk X.prog X.w H s.heap d (.frz o (.ext fun _ => True)) from I.hok d _ hd)
    have hsz : es.size = kvs.length := by
      have h1 := ent_size hes
      have h2 := Paired.length px
      omega
    obtain ⟨f0, f1, f2, f3, f4, f5⟩ := hf it (by simp)
    have hh : X.A.in1.handled = none := I.ok.hd hc
    exact next_enumK_end hh he hit hgd hod rfl (by omega) fun h' eb => ⟨rfl, I.turned (t' := s.toks) (fun b o hb q => eb b o hb q) f0 f1 f3 f4 f5⟩
  self := fun A i s Q E st h => let ⟨⟨_, he⟩, _⟩ := st; wpAny_pyIter_enum he h
def iEnumN (w : World) (ta : TA) : TI := fun σ H R => ta σ H fun vs H1 => ∃ d kvs, vs = [.ref d] ∧ FzN w H1 d kvs ∧ ∀ o, H1 d = some (oddH o) → R (Itne d o kvs) H1
theorem pi_enumN {X : Cx} {w : World} {e : Expr} {ta : TA} {p pos tpos : Pos} {elts : List Expr} {kk : Nat} (hw : X.w = w) (hg : Gl X "enumerate") (hm : X.mg "enumerate" = none) (ha : PA X [e] ta) (hs : starEach [e] X.env = [(false, eval e X.env)] := by rfl) :
    PI X (.Tuple elts kk tpos) (.Call (.Name "enumerate" p) [e] [] pos) (iEnumN w ta) := by
  subst hw
  refine ⟨fun pins s σ H R I h => ?_⟩
  refine Call_ (ld_blt I hg hm boot_enumerate (PyProof.Rows.callWith_type1 (thn (ha.run pos pins s σ H _ I h) fun us s1 ⟨vs, H1, I1, r1, q1⟩ => ?_) hs rfl))
  obtain ⟨d, kvs, ex, F, q⟩ := q1
  subst ex
  cases r1 with
  | cons r rr =>
    cases rr
    cases r
    obtain ⟨o, hd, O⟩ := F.li
    obtain ⟨es, ep, xs, d1, d2, d3, d4⟩ := O.dat
    obtain ⟨hgd, _⟩ := (show ObjOk X.prog X.w H1 s1.heap d (.frz o (.ext fun _ => True)) from I1.hok d _ hd)
    refine enum_begins1 (begins_keys d o es ep F.ne O.cls d1) hgd fun h' he hit hsz2 hk => wpAny_pyIter_enum he ?_
    have I2 : Inv X pins σ H1 { s1 with heap := h' } := I1.kept (t' := s1.toks) hk
    have hdl : d < s1.heap.objs.size := Heap.lt_size hgd
    refine ⟨s1.heap.objs.size + 1, [s1.heap.objs.size + 1, s1.heap.objs.size], _, _, H1, rfl, I2, turn_enumN (s1.heap.objs.size + 1) s1.heap.objs.size d1 d2 d3 (Nat.ne_of_lt (Nat.lt_succ_of_lt hdl)) (Nat.ne_of_lt hdl), ⟨⟨.none, he⟩, ⟨_, hit, rfl, rfl⟩, Nat.succ_ne_self _⟩, fun b hb => ?_, q o hd⟩
    have e' : b = s1.heap.objs.size + 1 ∨ b = s1.heap.objs.size := by simpa using hb
    have hle : s1.heap.objs.size ≤ b := by
      rcases e' with z | z
      · rw [z]; exact Nat.le_add_right _ _
      · rw [z]; exact Nat.le_refl _
    exact I1.fpOk hle (I1.hok.fresh hle)
theorem walk_enumN {d : Addr} {o : Obj} {kvs : List NV} : Walk (Itne d o kvs) kvs.length (fun H => H d = some (oddH o)) (YPair (fun i => some (.int (i : Nat))) (fun i => kvs[i]?.map fun p => p.2.1)) := by
  refine ⟨fun _ _ hi q => ⟨q, hi⟩, fun _ q => ⟨q, Nat.le_refl _⟩, fun i H x H' _ _ y => ?_⟩
  obtain ⟨T, k, u, v, h1, h2, h3, h4⟩ := y
  exact ⟨T, .int (i : Nat), u, h2, h3, h4, rfl, by simp [h1]⟩
/-! ### d[k] -/
def tDGetN (w : World) (td ty : TE) : TE := fun σ H Q => td σ H fun x H1 => ty σ H1 fun y H2 => ∃ (a : Addr) (kvs : List NV) (i : Nat) (k : NestedKey) (u v : V), x = .ref a ∧ KR H2 k y ∧ FzN w H2 a kvs ∧ kvs[i]? = some (k, u, v) ∧ Q v H2
theorem pe_dgetN {X : Cx} {w : World} {o i : Expr} {td ty : TE} {pos : Pos} (hw : X.w = w) (hu : X.A.units + 9 < cLine) (ho : PE X o td) (hi : PE X i ty) (hs : NoSl i) : PE X (.Subscript o i pos) (tDGetN w td ty) := by
  subst hw
  refine ⟨fun pins s σ H Q I h => ?_⟩
  refine subD_of PySem.F.slot_dict_getitem.lookup hs (thn (ho.run pins s σ H _ I h) fun u s1 ⟨x, H1, I1, rx, q1⟩ => thn (hi.run pins s1 σ H1 _ I1 q1) fun iv s2 ⟨y, H2, I2, ry, a, kvs, j, k, u0, v, ex, hk, F, hj, q2⟩ => ?_)
  subst ex
  obtain rfl : u = Value.ref a := rx
  obtain ⟨xs, px, dn⟩ := F.dict I2
  obtain ⟨⟨k', u', v'⟩, hj', e1, r1, r2⟩ := px_get px hj
  simp only at e1
  subst e1
  obtain ⟨ki, kd⟩ := hk.is I2.hok ry
  exact ⟨dn.typeIs, getItemN hu ki kd dn hj' fun tk => ⟨v, H2, I2.tok _, r2, q2⟩⟩
/-! ### isinstance, len -/
theorem FzN.isi {w : World} {K : PySem.W.Frag} {H : Hp} {a : Addr} {kvs : List NV} {T : String} {b : Bool} {Q : VK} (F : FzN w H a kvs) (hk : kitB "dict" T = some b) (q : Q (.bl b) H) : rIsiO K [.ref a, .ty T] H Q := by
  obtain ⟨o, h1, h2⟩ := F.li
  exact .inr ⟨a, o, T, b, rfl, h1, h2.cls, hk, q⟩
/-! ### repr -/
/-- v stands for d in H, read as it stands -/
def ShN (P : Program) (w : World) (H : Hp) (v : V) (d : PyData) : Prop := ∀ (h : Heap) (u : Value), HOk P w H h → RelV v u → ∃ as, Reads h u d as ∧ ∀ b ∈ as, H b ≠ none
theorem Rp.shN {P : Program} {w : World} {H : Hp} {n : Nat} {v : V} {d : PyData} (h : Rp H n v d) : ShN P w H v d := fun hp u ok r => h.reads ok r
theorem ShN.list {P : Program} {w : World} {H : Hp} {a : Addr} {xs : List V} {ds : List PyData} (ha : H a = some (.lst xs)) (hp : Paired (ShN P w H) xs ds) : ShN P w H (.ref a) (.list ds) := fun h u ok r => by
  cases r
  obtain ⟨_, its, m, rv, hg⟩ := ok a _ ha
  obtain ⟨as, h1, g1⟩ := readsAll_of (h := h) (G := fun b => H b ≠ none) (fun v d u q r => q h u ok r) hp rv
  refine ⟨a :: as, .list hg rfl rfl (by simpa using h1), ?_⟩
  intro b hb
  rcases List.mem_cons.mp hb with rfl | hb
  · rw [ha]; simp
  · exact g1 b hb
theorem ShN.tuple {P : Program} {w : World} {H : Hp} {a : Addr} {xs : List V} {ds : List PyData} (ha : H a = some (.tup xs)) (hp : Paired (ShN P w H) xs ds) : ShN P w H (.ref a) (.tuple ds) := fun h u ok r => by
  cases r
  obtain ⟨_, its, rv, o, ho, hc, m, hd⟩ := ok a _ ha
  obtain ⟨as, h1, g1⟩ := readsAll_of (h := h) (G := fun b => H b ≠ none) (fun v d u q r => q h u ok r) hp rv
  exact ⟨as, .tuple ho hc hd (by simpa using h1), g1⟩
theorem ShN.dict {P : Program} {w : World} {H : Hp} {a : Addr} {kvs : List (Key × V)} {es : List (PyData × PyData)} (ha : Rd H a (.dK kvs)) (hp : Paired (fun (p : Key × V) (q : PyData × PyData) => q.1 = kD p.1 ∧ ShN P w H p.2 q.2) kvs es) : ShN P w H (.ref a) (.dict es) := fun h u ok r => by
  cases r
  obtain ⟨_, _, ws, rv, o, ds, ep, ho, hx, hd, _, hpr, _⟩ := ha.ok ok
  obtain ⟨⟨as, h1, e1⟩, bs, h2, g2⟩ := readsKv_of (h := h) (G := fun b => H b ≠ none) (F := ShN P w H) (fun v d u q r => q h u ok r) hp rv hpr
  subst e1
  refine ⟨_, .dict ho hx.1 hd h1 h2, ?_⟩
  intro b hb
  simp only [List.append_nil, List.cons_append, List.nil_append, List.mem_cons] at hb
  rcases hb with rfl | hb
  · rcases ha with ha | ⟨_, ha⟩ <;> rw [ha] <;> simp
  · exact g2 b hb
theorem ShN.odd {P : Program} {w : World} {H : Hp} {a : Addr} {kvs : List NV} {es : List (PyData × PyData)} (F : FzN w H a kvs) (hp : Paired (fun (p : NV) (q : PyData × PyData) => ShN P w H p.2.1 q.1 ∧ ShN P w H p.2.2 q.2) kvs es) : ShN P w H (.ref a) (.dict es) := fun h u ok r => by
  cases r
  obtain ⟨o, hH, O⟩ := F.li
  obtain ⟨ho, _⟩ := (show ObjOk P w H h a (.frz o (.ext fun _ => True)) from ok a _ hH)
  obtain ⟨ds, ep, xs, d1, d2, d3, d4⟩ := O.dat
  have main : ∀ {kvs : List NV} {es : List (PyData × PyData)} {xs : List NX}, Paired (fun (p : NV) (q : PyData × PyData) => ShN P w H p.2.1 q.1 ∧ ShN P w H p.2.2 q.2) kvs es → PX kvs xs →
      (∃ as, ReadsAll h ((xs.map (entN w)).map (·.key)) (es.map (·.1)) as ∧ ∀ b ∈ as, H b ≠ none) ∧ ∃ bs, ReadsAll h ((xs.map (entN w)).map (·.val)) (es.map (·.2)) bs ∧ ∀ b ∈ bs, H b ≠ none := by
    intro kvs es xs hp
    induction hp generalizing xs with
    | nil => intro r; cases r; exact ⟨⟨[], .nil, by simp⟩, [], .nil, by simp⟩
    | cons c _ ih =>
      intro r
      cases r with
      | cons r1 r2 =>
        obtain ⟨⟨as, h1, g1⟩, bs, h2, g2⟩ := ih r2
        obtain ⟨cs, h3, g3⟩ := c.1 h _ ok r1.2.1
        obtain ⟨es', h4, g4⟩ := c.2 h _ ok r1.2.2
        refine ⟨⟨cs ++ as, .cons h3 h1, fun b hb => ?_⟩, es' ++ bs, .cons h4 h2, fun b hb => ?_⟩
        · rcases List.mem_append.mp hb with hb | hb
          · exact g3 b hb
          · exact g1 b hb
        · rcases List.mem_append.mp hb with hb | hb
          · exact g4 b hb
          · exact g2 b hb
  obtain ⟨⟨as, h1, g1⟩, bs, h2, g2⟩ := main hp d3
  rw [← d2] at h1 h2
  refine ⟨_, .dict ho O.cls.1 d1 h1 h2, ?_⟩
  intro b hb
  simp only [List.cons_append, List.mem_cons, List.mem_append] at hb
  rcases hb with rfl | hb | hb
  · rw [hH]; simp [oddH]
  · exact g1 b hb
  · exact g2 b hb
def rReprN (P : Program) (w : World) : List V → Hp → VK → Prop := fun xs H Q => ∃ v d, xs = [v] ∧ ShN P w H v d ∧ d.depth ≤ 90 ∧ d.showable = true ∧ d.shown.length ≤ sizeLine ∧ Q (.str d.shown) H
theorem call_reprN {X : Cx} {P : Program} {w : World} (hP : X.prog = P) (hw : X.w = w) (hg : X.A.guards = some []) (hsys : ∃ o, X.base.get? sysModules = some o) (hu : X.A.units + 100 < cLine) : CallR X (.builtin "repr") (rReprN P w) := by
  subst hP hw
  intro pins s σ H xs us Q I r h
  obtain ⟨v, d, rfl, hd, hdep, hs, hz, q⟩ := h
  obtain ⟨u, rfl, rv⟩ := vals1 r
  obtain ⟨o0, hs0⟩ := hsys
  have hsm : H sysModules = none := (I.bs _ _ hs0).2
  obtain ⟨as, rd, g⟩ := hd s.heap u I.hok rv
  have no : sysModules ∉ as := fun hm => g _ hm hsm
  cases rd with
  | none => exact PySem.P.repr_of_none ⟨.str _, H, I.tok _, ⟨_, rfl⟩, q⟩
  | bool b => exact PySem.P.repr_of_bool ⟨.str _, H, I.tok _, ⟨_, rfl⟩, q⟩
  | int i t =>
    have hi : i.natAbs.log2 < 1920 := of_decide_eq_true hs
    exact PySem.P.repr_of_int hi ⟨.str _, H, I.tok _, ⟨_, rfl⟩, q⟩
  | str x t => exact PySem.P.repr_of_str ⟨.str _, H, I.tok _, ⟨_, rfl⟩, q⟩ hz
  | list a1 a2 a3 a4 => exact repr_of_reads' (.list a1 a2 a3 a4) hs (fun _ => no) hg (by omega) (fun b o e => e) (fun h' t tk hk => ⟨.str _, H, I.un (Un.kept hk) (I.hok.kept hk), ⟨_, rfl⟩, q⟩) hz
  | tuple a1 a2 a3 a4 => exact repr_of_reads' (.tuple a1 a2 a3 a4) hs (fun _ => no) hg (by omega) (fun b o e => e) (fun h' t tk hk => ⟨.str _, H, I.un (Un.kept hk) (I.hok.kept hk), ⟨_, rfl⟩, q⟩) hz
  | dict a1 a2 a3 a4 a5 => exact repr_of_reads' (.dict a1 a2 a3 a4 a5) hs (fun _ => no) hg (by omega) (fun b o e => e) (fun h' t tk hk => ⟨.str _, H, I.un (Un.kept hk) (I.hok.kept hk), ⟨_, rfl⟩, q⟩) hz
theorem u9 {k : Nat} {A : Around} (h : Room k A) : A.units + 9 < cLine := by have := h.un; omega
theorem u8 {k : Nat} {A : Around} (h : Room k A) : A.units + 8 < cLine := by have := h.un; omega
end SC

set_option Elab.async false
set_option linter.all false
set_option maxRecDepth 100000
set_option maxHeartbeats 4000000
/-! SN3: ints and truth values by <=; a comprehension over a walk with a test, of which only is known whether one passed. -/
namespace SC
open PySem PySem.Spec PyProof.Rows L2 SeqAt
open Sem (wp)
section
variable {prog : Program} {w : World} {A : Around} {E : Value → Shared → Prop} {s : Shared}
theorem nb (b : Bool) : Value.bool b ≠ .notImplemented := nofun
theorem gives_le_bi (a : Bool) (b : Int) (u : Tok) : Gives (Builtin.«int.__le__» ⟨[.bool a, .int b u], []⟩) (.val (Value.bool (decide ((if a = true then (1 : Int) else 0) ≤ b)))) :=
  .of_wp fun M A E s Q h => by obtain ⟨hp, g, d, tk, os⟩ := s; wp_walk; exact ⟨_, rfl, h⟩
theorem gives_ge_bi (a : Bool) (b : Int) (u : Tok) : Gives (Builtin.«int.__ge__» ⟨[.bool a, .int b u], []⟩) (.val (Value.bool (decide ((if a = true then (1 : Int) else 0) ≥ b)))) :=
  .of_wp fun M A E s Q h => by obtain ⟨hp, g, d, tk, os⟩ := s; wp_walk; exact ⟨_, rfl, h⟩
theorem le_bi {a : Bool} {b : Int} {u : Tok} {Q : Value → Shared → Prop} (h : Q (.bool (decide ((if a = true then (1 : Int) else 0) ≤ b))) s) : wpAny (model prog w) A (compareOp .LtE (.bool a) (.int b u)) Q E s := by
  show wpAny _ _ (richCompare .LtE (.bool a) (.int b u)) Q E s
  exact rc_left_or (op := .LtE) (Ta := "bool") (Tb := "int") rfl (typeIs_int s b u) (by decide) F.sub_int_bool F.slot_bool_le (call_gives F.slot_bool_le rfl F.entry_int_le (F.args_int_le_2 _ _) (gives_le_bi a b u) ⟨nb _, h⟩) (.inl rfl)
theorem le_ib {a : Int} {t : Tok} {b : Bool} {Q : Value → Shared → Prop} (h : Q (.bool (decide (a ≤ (if b = true then (1 : Int) else 0)))) s) : wpAny (model prog w) A (compareOp .LtE (.int a t) (.bool b)) Q E s := by
  show wpAny _ _ (richCompare .LtE (.int a t) (.bool b)) Q E s
  exact rc_sub_first_or (op := .LtE) (Ta := "int") (Tb := "bool") (typeIs_int s a t) rfl (by decide) F.sub_bool_int F.slot_bool_ge_refl (call_gives F.slot_bool_ge_refl rfl F.entry_int_ge (F.args_int_ge_2 _ _) (gives_ge_bi b a t) ⟨nb _, h⟩) (.inl rfl)
end
def rLeN : R2 := fun x y H Q => ∃ i j : Int, ((x = .int i ∧ y = .int j) ∨ (x = .int i ∧ ∃ b : Bool, y = .bl b ∧ j = if b = true then 1 else 0) ∨ (∃ b : Bool, x = .bl b ∧ i = (if b = true then 1 else 0) ∧ y = .int j)) ∧ Q (.bl (decide (i ≤ j))) H
theorem op_leN {X : Cx} : OpR X (compareOp .LtE) rLeN := by
  intro pins s σ H x y v u Q I rx ry ⟨i, j, h, q⟩
  rcases h with ⟨rfl, rfl⟩ | ⟨rfl, b, rfl, rfl⟩ | ⟨b, rfl, rfl, rfl⟩
  · obtain ⟨t, rfl⟩ := rx; obtain ⟨t2, rfl⟩ := ry
    exact PySem.P.le_int ⟨.bl _, H, I, rfl, q⟩
  · obtain ⟨t, rfl⟩ := rx; cases ry
    exact le_ib ⟨.bl _, H, I, rfl, q⟩
  · cases rx; obtain ⟨t2, rfl⟩ := ry
    exact le_bi ⟨.bl _, H, I, rfl, q⟩
section
variable {J : It} {n : Nat} {G : Hp → Prop} {Y : Nat → Hp → V → Hp → Prop}
/-- [x for x in .. if ..]: whether one passed -/
theorem lcN_any (w : Walk J n G Y) (X : Nat → V → Prop) (hX : ∀ i H x H', Y i H x H' → H' = H ∧ X i x) {tt : TT} {j : Nat} {σ : L2.St} {H1 : Hp} {Q : VK} (hG : ∀ H', Same H1 H' → G H') (p : Nat → Bool) (hz : n ≤ 100000) (hj : j < σ.length)
    (step : ∀ i x H' (N : Bool → Hp → Prop), X i x → Same H1 H' → (∀ H4, Same H' H4 → N (p i) H4) → tt ((wipe σ [j]).set j (some x)) H' N)
    (done : ∀ D H' ys, H1 D = none → Same H1 H' → H' D = some (.lst ys) → ys.length ≤ n → ((∃ i < n, p i = true) → ys ≠ []) → Q (.ref D) H') : LcR J (gName j) tt (tVar j) [j] σ H1 Q := by
  refine lc_itR w (fun D i H' => Same H1 H' ∧ ∃ ys, H' D = some (.lst ys) ∧ ys.length ≤ i ∧ ((∃ m < i, p m = true) → ys ≠ [])) (fun D hD => ⟨same_new hD _, [], upd_same, Nat.le_refl _, fun ⟨m, hm, _⟩ => absurd hm (Nat.not_lt_zero _)⟩) (fun D i H _ _ h => hG H h.1) ?_ (fun D H hD ⟨h1, ys, h2, h3, h4⟩ => done D H ys hD h1 h2 h3 h4)
  rintro D i x H H' hD hi ⟨s, ys, e, hl, hne⟩ y
  obtain ⟨rfl, hx⟩ := hX _ _ _ _ y
  refine ⟨wipe1, step i x _ _ hx s fun H4 s4 => ?_⟩
  split
  · refine ⟨x, by simp [gName, wipe, hj], ys, s4 _ _ e, ?_, same_mut (s.trans s4) hD, _, upd_same, by simp; omega, fun _ => by simp⟩
    rw [sizeLine_eq]; omega
  · rename_i hp
    refine ⟨s.trans s4, ys, s4 _ _ e, by omega, fun ⟨m, hm, hpm⟩ => ?_⟩
    by_cases hmi : m = i
    · subst hmi; exact absurd hpm hp
    · exact hne ⟨m, by omega, hpm⟩
end
end SC

set_option Elab.async false
set_option linter.all false
set_option maxRecDepth 100000
set_option maxHeartbeats 4000000
/-! SN4: len of a dict with keys of many kinds; isinstance with two types. -/
namespace PySem
open Sem (wp)
section
variable {prog : Program} {w : World} {A : Around} {E : Value → Shared → Prop} {s : Shared}
theorem wpAny_len_body_raw {d : Addr} {es : Array DictEntry} {ep : Nat} {Q : Value → Shared → Prop} (hd : (d == sysModules) = false) (hm : s.heap.DictRaw d es ep) (hfit : (es.size : Int) < 2 ^ 63)
    (h : Q (.int es.size (s.toks + 1)) { s with toks := s.toks + 1 + 1 }) : wpAny (model prog w) A (Builtin.«len» ⟨[.ref d], []⟩) (fun fin s' => ∃ r, fin = .done (.ret r) ∧ Q r s') E s := by
  unfold Builtin.«len»
  refine wpAny_bind (m := oneArg "len" _) (wpAny_pure ?_)
  refine wpAny_bind (m := callSpecial? (.ref d) (Str.ofString "__len__")) (wpAny_callSpecial?_slot (name := Str.ofString "__len__") hm.typeIs F.slot_dict_len
    (call_len_raw hd hm ?_))
  show wpAny _ _ _ _ _ { s with toks := s.toks + 1 }
  refine wpAny_bind (wpAny_holding (wpAny_pure ?_))
  refine wpAny_bind (wpAny_letGo ?_)
  show wpAny _ _ (if ((es.size : Nat) : Int) < 0 then _ else _) _ _ _
  rw [if_neg (by omega)]
  show wpAny _ _ (if ((es.size : Nat) : Int) ≥ 2 ^ 63 then _ else _) _ _ _
  rw [if_neg (by omega)]
  exact wpAny_bind (wpAny_mkInt (wpAny_pure ⟨_, rfl, h⟩))
theorem call_lenB_raw {d : Addr} {es : Array DictEntry} {ep : Nat} {Q : Value → Shared → Prop} (hd : (d == sysModules) = false) (hm : s.heap.DictRaw d es ep) (hfit : (es.size : Int) < 2 ^ 63)
    (h : Q (.int es.size (s.toks + 1)) { s with toks := s.toks + 1 + 1 }) : wpAny (model prog w) A (call (.builtin "len") [.ref d]) Q E s :=
  Calls.call_function_entry kind_len plain_len entry_len (args_len1 _) (wpAny_len_body_raw hd hm hfit h)
end
end PySem
namespace SC
open PySem PySem.Spec PyProof.Rows L2
open Sem (wp)
def rLenN (w : World) (K : PySem.W.Frag) : List V → Hp → VK → Prop := fun xs H Q => rLenA K xs H Q ∨ ∃ a kvs, xs = [V.ref a] ∧ FzN w H a kvs ∧ kvs.length ≤ 1000 ∧ Q (.int (kvs.length : Nat)) H
theorem lenNK {X : Cx} {w : World} {K : PySem.W.Frag} (h : X.K = K) (hw : X.w = w) : CallR X (.builtin "len") (rLenN w K) := by
  subst hw
  intro pins s σ H xs us Q I r h'
  rcases h' with h' | ⟨a, kvs, rfl, F, hz, q⟩
  · exact lenAK h pins s σ H xs us Q I r h'
  · obtain ⟨u, rfl, rx⟩ := vals1 r
    obtain rfl : u = .ref a := rx
    obtain ⟨o, hH, O⟩ := F.li
    obtain ⟨e1, _⟩ := (show ObjOk X.prog X.w H s.heap a (.frz o (.ext fun _ => True)) from I.hok a _ hH)
    obtain ⟨es, ep, xs, d1, d2, d3, d4⟩ := O.dat
    have hsz : es.size = kvs.length := by
      have h1 := ent_size d2
      have h2 := Paired.length d3
      omega
    refine call_lenB_raw F.ne ⟨o, e1, O.cls, d1⟩ (by omega) ?_
    rw [hsz]
    exact ⟨.int kvs.length, H, I.tok _, ⟨_, rfl⟩, q⟩
/-! ### isinstance(x, (T, U)) -/
def rIsiTO (K : PySem.W.Frag) : List V → Hp → VK → Prop := fun xs H Q => rIsiT K xs H Q ∨ ∃ (a tp : Addr) (o : Obj) (T U : Ty), xs = [.ref a, .ref tp] ∧ H tp = some (.tup [.ty T.nm, .ty U.nm]) ∧ H a = some (oddH o) ∧ o.ExactDict ∧ Q (.bl (isT T (.dict []) || isT U (.dict []))) H
theorem kit2 {K : PySem.W.Frag} (T U : Ty) (d : PyData) : PySem.W.kitAny K (.type (tyD d)) [.type T.nm, .type U.nm] = some (isT T d || isT U d) := by
  refine kitAny_cons (b := isT T d) (kit_ty (kit_isT T d)) (fun e => ?_) (fun e => by rw [e]; rfl)
  rw [e, Bool.false_or]
  exact kitAny_cons (b := isT U d) (kit_ty (kit_isT U d)) (fun e => by rw [e]; exact kitAny_nil) (fun e => e)
theorem call_isiTO {X : Cx} : CallR X (.builtin "isinstance") (rIsiTO X.K) := by
  intro pins s σ H xs us Q I r h
  rcases h with h | ⟨a, tp, o, T, U, rfl, hT, hH, hc, q⟩
  · exact call_isiT pins s σ H xs us Q I r h
  obtain ⟨u1, u2, rfl, r1, r2⟩ := vals2 r
  cases (show u1 = Value.ref a from r1)
  cases (show u2 = Value.ref tp from r2)
  obtain ⟨e1, _⟩ := (show ObjOk X.prog X.w H s.heap a (.frz o (.ext fun _ => True)) from I.hok a _ hH)
  obtain ⟨_, its, rv, ot, h1, h2, n, h3⟩ := (show ObjOk X.prog X.w H s.heap tp (.tup [.ty T.nm, .ty U.nm]) from I.hok tp _ hT)
  have e3 := ClsV.all (.cons (.ty _) (.cons (.ty _) .nil)) rv
  subst e3
  obtain ⟨oc, od, dt, sl⟩ := ot
  simp only at h2 h3
  subst h2 h3
  exact PySem.W.kia_tup PySem.W.kitx_dict I.kIn ⟨o, e1, hc.1⟩ h1 (kit2 T U (.dict [])) (fun z => nomatch z) fun tk => ⟨.bl _, H, I.tok tk, rfl, q⟩
theorem isiTOK {X : Cx} {K : PySem.W.Frag} (h : X.K = K) : CallR X (.builtin "isinstance") (rIsiTO K) := by subst h; exact call_isiTO
theorem isiT_ty {K : PySem.W.Frag} {H : Hp} {v : V} {d : PyData} {p : Addr} (T U : Ty) {Q : VK} (h : TyX K H v (.type (tyD d))) (hp : H p = some (.tup [.ty T.nm, .ty U.nm])) (q : Q (.bl (isT T d || isT U d)) H) : rIsiTO K [v, .ref p] H Q :=
  .inl ⟨v, p, _, _, [.type T.nm, .type U.nm], isT T d || isT U d, rfl, hp, .cons (.ty _) (.cons (.ty _) .nil), h, kit2 T U d, q⟩
theorem isiT_odd {w : World} {K : PySem.W.Frag} {H : Hp} {a p : Addr} {kvs : List NV} (T U : Ty) {Q : VK} (F : FzN w H a kvs) (hp : H p = some (.tup [.ty T.nm, .ty U.nm])) (q : Q (.bl (isT T (.dict []) || isT U (.dict []))) H) : rIsiTO K [.ref a, .ref p] H Q := by
  obtain ⟨o, h1, h2⟩ := F.li
  exact .inr ⟨a, p, o, T, U, rfl, hp, h1, h2.cls, q⟩
end SC

set_option Elab.async false
set_option linter.all false
set_option maxRecDepth 100000
set_option maxHeartbeats 4000000
/-! SN5: text in d, d[text] of a dict of one sort or the other; a comprehension over a walk with a test: what passed. -/
namespace SC
open PySem PySem.Spec PyProof.Rows L2 SeqAt
open Sem (wp)
section
variable {prog : Program} {w : World} {A : Around} {E : Value → Shared → Prop} {s : Shared} {d : Addr} {xs : List NX} {k : NestedKey} {key : Value}
theorem containsN {Q : Bool → Shared → Prop} (hu : A.units + 9 < cLine) (hkey : NestedIs s.heap k key) (hdp : k.depth ≤ 8) (hd : (d == sysModules) = false) (hm : DictN w s.heap d xs)
    (h : ∀ tk, Q (decide (k ∈ xs.map (·.1))) { s with toks := tk }) : wpAny (model prog w) A (contains (.ref d) key) Q E s := by
  refine wpAny_contains_slot hm.typeIs F.slot_dict_contains ?_
  refine wpAny_call_entry F.slot_dict_contains hm.typeIs F.entry_dict_contains ?_ (F.args_dict_contains_2 _ _)
  show wpAny _ _ (dictGet d key >>= _) _ _ s
  refine wpAny_bind (getN (by show A.units + 1 + 8 < cLine; omega) hkey hdp hm (fun hno tk => ?_) fun j u v hj tk => ?_)
  · show wpAny _ _ (Builtin.Dict.pendingKey? d key >>= _) _ _ _
    refine wpAny_bind (wpAny_pendingKey_other hd (wpAny_pure ⟨_, rfl, wpAny_truthy_bool ?_⟩))
    have := h tk
    rw [decide_eq_false hno] at this
    exact this
  · show wpAny _ _ (ret (.bool true)) _ _ _
    refine wpAny_pure ⟨_, rfl, wpAny_truthy_bool ?_⟩
    have := h tk
    rw [decide_eq_true (List.mem_map.mpr ⟨_, List.mem_of_getElem? hj, rfl⟩)] at this
    exact this
theorem inN {Q : Value → Shared → Prop} (hu : A.units + 9 < cLine) (hkey : NestedIs s.heap k key) (hdp : k.depth ≤ 8) (hd : (d == sysModules) = false) (hm : DictN w s.heap d xs)
    (h : ∀ tk, Q (.bool (decide (k ∈ xs.map (·.1)))) { s with toks := tk }) : wpAny (model prog w) A (compareOp .In key (.ref d)) Q E s := by
  show wpAny _ _ (do return .bool (← contains (.ref d) key)) Q E s
  exact wpAny_bind (containsN hu hkey hdp hd hm fun tk => wpAny_pure (h tk))
theorem notInN {Q : Value → Shared → Prop} (hu : A.units + 9 < cLine) (hkey : NestedIs s.heap k key) (hdp : k.depth ≤ 8) (hd : (d == sysModules) = false) (hm : DictN w s.heap d xs)
    (h : ∀ tk, Q (.bool (!decide (k ∈ xs.map (·.1)))) { s with toks := tk }) : wpAny (model prog w) A (compareOp .NotIn key (.ref d)) Q E s := by
  show wpAny _ _ (do return .bool (!(← contains (.ref d) key))) Q E s
  exact wpAny_bind (containsN hu hkey hdp hd hm fun tk => wpAny_pure (h tk))
end
/-! ### what stands under a text in a dict of one sort or the other -/
def LookN (w : World) (H : Hp) (a : Addr) (z : Str) (r : Option V) : Prop := ∃ kvs, FzN w H a kvs ∧ ((r = none ∧ .text z ∉ kvs.map (·.1)) ∨ ∃ (i : Nat) (u v : V), r = some v ∧ kvs[i]? = some (.text z, u, v))
def LookX (w : World) (H : Hp) (a : Addr) (z : Str) (r : Option V) : Prop := (∃ kvs, H a = some (.dK kvs) ∧ r = valV kvs (.inr z)) ∨ LookN w H a z r
theorem LookX.imp {w : World} {H H' : Hp} {a : Addr} {z : Str} {r : Option V} (s : Same H H') (h : LookX w H a z r) : LookX w H' a z r := Or.imp (fun ⟨kvs, h1, h2⟩ => ⟨kvs, s _ _ h1, h2⟩) (fun ⟨kvs, h1, h2⟩ => ⟨kvs, h1.imp s, h2⟩) h
theorem LookX.get {w : World} {H : Hp} {a : Addr} {z : Str} {r : Option V} (h : (∃ kvs, H a = some (.dK kvs) ∧ r = valV kvs (.inr z))) : DGet H a (.str z) r := by
  obtain ⟨kvs, h1, h2⟩ := h
  exact .inl ⟨kvs, .inr z, .inl h1, rfl, h2⟩
def tGetX (w : World) (td ty : TE) : TE := fun σ H Q => td σ H fun x H1 => ty σ H1 fun y H2 => ∃ a z v, x = .ref a ∧ y = .str z ∧ LookX w H2 a z (some v) ∧ Q v H2
def tInX (w : World) (ty td : TE) : TE := fun σ H Q => ty σ H fun y H1 => td σ H1 fun x H2 => ∃ a z r, x = .ref a ∧ y = .str z ∧ LookX w H2 a z r ∧ Q (.bl r.isSome) H2
def tNotInX (w : World) (ty td : TE) : TE := fun σ H Q => ty σ H fun y H1 => td σ H1 fun x H2 => ∃ a z r, x = .ref a ∧ y = .str z ∧ LookX w H2 a z r ∧ Q (.bl (!r.isSome)) H2
section
variable {X : Cx} {w : World} {o i : Expr} {td ty : TE} {pos : Pos}
theorem look_mem {w : World} {H : Hp} {a : Addr} {z : Str} {r : Option V} {kvs : List NV} (h : (r = none ∧ NestedKey.text z ∉ kvs.map (·.1)) ∨ ∃ (i : Nat) (u v : V), r = some v ∧ kvs[i]? = some (.text z, u, v)) : decide (NestedKey.text z ∈ kvs.map (·.1)) = r.isSome := by
  rcases h with ⟨rfl, h⟩ | ⟨i, u, v, rfl, h⟩
  · exact decide_eq_false h
  · exact decide_eq_true (List.mem_map.mpr ⟨_, List.mem_of_getElem? h, rfl⟩)
theorem pe_getX (hw : X.w = w) (hu : X.A.units + 9 < cLine) (ho : PE X o td) (hi : PE X i ty) (hs : NoSl i) : PE X (.Subscript o i pos) (tGetX w td ty) := by
  subst hw
  refine ⟨fun pins s σ H Q I h => ?_⟩
  refine subD_of PySem.F.slot_dict_getitem.lookup hs (thn (ho.run pins s σ H _ I h) fun u s1 ⟨x, H1, I1, rx, q1⟩ => thn (hi.run pins s1 σ H1 _ I1 q1) fun iv s2 ⟨y, H2, I2, ry, a, z, v, ex, ey, g, q2⟩ => ?_)
  subst ex ey
  obtain rfl : u = Value.ref a := rx
  rcases g with g | ⟨kvs, F, ⟨e, _⟩ | ⟨j, u0, v0, e, hj⟩⟩
  · exact ⟨dict_typeIs I2 (LookX.get (w := X.w) g), d_getItem (by omega) I2 (LookX.get (w := X.w) g) ry fun w' s3 I3 rw' => ⟨v, H2, I3, rw', q2⟩⟩
  · cases e
  · cases e
    obtain ⟨xs, px, dn⟩ := F.dict I2
    obtain ⟨⟨k', u', v'⟩, hj', e1, r1, r2⟩ := px_get px hj
    simp only at e1
    subst e1
    obtain ⟨ki, kd⟩ := (show KR H2 (.text z) (.str z) from rfl).is I2.hok ry
    exact ⟨dn.typeIs, getItemN hu ki kd dn hj' fun tk => ⟨v, H2, I2.tok _, r2, q2⟩⟩
theorem pc_inX (hw : X.w = w) (hu : X.A.units + 9 < cLine) (hi : PE X i ty) (ho : PE X o td) : PC X .In i o (tInX w ty td) := by
  subst hw
  refine ⟨fun pins s σ H Q I h => ?_⟩
  refine thn (hi.run pins s σ H _ I h) fun iv s1 ⟨y, H1, I1, ry, q1⟩ => thn (ho.run pins s1 σ H1 _ I1 q1) fun u s2 ⟨x, H2, I2, rx, a, z, r, ex, ey, g, q2⟩ => ?_
  subst ex ey
  obtain rfl : u = Value.ref a := rx
  rcases g with g | ⟨kvs, F, g⟩
  · exact d_in (by omega) I2 (LookX.get (w := X.w) g) ry fun s3 I3 => ⟨.bl r.isSome, H2, I3, rfl, q2⟩
  · obtain ⟨xs, px, dn⟩ := F.dict I2
    obtain ⟨ki, kd⟩ := (show KR H2 (.text z) (.str z) from rfl).is I2.hok ry
    refine inN hu ki kd F.ne dn fun tk => ?_
    rw [← px_keys px, look_mem (w := X.w) (H := H2) (a := a) g]
    exact ⟨.bl r.isSome, H2, I2.tok _, rfl, q2⟩
theorem pc_notInX (hw : X.w = w) (hu : X.A.units + 9 < cLine) (hi : PE X i ty) (ho : PE X o td) : PC X .NotIn i o (tNotInX w ty td) := by
  subst hw
  refine ⟨fun pins s σ H Q I h => ?_⟩
  refine thn (hi.run pins s σ H _ I h) fun iv s1 ⟨y, H1, I1, ry, q1⟩ => thn (ho.run pins s1 σ H1 _ I1 q1) fun u s2 ⟨x, H2, I2, rx, a, z, r, ex, ey, g, q2⟩ => ?_
  subst ex ey
  obtain rfl : u = Value.ref a := rx
  rcases g with g | ⟨kvs, F, g⟩
  · exact d_notIn (by omega) I2 (LookX.get (w := X.w) g) ry fun s3 I3 => ⟨.bl (!r.isSome), H2, I3, rfl, q2⟩
  · obtain ⟨xs, px, dn⟩ := F.dict I2
    obtain ⟨ki, kd⟩ := (show KR H2 (.text z) (.str z) from rfl).is I2.hok ry
    refine notInN hu ki kd F.ne dn fun tk => ?_
    rw [← px_keys px, look_mem (w := X.w) (H := H2) (a := a) g]
    exact ⟨.bl (!r.isSome), H2, I2.tok _, rfl, q2⟩
end
/-! ### [x for x in .. if ..]: what passed -/
section
variable {J : It} {G : Hp → Prop} {Y : Nat → Hp → V → Hp → Prop} {α : Type}
theorem lcN_filt (L : List α) (p : α → Bool) (g : α → V) (w : Walk J L.length G Y) (hX : ∀ i H x H', Y i H x H' → H' = H ∧ ∃ e, L[i]? = some e ∧ x = g e) {tt : TT} {j : Nat} {σ : L2.St} {H1 : Hp} {Q : VK} (hG : ∀ H', Same H1 H' → G H') (hz : L.length ≤ 100000) (hj : j < σ.length)
    (step : ∀ e H' (N : Bool → Hp → Prop), e ∈ L → Same H1 H' → (∀ H4, Same H' H4 → N (p e) H4) → tt ((wipe σ [j]).set j (some (g e))) H' N)
    (done : ∀ D H', H1 D = none → Same H1 H' → H' D = some (.lst ((L.filter p).map g)) → Q (.ref D) H') : LcR J (gName j) tt (tVar j) [j] σ H1 Q := by
  refine lc_itR w (fun D i H' => Same H1 H' ∧ H' D = some (.lst (((L.take i).filter p).map g))) (fun D hD => ⟨same_new hD _, by rw [upd_same]; rfl⟩) (fun D i H _ _ h => hG H h.1) ?_ (fun D H hD ⟨h1, h2⟩ => done D H hD h1 (by rw [List.take_length] at h2; exact h2))
  rintro D i x H H' hD hi ⟨s, e⟩ y
  obtain ⟨rfl, e0, he, rfl⟩ := hX _ _ _ _ y
  refine ⟨wipe1, step e0 _ _ (List.mem_of_getElem? he) s fun H4 s4 => ?_⟩
  have ht : L.take (i + 1) = L.take i ++ [e0] := by rw [List.take_succ, he]; rfl
  split
  · rename_i hp
    refine ⟨g e0, by simp [gName, wipe, hj], _, s4 _ _ e, ?_, same_mut (s.trans s4) hD, ?_⟩
    · have : (((L.take i).filter p).map g).length ≤ i := by
        rw [List.length_map]
        exact Nat.le_trans (List.length_filter_le _ _) (by rw [List.length_take]; omega)
      rw [sizeLine_eq]; omega
    · rw [upd_same, ht, List.filter_append, List.map_append]
      simp [hp]
  · rename_i hp
    refine ⟨s.trans s4, ?_⟩
    rw [s4 _ _ e, ht, List.filter_append, List.map_append]
    simp [hp]
end
end SC

set_option Elab.async false
set_option linter.all false
set_option maxRecDepth 100000
set_option maxHeartbeats 4000000
namespace SC
open PySem L2
local macro_rules | `(tactic| walk_at "rd") => `(tactic| simp only [tDGet1, tDGet2, tLock_asg, tListEn, tTwo5, iZip, tM1, tM0, tFmt, tJs, tRevL, tPar3, tSeq, tNext, tIfS, tB, tTest, tCB, tCons, tC, tNil, tVar, tRet, tRetN, tAsg, gName, tOp, tUn, tAnd, tOr, tNot, tAndV, tOrV, tNotV, tIf, tDrop, tCall, tCallK, rI, rI0, rU, rEq, rNe, tPar, tAug, ipI, tLst, tTup, tDNewK, tDGet, tDIn, tDNotIn, sDPut, tBM, tBM0, gSub, rSetL, tChain, gTup, gCons, gNil, tYes, tBreak, tCont, tDisp, tPairs, rLenK, rLenA, rListK, L2.start, L2.wipe, cx_K, tFor_eq, tLc_eq, tDc_eq, tSl, tPart, tNoPart, iList, iTup, iRng1, iRng2, iKeys, iStr, iEnum, iEnumK, List.map_cons, List.map_nil, List.length_cons, List.length_nil, Nat.reduceAdd, Nat.reduceSub, List.reduceReplicate, List.replicate_zero, List.append_nil, List.nil_append, List.cons_append, List.getElem?_cons_zero, List.getElem?_cons_succ, Option.some.injEq, exists_eq_left', exists_eq_left, exists_eq', exists_eq, exists_and_left, V.int.injEq, V.ref.injEq, V.str.injEq, V.bl.injEq, List.cons.injEq, and_true, true_and, and_assoc, Bool.false_eq_true, ↓reduceIte, List.set_cons_zero, List.set_cons_succ, decide_eq_true_eq, Bool.not_eq_true', decide_eq_false_iff_not, Nat.zero_add, Nat.zero_sub, Nat.sub_self, Nat.sub_zero])

def top (i : Nat) : Stmt := PySem.Challenge.pw_schemacheck_k14_companions_odd_keys_and.main.body.getD i (.Pass ⟨0, 0, 0, 0⟩)
/-! ### data in which a dict may have a None key -/
/-- an instance of an own class -/
def IsIns (K : PySem.W.Frag) (H : Hp) (v : V) : Prop := ∃ a C dx fs, v = .ref a ∧ H a = some (.ins C dx fs) ∧ InsT K C
theorem IsIns.imp {K : PySem.W.Frag} {H H' : Hp} {v : V} (s : Same H H') (h : IsIns K H v) : IsIns K H' v := by
  obtain ⟨a, C, dx, fs, h1, h2, h3⟩ := h
  exact ⟨a, C, dx, fs, h1, s _ _ h2, h3⟩
theorem IsIns.lk {K : PySem.W.Frag} {H H' : Hp} {v : V} (ls : LSame H H') (h : IsIns K H v) : IsIns K H' v := by
  obtain ⟨a, C, dx, fs, h1, h2, h3⟩ := h
  rcases ls _ _ h2 with h | ⟨_, _, h, _⟩
  · exact ⟨a, C, dx, fs, h1, h, h3⟩
  · cases h
/-- data or an instance -/
def RZ (K : PySem.W.Frag) (H : Hp) (n : Nat) (v : V) (d : PyData) : Prop := Rp H n v d ∨ (d = .tuple [] ∧ IsIns K H v)
theorem RZ.val {K : PySem.W.Frag} {H : Hp} {n : Nat} {v : V} {d : PyData} (h : RZ K H n v d) (hne : d ≠ .tuple []) : Rp H n v d := h.elim id fun z => absurd z.1 hne
theorem RZ.imp {K : PySem.W.Frag} {H H' : Hp} {n : Nat} {v : V} {d : PyData} (s : Same H H') (h : RZ K H n v d) : RZ K H' n v d := Or.imp (fun z => Rp.imp s z) (fun z => ⟨z.1, z.2.imp s⟩) h
theorem isiZ {K : PySem.W.Frag} {H : Hp} {n : Nat} {v : V} {d : PyData} (T : Ty) {Q : VK} (h : RZ K H n v d) (q : Q (.bl (isT T d)) H) (hT : T ≠ .tuple := by intro h; cases h) : rIsi K [v, .ty T.nm] H Q := by
  rcases h with h | ⟨rfl, a, C, dx, fs, rfl, e, i⟩
  · exact isi1 T h q
  · refine isi_ins T i e ?_
    cases T <;> first | exact q | exact absurd rfl hT
/-- D: what stands at a dict's address -/
def RX (P : Program) (w : World) (K : PySem.W.Frag) (D : Hp → Addr → List (Key × V) → Prop) (H : Hp) : Nat → V → PyData → Prop
  | 0, _, _ => False
  | n + 1, v, .list ds => ∃ a xs, v = .ref a ∧ H a = some (.lst xs) ∧ xs.length ≤ 10000 ∧ Paired (RX P w K D H n) xs ds
  | n + 1, v, .dict es => (∃ a kvs, v = .ref a ∧ D H a kvs ∧ kvs.length ≤ 10000 ∧ (kvs.map (·.1)).Nodup ∧ Paired (KvR (RX P w K D H n)) kvs es) ∨
      ∃ a kvs, v = .ref a ∧ FzN w H a kvs ∧ kvs.length ≤ 15 ∧ (∃ e ∈ es, ∀ x, e.1 ≠ PyData.str x) ∧ Paired (fun (p : NV) (q : PyData × PyData) => Rp H 3 p.2.1 q.1 ∧ RX P w K D H n p.2.2 q.2) kvs es
  | n + 1, v, .none => Rp H (n + 1) v .none
  | n + 1, v, .bool b => Rp H (n + 1) v (.bool b)
  | n + 1, v, .int i => Rp H (n + 1) v (.int i)
  | n + 1, v, .str x => Rp H (n + 1) v (.str x)
  | n + 1, v, .tuple ds => Rp H (n + 1) v (.tuple ds) ∨ (ds = [] ∧ IsIns K H v)
abbrev DU : Hp → Addr → List (Key × V) → Prop := fun H a kvs => H a = some (.dK kvs)
abbrev DL : Hp → Addr → List (Key × V) → Prop := fun H a kvs => Rd H a (.dK kvs)
abbrev ReX (P : Program) (w : World) (K : PySem.W.Frag) (H : Hp) := RX P w K DU H
abbrev RpX (P : Program) (w : World) (K : PySem.W.Frag) (H : Hp) := RX P w K DL H
theorem lsame_lst {H H' : Hp} (ls : LSame H H') {a : Addr} {xs : List V} (h : H a = some (.lst xs)) : H' a = some (.lst xs) := by
  rcases ls _ _ h with h | ⟨_, _, h, _⟩
  · exact h
  · cases h
theorem RX.mono {P : Program} {w : World} {K : PySem.W.Frag} {D D' : Hp → Addr → List (Key × V) → Prop} {H H' : Hp} (hd : ∀ a kvs, D H a kvs → D' H' a kvs) (ls : LSame H H') : ∀ {n : Nat} {v : V} {d : PyData}, RX P w K D H n v d → RX P w K D' H' n v d
  | 0, _, _, h => h.elim
  | n + 1, v, .list ds, ⟨a, xs, h1, h2, h3, h4⟩ => ⟨a, xs, h1, lsame_lst ls h2, h3, pd_imp h4 fun _ _ _ _ r => r.mono hd ls⟩
  | n + 1, v, .dict es, .inl ⟨a, kvs, h1, h2, h3, h4, h5⟩ => .inl ⟨a, kvs, h1, hd _ _ h2, h3, h4, pd_imp h5 fun _ _ _ _ r => ⟨r.1, r.2.mono hd ls⟩⟩
  | n + 1, v, .dict es, .inr ⟨a, kvs, h1, h2, h3, h4, h5⟩ => .inr ⟨a, kvs, h1, h2.lk ls, h3, h4, pd_imp h5 fun _ _ _ _ r => ⟨Rp.lk ls r.1, r.2.mono hd ls⟩⟩
  | n + 1, v, .none, h => Rp.lk (n := n + 1) ls h
  | n + 1, v, .bool _, h => Rp.lk (n := n + 1) ls h
  | n + 1, v, .int _, h => Rp.lk (n := n + 1) ls h
  | n + 1, v, .str _, h => Rp.lk (n := n + 1) ls h
  | n + 1, v, .tuple _, h => h.imp (fun h => Rp.lk (n := n + 1) ls h) fun h => ⟨h.1, h.2.lk ls⟩
theorem RX.imp {P : Program} {w : World} {K : PySem.W.Frag} {H H' : Hp} {n : Nat} {v : V} {d : PyData} (s : Same H H') (h : ReX P w K H n v d) : ReX P w K H' n v d := h.mono (fun _ _ e => s _ _ e) (.of s)
theorem RX.impL {P : Program} {w : World} {K : PySem.W.Frag} {H H' : Hp} {n : Nat} {v : V} {d : PyData} (s : LSame H H') (h : RpX P w K H n v d) : RpX P w K H' n v d := h.mono (fun _ _ e => by
  rcases e with e | ⟨od, e⟩
  · rcases s _ _ e with h | ⟨kvs, od, h1, h2⟩
    · exact .inl h
    · cases h1; exact .inr ⟨od, h2⟩
  · rcases s _ _ e with h | ⟨_, _, h, _⟩
    · exact .inr ⟨od, h⟩
    · cases h) s
theorem RX.rp {P : Program} {w : World} {K : PySem.W.Frag} {H : Hp} {n : Nat} {v : V} {d : PyData} (h : ReX P w K H n v d) : RpX P w K H n v d := h.mono (fun _ _ e => .inl e) (.refl _)
theorem Re.x {P : Program} {w : World} {K : PySem.W.Frag} {H : Hp} : ∀ {n : Nat} {v : V} {d : PyData}, Re H n v d → ReX P w K H n v d
  | 0, _, _, h => h.elim
  | n + 1, v, .list ds, ⟨a, xs, h1, h2, h3, h4⟩ => ⟨a, xs, h1, h2, h3, pd_imp h4 fun _ _ _ _ r => r.x⟩
  | n + 1, v, .dict es, ⟨a, kvs, h1, h2, h3, h4, h5⟩ => .inl ⟨a, kvs, h1, h2, h3, h4, pd_imp h5 fun _ _ _ _ r => ⟨r.1, r.2.x⟩⟩
  | n + 1, v, .none, h => Re.rp (n := n + 1) h
  | n + 1, v, .bool _, h => Re.rp (n := n + 1) h
  | n + 1, v, .int _, h => Re.rp (n := n + 1) h
  | n + 1, v, .str _, h => Re.rp (n := n + 1) h
  | n + 1, v, .tuple _, h => .inl (Re.rp (n := n + 1) h)
theorem RX.leaf {P : Program} {w : World} {K : PySem.W.Frag} {D : Hp → Addr → List (Key × V) → Prop} {H : Hp} {n : Nat} {v : V} {d : PyData} (h : RX P w K D H n v d) (h1 : ¬ isT .list d = true) (h2 : ¬ isT .dict d = true) : RZ K H n v d := by
  cases n with
  | zero => exact h.elim
  | succ n => cases d <;> first | exact absurd rfl h1 | exact absurd rfl h2 | exact .inl h | exact Or.imp id (fun z => ⟨by rw [z.1], z.2⟩) (show _ ∨ _ from h)
theorem isiX {K : PySem.W.Frag} {P : Program} {w : World} {H : Hp} {n : Nat} {v : V} {d : PyData} (T : Ty) {Q : VK} (h : RpX P w K H n v d) (q : Q (.bl (isT T d)) H) (hT : T ≠ .tuple := by intro h; cases h) : rIsiO K [v, .ty T.nm] H Q := by
  cases n with
  | zero => exact h.elim
  | succ n =>
  cases d with
  | list ds =>
    obtain ⟨a, xs, rfl, h2, _⟩ := h
    exact .inl (isiL T h2 (by rw [show isT T (.list []) = isT T (.list ds) from by cases T <;> rfl]; exact q))
  | dict es =>
    rcases h with ⟨a, kvs, rfl, h2, _⟩ | ⟨a, kvs, rfl, h2, _⟩
    · have e : isT T (.dict []) = isT T (.dict es) := by cases T <;> rfl
      rcases h2 with h2 | ⟨od, h2⟩
      · refine .inl ⟨.ref a, .ty T.nm, _, _, isT T (.dict []), rfl, .ty T.nm, .base (.dK h2), kit_ty (kit_isT T (.dict [])), ?_⟩
        rw [e]
        exact q
      · refine .inl ⟨.ref a, .ty T.nm, _, _, isT T (.dict []), rfl, .ty T.nm, .fDict h2, kit_ty (kit_isT T (.dict [])), ?_⟩
        rw [e]
        exact q
    · refine h2.isi (kit_isT T (.dict [])) ?_
      rw [show isT T (.dict []) = isT T (.dict es) from by cases T <;> rfl]
      exact q
  | none => exact .inl (isi1 T h q)
  | bool b => exact .inl (isi1 T h q)
  | int i => exact .inl (isi1 T h q)
  | str x => exact .inl (isi1 T h q)
  | tuple ds => exact .inl (isiZ T (Or.imp id (fun z => ⟨by rw [z.1], z.2⟩) (show _ ∨ _ from h)) q hT)

/-! ### depth_of -/
abbrev s_depth_of : Stmt := top 6
theorem sc_depth_of : FnScope ["document", "name", "part"] ["document"] (defScope s_depth_of) := ⟨rfl, rfl, rfl, by decide +kernel, rfl, by decide +kernel, by decide +kernel⟩
section
variable {P : Program} {w : World} {K : PySem.W.Frag} {mg : Str → Option Value} {base : Heap} {f : Addr} {fd : FuncData}
/-- how deep -/
def mx : List Int → Int
  | [] => 0
  | x :: r => if mx r < x then x else mx r
theorem mx_le : ∀ {l : List Int} {y : Int}, y ∈ (0 : Int) :: l → y ≤ mx l
  | [], y, h => by simp at h; subst h; exact Int.le_refl _
  | x :: r, y, h => by
    have h0 := mx_le (l := r) (y := 0) (by simp)
    show y ≤ (if mx r < x then x else mx r)
    rcases List.mem_cons.mp h with rfl | h
    · split <;> omega
    · rcases List.mem_cons.mp h with rfl | h
      · split <;> omega
      · have := mx_le (l := r) (y := y) (by simp [h])
        split <;> omega
theorem mx_mem : ∀ l : List Int, mx l ∈ (0 : Int) :: l
  | [] => by simp [mx]
  | x :: r => by
    show (if mx r < x then x else mx r) ∈ _
    split
    · simp
    · have := mx_mem r
      simp at this ⊢
      rcases this with h | h
      · exact .inl h
      · exact .inr (.inr h)
theorem mx_is {l : List Int} {m : Int} (h1 : m ∈ (0 : Int) :: l) (h2 : ∀ y ∈ (0 : Int) :: l, y ≤ m) : m = mx l :=
  Int.le_antisymm (mx_le h1) (h2 _ (mx_mem l))
def dep : Nat → PyData → Int
  | 0, _ => 1
  | n + 1, .list ds => 1 + mx (ds.map (dep n))
  | n + 1, .dict es => 1 + mx (es.map fun e => dep n e.2)
  | _ + 1, _ => 1
theorem dep_le : ∀ (n : Nat) (d : PyData), 1 ≤ dep n d ∧ dep n d ≤ n + 1 := by
  intro n
  induction n with
  | zero => intro d; exact ⟨by show (1 : Int) ≤ 1; omega, by show (1 : Int) ≤ _; omega⟩
  | succ n ih =>
    intro d
    have key : ∀ l : List Int, (∀ x ∈ l, 1 ≤ x ∧ x ≤ n + 1) → 1 ≤ 1 + mx l ∧ 1 + mx l ≤ (n + 1 : Nat) + 1 := fun l hl => by
      have h0 := mx_le (l := l) (y := 0) (by simp)
      have h1 := mx_mem l
      rcases List.mem_cons.mp h1 with h1 | h1
      · omega
      · have := hl _ h1
        omega
    cases d with
    | list ds =>
      refine key _ fun x hx => ?_
      obtain ⟨e, _, rfl⟩ := List.mem_map.mp hx
      exact ih e
    | dict es =>
      refine key _ fun x hx => ?_
      obtain ⟨e, _, rfl⟩ := List.mem_map.mp hx
      exact ih e.2
    | _ => exact ⟨by show (1 : Int) ≤ 1; omega, by show (1 : Int) ≤ _; omega⟩
theorem max0 {K : PySem.W.Frag} {H : Hp} {p D : Addr} {ns : List Int} {R : Int → Hp → Prop} (h1 : H p = some (.lst [.int 0])) (h2 : H D = some (.lst (ns.map V.int))) (hl : ns.length ≤ 10000) (q : ∀ H', Same H H' → R (mx ns) H') :
    rCat (.ref p) (.ref D) H fun x H1 => rMax K [x] H1 fun y H2 => ∃ z, y = V.int z ∧ R z H2 := by
  refine ⟨p, D, _, _, rfl, rfl, h1, h2, ?_, fun r hr => ?_⟩
  · rw [List.length_map]
    exact sz5 (by simp; omega)
  refine ⟨r, 0 :: ns, rfl, SqL.of upd_same, by simp, fun m hm hle => ⟨m, rfl, ?_⟩⟩
  rw [mx_is hm hle]
  exact q _ (same_new hr _)
def sp_depthX (P : Program) (w : World) (K : PySem.W.Frag) (n : Nat) : Sp := fun vs H Q _ => ∃ v d, vs = [v] ∧ RpX P w K H n v d ∧ ∀ H', Same H H' → Q (.int (dep n d)) H'
theorem ok_depthX {n : Nat} (D : Def K mg "depth_of" s_depth_of f fd) (B : Blt mg) (R_depth_of : Rdy P w K mg base n "depth_of" ["document"] (sp_depthX P w K n)) : FnOk P w K mg base CX0 (n + 1) f fd ["document"] (sp_depthX P w K (n + 1)) := by
  refine D.1.ok sc_depth_of (fun vs H Q E h => ?_) (fun cdv A outer s H vs Q E hr h => ?_)
  · obtain ⟨v, d, rfl, _⟩ := h
    rfl
  obtain ⟨v, d, rfl, hd, q⟩ := h
  have hu := hu_of hr
  refine ⟨_, (pss_cons (ps_if (pt_val (pe_callB (isiOK (K := K) rfl) (by rfl) B.b_isinstance (by decide +kernel) (pa_cons (pv 0) (pa_cons (pe_bltn (v := .ty "dict") (by rfl) B.b_dict (by decide +kernel) rfl) pa_nil))))
   (pss_one (ps_ret (pe_op op_add pe_int (pe_callB (maxK (K := K) rfl rfl) (by rfl) B.b_max (by decide +kernel) (pa_cons (pe_op op_cat (pe_lst (pa_cons pe_int pa_nil)) (pe_either (pe_lock (pe_lc (own := [("name", 1)]) (by rfl) sc_depth_of.nd (pi_keys (pv 0)) (blkOk_by (own := [("name", 1)]) (N := ["document", "name", "part"]) (sc := defScope s_depth_of) (by decide +kernel)) (fun _ _ _ _ _ => (pg_name (i := 1) sc_depth_of.nd rfl (by first | exact Or.inl rfl | exact Or.inr rfl))) (fun _ _ _ _ _ => pts_nil) (fun _ _ _ _ _ => (pe_c R_depth_of hr rfl (pa_cons (pe_dget hu (pv 0) (pv 1) (fun _ _ => rfl)) pa_nil))))) (pe_lc (own := [("name", 1)]) (by rfl) sc_depth_of.nd (pi_N rfl (pv 0)) (blkOk_by (own := [("name", 1)]) (N := ["document", "name", "part"]) (sc := defScope s_depth_of) (by decide +kernel)) (fun _ _ _ _ _ => (pg_name (i := 1) sc_depth_of.nd rfl (by first | exact Or.inl rfl | exact Or.inr rfl))) (fun _ _ _ _ _ => pts_nil) (fun _ _ _ _ _ => (pe_c R_depth_of hr rfl (pa_cons (pe_dgetN rfl (u9 hr) (pv 0) (pv 1) (fun _ _ => rfl)) pa_nil)))))) pa_nil)))))
   pss_nil)
  (pss_cons (ps_if (pt_val (pe_callB (isiOK (K := K) rfl) (by rfl) B.b_isinstance (by decide +kernel) (pa_cons (pv 0) (pa_cons (pe_bltn (v := .ty "list") (by rfl) B.b_list (by decide +kernel) rfl) pa_nil))))
   (pss_one (ps_ret (pe_op op_add pe_int (pe_callB (maxK (K := K) rfl rfl) (by rfl) B.b_max (by decide +kernel) (pa_cons (pe_op op_cat (pe_lst (pa_cons pe_int pa_nil)) (pe_lc (own := [("part", 2)]) (by rfl) sc_depth_of.nd (pi_list (pv 0)) (blkOk_by (own := [("part", 2)]) (N := ["document", "name", "part"]) (sc := defScope s_depth_of) (by decide +kernel)) (fun _ _ _ _ _ => (pg_name (i := 2) sc_depth_of.nd rfl (by first | exact Or.inl rfl | exact Or.inr rfl))) (fun _ _ _ _ _ => pts_nil) (fun _ _ _ _ _ => (pe_c R_depth_of hr rfl (pa_cons (pv 2) pa_nil))))) pa_nil)))))
   pss_nil)
  (pss_one (ps_ret pe_int)))), ?_⟩
  walk_at "rd"
  cases d with
  | none => exact isiX .dict hd ⟨_, rfl, iteF (isiX .list hd ⟨_, rfl, iteF (q H (Same.refl H))⟩)⟩
  | bool b => exact isiX .dict hd ⟨_, rfl, iteF (isiX .list hd ⟨_, rfl, iteF (q H (Same.refl H))⟩)⟩
  | int b => exact isiX .dict hd ⟨_, rfl, iteF (isiX .list hd ⟨_, rfl, iteF (q H (Same.refl H))⟩)⟩
  | str b => exact isiX .dict hd ⟨_, rfl, iteF (isiX .list hd ⟨_, rfl, iteF (q H (Same.refl H))⟩)⟩
  | tuple b => exact isiX .dict hd ⟨_, rfl, iteF (isiX .list hd ⟨_, rfl, iteF (q H (Same.refl H))⟩)⟩
  | list ds =>
    obtain ⟨a, xs, rfl, ha, hb, hp⟩ := id hd
    refine isiX .dict hd ⟨_, rfl, iteF (isiX .list hd ⟨_, rfl, iteT ⟨by decide, fun p np => ?_⟩⟩)⟩
    have s0 : Same H (upd H p (.lst [.int 0])) := same_new np _
    refine ⟨a, rfl, ⟨xs, SqL.of (s0 _ _ ha)⟩, lcP_list (SqL.of (s0 _ _ ha)) ((ds.map (dep n)).map V.int) (by simp [pd_len hp]) (by omega) ?_ ?_⟩
    · intro i x y H' N hx hy s N'
      obtain ⟨e, he, hr'⟩ := pd_get hp hx
      walk_at "rd"
      refine ⟨x, e, rfl, hr'.impL (.of (s0.trans s)), fun H4 s4 => ?_⟩
      simp [he] at hy
      subst hy
      exact N' H4 s4
    · intro D' H' nD s e
      exact max0 (s _ _ upd_same) e (by simp [← pd_len hp]; omega) fun H2 s2 => q H2 ((s0.trans s).trans s2)
  | dict es =>
    rcases id hd with ⟨a, kvs, rfl, ha, hb, hn, hp⟩ | ⟨a, kvs, rfl, ho, hb, _, hp⟩
    · refine isiX .dict hd ⟨_, rfl, iteT ⟨by decide, fun p np => .inl ?_⟩⟩
      have s0 : Same H (upd H p (.lst [.int 0])) := same_new np _
      refine lcD_keys (rd_same s0 ha) upd_same rfl np s0 ((es.map fun e => dep n e.2).map V.int) (by simp [pd_len hp]) (by omega) ?_ ?_
      · intro i k v y H' N hk hy ls ha' N'
        obtain ⟨e, he, hk', hr'⟩ := pd_get hp hk
        walk_at "rd"
        refine ⟨v, .inl ⟨kvs, k, ha', rfl, (valV_at hn hk).symm⟩, ?_⟩
        refine ⟨v, e.2, rfl, hr'.impL ls, fun H4 s4 => ?_⟩
        simp [he] at hy
        subst hy
        exact N' H4 s4
      · intro D' H' nD s e
        exact max0 (s _ _ upd_same) e (by simp [← pd_len hp]; omega) fun H2 s2 => q H2 ((s0.trans s).trans s2)
    · refine isiX .dict hd ⟨_, rfl, iteT ⟨by decide, fun p np => .inr ?_⟩⟩
      have s0 : Same H (upd H p (.lst [.int 0])) := same_new np _
      have ho0 := ho.imp s0
      have hlp := pd_len hp
      refine ⟨_, rfl, a, kvs, rfl, ho0, fun o o2 => ?_⟩
      refine lcP_map (walk_N (kvs := kvs)) (fun i x => ∃ k v, kvs[i]? = some (k, x, v)) (fun _ _ _ _ h => h) (fun H' s => s _ _ o2) ((es.map fun e => dep n e.2).map V.int) (by simp [hlp]) (by omega) (fun i x y H' N hx hy s N' => ?_) fun D' H' nD s e => ?_
      · obtain ⟨k, v, hk⟩ := hx
        obtain ⟨e, he, hk', hr'⟩ := pd_get hp hk
        walk_at "rd"
        refine ⟨_, rfl, _, rfl, a, kvs, i, k, x, v, rfl, (ho0.imp s).ks _ (List.mem_of_getElem? hk), ho0.imp s, hk, v, e.2, rfl, hr'.impL (.of (s0.trans s)), fun H4 s4 => ?_⟩
        simp [he] at hy
        subst hy
        exact N' H4 s4
      · exact max0 (s _ _ upd_same) e (by simp [← hlp]; omega) fun H2 s2 => q H2 ((s0.trans s).trans s2)
end
section
variable {P : Program} {w : World} {K : PySem.W.Frag} {mg : Str → Option Value} {base : Heap} {f : Addr} {fd : FuncData}
theorem ok_depthsX (D : Def K mg "depth_of" s_depth_of f fd) (B : Blt mg) : ∀ n : Nat, FnOk P w K mg base CX0 n f fd ["document"] (sp_depthX P w K n)
  | 0 => ⟨fun vs H Q E ⟨_, _, _, h, _⟩ => h.elim, fun A outer s H args us vs Q E _ _ _ _ ⟨_, _, _, h, _⟩ => h.elim⟩
  | n + 1 => ok_depthX D B (D.rdy (fun _ _ _ _ _ _ us hl => match us, hl with | [_], _ => rfl) (ok_depthsX D B n))
end

/-! ### is_integer, is_text, first_wrong -/
def sp_isint (K : PySem.W.Frag) : Sp := fun vs H Q _ => ∃ n v d, vs = [v] ∧ RZ K H n v d ∧ Q (.bl (isIntD d)) H
def sp_text (K : PySem.W.Frag) : Sp := fun vs H Q _ => ∃ n v d, vs = [v] ∧ RZ K H n v d ∧ (∀ x, d = .str x → x.length ≤ 1000) ∧ Q (.bl (isTextD d)) H
abbrev s_is_integer : Stmt := top 4
theorem sc_is_integer : FnScope ["value"] ["value"] (defScope s_is_integer) := ⟨rfl, rfl, rfl, by decide +kernel, rfl, by decide +kernel, by decide +kernel⟩
abbrev s_is_text : Stmt := top 5
theorem sc_is_text : FnScope ["value"] ["value"] (defScope s_is_text) := ⟨rfl, rfl, rfl, by decide +kernel, rfl, by decide +kernel, by decide +kernel⟩
abbrev s_first_wrong : Stmt := top 7
theorem sc_first_wrong : FnScope ["value", "rows", "key", "part", "found", "name"] ["value"] (defScope s_first_wrong) := ⟨rfl, rfl, rfl, by decide +kernel, rfl, by decide +kernel, by decide +kernel⟩
abbrev s_document_problem : Stmt := top 8
theorem sc_document_problem : FnScope ["value"] ["value"] (defScope s_document_problem) := ⟨rfl, rfl, rfl, by decide +kernel, rfl, by decide +kernel, by decide +kernel⟩
section
variable {P : Program} {w : World} {K : PySem.W.Frag} {mg : Str → Option Value} {base : Heap} {f : Addr} {fd : FuncData}
theorem ok_isint (D : Def K mg "is_integer" s_is_integer f fd) (B : Blt mg) : FnOk P w K mg base CX0 1 f fd ["value"] (sp_isint K) := by
  refine D.1.ok sc_is_integer (fun vs H Q E h => ?_) (fun cdv A outer s H vs Q E hr h => ?_)
  · obtain ⟨n, v, d, rfl, _⟩ := h
    rfl
  obtain ⟨n, v, d, rfl, hd, q⟩ := h
  refine ⟨_, (pss_one (ps_ret (pe_and (pe_callB (isiK (K := K) rfl) (by rfl) B.b_isinstance (by decide +kernel) (pa_cons (pv 0) (pa_cons (pe_bltn (v := .ty "int") (by rfl) B.b_int (by decide +kernel) rfl) pa_nil))) (pe_one (pe_not (pe_callB (isiK (K := K) rfl) (by rfl) B.b_isinstance (by decide +kernel) (pa_cons (pv 0) (pa_cons (pe_bltn (v := .ty "bool") (by rfl) B.b_bool (by decide +kernel) rfl) pa_nil)))))))), ?_⟩
  walk_at "rd"
  refine isiZ .int hd ⟨_, rfl, ite2 (fun h1 => isiZ .bool hd ⟨_, rfl, ?_⟩) fun h1 => ?_⟩
  · cases d <;> first | exact q | cases h1
  · cases d <;> first | exact q | exact absurd rfl h1
theorem ok_text (D : Def K mg "is_text" s_is_text f fd) (B : Blt mg) {t1 : Tok} (g_MOST_TEXT : mg "MOST_TEXT" = some (.int 60 t1)) : FnOk P w K mg base CX0 1 f fd ["value"] (sp_text K) := by
  refine D.1.ok sc_is_text (fun vs H Q E h => ?_) (fun cdv A outer s H vs Q E hr h => ?_)
  · obtain ⟨n, v, d, rfl, _⟩ := h
    rfl
  obtain ⟨n, v, d, rfl, hd, hs, q⟩ := h
  refine ⟨_, (pss_one (ps_ret (pe_and (pe_callB (isiK (K := K) rfl) (by rfl) B.b_isinstance (by decide +kernel) (pa_cons (pv 0) (pa_cons (pe_bltn (v := .ty "str") (by rfl) B.b_str (by decide +kernel) rfl) pa_nil))) (pe_one (pe_cmpR op_le (pe_callB (lenK (K := K) rfl) (by rfl) B.b_len (by decide +kernel) (pa_cons (pv 0) pa_nil)) (pe_gint (by rfl) g_MOST_TEXT) (nomark _)))))), ?_⟩
  walk_at "rd"
  refine isiZ .str hd ⟨_, rfl, ite2 (fun h1 => ?_) fun h1 => ?_⟩
  · obtain ⟨x, rfl⟩ : ∃ x, d = .str x := by cases d <;> first | exact ⟨_, rfl⟩ | cases h1
    have hd := hd.val (by simp)
    cases n with
    | zero => exact hd.elim
    | succ n =>
      cases hd
      refine ⟨x.length, ⟨sz5 (by have := hs x rfl; omega), rfl⟩, ?_⟩
      rw [show decide ((x.length : Int) ≤ 60) = decide (x.length ≤ 60) from decide_eq_decide.mpr (by omega)]
      exact q
  · cases d <;> first | exact q | exact absurd rfl h1
def sp_fw (P : Program) (w : World) (K : PySem.W.Frag) (n : Nat) : Sp := fun vs H Q _ => ∃ v d, vs = [v] ∧ ReX P w K H n v d ∧ smallD n d ∧ n ≤ 100 ∧ ∀ v' H', Same H H' → pathV (fwN n d) H' v' → Q v' H'
/-- the rows that are walked -/
structure FwRows (P : Program) (w : World) (K : PySem.W.Frag) (H : Hp) (r : Addr) (n : Nat) (rs : List (Key × PyData)) : Prop where
  li : ∃ ts : List Addr, H r = some (.lst (ts.map V.ref)) ∧ ts.length = rs.length ∧ ∀ (j : Nat) (T : Addr), ts[j]? = some T → ∃ k v d, rs[j]? = some (k, d) ∧ H T = some (.tup [kV k, v]) ∧ ReX P w K H n v d ∧ smallD n d
structure FwLc (P : Program) (w : World) (K : PySem.W.Frag) (H H3 : Hp) (D : Addr) (n : Nat) (rs : List (Key × PyData)) (i : Nat) (H' : Hp) : Prop where
  li : ∃ ts : List Addr, Same H3 H' ∧ H' D = some (.lst (ts.map V.ref)) ∧ ts.length = i ∧ ∀ (j : Nat) (T : Addr), ts[j]? = some T → ∃ k v d, rs[j]? = some (k, d) ∧ H' T = some (.tup [kV k, v]) ∧ ReX P w K H n v d ∧ smallD n d
theorem ok_fw {n : Nat} (D : Def K mg "first_wrong" s_first_wrong f fd) (B : Blt mg) {t1 : Tok} (g_MOST_NUMBER : mg "MOST_NUMBER" = some (.int (10 ^ 30) t1)) (R_is_integer : Rdy P w K mg base 1 "is_integer" ["value"] (sp_isint K)) (R_is_text : Rdy P w K mg base 1 "is_text" ["value"] (sp_text K))
    (R_first_wrong : Rdy P w K mg base (n + 1) "first_wrong" ["value"] (sp_fw P w K n)) : FnOk P w K mg base CX0 (n + 2) f fd ["value"] (sp_fw P w K (n + 1)) := by
  refine D.1.ok sc_first_wrong (fun vs H Q E h => ?_) (fun cdv A outer s H vs Q E hr h => ?_)
  · obtain ⟨v, d, rfl, _⟩ := h
    rfl
  obtain ⟨v, d, rfl, hd, sm, h100, q⟩ := h
  have hu := hu_of hr
  have hr1 : Room 1 _ := hr.mono (by omega)
  have hdR := hd.rp
  refine ⟨_, (pss_cons (ps_if (pt_val (pe_callB (isiOK (K := K) rfl) (by rfl) B.b_isinstance (by decide +kernel) (pa_cons (pv 0) (pa_cons (pe_bltn (v := .ty "list") (by rfl) B.b_list (by decide +kernel) rfl) pa_nil))))
   (pss_one (ps_set (i := 1) sc_first_wrong.nd rfl (by first | exact Or.inl rfl | exact Or.inr rfl) (pe_listEn (K := K) rfl rfl (pv 0) (by rfl) B.b_list (by rfl) B.b_enumerate)))
   (pss_one (ps_if (pt_val (pe_callB (isiOK (K := K) rfl) (by rfl) B.b_isinstance (by decide +kernel) (pa_cons (pv 0) (pa_cons (pe_bltn (v := .ty "dict") (by rfl) B.b_dict (by decide +kernel) rfl) pa_nil))))
   (pss_cons (ps_if (pt_not (pt_val (pe_callB (allK (K := K) rfl rfl) (by rfl) B.b_all (by decide +kernel) (pa_cons (pe_either (pe_lock (pe_lc (own := [("name", 5)]) (by rfl) sc_first_wrong.nd (pi_keys (pv 0)) (blkOk_by (own := [("name", 5)]) (N := ["value", "rows", "key", "part", "found", "name"]) (sc := defScope s_first_wrong) (by decide +kernel)) (fun _ _ _ _ _ => (pg_name (i := 5) sc_first_wrong.nd rfl (by first | exact Or.inl rfl | exact Or.inr rfl))) (fun _ _ _ _ _ => pts_nil) (fun _ _ _ _ _ => (pe_c R_is_text hr1 rfl (pa_cons (pv 5) pa_nil))))) (pe_lc (own := [("name", 5)]) (by rfl) sc_first_wrong.nd (pi_N rfl (pv 0)) (blkOk_by (own := [("name", 5)]) (N := ["value", "rows", "key", "part", "found", "name"]) (sc := defScope s_first_wrong) (by decide +kernel)) (fun _ _ _ _ _ => (pg_name (i := 5) sc_first_wrong.nd rfl (by first | exact Or.inl rfl | exact Or.inr rfl))) (fun _ _ _ _ _ => pts_nil) (fun _ _ _ _ _ => (pe_c R_is_text hr1 rfl (pa_cons (pv 5) pa_nil))))) pa_nil))))
   (pss_one (ps_ret (pe_tup pa_nil)))
   pss_nil)
  (pss_one (ps_setLc (i := 1) (own := [("name", 5)]) (by rfl) sc_first_wrong.nd rfl rfl (sw_true rfl rfl rfl (by decide +kernel)) (pi_list (pe_callB (sortedSK (K := K) rfl) (by rfl) B.b_sorted (by decide +kernel) (pa_cons (pe_callTy (call_listD rfl) (by rfl) B.b_list (by decide +kernel) (pa_cons (pv 0) pa_nil)) pa_nil))) (blkOk_by (own := [("name", 5)]) (N := ["value", "rows", "key", "part", "found", "name"]) (sc := defScope s_first_wrong) (by decide +kernel)) (fun _ _ _ _ _ => (pg_name (i := 5) sc_first_wrong.nd rfl (by first | exact Or.inl rfl | exact Or.inr rfl))) (fun _ _ _ _ _ => pts_nil) (fun _ _ _ _ _ => (pe_tup (pa_cons (pv 5) (pa_cons (pe_dget hu (pv 0) (pv 5) (fun _ _ => rfl)) pa_nil)))))))
   (pss_one (ps_if (PW.pt (pw_or (pt_cmpR op_isN (pv 0) pe_non (nomark _)) (pw_or (pt_val (pe_callB (isiOK (K := K) rfl) (by rfl) B.b_isinstance (by decide +kernel) (pa_cons (pv 0) (pa_cons (pe_bltn (v := .ty "bool") (by rfl) B.b_bool (by decide +kernel) rfl) pa_nil)))) (pw_or1 (pt_val (pe_c R_is_text hr1 rfl (pa_cons (pv 0) pa_nil)))))))
   (pss_one (ps_ret pe_non))
   (pss_one (ps_ret (pe_ifExp (PW.pt (pw_and (pt_val (pe_c R_is_integer hr1 rfl (pa_cons (pv 0) pa_nil))) (pw_and1 (pt_chain op_le op_le (pe_un un_neg (pe_gint (by rfl) g_MOST_NUMBER)) (pv 0) (pe_gint (by rfl) g_MOST_NUMBER))))) pe_non (pe_tup pa_nil)))))))))
  (pss_cons (ps_for PassesOwn.never rfl (pi_list (pv 1)) (pg_tup (by rfl) (pgs_cons (pg_name (i := 2) sc_first_wrong.nd rfl (by first | exact Or.inl rfl | exact Or.inr rfl)) (pgs_cons (pg_name (i := 3) sc_first_wrong.nd rfl (by first | exact Or.inl rfl | exact Or.inr rfl)) pgs_nil)))
   (pss_cons (ps_set (i := 4) sc_first_wrong.nd rfl (by first | exact Or.inl rfl | exact Or.inr rfl) (pe_c R_first_wrong hr rfl (pa_cons (pv 3) pa_nil)))
  (pss_one (ps_if (pt_cmpR op_notN (pv 4) pe_non (nomark _))
   (pss_one (ps_ret (pe_op (op_catAK (K := K) rfl) (pe_tup (pa_cons (pv 2) pa_nil)) (pv 4))))
   pss_nil))))
  (pss_one (ps_ret pe_non)))), ?_⟩
  refine cutM (fun σ' H' => Same H H' ∧ ∃ r rs, fwN (n + 1) d = fstR (fwN n) rs ∧ FwRows P w K H' r n rs ∧ rs.length ≤ 10000 ∧ ∃ z1 z2 z3 z4, σ' = [some v, some (.ref r), z1, z2, z3, z4]) (fun N hN => ?_) ?_
  · walk_at "rd"
    refine isiX .list hdR ⟨_, rfl, ite2 (fun h1 => ?_) fun h1 => isiX .dict hdR ⟨_, rfl, ite2 (fun h2 => ?_) fun h2 => ?_⟩⟩
    · obtain ⟨a, rfl⟩ : ∃ a, d = .list a := by cases d <;> first | exact ⟨_, rfl⟩ | cases h1
      obtain ⟨p1, xs, rfl, ha, hb, hp⟩ := id hd
      refine ⟨p1, rfl, xs, SqL.of ha, sz5l (by omega), fun S ts H2 nS s2 eS hl hrow => hN _ _ ⟨s2, S, rowsL a, rfl, ⟨ts, eS, by rw [hl, pd_len hp]; simp [rowsL], fun j T hj => ?_⟩, by simp [rowsL, ← pd_len hp]; omega, _, _, _, _, rfl⟩⟩
      obtain ⟨x, h3, h4, _⟩ := hrow j T hj
      obtain ⟨dj, h5, h6⟩ := pd_get hp h3
      exact ⟨.inl (j : Nat), x, dj, by simp [rowsL, List.getElem?_zipIdx, h5], h4, h6.imp s2, sm _ (List.mem_of_getElem? h5)⟩
    · obtain ⟨a, rfl⟩ : ∃ a, d = .dict a := by cases d <;> first | exact ⟨_, rfl⟩ | cases h2
      rcases id hd with ⟨p1, xs, rfl, ha, hb, hn, hp⟩ | ⟨p1, kvs, rfl, ho, hb, hno, hp⟩
      rotate_left
      · have hlp := pd_len hp
        refine .inr ⟨_, rfl, p1, kvs, rfl, ho, fun o o2 => ?_⟩
        refine lcP_map (walk_N (kvs := kvs)) (fun i x => ∃ k v, kvs[i]? = some (k, x, v)) (fun _ _ _ _ h => h) (fun H' s => s _ _ o2) ((a.map fun e => isTextD e.1).map V.bl) (by simp [hlp]) (by omega) (fun i x y H' N' hx hy s Nn => ?_) fun D' H2 nD s2 e2 => ?_
        · obtain ⟨k, v, hk⟩ := hx
          obtain ⟨e, he, hk', _⟩ := pd_get hp hk
          simp only [List.getElem?_map, he, Option.map_some, Option.some.injEq] at hy
          subst hy
          walk_at "rd"
          exact ⟨3, _, e.1, rfl, .inl (hk'.imp s), fun x hx => ((sm.2 _ (List.mem_of_getElem? he)).1 x hx).1, Nn _ (Same.refl _)⟩
        · refine ⟨D', _, rfl, SqL.of e2, _, rfl, ?_⟩
          have e0 : (a.map fun e => isTextD e.1).all id = a.all fun e => isTextD e.1 := by rw [List.all_map]; rfl
          have hf : (a.all fun e => isTextD e.1) = false := by
            obtain ⟨e, he, hne⟩ := hno
            rw [List.all_eq_false]
            refine ⟨e, he, ?_⟩
            cases h : e.1 with
            | str x => exact absurd h (hne x)
            | _ => simp [isTextD]
          rw [e0, hf]
          refine ite2 (fun h3 => ⟨Nat.zero_le _, fun p np => ?_⟩) fun h3 => absurd h3 (by simp)
          refine q _ _ (s2.trans (same_new np _)) ?_
          have : fwN (n + 1) (.dict a) = some [] := by
            simp only [fwN]
            rw [if_neg (by rw [hf]; simp)]
          rw [this]
          exact ⟨p, rfl, upd_same⟩
      have hxa := pd_len hp
      have h60 := sm.1
      refine .inl ?_
      refine lcU_keys ha rfl ((a.map fun e => isTextD e.1).map V.bl) (by simp [hxa]) (by omega) ?_ ?_
      · intro i k v y H' N' hk hy ls ha' Nn
        obtain ⟨e, he, hk', _⟩ := pd_get hp hk
        simp only [List.getElem?_map, he, Option.map_some, Option.some.injEq] at hy
        subst hy
        walk_at "rd"
        refine ⟨1, _, e.1, rfl, .inl ?_, fun x hx => ((sm.2 _ (List.mem_of_getElem? he)).1 x hx).1, Nn _ (Same.refl _)⟩
        rw [hk']
        cases k <;> rfl
      · intro D' H2 nD s2 e2
        refine ⟨D', _, rfl, SqL.of e2, _, rfl, ?_⟩
        have e0 : (a.map fun e => isTextD e.1).all id = a.all fun e => isTextD e.1 := by rw [List.all_map]; rfl
        refine ite2 (fun h3 => ⟨Nat.zero_le _, fun p np => ?_⟩) fun h3 => ?_
        · refine q _ _ (s2.trans (same_new np _)) ?_
          have : fwN (n + 1) (.dict a) = some [] := by
            simp only [fwN]
            rw [if_neg]
            rw [← e0]
            simpa using h3
          rw [this]
          exact ⟨p, rfl, upd_same⟩
        · have hall : (a.all fun e => isTextD e.1) = true := by rw [← e0]; simpa using h3
          have k1 : StrKeys a := fun e he => by
            have := List.all_eq_true.mp hall e he
            cases h : e.1 with
            | str x => exact ⟨x, rfl⟩
            | _ => rw [h] at this; cases this
          have n1 := keys_nd hp k1 hn
          refine ⟨p1, rfl, xs, .inl (s2 _ _ ha), fun l1 nl1 => ?_⟩
          rw [keysV_of hp k1]
          refine ⟨l1, keysD a, rfl, SqL.of upd_same, by simp [keysD]; omega, fun z1 l2 pz1 sz1 nl2 => ?_⟩
          obtain rfl : z1 = srt (keysD a) := srt_is pz1 sz1
          have s3 : Same H (upd (upd H2 l1 (.lst ((keysD a).map V.str))) l2 (.lst ((srt (keysD a)).map V.str))) := s2.trans ((same_new nl1 _).trans (same_new nl2 _))
          have el : upd (upd H2 l1 (.lst ((keysD a).map V.str))) l2 (.lst ((srt (keysD a)).map V.str)) l2 = some (.lst ((srt (keysD a)).map V.str)) := upd_same
          generalize upd (upd H2 l1 (.lst ((keysD a).map V.str))) l2 (.lst ((srt (keysD a)).map V.str)) = H3 at s3 el ⊢
          refine ⟨l2, rfl, ⟨_, SqL.of el⟩, ?_⟩
          have hsl : (srt (keysD a)).length = a.length := by rw [srt_len]; simp [keysD]
          refine lc_itR (walk_list (xs := (srt (keysD a)).map V.str)) (fun D i H' => FwLc P w K H H3 D n (rowsD a) i H') (fun D hD => ⟨[], same_new hD _, upd_same, rfl, by simp⟩) (fun D i H' _ _ h => SqL.of (h.li.choose_spec.1 _ _ el)) ?_ ?_
          · rintro D i x H4 H5 hD hi ⟨ts, s4, e4, hl4, hr4⟩ ⟨rfl, hx⟩
            rw [List.getElem?_map, Option.map_eq_some_iff] at hx
            obtain ⟨x, hx, rfl⟩ := hx
            have hin : x ∈ keysD a := mem_srt.mp (List.mem_of_getElem? hx)
            rcases get_of hp k1 x with ⟨_, hnone⟩ | ⟨v2, d2, hv2, hd2, hr2⟩
            · exact absurd hin (dget_none hnone)
            obtain ⟨e', he', hde, _⟩ := dget_mem hd2
            have sH := s3.trans s4
            have hil : i < a.length := by
              have := (List.getElem?_eq_some_iff.mp hx).1
              omega
            walk_at "rd"
            refine ⟨v2, .inl ⟨xs, .inr x, .inl (sH _ _ ha), rfl, hv2.symm⟩, sz5 (by omega), fun T nT => ?_⟩
            have s5 : Same H5 (upd H5 T (.tup [V.str x, v2])) := same_new nT _
            refine ⟨_, s5 _ _ e4, sz5l (by simp; omega), ts ++ [T], same_mut (s4.trans s5) hD, by rw [upd_same, List.map_append]; rfl, by simp [hl4], ?_⟩
            intro j T' hj
            have nDT : T ≠ D := fun z => by rw [z] at nT; rw [nT] at e4; cases e4
            by_cases hji : j < ts.length
            · rw [List.getElem?_append_left hji] at hj
              obtain ⟨k, v, d, g1, g2, g3⟩ := hr4 j T' hj
              have nTD : T' ≠ D := ne_of g2 e4 (by intro z; cases z)
              exact ⟨k, v, d, g1, by rw [upd_ne nTD]; exact s5 _ _ g2, g3⟩
            · have hj2 : j = i := by
                have := (List.getElem?_eq_some_iff.mp hj).1
                simp at this
                omega
              subst hj2
              rw [← hl4, List.getElem?_append_right (Nat.le_refl _)] at hj
              simp at hj
              subst hj
              refine ⟨.inr x, v2, d2, by simp [rowsD, hx, hd2], by rw [upd_ne nDT, upd_same]; rfl, hr2, ?_⟩
              rw [← hde]
              exact (sm.2 _ he').2
          · rintro D H4 hD ⟨ts, s4, e4, hl4, hr4⟩
            have sH := s3.trans s4
            refine hN _ _ ⟨sH, D, rowsD a, ?_, ⟨ts, e4, by rw [hl4]; simp [rowsD], fun j T hj => ?_⟩, by simp [rowsD, hsl]; omega, _, _, _, _, rfl⟩
            · simp only [fwN]
              rw [if_pos hall]
            · obtain ⟨k, v, d, g1, g2, g3, g4⟩ := hr4 j T hj
              exact ⟨k, v, d, g1, g2, g3.imp sH, g4⟩
    · have out : ∀ H1, Same H H1 → fwN (n + 1) d = some [] → 0 ≤ sizeLine ∧ ∀ p, H1 p = none → Q (V.ref p) (upd H1 p (HO.tup [])) := fun H1 s1 e => ⟨Nat.zero_le _, fun p np => q _ _ (s1.trans (same_new np _)) (by rw [e]; exact ⟨p, rfl, upd_same⟩)⟩
      have hdL := hd.leaf h1 h2
      have nn : fwN (n + 1) d = none → Q V.non H := fun e => q _ _ (Same.refl _) (by rw [e]; rfl)
      cases d with
      | none => cases hd; exact iteT' rfl (nn rfl)
      | bool b => cases id hd; exact iteF' (by simp) (isiX .bool hdR ⟨_, rfl, iteT' rfl (nn rfl)⟩)
      | str x =>
        cases id hd
        refine iteF' (by simp) (isiX .bool hdR ⟨_, rfl, iteF' (by simp [isT]) ⟨n + 1, _, .str x, rfl, hdL, fun y hy => by cases hy; exact sm, _, rfl, ite2 (fun h3 => nn ?_) fun h3 => ⟨n + 1, _, .str x, rfl, hdL, _, rfl, iteF' (by simp [isIntD]) (out _ (Same.refl _) ?_)⟩⟩⟩)
        · simp [isTextD] at h3; simp [fwN, h3]
        · simp [isTextD] at h3; simp [fwN, h3]
      | int x =>
        cases id hd
        refine iteF' (by simp) (isiX .bool hdR ⟨_, rfl, iteF' (by simp [isT]) ⟨n + 1, _, .int x, rfl, hdL, (fun y hy => by cases hy), _, rfl, iteF' (by simp [isTextD]) ⟨n + 1, _, .int x, rfl, hdL, _, rfl, iteT' rfl ⟨x, rfl, ite2 (fun h3 => ⟨x, rfl, ite2 (fun h4 => nn ?_) fun h4 => out _ (Same.refl _) ?_⟩) fun h3 => out _ (Same.refl _) ?_⟩⟩⟩⟩)
        · simp only [fwN]; rw [if_pos ⟨h3, h4⟩]
        · simp only [fwN]; rw [if_neg fun z => h4 z.2]
        · simp only [fwN]; rw [if_neg fun z => h3 z.1]
      | tuple x =>
        obtain ⟨p1, rfl⟩ : ∃ p1, v = .ref p1 := hd.elim (fun ⟨p1, _, e, _⟩ => ⟨p1, e⟩) (fun ⟨_, a, _, _, _, e, _⟩ => ⟨a, e⟩)
        exact iteF' (by simp) (isiX .bool hdR ⟨_, rfl, iteF' (by simp [isT]) ⟨n + 1, _, .tuple x, rfl, hdL, (fun y hy => by cases hy), _, rfl, iteF' (by simp [isTextD]) ⟨n + 1, _, .tuple x, rfl, hdL, _, rfl, iteF' (by simp [isIntD]) (out _ (Same.refl _) rfl)⟩⟩⟩)
      | list x => exact absurd rfl h1
      | dict x => exact absurd rfl h2
  rintro σ' H' ⟨s0, r, rs, hfw, hrows, hlen, z1, z2, z3, z4, rfl⟩
  obtain ⟨ts, er, htl, hts⟩ := hrows.li
  walk_at "rd"
  refine ⟨⟨_, SqL.of er⟩, ?_⟩
  refine fo_it (walk_list (xs := ts.map V.ref)) (fun i σ' H2 => Same H' H2 ∧ (∀ j < i, ∀ q, rs[j]? = some q → fwN n q.2 = none) ∧ ∃ z1 z2 z3 z4, σ' = [some v, some (.ref r), z1, z2, z3, z4]) ⟨Same.refl _, by omega, _, _, _, _, rfl⟩ (fun _ _ _ _ h => SqL.of (h.1 _ _ er)) ?_ ?_
  · rintro i x σ' H2 H3 hi ⟨s1, hno, z1, z2, z3, z4, rfl⟩ ⟨rfl, hx⟩
    rw [List.getElem?_map, Option.map_eq_some_iff] at hx
    obtain ⟨T, hT, rfl⟩ := hx
    obtain ⟨k, u, dj, g1, g2, g3, g4⟩ := hts i T hT
    walk_at "rd"
    refine ⟨_, SqT.of (s1 _ _ g2), rfl, _, _, rfl, _, _, rfl, rfl, u, dj, rfl, g3.imp s1, g4, by omega, fun v' H4 s4 hp4 => ?_⟩
    cases hj : fwN n dj with
    | none =>
      rw [hj] at hp4
      cases hp4
      refine iteF' (by simp) ⟨s1.trans s4, ?_⟩
      intro j hj2 q hq
      by_cases hji : j = i
      · subst hji; rw [g1] at hq; cases hq; exact hj
      · exact hno j (by omega) q hq
    | some p =>
      rw [hj] at hp4
      obtain ⟨t, rfl, ht⟩ := hp4
      have hres : fwN (n + 1) d = some (k :: p) := by rw [hfw]; exact fstR_at hno g1 hj
      refine iteT' (by simp) ⟨sz5 (by omega), fun l nl => ⟨l, t, [kV k], p.map kV, rfl, rfl, SqT.of upd_same, SqT.of ((same_new nl _) _ _ ht), ?_, (fun h => by cases h), fun _ hp0 => ?_, fun _ hp0 l2 nl2 => ?_⟩⟩
      · have := fwN_len hj
        exact sz5 (by simp; omega)
      · refine q _ _ ((s0.trans (s1.trans s4)).trans (same_new nl _)) ?_
        rw [hres]
        refine ⟨l, rfl, ?_⟩
        rw [upd_same, List.map_eq_nil_iff.mp hp0]
        rfl
      · refine q _ _ (((s0.trans (s1.trans s4)).trans (same_new nl _)).trans (same_new nl2 _)) ?_
        rw [hres]
        exact ⟨l2, rfl, upd_same⟩
  · rintro σ' H2 ⟨s1, hno, z1, z2, z3, z4, rfl⟩
    walk_at "rd"
    refine q _ _ (s0.trans s1) ?_
    rw [hfw, fstR_none]
    · rfl
    · intro x hx
      obtain ⟨j, hj⟩ := List.getElem?_of_mem hx
      exact hno j (by have := (List.getElem?_eq_some_iff.mp hj).1; simp; omega) x hj
end
section
variable {P : Program} {w : World} {K : PySem.W.Frag} {mg : Str → Option Value} {base : Heap} {f : Addr} {fd : FuncData}
theorem ok_fws (D : Def K mg "first_wrong" s_first_wrong f fd) (B : Blt mg) {t1 : Tok} (g_MOST_NUMBER : mg "MOST_NUMBER" = some (.int (10 ^ 30) t1)) (R_is_integer : Rdy P w K mg base 1 "is_integer" ["value"] (sp_isint K)) (R_is_text : Rdy P w K mg base 1 "is_text" ["value"] (sp_text K)) :
    ∀ n : Nat, FnOk P w K mg base CX0 (n + 1) f fd ["value"] (sp_fw P w K n)
  | 0 => ⟨fun vs H Q E ⟨_, _, _, h, _⟩ => h.elim, fun A outer s H args us vs Q E _ _ _ _ ⟨_, _, _, h, _⟩ => h.elim⟩
  | n + 1 => ok_fw D B g_MOST_NUMBER R_is_integer R_is_text (D.rdy (fun _ _ _ _ _ _ us hl => match us, hl with | [_], _ => rfl) (ok_fws D B g_MOST_NUMBER R_is_integer R_is_text n))
def dpN (n : Nat) (d : PyData) : Option (List Key) := if 12 < dep n d then some [] else fwN n d
def sp_dp (P : Program) (w : World) (K : PySem.W.Frag) (n : Nat) : Sp := fun vs H Q _ => ∃ v d, vs = [v] ∧ ReX P w K H n v d ∧ smallD n d ∧ n ≤ 100 ∧ ∀ v' H', Same H H' → pathV (dpN n d) H' v' → Q v' H'
def sp_isdoc (P : Program) (w : World) (K : PySem.W.Frag) (n : Nat) : Sp := fun vs H Q _ => ∃ v d, vs = [v] ∧ ReX P w K H n v d ∧ smallD n d ∧ n ≤ 100 ∧ ∀ H', Same H H' → Q (.bl (decide (dpN n d = none))) H'
theorem ok_dp {n : Nat} (D : Def K mg "document_problem" s_document_problem f fd) (B : Blt mg) {t1 : Tok} (g_MOST_DEEP : mg "MOST_DEEP" = some (.int 12 t1)) (R_depth_of : Rdy P w K mg base (n + 1) "depth_of" ["document"] (sp_depthX P w K n)) (R_first_wrong : Rdy P w K mg base (n + 1) "first_wrong" ["value"] (sp_fw P w K n)) :
    FnOk P w K mg base CX0 (n + 2) f fd ["value"] (sp_dp P w K n) := by
  refine D.1.ok sc_document_problem (fun vs H Q E h => ?_) (fun cdv A outer s H vs Q E hr h => ?_)
  · obtain ⟨v, d, rfl, _⟩ := h
    rfl
  obtain ⟨v, d, rfl, hd, sm, h100, q⟩ := h
  refine ⟨_, (pss_one (ps_ret (pe_ifExp (pt_cmpR op_gt (pe_c R_depth_of hr rfl (pa_cons (pv 0) pa_nil)) (pe_gint (by rfl) g_MOST_DEEP) (nomark _)) (pe_tup pa_nil) (pe_c R_first_wrong hr rfl (pa_cons (pv 0) pa_nil))))), ?_⟩
  walk_at "rd"
  refine ⟨v, d, rfl, hd.rp, fun H1 s1 => ?_⟩
  walk_at "rd"
  refine ite2 (fun h => ⟨Nat.zero_le _, fun p np => q _ _ (s1.trans (same_new np _)) ?_⟩) fun h => ⟨v, d, rfl, hd.imp s1, sm, h100, fun v' H2 s2 p2 => q _ _ (s1.trans s2) ?_⟩
  · rw [dpN, if_pos h]; exact ⟨p, rfl, upd_same⟩
  · rw [dpN, if_neg h]; exact p2
end

/-! ### is_document -/
abbrev s_is_document : Stmt := top 9
theorem sc_is_document : FnScope ["value"] ["value"] (defScope s_is_document) := ⟨rfl, rfl, rfl, by decide +kernel, rfl, by decide +kernel, by decide +kernel⟩
section
variable {P : Program} {w : World} {K : PySem.W.Frag} {mg : Str → Option Value} {base : Heap} {f : Addr} {fd : FuncData}
theorem ok_isdoc {n : Nat} (D : Def K mg "is_document" s_is_document f fd) (B : Blt mg) (R_document_problem : Rdy P w K mg base (n + 2) "document_problem" ["value"] (sp_dp P w K n)) : FnOk P w K mg base CX0 (n + 3) f fd ["value"] (sp_isdoc P w K n) := by
  refine D.1.ok sc_is_document (fun vs H Q E h => ?_) (fun cdv A outer s H vs Q E hr h => ?_)
  · obtain ⟨v, d, rfl, _⟩ := h
    rfl
  obtain ⟨v, d, rfl, hd, sm, h100, q⟩ := h
  refine ⟨_, (pss_one (ps_ret (pe_cmpR op_isN (pe_c R_document_problem hr rfl (pa_cons (pv 0) pa_nil)) pe_non (nomark _)))), ?_⟩
  walk_at "rd"
  refine ⟨v, d, rfl, hd, sm, h100, fun v' H1 s1 p1 => ?_⟩
  have := q _ s1
  cases hp : dpN n d with
  | none => rw [hp] at p1 this; cases p1; simpa using this
  | some p => rw [hp] at p1 this; obtain ⟨t, rfl, _⟩ := p1; simpa using this
end

/-! ### kind_of -/
def sp_kind : Sp := fun vs H Q _ => ∃ n v d, vs = [v] ∧ Rp H n v d ∧ Q (.str (kindD d)) H
def sp_kind' : Sp := fun vs H Q _ => ∃ n v d, vs = [v] ∧ Rp H n v d ∧ ∀ H', Same H H' → Q (.str (kindD d)) H'
abbrev s_kind_of : Stmt := top 10
theorem sc_kind_of : FnScope ["document"] ["document"] (defScope s_kind_of) := ⟨rfl, rfl, rfl, by decide +kernel, rfl, by decide +kernel, by decide +kernel⟩
section
variable {P : Program} {w : World} {K : PySem.W.Frag} {mg : Str → Option Value} {base : Heap} {f : Addr} {fd : FuncData}
theorem ok_kind_of (D : Def K mg "kind_of" s_kind_of f fd) (B : Blt mg) : FnOk P w K mg base CX0 1 f fd ["document"] sp_kind := by
  refine D.1.ok sc_kind_of (fun vs H Q E h => ?_) (fun cdv A outer s H vs Q E hr h => ?_)
  · obtain ⟨n, v, d, rfl, _⟩ := h
    rfl
  obtain ⟨n, v, d, rfl, hd, q⟩ := h
  refine ⟨_, (pss_cons (ps_if (pt_cmpR op_isN (pv 0) pe_non (nomark _))
   (pss_one (ps_ret pe_str))
   pss_nil)
  (pss_cons (ps_if (pt_val (pe_callB (isiK (K := K) rfl) (by rfl) B.b_isinstance (by decide +kernel) (pa_cons (pv 0) (pa_cons (pe_bltn (v := .ty "bool") (by rfl) B.b_bool (by decide +kernel) rfl) pa_nil))))
   (pss_one (ps_ret pe_str))
   pss_nil)
  (pss_cons (ps_if (pt_val (pe_callB (isiK (K := K) rfl) (by rfl) B.b_isinstance (by decide +kernel) (pa_cons (pv 0) (pa_cons (pe_bltn (v := .ty "int") (by rfl) B.b_int (by decide +kernel) rfl) pa_nil))))
   (pss_one (ps_ret pe_str))
   pss_nil)
  (pss_cons (ps_if (pt_val (pe_callB (isiK (K := K) rfl) (by rfl) B.b_isinstance (by decide +kernel) (pa_cons (pv 0) (pa_cons (pe_bltn (v := .ty "str") (by rfl) B.b_str (by decide +kernel) rfl) pa_nil))))
   (pss_one (ps_ret pe_str))
   pss_nil)
  (pss_one (ps_ret (pe_ifExp (pt_val (pe_callB (isiK (K := K) rfl) (by rfl) B.b_isinstance (by decide +kernel) (pa_cons (pv 0) (pa_cons (pe_bltn (v := .ty "list") (by rfl) B.b_list (by decide +kernel) rfl) pa_nil)))) pe_str pe_str))))))), ?_⟩
  walk_at "rd"
  cases n with
  | zero => exact hd.elim
  | succ n =>
  cases d with
  | none =>
    cases hd
    exact if_pos rfl ▸ q
  | bool b =>
    cases id hd
    simp only [reduceCtorEq, ↓reduceIte]
    exact isi1 .bool hd ⟨_, rfl, iteT q⟩
  | int b =>
    cases id hd
    simp only [reduceCtorEq, ↓reduceIte]
    exact isi1 .bool hd ⟨_, rfl, iteF (isi1 .int hd ⟨_, rfl, iteT q⟩)⟩
  | str b =>
    cases id hd
    simp only [reduceCtorEq, ↓reduceIte]
    exact isi1 .bool hd ⟨_, rfl, iteF (isi1 .int hd ⟨_, rfl, iteF (isi1 .str hd ⟨_, rfl, iteT q⟩)⟩)⟩
  | list b =>
    obtain ⟨a, xs, rfl, _⟩ := id hd
    simp only [reduceCtorEq, ↓reduceIte]
    exact isi1 .bool hd ⟨_, rfl, iteF (isi1 .int hd ⟨_, rfl, iteF (isi1 .str hd ⟨_, rfl, iteF (isi1 .list hd ⟨_, rfl, iteT q⟩)⟩)⟩)⟩
  | tuple b =>
    obtain ⟨a, xs, rfl, _⟩ := id hd
    simp only [reduceCtorEq, ↓reduceIte]
    exact isi1 .bool hd ⟨_, rfl, iteF (isi1 .int hd ⟨_, rfl, iteF (isi1 .str hd ⟨_, rfl, iteF (isi1 .list hd ⟨_, rfl, iteF q⟩)⟩)⟩)⟩
  | dict b =>
    obtain ⟨a, xs, rfl, _⟩ := id hd
    simp only [reduceCtorEq, ↓reduceIte]
    exact isi1 .bool hd ⟨_, rfl, iteF (isi1 .int hd ⟨_, rfl, iteF (isi1 .str hd ⟨_, rfl, iteF (isi1 .list hd ⟨_, rfl, iteF q⟩)⟩)⟩)⟩
end

/-! ### documents of up to sixty items -/
def docW : Nat → PyData → Prop
  | 0, _ => False
  | n + 1, .list ds => ds.length ≤ 60 ∧ ∀ d ∈ ds, docW n d
  | n + 1, .dict es => es.length ≤ 60 ∧ ∀ e ∈ es, (∃ x, e.1 = .str x ∧ NameOk x) ∧ docW n e.2
  | _ + 1, d => leafD d
theorem docW.keys {n : Nat} {es : List (PyData × PyData)} (h : docW (n + 1) (.dict es)) : StrKeys es := fun e he => by
  obtain ⟨⟨x, hx, _⟩, _⟩ := h.2 e he
  exact ⟨x, hx⟩
theorem docD.w : ∀ {n : Nat} {d : PyData}, docD n d → docW n d
  | 0, _, h => h
  | n + 1, .list ds, h => ⟨Nat.le_trans h.1 (by decide), fun d hd => (h.2 d hd).w⟩
  | n + 1, .dict es, h => ⟨Nat.le_trans h.1 (by decide), fun e he => ⟨(h.2 e he).1, (h.2 e he).2.w⟩⟩
  | n + 1, .none, h => h
  | n + 1, .bool _, h => h
  | n + 1, .int _, h => h
  | n + 1, .str _, h => h
  | n + 1, .tuple _, h => h
theorem same_kindW {n m : Nat} {d e : PyData} (hd : docW m d) (he : docW m e) (h : ¬ kindD d = kindD e) : sameN (n + 1) d e = false := by
  cases m with
  | zero => exact hd.elim
  | succ m => cases d <;> cases e <;> first | exact hd.elim | exact he.elim | rfl | exact absurd rfl h
theorem kind_invW {m : Nat} {d e : PyData} (hd : docW m d) (he : docW m e) (h : kindD d = kindD e) :
    (d = .none ∧ e = .none) ∨ (∃ a b, d = .bool a ∧ e = .bool b) ∨ (∃ a b, d = .int a ∧ e = .int b) ∨ (∃ a b, d = .str a ∧ e = .str b) ∨ (∃ a b, d = .list a ∧ e = .list b) ∨ ∃ a b, d = .dict a ∧ e = .dict b := by
  cases m with
  | zero => exact hd.elim
  | succ m =>
    cases d <;> cases e <;> first | exact hd.elim | exact he.elim | exact .inl ⟨rfl, rfl⟩ | exact .inr (.inl ⟨_, _, rfl, rfl⟩) | exact .inr (.inr (.inl ⟨_, _, rfl, rfl⟩)) | exact .inr (.inr (.inr (.inl ⟨_, _, rfl, rfl⟩))) | exact .inr (.inr (.inr (.inr (.inl ⟨_, _, rfl, rfl⟩)))) | exact .inr (.inr (.inr (.inr (.inr ⟨_, _, rfl, rfl⟩)))) | exact absurd h (by simp only [kindD]; decide +kernel)
/-! ### same -/
def sp_same (n : Nat) : Sp := fun vs H Q _ => ∃ v u d e, vs = [v, u] ∧ Rp H n v d ∧ Rp H n u e ∧ docW n d ∧ docW n e ∧ ∀ H', Same H H' → Q (.bl (sameN n d e)) H'
abbrev s_same : Stmt := top 11
theorem sc_same : FnScope ["one", "other", "kind", "at", "name"] ["one", "other"] (defScope s_same) := ⟨rfl, rfl, rfl, by decide +kernel, rfl, by decide +kernel, by decide +kernel⟩
section
variable {P : Program} {w : World} {K : PySem.W.Frag} {mg : Str → Option Value} {base : Heap} {f : Addr} {fd : FuncData}
theorem ok_same {n : Nat} (D : Def K mg "same" s_same f fd) (B : Blt mg) (R_kind_of : Rdy P w K mg base 1 "kind_of" ["document"] sp_kind) (R_same : Rdy P w K mg base (n + 1) "same" ["one", "other"] (sp_same n)) : FnOk P w K mg base CX0 (n + 2) f fd ["one", "other"] (sp_same (n + 1)) := by
  refine D.1.ok sc_same (fun vs H Q E h => ?_) (fun cdv A outer s H vs Q E hr h => ?_)
  · obtain ⟨v, u, d, e, rfl, _⟩ := h
    rfl
  obtain ⟨v, u, d, e, rfl, hd, he, dd, de, q⟩ := h
  have hu := hu_of hr
  have hr1 : Room 1 _ := hr.mono (by omega)
  refine ⟨_, (pss_cons (ps_set (i := 2) sc_same.nd rfl (by first | exact Or.inl rfl | exact Or.inr rfl) (pe_c R_kind_of hr1 rfl (pa_cons (pv 0) pa_nil)))
  (pss_cons (ps_if (pt_cmpR op_ne (pv 2) (pe_c R_kind_of hr1 rfl (pa_cons (pv 1) pa_nil)) (nomark _))
   (pss_one (ps_ret pe_bl))
   pss_nil)
  (pss_cons (ps_if (pt_cmpR op_eq (pv 2) pe_str (nomark _))
   (pss_one (ps_ret (pe_and (pe_cmpR op_eq (pe_callB (lenK (K := K) rfl) (by rfl) B.b_len (by decide +kernel) (pa_cons (pv 0) pa_nil)) (pe_callB (lenK (K := K) rfl) (by rfl) B.b_len (by decide +kernel) (pa_cons (pv 1) pa_nil)) (nomark _)) (pe_one (pe_callB (allK (K := K) rfl rfl) (by rfl) B.b_all (by decide +kernel) (pa_cons (pe_lc (own := [("at", 3)]) (by rfl) sc_same.nd (pi_range1 (by rfl) B.b_range (pa_cons (pe_callB (lenK (K := K) rfl) (by rfl) B.b_len (by decide +kernel) (pa_cons (pv 0) pa_nil)) pa_nil)) (blkOk_by (own := [("at", 3)]) (N := ["one", "other", "kind", "at", "name"]) (sc := defScope s_same) (by decide +kernel)) (fun _ _ _ _ _ => (pg_name (i := 3) sc_same.nd rfl (by first | exact Or.inl rfl | exact Or.inr rfl))) (fun _ _ _ _ _ => pts_nil) (fun _ _ _ _ _ => (pe_c R_same hr rfl (pa_cons (pe_ix (ixLK (K := K) rfl) (pv 0) (pv 3) (fun _ _ => rfl)) (pa_cons (pe_ix (ixLK (K := K) rfl) (pv 1) (pv 3) (fun _ _ => rfl)) pa_nil))))) pa_nil))))))
   pss_nil)
  (pss_cons (ps_if (pt_cmpR op_eq (pv 2) pe_str (nomark _))
   (pss_cons (ps_if (pt_cmpR (neDK (K := K) rfl hr.units) (pe_callB (sortedSK (K := K) rfl) (by rfl) B.b_sorted (by decide +kernel) (pa_cons (pe_callTy (call_listD rfl) (by rfl) B.b_list (by decide +kernel) (pa_cons (pv 0) pa_nil)) pa_nil)) (pe_callB (sortedSK (K := K) rfl) (by rfl) B.b_sorted (by decide +kernel) (pa_cons (pe_callTy (call_listD rfl) (by rfl) B.b_list (by decide +kernel) (pa_cons (pv 1) pa_nil)) pa_nil)) (nomark _))
   (pss_one (ps_ret pe_bl))
   pss_nil)
  (pss_one (ps_ret (pe_callB (allK (K := K) rfl rfl) (by rfl) B.b_all (by decide +kernel) (pa_cons (pe_lock (pe_lc (own := [("name", 4)]) (by rfl) sc_same.nd (pi_keys (pv 0)) (blkOk_by (own := [("name", 4)]) (N := ["one", "other", "kind", "at", "name"]) (sc := defScope s_same) (by decide +kernel)) (fun _ _ _ _ _ => (pg_name (i := 4) sc_same.nd rfl (by first | exact Or.inl rfl | exact Or.inr rfl))) (fun _ _ _ _ _ => pts_nil) (fun _ _ _ _ _ => (pe_c R_same hr rfl (pa_cons (pe_dget hu (pv 0) (pv 4) (fun _ _ => rfl)) (pa_cons (pe_dget hu (pv 1) (pv 4) (fun _ _ => rfl)) pa_nil)))))) pa_nil)))))
   pss_nil)
  (pss_one (ps_ret (pe_cmpR op_eq (pv 0) (pv 1) (nomark _)))))))), ?_⟩
  walk_at "rd"
  refine ⟨n + 1, v, d, rfl, hd, n + 1, u, e, rfl, he, rfl, ?_⟩
  by_cases hk : kindD d = kindD e
  · rw [hk]
    refine iteF' (by simp) ⟨rfl, ?_⟩
    rcases kind_invW dd de hk with ⟨rfl, rfl⟩ | ⟨a, b, rfl, rfl⟩ | ⟨a, b, rfl, rfl⟩ | ⟨a, b, rfl, rfl⟩ | ⟨a, b, rfl, rfl⟩ | ⟨a, b, rfl, rfl⟩
    · cases hd
      cases he
      exact iteF' (by simp only [kindD, V.str.injEq]; decide +kernel) ⟨rfl, iteF' (by simp only [kindD, V.str.injEq]; decide +kernel) ⟨rfl, q _ (Same.refl _)⟩⟩
    · cases hd
      cases he
      refine iteF' (by simp only [kindD, V.str.injEq]; decide +kernel) ⟨rfl, iteF' (by simp only [kindD, V.str.injEq]; decide +kernel) ⟨rfl, ?_⟩⟩
      have := q _ (Same.refl _)
      simpa [sameN, sameL] using this
    · cases hd
      cases he
      refine iteF' (by simp only [kindD, V.str.injEq]; decide +kernel) ⟨rfl, iteF' (by simp only [kindD, V.str.injEq]; decide +kernel) ⟨rfl, ?_⟩⟩
      have := q _ (Same.refl _)
      simpa [sameN, sameL] using this
    · cases hd
      cases he
      refine iteF' (by simp only [kindD, V.str.injEq]; decide +kernel) ⟨rfl, iteF' (by simp only [kindD, V.str.injEq]; decide +kernel) ⟨rfl, ?_⟩⟩
      have := q _ (Same.refl _)
      simpa [sameN, sameL] using this
    · obtain ⟨p1, xs, rfl, ha, hb, hp⟩ := id hd
      obtain ⟨p2, ys, rfl, ha2, hb2, hp2⟩ := id he
      refine iteT' rfl ⟨_, .inl ⟨_, SqL.of ha, rfl⟩, _, .inl ⟨_, SqL.of ha2, rfl⟩, rfl, ?_⟩
      by_cases hl : xs.length = ys.length
      · refine iteT' (by rw [hl]) ⟨_, .inl ⟨_, SqL.of ha, rfl⟩, by omega, by omega, ?_⟩
        have hla : a.length = b.length := by rw [← pd_len hp, ← pd_len hp2, hl]
        refine lcP_range ((List.zipWith (sameN n) a b).map V.bl) (by simp [← pd_len hp, ← pd_len hp2, hl]) (by omega) ?_ ?_
        · rintro i x y H' N rfl hy s N'
          simp only [List.getElem?_map, Option.map_eq_some_iff] at hy
          obtain ⟨z, hz, rfl⟩ := hy
          obtain ⟨da, db, h1, h2, rfl⟩ := List.getElem?_zipWith_eq_some.mp hz
          have hi : i < a.length := (List.getElem?_eq_some_iff.mp h1).1
          have hx1 : ∃ w, xs[i]? = some w := ⟨xs[i]'(by rw [pd_len hp]; exact hi), by rw [List.getElem?_eq_getElem]⟩
          have hx2 : ∃ w, ys[i]? = some w := ⟨ys[i]'(by rw [pd_len hp2, ← hla]; exact hi), by rw [List.getElem?_eq_getElem]⟩
          obtain ⟨w1, hw1⟩ := hx1
          obtain ⟨w2, hw2⟩ := hx2
          obtain ⟨da', e1, r1⟩ := pd_get hp hw1
          obtain ⟨db', e2, r2⟩ := pd_get hp2 hw2
          rw [h1] at e1; cases e1
          rw [h2] at e2; cases e2
          walk_at "rd"
          refine ⟨p1, xs, _, w1, rfl, rfl, SqL.of (s _ _ ha), by rw [Int.zero_add]; exact atI_nat hw1, p2, ys, _, w2, rfl, rfl, SqL.of (s _ _ ha2), by rw [Int.zero_add]; exact atI_nat hw2, ?_⟩
          exact ⟨w1, w2, da, db, rfl, r1.imp s, r2.imp s, dd.2 _ (List.mem_of_getElem? h1), de.2 _ (List.mem_of_getElem? h2), fun H4 s4 => N' H4 s4⟩
        · intro D' H' nD s e
          refine ⟨D', _, rfl, SqL.of e, ?_⟩
          have := q _ s
          simpa [sameN, hla] using this
      · have hla : ¬ a.length = b.length := by rw [← pd_len hp, ← pd_len hp2]; exact hl
        refine iteF' (by omega) ?_
        have := q _ (Same.refl _)
        simpa [sameN, hla] using this
    · obtain ⟨p1, xs, rfl, ha, hb, hn, hp⟩ := id hd
      obtain ⟨p2, ys, rfl, ha2, hb2, hn2, hp2⟩ := id he
      have k1 := dd.keys
      have k2 := de.keys
      have n1 := keys_nd hp k1 hn
      have n2 := keys_nd hp2 k2 hn2
      have hla : a.length ≤ 60 := dd.1
      have hlb : b.length ≤ 60 := de.1
      refine iteF' (by simp only [kindD, V.str.injEq]; decide +kernel) ⟨rfl, iteT' rfl ⟨_, rfl, _, ha, fun r1 nr1 => ?_⟩⟩
      rw [keysV_of hp k1]
      refine ⟨r1, keysD a, rfl, SqL.of upd_same, by simp [keysD]; omega, fun z1 r2 pz1 sz1 nr2 => ?_⟩
      obtain rfl : z1 = srt (keysD a) := srt_is pz1 sz1
      have s1 := (same_new nr1 (.lst ((keysD a).map V.str))).trans (same_new nr2 (.lst ((srt (keysD a)).map V.str)))
      refine ⟨_, rfl, _, rd_same s1 ha2, fun r3 nr3 => ?_⟩
      rw [keysV_of hp2 k2]
      refine ⟨r3, keysD b, rfl, SqL.of upd_same, by simp [keysD]; omega, fun z2 r4 pz2 sz2 nr4 => ?_⟩
      obtain rfl : z2 = srt (keysD b) := srt_is pz2 sz2
      have s2 := (s1.trans (same_new nr3 (.lst ((keysD b).map V.str)))).trans (same_new nr4 (.lst ((srt (keysD b)).map V.str)))
      have e2 := ((same_new nr3 (.lst ((keysD b).map V.str))).trans (same_new nr4 (.lst ((srt (keysD b)).map V.str)))) _ _ upd_same
      have a1 : ∀ x ∈ srt (keysD a), AsciiS x := fun x hx => by
        obtain ⟨q', hq, rfl⟩ := List.mem_map.mp (pz1.mem_iff.mp hx)
        obtain ⟨⟨y, hy, hy2⟩, _⟩ := dd.2 q' hq
        rw [hy]; exact hy2.2
      have a2 : ∀ x ∈ srt (keysD b), AsciiS x := fun x hx => by
        obtain ⟨q', hq, rfl⟩ := List.mem_map.mp (pz2.mem_iff.mp hx)
        obtain ⟨⟨y, hy, hy2⟩, _⟩ := de.2 q' hq
        rw [hy]; exact hy2.2
      refine ⟨_, _, Dp_strs e2, Dp_strs upd_same, shaped_strs a1, shaped_strs a2, _, rfl, ?_⟩
      rw [eqv_strs]
      by_cases hs : srt (keysD a) = srt (keysD b)
      · rw [decide_eq_true hs]
        have hr4 : H r4 = none := (s1.trans (same_new nr3 _)).free nr4
        refine iteF (lcD_keys (rd_same s2 ha) upd_same rfl hr4 s2 ((a.map fun e => optB (dget b (strD e.1)) (sameN n e.2)).map V.bl) (by simp [pd_len hp]) (by omega) ?_ ?_)
        · intro i k v y H' N hk hy ls ha' N'
          obtain ⟨e, he, hk', hr'⟩ := pd_get hp hk
          have hm := List.mem_of_getElem? he
          obtain ⟨x, hx⟩ := k1 e hm
          obtain ⟨e1, e2⟩ := e
          simp at hx hk' hr'
          subst hx
          cases k with
          | inl i => cases hk'
          | inr z =>
            cases hk'
            have hin : x ∈ keysD b := mem_srt.mp (by rw [← hs]; exact mem_srt.mpr (List.mem_map.mpr ⟨_, hm, rfl⟩))
            rcases get_of hp2 k2 x with ⟨_, hnone⟩ | ⟨v2, d2, hv2, hd2, hr2⟩
            · exact absurd hin (dget_none hnone)
            · walk_at "rd"
              refine ⟨v, .inl ⟨xs, .inr x, ha', rfl, (valV_at hn hk).symm⟩, v2, .inl ⟨ys, .inr x, ls.rdk ha2, rfl, hv2.symm⟩, ?_⟩
              obtain ⟨q', hq', rfl, _⟩ := dget_mem hd2
              refine ⟨v, v2, e2, _, rfl, hr'.lk ls, hr2.lk ls, (dd.2 _ hm).2, (de.2 _ hq').2, fun H4 s4 => ?_⟩
              simp [he, strD, hd2, optB] at hy
              subst hy
              exact N' H4 s4
        · intro D' H' nD s e
          refine ⟨D', _, rfl, SqL.of e, ?_⟩
          have := q _ (s2.trans s)
          simpa [sameN, hs] using this
      · rw [decide_eq_false hs]
        refine iteT ?_
        have := q _ s2
        simpa [sameN, hs] using this
  · refine iteT' (by simpa using hk) ?_
    have := q _ (Same.refl _)
    rw [same_kindW dd de hk] at this
    exact this
end
section
variable {P : Program} {w : World} {K : PySem.W.Frag} {mg : Str → Option Value} {base : Heap} {f : Addr} {fd : FuncData}
theorem ok_sames (D : Def K mg "same" s_same f fd) (B : Blt mg) (R_kind_of : Rdy P w K mg base 1 "kind_of" ["document"] sp_kind) : ∀ n : Nat, FnOk P w K mg base CX0 (n + 1) f fd ["one", "other"] (sp_same n)
  | 0 => ⟨fun vs H Q E ⟨_, _, _, _, _, h, _⟩ => h.elim, fun A outer s H args us vs Q E _ _ _ _ ⟨_, _, _, _, _, h, _⟩ => h.elim⟩
  | n + 1 => ok_same D B R_kind_of (D.rdy (fun _ _ _ _ _ _ us hl => match us, hl with | [_, _], _ => rfl) (ok_sames D B R_kind_of n))
end

local macro_rules | `(tactic| walk_at "rd") => `(tactic| simp only [tGetX, tInX, tNotInX, tLenSetS, rIsB, rIsA, tMatch, tDGet1, tDGet2, tLock_asg, tListEn, tTwo5, iZip, tM1, tM0, tFmt, tJs, tRevL, tPar3, tSeq, tNext, tIfS, tB, tTest, tCB, tCons, tC, tNil, tVar, tRet, tRetN, tAsg, gName, tOp, tUn, tAnd, tOr, tNot, tAndV, tOrV, tNotV, tIf, tDrop, tCall, tCallK, rI, rI0, rU, rEq, rNe, tPar, tAug, ipI, tLst, tTup, tDNewK, tDGet, tDIn, tDNotIn, sDPut, tBM, tBM0, gSub, rSetL, tChain, gTup, gCons, gNil, tYes, tBreak, tCont, tDisp, tPairs, rLenK, rLenA, rListK, L2.start, L2.wipe, cx_K, tFor_eq, tLc_eq, tDc_eq, tSl, tPart, tNoPart, iList, iTup, iRng1, iRng2, iKeys, iStr, iEnum, iEnumK, List.map_cons, List.map_nil, List.length_cons, List.length_nil, Nat.reduceAdd, Nat.reduceSub, List.reduceReplicate, List.replicate_zero, List.append_nil, List.nil_append, List.cons_append, List.getElem?_cons_zero, List.getElem?_cons_succ, Option.some.injEq, exists_eq_left', exists_eq_left, exists_eq', exists_eq, exists_and_left, V.int.injEq, V.ref.injEq, V.str.injEq, V.bl.injEq, List.cons.injEq, and_true, true_and, and_assoc, Bool.false_eq_true, ↓reduceIte, List.set_cons_zero, List.set_cons_succ, decide_eq_true_eq, Bool.not_eq_true', decide_eq_false_iff_not, Nat.zero_add, Nat.zero_sub, Nat.sub_self, Nat.sub_zero])

/-! ### TABLE, keyword_form, places_of -/
def tableR : List (Str × Str) := [(Str.ofString "ref", Str.ofString "text"), (Str.ofString "kinds", Str.ofString "kinds"), (Str.ofString "const", Str.ofString "document"), (Str.ofString "among", Str.ofString "documents"), (Str.ofString "minimum", Str.ofString "integer"), (Str.ofString "maximum", Str.ofString "integer"), (Str.ofString "multiple_of", Str.ofString "divisor"), (Str.ofString "min_length", Str.ofString "size"), (Str.ofString "max_length", Str.ofString "size"), (Str.ofString "charset", Str.ofString "charset"), (Str.ofString "notation", Str.ofString "notation"), (Str.ofString "min_items", Str.ofString "size"), (Str.ofString "max_items", Str.ofString "size"), (Str.ofString "unique", Str.ofString "truth"), (Str.ofString "prefix_items", Str.ofString "several"), (Str.ofString "items", Str.ofString "schema"), (Str.ofString "contains", Str.ofString "schema"), (Str.ofString "min_contains", Str.ofString "size"), (Str.ofString "max_contains", Str.ofString "size"), (Str.ofString "min_properties", Str.ofString "size"), (Str.ofString "max_properties", Str.ofString "size"), (Str.ofString "required", Str.ofString "names"), (Str.ofString "properties", Str.ofString "named"), (Str.ofString "property_names", Str.ofString "schema"), (Str.ofString "additional", Str.ofString "schema"), (Str.ofString "dependent", Str.ofString "named"), (Str.ofString "all_of", Str.ofString "several"), (Str.ofString "any_of", Str.ofString "several"), (Str.ofString "one_of", Str.ofString "several"), (Str.ofString "not", Str.ofString "schema"), (Str.ofString "if", Str.ofString "schema"), (Str.ofString "then", Str.ofString "schema"), (Str.ofString "else", Str.ofString "schema"), (Str.ofString "unevaluated_items", Str.ofString "schema"), (Str.ofString "unevaluated_properties", Str.ofString "schema"), (Str.ofString "title", Str.ofString "short"), (Str.ofString "default", Str.ofString "document"), (Str.ofString "defs", Str.ofString "named")]
def formOf (w : Str) : Option Str := (tableR.find? fun r => decide (r.1 = w)).map (·.2)
def formV : PyData → V
  | .str x => match formOf x with | some f => .str f | none => .non
  | _ => .non
theorem pe_gref {X : Cx} {x : Str} {a : Addr} {pos : Pos} (hg : Gl X x) (hm : X.mg x = some (.ref a)) (hd : (x == ("__debug__" : Str)) = false := by decide) : PE X (.Name x pos) (tC (.ref a)) := pe_glob (v := .ref a) hg hm rfl hd
def formP (d : PyData) (r : Str × Str) : Bool := match d with
  | .str x => decide (r.1 = x)
  | _ => false
theorem form_eq (d : PyData) : formV d = match (tableR.filter (formP d)).head? with | some r => .str r.2 | none => .non := by
  cases d with
  | str x =>
    show (match formOf x with | some f => V.str f | none => V.non) = _
    unfold formOf
    rw [List.head?_filter]
    show (match (tableR.find? fun r => decide (r.1 = x)).map (·.2) with | some f => V.str f | none => V.non) = match tableR.find? (fun r => decide (r.1 = x)) with | some r => V.str r.2 | none => V.non
    cases tableR.find? fun r => decide (r.1 = x) <;> rfl
  | _ =>
    rw [show (tableR.filter (formP _)) = [] from List.filter_eq_nil_iff.mpr fun r hr => by simp [formP]]
    rfl

/-! ### keyword_form -/
def sp_form : Sp := fun vs H Q _ => ∃ n v d, vs = [v] ∧ Rp H n v d ∧ ∀ H', Same H H' → Q (formV d) H'
abbrev s_keyword_form : Stmt := top 14
theorem sc_keyword_form : FnScope ["word", "found", "known", "form"] ["word"] (defScope s_keyword_form) := ⟨rfl, rfl, rfl, by decide +kernel, rfl, by decide +kernel, by decide +kernel⟩
section
variable {P : Program} {w : World} {K : PySem.W.Frag} {mg : Str → Option Value} {base : Heap} {f : Addr} {fd : FuncData}
theorem ok_form (D : Def K mg "keyword_form" s_keyword_form f fd) (B : Blt mg) {ta : Addr} (g_TABLE : mg "TABLE" = some (.ref ta)) {as : List Addr} (hT : ∀ H : Hp, SqT K H ta (as.map V.ref)) (hR : Paired (fun a r => ∀ H : Hp, SqT K H a [.str r.1, .str r.2]) as tableR) : FnOk P w K mg base CX0 1 f fd ["word"] sp_form := by
  refine D.1.ok sc_keyword_form (fun vs H Q E h => ?_) (fun cdv A outer s H vs Q E hr h => ?_)
  · obtain ⟨n, v, d, rfl, _⟩ := h
    rfl
  obtain ⟨n, v, d, rfl, hd, q⟩ := h
  have hu := hu_of hr
  refine ⟨_, (pss_cons (ps_setLc (i := 1) (own := [("known", 2), ("form", 3)]) (by rfl) sc_keyword_form.nd rfl rfl (sw_true rfl rfl rfl (by decide +kernel)) (pi_tup (pe_gref (by rfl) g_TABLE)) (blkOk_by (own := [("known", 2), ("form", 3)]) (N := ["word", "found", "known", "form"]) (sc := defScope s_keyword_form) (by decide +kernel)) (fun _ _ _ _ _ => (pg_tupK (K := K) (n := 2) rfl (by rfl) (pgs_cons (pg_name (i := 2) sc_keyword_form.nd rfl (by first | exact Or.inl rfl | exact Or.inr rfl)) (pgs_cons (pg_name (i := 3) sc_keyword_form.nd rfl (by first | exact Or.inl rfl | exact Or.inr rfl)) pgs_nil)))) (fun _ _ _ _ _ => (pts_one (PW.pt (pw_and (pt_val (pe_callB (isiK (K := K) rfl) (by rfl) B.b_isinstance (by decide +kernel) (pa_cons (pv 0) (pa_cons (pe_bltn (v := .ty "str") (by rfl) B.b_str (by decide +kernel) rfl) pa_nil)))) (pw_and1 (pt_cmpR op_eq (pv 2) (pv 0) (nomark _))))))) (fun _ _ _ _ _ => (pv 3)))
  (pss_one (ps_ret (pe_ifExp (pt_cmpR (neNilK (K := K) rfl hu) (pv 1) (pe_lst pa_nil) (nomark _)) (pe_ix (ixLK (K := K) rfl) (pv 1) pe_int (fun _ _ => rfl)) pe_non)))), ?_⟩
  walk_at "rd"
  refine ⟨⟨_, hT _⟩, ?_⟩
  have hlen : as.length = 38 := pd_len hR
  refine lc_itR (walk_tup (xs := as.map V.ref)) (fun D i H' => Same H H' ∧ H' D = some (.lst (((tableR.take i).filter (formP d)).map fun r => V.str r.2))) (fun D hD => ⟨same_new hD _, upd_same⟩) (fun D i H' _ _ _ => hT _) ?_ ?_
  · rintro D i x Ha Hb hD hi ⟨sa, eD⟩ ⟨rfl, hx⟩
    rw [List.getElem?_map, Option.map_eq_some_iff] at hx
    obtain ⟨a, ha, rfl⟩ := hx
    obtain ⟨r, hr1, hr2⟩ := pd_get hR ha
    have hi38 : i < 38 := by rw [List.length_map, hlen] at hi; exact hi
    have hl : ((tableR.take i).filter (formP d)).length ≤ 38 := Nat.le_trans (List.length_filter_le _ _) (by rw [List.length_take]; omega)
    have nxt : (tableR.take (i + 1)).filter (formP d) = (tableR.take i).filter (formP d) ++ (if formP d r = true then [r] else []) := by
      rw [List.take_succ, hr1, List.filter_append]
      congr 1
      simp only [Option.toList_some, List.filter_cons, List.filter_nil]
    simp only [gTup, gCons, gNil, gName]
    refine ⟨a, _, rfl, hr2 _, rfl, _, _, rfl, _, _, rfl, rfl, rfl, ?_⟩
    walk_at "rd"
    have off : formP d r = false → Same H Hb ∧ Hb D = some (.lst (((tableR.take (i + 1)).filter (formP d)).map fun r => V.str r.2)) := fun h => by
      rw [nxt, h]
      simpa using ⟨sa, eD⟩
    refine isi1 .str (hd.imp sa) ⟨_, rfl, ite2 (fun h => ?_) fun h => off ?_⟩
    · obtain ⟨x, rfl⟩ : ∃ x, d = .str x := by cases d <;> first | exact ⟨_, rfl⟩ | cases h
      obtain rfl : v = .str x := by
        cases n with
        | zero => exact hd.elim
        | succ n => exact hd
      refine ⟨rfl, ite2 (fun h2 => ?_) fun h2 => off ?_⟩
      · have hf : formP (.str x) r = true := by simpa [formP] using h2
        refine ⟨_, eD, sz5l (by rw [List.length_map]; omega), same_mut sa hD, ?_⟩
        rw [upd_same, nxt, hf]
        simp
      · simpa [formP] using h2
    · cases d <;> first | rfl | exact absurd rfl h
  · rintro D H' hD ⟨sa, eD⟩
    rw [List.take_of_length_le (by rw [List.length_map, hlen]; decide)] at eD
    refine ⟨Nat.zero_le _, fun p np => ?_⟩
    have e2 := (same_new np (.lst [])) _ _ eD
    refine ⟨D, p, _, rfl, rfl, SqL.of e2, SqL.of upd_same, _, rfl, ?_⟩
    have hq := q _ (sa.trans (same_new np (.lst [])))
    rw [form_eq] at hq
    cases hL : tableR.filter (formP d) with
    | nil =>
      rw [hL] at hq
      rw [if_neg (by simp)]
      exact hq
    | cons r rs =>
      rw [hL] at hq e2
      rw [if_pos (by simp)]
      exact ⟨D, _, 0, .str r.2, rfl, rfl, SqL.of e2, atI_nat rfl, hq⟩
end

def namedD : PyData → Bool
  | .dict es => decide (es.length ≤ 20) && es.all fun e => isTextD e.1
  | _ => false
theorem RX.up1 {P : Program} {w : World} {K : PySem.W.Frag} {H : Hp} : ∀ {n : Nat} {v : V} {d : PyData}, ReX P w K H n v d → ReX P w K H (n + 1) v d
  | 0, _, _, h => h.elim
  | n + 1, v, .list ds, ⟨a, xs, h1, h2, h3, h4⟩ => ⟨a, xs, h1, h2, h3, pd_imp h4 fun _ _ _ _ r => r.up1⟩
  | n + 1, v, .dict es, .inl ⟨a, kvs, h1, h2, h3, h4, h5⟩ => .inl ⟨a, kvs, h1, h2, h3, h4, pd_imp h5 fun _ _ _ _ r => ⟨r.1, r.2.up1⟩⟩
  | n + 1, v, .dict es, .inr ⟨a, kvs, h1, h2, h3, h4, h5⟩ => .inr ⟨a, kvs, h1, h2, h3, h4, pd_imp h5 fun _ _ _ _ r => ⟨r.1, r.2.up1⟩⟩
  | n + 1, v, .none, h => Rp.up1 (n := n + 1) h
  | n + 1, v, .bool _, h => Rp.up1 (n := n + 1) h
  | n + 1, v, .int _, h => Rp.up1 (n := n + 1) h
  | n + 1, v, .str _, h => Rp.up1 (n := n + 1) h
  | n + 1, v, .tuple _, h => Or.imp (fun h => Rp.up1 (n := n + 1) h) id (show _ ∨ _ from h)
theorem RX.up {P : Program} {w : World} {K : PySem.W.Frag} {H : Hp} {n m : Nat} {v : V} {d : PyData} (h : ReX P w K H n v d) (hl : n ≤ m) : ReX P w K H m v d := by
  induction hl with
  | refl => exact h
  | step _ ih => exact ih.up1
/-! ### schemas in which const, among, default may hold values with odd dicts -/
def formK : Key → Option Str
  | .inr x => formOf x
  | .inl _ => none
def formD : PyData → Option Str
  | .str x => formOf x
  | _ => none
/-- plain data or an instance -/
def HX (K : PySem.W.Frag) (H : Hp) (n : Nat) (v : V) (d : PyData) : Prop := Re H n v d ∨ (1 ≤ n ∧ d = .tuple [] ∧ IsIns K H v)
theorem HX.z {K : PySem.W.Frag} {H : Hp} {n : Nat} {v : V} {d : PyData} (h : HX K H n v d) : RZ K H n v d := Or.imp Re.rp (fun z => z.2) (show _ ∨ _ from h)
theorem HX.re {K : PySem.W.Frag} {H : Hp} {n : Nat} {v : V} {d : PyData} (h : HX K H n v d) (hne : d ≠ .tuple []) : Re H n v d := (show _ ∨ _ from h).elim id fun z => absurd z.2.1 hne
theorem HX.imp {K : PySem.W.Frag} {H H' : Hp} {n : Nat} {v : V} {d : PyData} (s : Same H H') (h : HX K H n v d) : HX K H' n v d := Or.imp (fun z => Re.imp s z) (fun z => ⟨z.1, z.2.1, z.2.2.imp s⟩) (show _ ∨ _ from h)
theorem HX.up1 {K : PySem.W.Frag} {H : Hp} {n : Nat} {v : V} {d : PyData} (h : HX K H n v d) : HX K H (n + 1) v d := Or.imp (fun z => Re.up1 z) (fun z => ⟨by omega, z.2⟩) (show _ ∨ _ from h)
theorem HX.x {P : Program} {w : World} {K : PySem.W.Frag} {H : Hp} {n : Nat} {v : V} {d : PyData} (h : HX K H n v d) : ReX P w K H n v d := by
  rcases (show _ ∨ _ from h) with h | ⟨h1, rfl, h2⟩
  · exact h.x
  · cases n with
    | zero => omega
    | succ n => exact .inr ⟨rfl, h2⟩
/-- lists and dicts of schemas -/
def VU (K : PySem.W.Frag) (H : Hp) (n : Nat) (S : V → PyData → Prop) (u : V) (e : PyData) : Prop := HX K H n u e ∨ ∃ ds L xs, e = .list ds ∧ u = .ref L ∧ H L = some (.lst xs) ∧ ds.length ≤ 60 ∧ Paired S xs ds
def NU (P : Program) (w : World) (K : PySem.W.Frag) (H : Hp) (n : Nat) (S : V → PyData → Prop) (u : V) (e : PyData) : Prop := HX K H n u e ∨ (ReX P w K H n u e ∧ namedD e = false) ∨ ∃ es a kvs, e = .dict es ∧ u = .ref a ∧ H a = some (.dK kvs) ∧ kvs.length ≤ 10000 ∧ (kvs.map (·.1)).Nodup ∧ Paired (KvR S) kvs es
def UX (P : Program) (w : World) (K : PySem.W.Frag) (H : Hp) (n : Nat) (S : V → PyData → Prop) (fo : Option Str) (u : V) (e : PyData) : Prop :=
  if fo = some (Str.ofString "document") ∨ fo = some (Str.ofString "documents") then ReX P w K H n u e else if fo = some (Str.ofString "schema") then S u e else if fo = some (Str.ofString "named") then NU P w K H n S u e else if fo = some (Str.ofString "several") then VU K H n S u e else HX K H n u e
def SX (P : Program) (w : World) (K : PySem.W.Frag) (H : Hp) : Nat → V → PyData → Prop
  | 0, _, _ => False
  | n + 1, v, .dict es => (∃ a kvs, v = .ref a ∧ H a = some (.dK kvs) ∧ kvs.length ≤ 10000 ∧ (kvs.map (·.1)).Nodup ∧ Paired (fun (p : Key × V) (q : PyData × PyData) => q.1 = kD p.1 ∧ UX P w K H n (SX P w K H n) (formK p.1) p.2 q.2) kvs es) ∨
      ∃ a kvs, v = .ref a ∧ FzN w H a kvs ∧ kvs.length ≤ 60 ∧ Paired (fun (p : NV) (q : PyData × PyData) => Rp H 3 p.2.1 q.1 ∧ UX P w K H n (SX P w K H n) (formD q.1) p.2.2 q.2) kvs es
  | n + 1, v, .none => Re H (n + 1) v .none
  | n + 1, v, .bool b => Re H (n + 1) v (.bool b)
  | n + 1, v, .int i => Re H (n + 1) v (.int i)
  | n + 1, v, .str x => Re H (n + 1) v (.str x)
  | n + 1, v, .list ds => Re H (n + 1) v (.list ds)
  | n + 1, v, .tuple ds => HX K H (n + 1) v (.tuple ds)
theorem UX.of {P : Program} {w : World} {K : PySem.W.Frag} {H : Hp} {n : Nat} {S : V → PyData → Prop} {fo : Option Str} {u : V} {e : PyData} (h : Re H n u e) (hS : S u e) : UX P w K H n S fo u e := by
  unfold UX
  split
  · exact h.x
  split
  · exact hS
  split
  · exact .inl (.inl h)
  split
  · exact .inl (.inl h)
  · exact .inl h
theorem UX.mono {P : Program} {w : World} {K : PySem.W.Frag} {H H' : Hp} {n m : Nat} {S S' : V → PyData → Prop} {fo : Option Str} {u : V} {e : PyData} (hs : Same H H') (h1 : ReX P w K H n u e → ReX P w K H' m u e) (h2 : HX K H n u e → HX K H' m u e) (h3 : ∀ {u e}, S u e → S' u e) (h : UX P w K H n S fo u e) : UX P w K H' m S' fo u e := by
  unfold UX at h ⊢
  split
  · rename_i c; rw [if_pos c] at h; exact h1 h
  · rename_i c
    rw [if_neg c] at h
    split
    · rename_i c; rw [if_pos c] at h; exact h3 h
    · rename_i c
      rw [if_neg c] at h
      split
      · rename_i c
        rw [if_pos c] at h
        rcases h with h | h | ⟨es, a, kvs, g1, g2, g3, g4, g5, g6⟩
        · exact .inl (h2 h)
        · exact .inr (.inl ⟨h1 h.1, h.2⟩)
        · exact .inr (.inr ⟨es, a, kvs, g1, g2, hs _ _ g3, g4, g5, pd_imp g6 fun _ _ _ _ r => ⟨r.1, h3 r.2⟩⟩)
      · rename_i c
        rw [if_neg c] at h
        split
        · rename_i c
          rw [if_pos c] at h
          rcases h with h | ⟨ds, L, xs, g1, g2, g3, g4, g5⟩
          · exact .inl (h2 h)
          · exact .inr ⟨ds, L, xs, g1, g2, hs _ _ g3, g4, pd_imp g5 fun _ _ _ _ r => h3 r⟩
        · rename_i c; rw [if_neg c] at h; exact h2 h
theorem SX.imp {P : Program} {w : World} {K : PySem.W.Frag} {H H' : Hp} (s : Same H H') : ∀ {n : Nat} {v : V} {d : PyData}, SX P w K H n v d → SX P w K H' n v d
  | 0, _, _, h => h.elim
  | n + 1, v, .dict es, .inl ⟨a, kvs, h1, h2, h3, h4, h5⟩ => .inl ⟨a, kvs, h1, s _ _ h2, h3, h4, pd_imp h5 fun _ _ _ _ r => ⟨r.1, r.2.mono s (RX.imp s) (HX.imp s) (SX.imp s)⟩⟩
  | n + 1, v, .dict es, .inr ⟨a, kvs, h1, h2, h3, h5⟩ => .inr ⟨a, kvs, h1, h2.imp s, h3, pd_imp h5 fun _ _ _ _ r => ⟨r.1.imp s, r.2.mono s (RX.imp s) (HX.imp s) (SX.imp s)⟩⟩
  | n + 1, v, .none, h => Re.imp (n := n + 1) s h
  | n + 1, v, .bool _, h => Re.imp (n := n + 1) s h
  | n + 1, v, .int _, h => Re.imp (n := n + 1) s h
  | n + 1, v, .str _, h => Re.imp (n := n + 1) s h
  | n + 1, v, .list _, h => Re.imp (n := n + 1) s h
  | n + 1, v, .tuple _, h => HX.imp (n := n + 1) s h
theorem UX.imp {P : Program} {w : World} {K : PySem.W.Frag} {H H' : Hp} (s : Same H H') {n : Nat} {fo : Option Str} {u : V} {e : PyData} (h : UX P w K H n (SX P w K H n) fo u e) : UX P w K H' n (SX P w K H' n) fo u e := h.mono s (RX.imp s) (HX.imp s) (SX.imp s)
theorem SX.up1 {P : Program} {w : World} {K : PySem.W.Frag} {H : Hp} : ∀ {n : Nat} {v : V} {d : PyData}, SX P w K H n v d → SX P w K H (n + 1) v d
  | 0, _, _, h => h.elim
  | n + 1, v, .dict es, .inl ⟨a, kvs, h1, h2, h3, h4, h5⟩ => .inl ⟨a, kvs, h1, h2, h3, h4, pd_imp h5 fun _ _ _ _ r => ⟨r.1, r.2.mono (Same.refl _) RX.up1 HX.up1 SX.up1⟩⟩
  | n + 1, v, .dict es, .inr ⟨a, kvs, h1, h2, h3, h5⟩ => .inr ⟨a, kvs, h1, h2, h3, pd_imp h5 fun _ _ _ _ r => ⟨r.1, r.2.mono (Same.refl _) RX.up1 HX.up1 SX.up1⟩⟩
  | n + 1, v, .none, h => Re.up1 (n := n + 1) h
  | n + 1, v, .bool _, h => Re.up1 (n := n + 1) h
  | n + 1, v, .int _, h => Re.up1 (n := n + 1) h
  | n + 1, v, .str _, h => Re.up1 (n := n + 1) h
  | n + 1, v, .list _, h => Re.up1 (n := n + 1) h
  | n + 1, v, .tuple _, h => HX.up1 (n := n + 1) h
theorem SX.up {P : Program} {w : World} {K : PySem.W.Frag} {H : Hp} {n m : Nat} {v : V} {d : PyData} (h : SX P w K H n v d) (hl : n ≤ m) : SX P w K H m v d := by
  induction hl with
  | refl => exact h
  | step _ ih => exact ih.up1
theorem UX.up1 {P : Program} {w : World} {K : PySem.W.Frag} {H : Hp} {n : Nat} {fo : Option Str} {u : V} {e : PyData} (h : UX P w K H n (SX P w K H n) fo u e) : UX P w K H (n + 1) (SX P w K H (n + 1)) fo u e := h.mono (Same.refl _) RX.up1 HX.up1 SX.up1
theorem Re.s {P : Program} {w : World} {K : PySem.W.Frag} {H : Hp} : ∀ {n : Nat} {v : V} {d : PyData}, Re H n v d → SX P w K H n v d
  | 0, _, _, h => h.elim
  | n + 1, v, .dict es, ⟨a, kvs, h1, h2, h3, h4, h5⟩ => .inl ⟨a, kvs, h1, h2, h3, h4, pd_imp h5 fun _ _ _ _ r => ⟨r.1, .of r.2 r.2.s⟩⟩
  | n + 1, v, .none, h => h
  | n + 1, v, .bool _, h => h
  | n + 1, v, .int _, h => h
  | n + 1, v, .str _, h => h
  | n + 1, v, .list _, h => h
  | n + 1, v, .tuple _, h => .inl h
theorem isiS {K : PySem.W.Frag} {P : Program} {w : World} {H : Hp} {n : Nat} {v : V} {d : PyData} (T : Ty) {Q : VK} (h : SX P w K H n v d) (q : Q (.bl (isT T d)) H) (hT : T ≠ .tuple := by intro h; cases h) : rIsiO K [v, .ty T.nm] H Q := by
  cases n with
  | zero => exact h.elim
  | succ n =>
  cases d with
  | dict es =>
    rcases (show _ ∨ _ from h) with ⟨a, kvs, rfl, h2, _⟩ | ⟨a, kvs, rfl, h2, _⟩
    rotate_left
    · refine h2.isi (kit_isT T (.dict [])) ?_
      rw [show isT T (.dict []) = isT T (.dict es) by cases T <;> rfl]
      exact q
    have e : isT T (.dict []) = isT T (.dict es) := by cases T <;> rfl
    refine .inl ⟨.ref a, .ty T.nm, _, _, isT T (.dict []), rfl, .ty T.nm, .base (.dK h2), kit_ty (kit_isT T (.dict [])), ?_⟩
    rw [e]
    exact q
  | list ds => exact .inl (isi1 T (Re.rp (n := n + 1) h) q)
  | none => exact .inl (isi1 T (Re.rp (n := n + 1) h) q)
  | bool b => exact .inl (isi1 T (Re.rp (n := n + 1) h) q)
  | int i => exact .inl (isi1 T (Re.rp (n := n + 1) h) q)
  | str x => exact .inl (isi1 T (Re.rp (n := n + 1) h) q)
  | tuple ds => exact .inl (isiZ T (HX.z (n := n + 1) h) q hT)
theorem table_form : ∀ r ∈ tableR, formOf r.1 = some r.2 := by decide +kernel

/-! ### is_between, are_named -/
def betwD (lo hi : Int) : PyData → Bool
  | .int i => decide (lo ≤ i) && decide (i ≤ hi)
  | _ => false
def sp_between (K : PySem.W.Frag) : Sp := fun vs H Q _ => ∃ n v d lo hi, vs = [v, .int lo, .int hi] ∧ RZ K H n v d ∧ Q (.bl (betwD lo hi d)) H
abbrev s_is_between : Stmt := top 25
theorem sc_is_between : FnScope ["value", "low", "high"] ["value", "low", "high"] (defScope s_is_between) := ⟨rfl, rfl, rfl, by decide +kernel, rfl, by decide +kernel, by decide +kernel⟩
abbrev s_are_named : Stmt := top 28
theorem sc_are_named : FnScope ["value", "name"] ["value"] (defScope s_are_named) := ⟨rfl, rfl, rfl, by decide +kernel, rfl, by decide +kernel, by decide +kernel⟩
section
variable {P : Program} {w : World} {K : PySem.W.Frag} {mg : Str → Option Value} {base : Heap} {f : Addr} {fd : FuncData}
theorem ok_between (D : Def K mg "is_between" s_is_between f fd) (B : Blt mg) (R_is_integer : Rdy P w K mg base 1 "is_integer" ["value"] (sp_isint K)) : FnOk P w K mg base CX0 2 f fd ["value", "low", "high"] (sp_between K) := by
  refine D.1.ok sc_is_between (fun vs H Q E h => ?_) (fun cdv A outer s H vs Q E hr h => ?_)
  · obtain ⟨n, v, d, lo, hi, rfl, _⟩ := h
    rfl
  obtain ⟨n, v, d, lo, hi, rfl, hd, q⟩ := h
  have hu := hu_of hr
  refine ⟨_, (pss_one (ps_ret (pe_and (pe_c R_is_integer hr rfl (pa_cons (pv 0) pa_nil)) (pe_one (pe_chain op_le op_le (pv 1) (pv 0) (pv 2)))))), ?_⟩
  walk_at "rd"
  refine ⟨n, v, d, rfl, hd, _, rfl, ite2 (fun h => ?_) fun h => ?_⟩
  · obtain ⟨i, rfl⟩ : ∃ i, d = .int i := by cases d <;> first | exact ⟨_, rfl⟩ | cases h
    have hd := hd.val (by simp)
    obtain rfl : v = .int i := by
      cases n with
      | zero => exact hd.elim
      | succ n => exact hd
    refine ⟨i, rfl, ite2 (fun h2 => ⟨i, rfl, ?_⟩) fun h2 => ?_⟩
    · simpa [betwD, h2] using q
    · simpa [betwD, h2] using q
  · have : betwD lo hi d = false := by cases d <;> first | rfl | exact absurd rfl h
    rw [this] at q
    exact q
/-- data, or a dict of which the keys alone are known -/
def KX (P : Program) (w : World) (K : PySem.W.Frag) (H : Hp) (n : Nat) (v : V) (d : PyData) : Prop := ReX P w K H n v d ∨ (1 ≤ n ∧ ∃ es a kvs, d = .dict es ∧ v = .ref a ∧ H a = some (.dK kvs) ∧ Paired (fun (p : Key × V) (q : PyData × PyData) => q.1 = kD p.1) kvs es)
theorem isiKX {P : Program} {w : World} {K : PySem.W.Frag} {H : Hp} {n : Nat} {v : V} {d : PyData} (T : Ty) {Q : VK} (h : KX P w K H n v d) (q : Q (.bl (isT T d)) H) (hT : T ≠ .tuple := by intro h; cases h) : rIsiO K [v, .ty T.nm] H Q := by
  rcases (show _ ∨ _ from h) with h | ⟨_, es, a, kvs, rfl, rfl, h2, _⟩
  · exact isiX T h.rp q hT
  · have e : isT T (.dict []) = isT T (.dict es) := by cases T <;> rfl
    refine .inl ⟨.ref a, .ty T.nm, _, _, isT T (.dict []), rfl, .ty T.nm, .base (.dK h2), kit_ty (kit_isT T (.dict [])), ?_⟩
    rw [e]
    exact q
def sp_named (P : Program) (w : World) (K : PySem.W.Frag) : Sp := fun vs H Q _ => ∃ n v d, vs = [v] ∧ KX P w K H n v d ∧ smallD n d ∧ ∀ H', Same H H' → Q (.bl (namedD d)) H'
theorem ok_named (D : Def K mg "are_named" s_are_named f fd) (B : Blt mg) {t1 : Tok} (g_MOST_LISTED : mg "MOST_LISTED" = some (.int 20 t1)) (R_is_text : Rdy P w K mg base 1 "is_text" ["value"] (sp_text K)) : FnOk P w K mg base CX0 2 f fd ["value"] (sp_named P w K) := by
  refine D.1.ok sc_are_named (fun vs H Q E h => ?_) (fun cdv A outer s H vs Q E hr h => ?_)
  · obtain ⟨n, v, d, rfl, _⟩ := h
    rfl
  obtain ⟨n, v, d, rfl, hd, sm, q⟩ := h
  have hu := hu_of hr
  refine ⟨_, (pss_one (ps_ret (pe_and (pe_callB (isiOK (K := K) rfl) (by rfl) B.b_isinstance (by decide +kernel) (pa_cons (pv 0) (pa_cons (pe_bltn (v := .ty "dict") (by rfl) B.b_dict (by decide +kernel) rfl) pa_nil))) (pe_and (pe_cmpR op_le (pe_callB (lenNK (w := w) (K := K) rfl rfl) (by rfl) B.b_len (by decide +kernel) (pa_cons (pv 0) pa_nil)) (pe_gint (by rfl) g_MOST_LISTED) (nomark _)) (pe_one (pe_callB (allK (K := K) rfl rfl) (by rfl) B.b_all (by decide +kernel) (pa_cons (pe_either (pe_lock (pe_lc (own := [("name", 1)]) (by rfl) sc_are_named.nd (pi_keys (pv 0)) (blkOk_by (own := [("name", 1)]) (N := ["value", "name"]) (sc := defScope s_are_named) (by decide +kernel)) (fun _ _ _ _ _ => (pg_name (i := 1) sc_are_named.nd rfl (by first | exact Or.inl rfl | exact Or.inr rfl))) (fun _ _ _ _ _ => pts_nil) (fun _ _ _ _ _ => (pe_c R_is_text hr rfl (pa_cons (pv 1) pa_nil))))) (pe_lc (own := [("name", 1)]) (by rfl) sc_are_named.nd (pi_N rfl (pv 0)) (blkOk_by (own := [("name", 1)]) (N := ["value", "name"]) (sc := defScope s_are_named) (by decide +kernel)) (fun _ _ _ _ _ => (pg_name (i := 1) sc_are_named.nd rfl (by first | exact Or.inl rfl | exact Or.inr rfl))) (fun _ _ _ _ _ => pts_nil) (fun _ _ _ _ _ => (pe_c R_is_text hr rfl (pa_cons (pv 1) pa_nil))))) pa_nil))))))), ?_⟩
  walk_at "rd"
  refine isiKX .dict hd ⟨_, rfl, ite2 (fun h1 => ?_) fun h1 => ?_⟩
  · obtain ⟨a, rfl⟩ : ∃ a, d = .dict a := by cases d <;> first | exact ⟨_, rfl⟩ | cases h1
    cases n with
    | zero => exact (show _ ∨ _ from hd).elim (fun z => z.elim) fun z => absurd z.1 (by omega)
    | succ n =>
      have h60 := sm.1
      have hcase : (∃ p1 kvs, v = .ref p1 ∧ FzN w H p1 kvs ∧ kvs.length ≤ 15 ∧ (∃ e ∈ a, ∀ x, e.1 ≠ PyData.str x) ∧ Paired (fun (p : NV) (q : PyData × PyData) => Rp H 3 p.2.1 q.1) kvs a) ∨ ∃ p1 xs, v = .ref p1 ∧ H p1 = some (.dK xs) ∧ Paired (fun (p : Key × V) (q : PyData × PyData) => q.1 = kD p.1) xs a := by
        rcases (show _ ∨ _ from hd) with hd | ⟨_, es, a', kvs, e1, e2, e3, e5⟩
        · rcases id hd with ⟨p1, xs, e1, ha, hb, hn, hp⟩ | ⟨p1, kvs, e1, ho, hb, hno, hp⟩
          · exact .inr ⟨p1, xs, e1, ha, pd_imp hp fun _ _ _ _ r => r.1⟩
          · exact .inl ⟨p1, kvs, e1, ho, hb, hno, pd_imp hp fun _ _ _ _ r => r.1⟩
        · cases e1
          exact .inr ⟨a', kvs, e2, e3, e5⟩
      rcases hcase with ⟨p1, kvs, rfl, ho, hb, hno, hp⟩ | ⟨p1, xs, rfl, ha, hp⟩
      · have hlp := pd_len hp
        have hf : (a.all fun e => isTextD e.1) = false := by
          obtain ⟨e, he, hne⟩ := hno
          rw [List.all_eq_false]
          refine ⟨e, he, ?_⟩
          cases h : e.1 with
          | str x => exact absurd h (hne x)
          | _ => simp [isTextD]
        have hnm : namedD (.dict a) = false := by
          simp only [namedD]
          rw [hf, Bool.and_false]
        rw [hnm] at q
        refine .inr ⟨p1, kvs, rfl, ho, by omega, _, rfl, ?_⟩
        refine ite2 (fun h2 => ?_) fun h2 => q _ (Same.refl _)
        refine .inr ⟨_, rfl, p1, kvs, rfl, ho, fun o o2 => ?_⟩
        refine lcP_map (walk_N (kvs := kvs)) (fun i x => ∃ k v, kvs[i]? = some (k, x, v)) (fun _ _ _ _ h => h) (fun H' s => s _ _ o2) ((a.map fun e => isTextD e.1).map V.bl) (by simp [hlp]) (by omega) (fun i x y H' N' hx hy s Nn => ?_) fun D' H2 nD s2 e2 => ?_
        · obtain ⟨k, v, hk⟩ := hx
          obtain ⟨e, he, hk'⟩ := pd_get hp hk
          simp only [List.getElem?_map, he, Option.map_some, Option.some.injEq] at hy
          subst hy
          walk_at "rd"
          exact ⟨3, _, e.1, rfl, .inl (hk'.imp s), fun x hx => ((sm.2 _ (List.mem_of_getElem? he)).1 x hx).1, Nn _ (Same.refl _)⟩
        · have e0 : (a.map fun e => isTextD e.1).all id = a.all fun e => isTextD e.1 := by rw [List.all_map]; rfl
          refine ⟨D', _, rfl, SqL.of e2, ?_⟩
          rw [e0, hf]
          exact q _ s2
      have hxa := pd_len hp
      refine .inl ⟨_, _, rfl, LenA.d (.inl ha), _, rfl, ite2 (fun h2 => ?_) fun h2 => ?_⟩
      · refine .inl (lcU_keys ha rfl ((a.map fun e => isTextD e.1).map V.bl) (by simp [hxa]) (by omega) ?_ ?_)
        · intro i k v y H' N' hk hy ls ha' Nn
          obtain ⟨e, he, hk'⟩ := pd_get hp hk
          simp only [List.getElem?_map, he, Option.map_some, Option.some.injEq] at hy
          subst hy
          walk_at "rd"
          refine ⟨1, _, e.1, rfl, .inl ?_, fun x hx => ((sm.2 _ (List.mem_of_getElem? he)).1 x hx).1, Nn _ (Same.refl _)⟩
          rw [hk']
          cases k <;> rfl
        · intro D' H2 nD s2 e2
          have hq := q _ s2
          have e0 : (a.map fun e => isTextD e.1).all id = a.all fun e => isTextD e.1 := by rw [List.all_map]; rfl
          have : namedD (.dict a) = (a.map fun e => isTextD e.1).all id := by
            rw [e0]
            simp only [namedD]
            rw [decide_eq_true (by omega), Bool.true_and]
          rw [this] at hq
          exact ⟨D', _, rfl, SqL.of e2, hq⟩
      · have hq := q _ (Same.refl _)
        have : namedD (.dict a) = false := by
          simp only [namedD]
          rw [decide_eq_false (by omega), Bool.false_and]
        rw [this] at hq
        exact hq
  · have : namedD d = false := by cases d <;> first | rfl | exact absurd rfl h1
    have hq := q _ (Same.refl _)
    rw [this] at hq
    exact hq
end

/-! ### places_of -/
def placesD (x : Str) (d : PyData) : List (List Key × PyData) := if x = Str.ofString "schema" then [([], d)] else if x = Str.ofString "several" then (match d with | .list ds => (rowsL ds).map fun q => ([q.1], q.2) | _ => []) else if x = Str.ofString "named" then (match d with | .dict es => (rowsD es).map fun q => ([q.1], q.2) | _ => []) else []
structure PlR (P : Program) (w : World) (K : PySem.W.Frag) (H G : Hp) (n : Nat) (T : Addr) (q : List Key × PyData) : Prop where
  li : ∃ p u, H T = some (.tup [.ref p, u]) ∧ H p = some (.tup (q.1.map kV)) ∧ SX P w K G n u q.2
theorem PlR.imp {P : Program} {w : World} {K : PySem.W.Frag} {H H' G : Hp} {n : Nat} {T : Addr} {q : List Key × PyData} (s : Same H H') (h : PlR P w K H G n T q) : PlR P w K H' G n T q := by
  obtain ⟨p, u, h1, h2, h3⟩ := h.li
  exact ⟨p, u, s _ _ h1, s _ _ h2, h3⟩
theorem PlR.mut {P : Program} {w : World} {K : PySem.W.Frag} {H G : Hp} {n : Nat} {T D : Addr} {q : List Key × PyData} {l : List V} {o : HO} (e : H D = some (.lst l)) (h : PlR P w K H G n T q) : PlR P w K (upd H D o) G n T q := by
  obtain ⟨p, u, h1, h2, h3⟩ := h.li
  exact ⟨p, u, by rw [upd_ne (ne_of h1 e (by intro z; cases z))]; exact h1, by rw [upd_ne (ne_of h2 e (by intro z; cases z))]; exact h2, h3⟩
def sp_places (P : Program) (w : World) (K : PySem.W.Frag) (n : Nat) : Sp := fun vs H Q _ => ∃ x v d, vs = [.str x, v] ∧ UX P w K H (n + 1) (SX P w K H (n + 1)) (some x) v d ∧ (x = Str.ofString "several" → ∃ ds, d = .list ds ∧ ds.length ≤ 60) ∧ (x = Str.ofString "named" → ∃ es, d = .dict es ∧ es.length ≤ 60 ∧ StrKeys es ∧ ∀ e ∈ es, ∀ x, e.1 = .str x → x.length ≤ 1000 ∧ AsciiS x) ∧ (x = Str.ofString "named" → namedD d = true) ∧
  ∀ L ts H', Same H H' → H' L = some (.lst (ts.map V.ref)) → Paired (PlR P w K H' H (n + 1)) ts (placesD x d) → Q (.ref L) H'
abbrev s_places_of : Stmt := top 15
theorem sc_places_of : FnScope ["form", "value", "index", "inner", "name"] ["form", "value"] (defScope s_places_of) := ⟨rfl, rfl, rfl, by decide +kernel, rfl, by decide +kernel, by decide +kernel⟩
section
variable {P : Program} {w : World} {K : PySem.W.Frag} {mg : Str → Option Value} {base : Heap} {f : Addr} {fd : FuncData}
theorem ok_places {n : Nat} (D : Def K mg "places_of" s_places_of f fd) (B : Blt mg) : FnOk P w K mg base CX0 2 f fd ["form", "value"] (sp_places P w K n) := by
  refine D.1.ok sc_places_of (fun vs H Q E h => ?_) (fun cdv A outer s H vs Q E hr h => ?_)
  · obtain ⟨x, v, d, rfl, _⟩ := h
    rfl
  obtain ⟨x, v, d, rfl, hd, hsev, hnam, hnmd, q⟩ := h
  have hu := hu_of hr
  refine ⟨_, (pss_cons (ps_match (pv 0) (pm_cons pp_val
   (pss_one (ps_ret (pe_lst (pa_cons (pe_tup (pa_cons (pe_tup pa_nil) (pa_cons (pv 1) pa_nil))) pa_nil))))
   (pm_cons pp_val
   (pss_one (ps_ret (pe_lc (own := [("index", 2), ("inner", 3)]) (by rfl) sc_places_of.nd (pi_enum (by rfl) B.b_enumerate (pa_cons (pv 1) pa_nil)) (blkOk_by (own := [("index", 2), ("inner", 3)]) (N := ["form", "value", "index", "inner", "name"]) (sc := defScope s_places_of) (by decide +kernel)) (fun _ _ _ _ _ => (pg_tupK (K := K) (n := 2) rfl (by rfl) (pgs_cons (pg_name (i := 2) sc_places_of.nd rfl (by first | exact Or.inl rfl | exact Or.inr rfl)) (pgs_cons (pg_name (i := 3) sc_places_of.nd rfl (by first | exact Or.inl rfl | exact Or.inr rfl)) pgs_nil)))) (fun _ _ _ _ _ => pts_nil) (fun _ _ _ _ _ => (pe_tup (pa_cons (pe_tup (pa_cons (pv 2) pa_nil)) (pa_cons (pv 3) pa_nil)))))))
   (pm_cons pp_val
   (pss_one (ps_ret (pe_lc (own := [("name", 4)]) (by rfl) sc_places_of.nd (pi_list (pe_callB (sortedSK (K := K) rfl) (by rfl) B.b_sorted (by decide +kernel) (pa_cons (pe_callTy (call_listD rfl) (by rfl) B.b_list (by decide +kernel) (pa_cons (pv 1) pa_nil)) pa_nil))) (blkOk_by (own := [("name", 4)]) (N := ["form", "value", "index", "inner", "name"]) (sc := defScope s_places_of) (by decide +kernel)) (fun _ _ _ _ _ => (pg_name (i := 4) sc_places_of.nd rfl (by first | exact Or.inl rfl | exact Or.inr rfl))) (fun _ _ _ _ _ => pts_nil) (fun _ _ _ _ _ => (pe_tup (pa_cons (pe_tup (pa_cons (pv 4) pa_nil)) (pa_cons (pe_dget hu (pv 1) (pv 4) (fun _ _ => rfl)) pa_nil)))))))
   pm_nil))))
  (pss_one (ps_ret (pe_lst pa_nil)))), ?_⟩
  walk_at "rd"
  unfold placesD at q
  refine ite2 (fun h1 => ?_) fun h1 => ?_
  · rw [if_pos h1] at q
    refine ⟨Nat.zero_le _, fun p np => ⟨sz5 (by omega), fun T nT => ⟨sz5 (by omega), fun L nL => ?_⟩⟩⟩
    have sT := same_new nT (.tup [.ref p, v])
    have sL := same_new nL (.lst [.ref T])
    have hd : SX P w K H (n + 1) v d := by
      unfold UX at hd
      rwa [if_neg (by rw [h1]; decide +kernel), if_pos (by rw [h1])] at hd
    exact q L [T] _ ((same_new np (.tup [])).trans (sT.trans sL)) upd_same (.cons ⟨p, v, sL _ _ upd_same, (sT.trans sL) _ _ upd_same, hd⟩ .nil)
  rw [if_neg h1] at q
  refine ite2 (fun h2 => ?_) fun h2 => ?_
  · rw [if_pos h2] at q
    obtain ⟨ds, rfl, hl⟩ := hsev h2
    have hd : ∃ a xs, v = .ref a ∧ H a = some (.lst xs) ∧ Paired (SX P w K H (n + 1)) xs ds := by
      unfold UX at hd
      rw [if_neg (by rw [h2]; decide +kernel), if_neg (by rw [h2]; decide +kernel), if_neg (by rw [h2]; decide +kernel), if_pos (by rw [h2])] at hd
      rcases hd with hd | ⟨ds', L, xs, e1, e2, e3, _, e5⟩
      · obtain ⟨a, xs, e1, ha, hb, hp⟩ := hd.re (by simp)
        exact ⟨a, xs, e1, ha, pd_imp hp fun _ _ _ _ r => r.up1.s⟩
      · cases e1
        exact ⟨L, xs, e2, e3, e5⟩
    obtain ⟨a, xs, rfl, ha, hp⟩ := hd
    have hxa := pd_len hp
    refine ⟨a, rfl, _, SqL.of ha, ?_⟩
    refine lc_itR (walk_enum (xs := xs)) (fun D i H' => Same H H' ∧ ∃ ts, H' D = some (.lst (ts.map V.ref)) ∧ Paired (PlR P w K H' H (n + 1)) ts (((rowsL ds).map fun q => ([q.1], q.2)).take i)) (fun D hD => ⟨same_new hD _, [], upd_same, .nil⟩) (fun D i H' _ _ h => SqL.of (h.1 _ _ ha)) ?_ ?_
    · rintro D i y Ha Hb hD hi ⟨sa, ts, eD, pts⟩ ⟨T0, y1, y2, rfl, nT0, rfl, hy1, hy2⟩
      cases hy1
      obtain ⟨di, hdi, hri⟩ := pd_get hp hy2
      have lts := pd_len pts
      rw [List.length_take] at lts
      have s0 := same_new nT0 (.tup [V.int (i : Nat), y2])
      simp only [gTup, gCons, gNil, gName]
      refine ⟨T0, _, rfl, SqT.of upd_same, rfl, _, _, rfl, _, _, rfl, rfl, rfl, ?_⟩
      generalize upd Ha T0 (.tup [V.int (i : Nat), y2]) = Hc at s0 ⊢
      walk_at "rd"
      refine ⟨sz5 (by omega), fun p np => ⟨sz5 (by omega), fun T nT => ?_⟩⟩
      have s1 := (s0.trans (same_new np (.tup [V.int (i : Nat)]))).trans (same_new nT (.tup [.ref p, y2]))
      have eD1 := s1 _ _ eD
      have nTD : T ≠ D := fun z => by rw [← z] at eD; have := ((s0.trans (same_new np (.tup [V.int (i : Nat)]))) _ _ eD); rw [nT] at this; cases this
      have npD : p ≠ D := fun z => by rw [← z] at eD; have := s0 _ _ eD; rw [np] at this; cases this
      refine ⟨_, eD1, sz5l (by simp; omega), same_mut (sa.trans s1) hD, ts ++ [T], by rw [upd_same]; simp, ?_⟩
      have hrow : ((rowsL ds).map fun q => (([q.1] : List Key), q.2))[i]? = some ([.inl (i : Int)], di) := by
        unfold rowsL
        rw [List.getElem?_map, List.getElem?_map, List.getElem?_zipIdx, hdi]
        simp
      rw [List.take_succ, hrow]
      refine pd_app (pd_imp pts fun _ _ _ _ r => ((r.imp s1).mut eD1)) (.cons (PlR.mut eD1 ⟨p, y2, upd_same, (same_new nT _) _ _ upd_same, hri⟩) .nil)
    · rintro D H' hD ⟨sa, ts, eD, pts⟩
      rw [List.take_of_length_le (by rw [List.length_map]; unfold rowsL; simp; omega)] at pts
      exact q D ts H' sa eD pts
  rw [if_neg h2] at q
  refine ite2 (fun h3 => ?_) fun h3 => ?_
  · rw [if_pos h3] at q
    obtain ⟨a, rfl, h60, k1, hasc⟩ := hnam h3
    have hd : ∃ p1 xs, v = .ref p1 ∧ H p1 = some (.dK xs) ∧ (xs.map (·.1)).Nodup ∧ Paired (KvR (SX P w K H (n + 1))) xs a := by
      unfold UX at hd
      rw [if_neg (by rw [h3]; decide +kernel), if_neg (by rw [h3]; decide +kernel), if_pos (by rw [h3])] at hd
      rcases hd with hd | hd | ⟨es, a', kvs, e1, e2, e3, e4, e5, e6⟩
      · obtain ⟨p1, xs, e1, ha, hb, hn, hp⟩ := hd.re (by simp)
        exact ⟨p1, xs, e1, ha, hn, pd_imp hp fun _ _ _ _ r => ⟨r.1, r.2.up1.s⟩⟩
      · rw [hnmd h3] at hd
        cases hd.2
      · cases e1
        exact ⟨a', kvs, e2, e3, e5, e6⟩
    obtain ⟨p1, xs, rfl, ha, hn, hp⟩ := hd
    have hxa := pd_len hp
    have hrd : ∀ G, Same H G → Rd G p1 (.dK xs) := fun G s => .inl (s _ _ ha)
    have n1 := keys_nd hp k1 hn
    refine ⟨p1, rfl, xs, .inl ha, fun l1 nl1 => ?_⟩
    rw [keysV_of hp k1]
    refine ⟨l1, keysD a, rfl, SqL.of upd_same, by simp [keysD]; omega, fun z1 l2 pz1 sz1 nl2 => ?_⟩
    obtain rfl : z1 = srt (keysD a) := srt_is pz1 sz1
    have s3 : Same H (upd (upd H l1 (.lst ((keysD a).map V.str))) l2 (.lst ((srt (keysD a)).map V.str))) := (same_new nl1 _).trans (same_new nl2 _)
    have el : upd (upd H l1 (.lst ((keysD a).map V.str))) l2 (.lst ((srt (keysD a)).map V.str)) l2 = some (.lst ((srt (keysD a)).map V.str)) := upd_same
    generalize upd (upd H l1 (.lst ((keysD a).map V.str))) l2 (.lst ((srt (keysD a)).map V.str)) = H3 at s3 el ⊢
    refine ⟨l2, rfl, ⟨_, SqL.of el⟩, ?_⟩
    have hsl : (srt (keysD a)).length = a.length := by rw [srt_len]; simp [keysD]
    refine lc_itR (walk_list (xs := (srt (keysD a)).map V.str)) (fun D i H' => Same H3 H' ∧ ∃ ts, H' D = some (.lst (ts.map V.ref)) ∧ Paired (PlR P w K H' H (n + 1)) ts (((rowsD a).map fun q => ([q.1], q.2)).take i)) (fun D hD => ⟨same_new hD _, [], upd_same, .nil⟩) (fun D i H' _ _ h => SqL.of (h.1 _ _ el)) ?_ ?_
    · rintro D i y H4 H5 hD hi ⟨s4, ts, eD, pts⟩ ⟨rfl, hx⟩
      rw [List.getElem?_map, Option.map_eq_some_iff] at hx
      obtain ⟨x, hx, rfl⟩ := hx
      have hin : x ∈ keysD a := mem_srt.mp (List.mem_of_getElem? hx)
      rcases get_of hp k1 x with ⟨_, hnone⟩ | ⟨v2, d2, hv2, hd2, hr2⟩
      · exact absurd hin (dget_none hnone)
      have lts := pd_len pts
      rw [List.length_take] at lts
      have hil : i < a.length := by
        have := (List.getElem?_eq_some_iff.mp hx).1
        omega
      walk_at "rd"
      refine ⟨sz5 (by omega), fun p np => ⟨v2, .inl ⟨xs, .inr x, hrd _ ((s3.trans s4).trans (same_new np _)), rfl, hv2.symm⟩, sz5 (by omega), fun T nT => ?_⟩⟩
      have s1 := (same_new np (.tup [V.str x])).trans (same_new nT (.tup [.ref p, v2]))
      have eD1 := s1 _ _ eD
      refine ⟨_, eD1, sz5l (by simp; omega), same_mut (s4.trans s1) hD, ts ++ [T], by rw [upd_same]; simp, ?_⟩
      have hrow : ((rowsD a).map fun q => (([q.1] : List Key), q.2))[i]? = some ([.inr x], d2) := by
        unfold rowsD
        rw [List.getElem?_map, List.getElem?_map, hx]
        simp [hd2]
      rw [List.take_succ, hrow]
      refine pd_app (pd_imp pts fun _ _ _ _ r => ((r.imp s1).mut eD1)) (.cons (PlR.mut eD1 ⟨p, v2, upd_same, (same_new nT _) _ _ upd_same, hr2⟩) .nil)
    · rintro D H' hD ⟨s4, ts, eD, pts⟩
      rw [List.take_of_length_le (by simp [rowsD])] at pts
      exact q D ts H' (s3.trans s4) eD pts
  · rw [if_neg h3] at q
    exact ⟨Nat.zero_le _, fun L nL => q L [] _ (same_new nL _) upd_same .nil⟩
end

/-! ### values of moderate size -/
def okD : Nat → PyData → Prop
  | 0, _ => False
  | n + 1, .list ds => ds.length ≤ 60 ∧ ∀ d ∈ ds, okD n d
  | n + 1, .tuple ds => ds.length ≤ 60 ∧ ∀ d ∈ ds, okD n d
  | n + 1, .dict es => es.length ≤ 60 ∧ ∀ e ∈ es, (∀ x, e.1 = .str x → x.length ≤ 1000 ∧ AsciiS x) ∧ okD n e.2
  | _ + 1, .str x => x.length ≤ 1000 ∧ AsciiS x
  | _ + 1, .none => True
  | _ + 1, .bool _ => True
  | _ + 1, .int _ => True
theorem okD.small : ∀ {n : Nat} {d : PyData}, okD n d → smallD n d
  | 0, _, h => h.elim
  | n + 1, .list ds, h => fun d hd => (h.2 d hd).small
  | n + 1, .tuple ds, h => fun d hd => (h.2 d hd).small
  | n + 1, .dict es, h => ⟨h.1, fun e he => ⟨(h.2 e he).1, (h.2 e he).2.small⟩⟩
  | n + 1, .none, _ => trivial
  | n + 1, .bool _, _ => trivial
  | n + 1, .int _, _ => trivial
  | n + 1, .str x, h => h.1
theorem okD.up1 : ∀ {n : Nat} {d : PyData}, okD n d → okD (n + 1) d
  | 0, _, h => h.elim
  | n + 1, .list ds, h => ⟨h.1, fun d hd => (h.2 d hd).up1⟩
  | n + 1, .tuple ds, h => ⟨h.1, fun d hd => (h.2 d hd).up1⟩
  | n + 1, .dict es, h => ⟨h.1, fun e he => ⟨(h.2 e he).1, (h.2 e he).2.up1⟩⟩
  | n + 1, .none, _ => trivial
  | n + 1, .bool _, _ => trivial
  | n + 1, .int _, _ => trivial
  | n + 1, .str x, h => h
theorem okD.up {n m : Nat} {d : PyData} (h : okD n d) (hl : n ≤ m) : okD m d := by
  induction hl with
  | refl => exact h
  | step _ ih => exact ih.up1
theorem fstR_no {f : PyData → Option (List Key)} : ∀ {rs : List (Key × PyData)}, fstR f rs = none → ∀ q ∈ rs, f q.2 = none
  | [], _, q, hq => by cases hq
  | r :: rs, h, q, hq => by
    unfold fstR at h
    cases hr : f r.2 with
    | some p => rw [hr] at h; cases h
    | none =>
      rw [hr] at h
      rcases List.mem_cons.mp hq with rfl | hq
      · exact hr
      · exact fstR_no h q hq
/-- a moderate value without a wrong part is a document -/
theorem okD.doc : ∀ {n : Nat} {d : PyData}, okD n d → ndD n d → fwN n d = none → docW n d
  | 0, _, h, _, _ => h.elim
  | n + 1, .list ds, h, u, g => ⟨h.1, fun d hd => by
      obtain ⟨i, hi⟩ := List.mem_iff_getElem?.mp hd
      refine (h.2 d hd).doc (u d hd) (fstR_no g (.inl (i : Nat), d) ?_)
      exact List.mem_of_getElem? (i := i) (by simp [rowsL, List.getElem?_zipIdx, hi])⟩
  | n + 1, .tuple ds, h, u, g => by cases g
  | n + 1, .dict es, h, u, g => by
    simp only [fwN] at g
    split at g
    · rename_i hall
      refine ⟨h.1, fun e he => ?_⟩
      have ht := List.all_eq_true.mp hall e he
      obtain ⟨k, d⟩ := e
      cases k with
      | str x =>
        have hx := (h.2 _ he).1 x rfl
        refine ⟨⟨x, rfl, by simpa [isTextD] using ht, hx.2⟩, (h.2 _ he).2.doc (u.2 _ he) (fstR_no g (.inr x, d) ?_)⟩
        unfold rowsD
        have hd := dget_nd u.1 he
        exact List.mem_map.mpr ⟨x, mem_srt.mpr (List.mem_map.mpr ⟨_, he, rfl⟩), by rw [show dget es x = some d from hd]; rfl⟩
      | _ => cases ht
    · cases g
  | n + 1, .none, _, _, _ => trivial
  | n + 1, .bool _, _, _, _ => trivial
  | n + 1, .int i, _, _, g => by
    simp only [fwN] at g
    split at g
    · assumption
    · cases g
  | n + 1, .str x, h, _, g => by
    simp only [fwN] at g
    split at g
    · exact ⟨by assumption, h.2⟩
    · cases g
/-! ### names nowhere twice, of any keys -/
theorem Re.okd {H : Hp} : ∀ {n : Nat} {v : V} {d : PyData}, Re H n v d → okD n d → fwN n d = none → docW n d
  | 0, _, _, h, _, _ => h.elim
  | n + 1, v, .list ds, ⟨a, xs, _, _, _, hp⟩, h, g => ⟨h.1, fun d hd => by
      obtain ⟨i, hi⟩ := List.mem_iff_getElem?.mp hd
      obtain ⟨x, _, r⟩ := pd_memR hp hd
      refine r.okd (h.2 d hd) (fstR_no g (.inl (i : Nat), d) ?_)
      exact List.mem_of_getElem? (i := i) (by simp [rowsL, List.getElem?_zipIdx, hi])⟩
  | n + 1, v, .tuple ds, _, h, g => by cases g
  | n + 1, v, .dict es, ⟨a, xs, _, _, _, hn, hp⟩, h, g => by
    simp only [fwN] at g
    split at g
    · rename_i hall
      have k1 : StrKeys es := fun e he => by
        have := List.all_eq_true.mp hall e he
        cases h : e.1 with
        | str x => exact ⟨x, rfl⟩
        | _ => rw [h] at this; cases this
      have n1 := keys_nd hp k1 hn
      refine ⟨h.1, fun e he => ?_⟩
      have ht := List.all_eq_true.mp hall e he
      obtain ⟨q, _, r⟩ := pd_memR hp he
      obtain ⟨x, hx⟩ := k1 e he
      have hx2 := (h.2 _ he).1 x hx
      have ht' : x.length ≤ 60 := by rw [hx] at ht; simpa [isTextD] using ht
      refine ⟨⟨x, hx, ht', hx2.2⟩, r.2.okd (h.2 _ he).2 (fstR_no g (.inr x, e.2) ?_)⟩
      unfold rowsD
      have hd := dget_nd n1 he
      rw [hx] at hd
      exact List.mem_map.mpr ⟨x, mem_srt.mpr (List.mem_map.mpr ⟨_, he, by rw [hx]; rfl⟩), by rw [show dget es x = some e.2 from hd]; rfl⟩
    · cases g
  | n + 1, v, .none, _, _, _ => trivial
  | n + 1, v, .bool _, _, _, _ => trivial
  | n + 1, v, .int i, _, _, g => by
    simp only [fwN] at g
    split at g
    · assumption
    · cases g
  | n + 1, v, .str x, _, h, g => by
    simp only [fwN] at g
    split at g
    · exact ⟨by assumption, h.2⟩
    · cases g
theorem dp_fw {n : Nat} {d : PyData} (h : dpN n d = none) : fwN n d = none := by
  unfold dpN at h
  split at h
  · cases h
  · exact h
/-- data without a wrong part has no odd dict -/
theorem RX.doc {P : Program} {w : World} {K : PySem.W.Frag} {H : Hp} : ∀ {n : Nat} {v : V} {d : PyData}, ReX P w K H n v d → fwN n d = none → Re H n v d
  | 0, _, _, h, _ => h.elim
  | n + 1, v, .list ds, ⟨a, xs, h1, h2, h3, h4⟩, g => ⟨a, xs, h1, h2, h3, pd_imp h4 fun x e hx he r => r.doc (by
      obtain ⟨i, hi⟩ := List.mem_iff_getElem?.mp he
      exact fstR_no g (.inl (i : Nat), e) (List.mem_of_getElem? (i := i) (by simp [rowsL, List.getElem?_zipIdx, hi])))⟩
  | n + 1, v, .dict es, .inl ⟨a, kvs, h1, h2, h3, h4, h5⟩, g => by
    simp only [fwN] at g
    split at g
    · rename_i hall
      have k1 : StrKeys es := fun e he => by
        have := List.all_eq_true.mp hall e he
        cases h : e.1 with
        | str x => exact ⟨x, rfl⟩
        | _ => rw [h] at this; cases this
      have n1 := keys_nd h5 k1 h4
      refine ⟨a, kvs, h1, h2, h3, h4, pd_imp h5 fun x e hx he r => ⟨r.1, r.2.doc ?_⟩⟩
      obtain ⟨y, hy⟩ := k1 e he
      refine fstR_no g (.inr y, e.2) ?_
      unfold rowsD
      have hd := dget_nd n1 he
      rw [hy] at hd
      exact List.mem_map.mpr ⟨y, mem_srt.mpr (List.mem_map.mpr ⟨_, he, by rw [hy]; rfl⟩), by rw [show dget es y = some e.2 from hd]; rfl⟩
    · cases g
  | n + 1, v, .dict es, .inr ⟨a, kvs, h1, h2, h3, h4, h5⟩, g => by
    simp only [fwN] at g
    split at g
    · rename_i hall
      obtain ⟨e, he, hne⟩ := h4
      have := List.all_eq_true.mp hall e he
      cases h : e.1 with
      | str x => exact absurd h (hne x)
      | _ => rw [h] at this; simp [isTextD] at this
    · cases g
  | n + 1, v, .none, h, _ => h
  | n + 1, v, .bool _, h, _ => h
  | n + 1, v, .int _, h, _ => h
  | n + 1, v, .str _, h, _ => h
  | n + 1, v, .tuple _, h, _ => by
    rename_i g
    cases g
/-! ### are_words, are_different, has_form -/
def wordsD (lo hi : Int) : PyData → Bool
  | .list ds => decide (lo ≤ (ds.length : Int)) && decide ((ds.length : Int) ≤ hi) && (ds.all isTextD && decide (ds.map strD).Nodup)
  | _ => false
def diffD (n : Nat) : PyData → Bool
  | .list ds => decide (1 ≤ ds.length) && decide (ds.length ≤ 20) && ds.all (fun d => decide (dpN n d = none)) && !((ds.zipIdx.map fun p => ((ds.take p.2).map fun e => sameN n p.1 e).any id).any id)
  | _ => false
def sp_words (K : PySem.W.Frag) : Sp := fun vs H Q _ => ∃ n v d lo hi, vs = [v, .int lo, .int hi] ∧ HX K H n v d ∧ okD n d ∧ ∀ H', Same H H' → Q (.bl (wordsD lo hi d)) H'
def sp_diff (P : Program) (w : World) (K : PySem.W.Frag) (n : Nat) : Sp := fun vs H Q _ => ∃ v d, vs = [v] ∧ ReX P w K H n v d ∧ okD n d ∧ n ≤ 100 ∧ ∀ H', Same H H' → Q (.bl (diffD n d)) H'
abbrev s_are_words : Stmt := top 26
theorem sc_are_words : FnScope ["value", "low", "high", "one"] ["value", "low", "high"] (defScope s_are_words) := ⟨rfl, rfl, rfl, by decide +kernel, rfl, by decide +kernel, by decide +kernel⟩
abbrev s_are_different : Stmt := top 27
theorem sc_are_different : FnScope ["value", "one", "at", "other"] ["value"] (defScope s_are_different) := ⟨rfl, rfl, rfl, by decide +kernel, rfl, by decide +kernel, by decide +kernel⟩
theorem strs_of {H : Hp} {n : Nat} : ∀ {xs : List V} {ds : List PyData}, Paired (Re H n) xs ds → ds.all isTextD = true → xs = (ds.map strD).map V.str
  | [], [], _, _ => rfl
  | x :: xs, d :: ds, .cons r rs, h => by
    rw [List.all_cons, Bool.and_eq_true] at h
    rw [strs_of rs h.2]
    cases n with
    | zero => exact r.elim
    | succ n =>
      cases d <;> first | (cases h.1; done) | skip
      cases r
      rfl
section
variable {P : Program} {w : World} {K : PySem.W.Frag} {mg : Str → Option Value} {base : Heap} {f : Addr} {fd : FuncData}
theorem ok_words (D : Def K mg "are_words" s_are_words f fd) (B : Blt mg) (R_is_text : Rdy P w K mg base 1 "is_text" ["value"] (sp_text K)) : FnOk P w K mg base CX0 2 f fd ["value", "low", "high"] (sp_words K) := by
  refine D.1.ok sc_are_words (fun vs H Q E h => ?_) (fun cdv A outer s H vs Q E hr h => ?_)
  · obtain ⟨n, v, d, lo, hi, rfl, _⟩ := h
    rfl
  obtain ⟨n, v, d, lo, hi, rfl, hd, sm, q⟩ := h
  have hu := hu_of hr
  refine ⟨_, (pss_cons (ps_if (PW.pt (pw_or (pt_not (pt_val (pe_callB (isiK (K := K) rfl) (by rfl) B.b_isinstance (by decide +kernel) (pa_cons (pv 0) (pa_cons (pe_bltn (v := .ty "list") (by rfl) B.b_list (by decide +kernel) rfl) pa_nil))))) (pw_or1 (pt_not (pt_chain op_le op_le (pv 1) (pe_callB (lenK (K := K) rfl) (by rfl) B.b_len (by decide +kernel) (pa_cons (pv 0) pa_nil)) (pv 2))))))
   (pss_one (ps_ret pe_bl))
   pss_nil)
  (pss_one (ps_ret (pe_and (pe_callB (allK (K := K) rfl rfl) (by rfl) B.b_all (by decide +kernel) (pa_cons (pe_lc (own := [("one", 3)]) (by rfl) sc_are_words.nd (pi_list (pv 0)) (blkOk_by (own := [("one", 3)]) (N := ["value", "low", "high", "one"]) (sc := defScope s_are_words) (by decide +kernel)) (fun _ _ _ _ _ => (pg_name (i := 3) sc_are_words.nd rfl (by first | exact Or.inl rfl | exact Or.inr rfl))) (fun _ _ _ _ _ => pts_nil) (fun _ _ _ _ _ => (pe_c R_is_text hr rfl (pa_cons (pv 3) pa_nil)))) pa_nil)) (pe_one (pe_cmpR op_eq (pe_lenSetK (K := K) rfl rfl (by rfl) B.b_len (by rfl) B.b_set (pv 0)) (pe_callB (lenK (K := K) rfl) (by rfl) B.b_len (by decide +kernel) (pa_cons (pv 0) pa_nil)) (nomark _))))))), ?_⟩
  walk_at "rd"
  refine isiZ .list hd.z ⟨_, rfl, ite2 (fun h1 => ?_) fun h1 => ?_⟩
  · have : wordsD lo hi d = false := by cases d <;> first | rfl | cases h1
    rw [← this]
    exact q _ (Same.refl _)
  obtain ⟨a, rfl⟩ : ∃ a, d = .list a := by cases d <;> first | exact ⟨_, rfl⟩ | exact absurd rfl h1
  have hd := hd.re (by simp)
  cases n with
  | zero => exact hd.elim
  | succ n =>
  obtain ⟨p1, xs, rfl, ha, hb, hp⟩ := id hd
  have hxa := pd_len hp
  have h60 := sm.1
  have out : (wordsD lo hi (.list a) = false) → Q (.bl false) H := fun e => by rw [← e]; exact q _ (Same.refl _)
  refine ⟨_, .inl ⟨_, SqL.of ha, rfl⟩, ite2 (fun h2 => ite2 (fun h3 => out ?_) fun h3 => ?_) fun h2 => out ?_⟩
  · simp only [wordsD]
    rw [decide_eq_false (p := (a.length : Int) ≤ hi) (by rw [← hxa]; exact h3), Bool.and_false, Bool.false_and]
  · refine ⟨p1, rfl, ⟨xs, SqL.of ha⟩, lcP_list (SqL.of ha) ((a.map isTextD).map V.bl) (by simp [hxa]) (by omega) ?_ ?_⟩
    · intro i x y H' N hx hy s N'
      obtain ⟨e, he, hr'⟩ := pd_get hp hx
      walk_at "rd"
      refine ⟨n, x, e, rfl, .inl (hr'.rp.imp s), fun z hz => ?_, ?_⟩
      · have := sm.2 e (List.mem_of_getElem? he)
        rw [hz] at this
        cases n with
        | zero => exact this.elim
        | succ n => exact this.1
      · simp [he] at hy
        subst hy
        exact N' _ (Same.refl _)
    · intro D' H2 nD s2 e2
      have e0 : (a.map isTextD).all id = a.all isTextD := by rw [List.all_map]; rfl
      have hw : wordsD lo hi (.list a) = (a.all isTextD && decide (a.map strD).Nodup) := by
        simp only [wordsD]
        rw [decide_eq_true (p := lo ≤ (a.length : Int)) (by rw [← hxa]; exact h2), decide_eq_true (p := (a.length : Int) ≤ hi) (by rw [← hxa]; exact Classical.not_not.mp h3), Bool.true_and, Bool.true_and]
      have hq := q _ s2
      refine ⟨D', _, rfl, SqL.of e2, _, rfl, ite2 (fun h4 => .inl ?_) fun h4 => ?_⟩
      · have h4' : a.all isTextD = true := by rw [← e0]; exact h4
        have hs := strs_of hp h4'
        refine ⟨p1, rfl, a.map strD, by rw [← hs]; exact SqL.of (s2 _ _ ha), by simp; omega, _, .inl ⟨_, SqL.of (s2 _ _ ha), rfl⟩, rfl, ?_⟩
        rw [hw, h4', Bool.true_and] at hq
        have : decide ((((met (a.map strD)).length : Nat) : Int) = ((xs.length : Nat) : Int)) = decide (a.map strD).Nodup := by
          refine decide_eq_decide.mpr ?_
          rw [← met_nd, List.length_map, hxa]
          omega
        rw [this]
        exact hq
      · have h4' : a.all isTextD = false := by rw [← e0]; simpa using h4
        rw [hw, h4', Bool.false_and] at hq
        exact hq
  · simp only [wordsD]
    rw [decide_eq_false (p := lo ≤ (a.length : Int)) (by rw [← hxa]; exact h2), Bool.false_and, Bool.false_and]
theorem ok_diff {n : Nat} (D : Def K mg "are_different" s_are_different f fd) (B : Blt mg) {t1 : Tok} (g_MOST_LISTED : mg "MOST_LISTED" = some (.int 20 t1)) (R_is_document : Rdy P w K mg base (n + 3) "is_document" ["value"] (sp_isdoc P w K n)) (R_same : Rdy P w K mg base (n + 1) "same" ["one", "other"] (sp_same n)) : FnOk P w K mg base CX0 (n + 4) f fd ["value"] (sp_diff P w K n) := by
  refine D.1.ok sc_are_different (fun vs H Q E h => ?_) (fun cdv A outer s H vs Q E hr h => ?_)
  · obtain ⟨v, d, rfl, _⟩ := h
    rfl
  obtain ⟨v, d, rfl, hd, sm, h100, q⟩ := h
  have hu := hu_of hr
  have hr1 : Room (n + 1) _ := hr.mono (by omega)
  refine ⟨_, (pss_cons (ps_if (PW.pt (pw_or (pt_not (pt_val (pe_callB (isiOK (K := K) rfl) (by rfl) B.b_isinstance (by decide +kernel) (pa_cons (pv 0) (pa_cons (pe_bltn (v := .ty "list") (by rfl) B.b_list (by decide +kernel) rfl) pa_nil))))) (pw_or1 (pt_not (pt_chain op_le op_le pe_int (pe_callB (lenK (K := K) rfl) (by rfl) B.b_len (by decide +kernel) (pa_cons (pv 0) pa_nil)) (pe_gint (by rfl) g_MOST_LISTED))))))
   (pss_one (ps_ret pe_bl))
   pss_nil)
  (pss_cons (ps_if (pt_not (pt_val (pe_callB (allK (K := K) rfl rfl) (by rfl) B.b_all (by decide +kernel) (pa_cons (pe_lc (own := [("one", 1)]) (by rfl) sc_are_different.nd (pi_list (pv 0)) (blkOk_by (own := [("one", 1)]) (N := ["value", "one", "at", "other"]) (sc := defScope s_are_different) (by decide +kernel)) (fun _ _ _ _ _ => (pg_name (i := 1) sc_are_different.nd rfl (by first | exact Or.inl rfl | exact Or.inr rfl))) (fun _ _ _ _ _ => pts_nil) (fun _ _ _ _ _ => (pe_c R_is_document hr rfl (pa_cons (pv 1) pa_nil)))) pa_nil))))
   (pss_one (ps_ret pe_bl))
   pss_nil)
  (pss_one (ps_ret (pe_not (pe_callB (anyK (K := K) rfl rfl) (by rfl) B.b_any (by decide +kernel) (pa_cons (pe_lc (own := [("at", 2), ("one", 1)]) (by rfl) sc_are_different.nd (pi_enum (by rfl) B.b_enumerate (pa_cons (pv 0) pa_nil)) (blkOk_by (own := [("at", 2), ("one", 1)]) (N := ["value", "one", "at", "other"]) (sc := defScope s_are_different) (by decide +kernel)) (fun _ _ _ _ _ => (pg_tupK (K := K) (n := 2) rfl (by rfl) (pgs_cons (pg_name (i := 2) sc_are_different.nd rfl (by first | exact Or.inl rfl | exact Or.inr rfl)) (pgs_cons (pg_name (i := 1) sc_are_different.nd rfl (by first | exact Or.inl rfl | exact Or.inr rfl)) pgs_nil)))) (fun _ _ _ _ _ => pts_nil) (fun _ _ _ _ _ => (pe_callB (anyK (K := K) rfl rfl) (by rfl) B.b_any (by decide +kernel) (pa_cons (pe_lc (own := [("other", 3)]) (by rfl) sc_are_different.nd (pi_listK (K := K) rfl (pe_slice (slLK (K := K) rfl) (pv 0) po_none (po_some (pv 2)))) (blkOk_by (own := [("other", 3)]) (N := ["value", "one", "at", "other"]) (sc := relS { kind := .function, names := [(".0", .local), ("at", .local), ("one", .cell), ("any", .globalImplicit), ("value", .free)], isGenerator := false, isCoroutine := false } (defScope s_are_different)) (by decide +kernel)) (fun _ _ _ _ _ => (pg_name (i := 3) sc_are_different.nd rfl (by first | exact Or.inl rfl | exact Or.inr rfl))) (fun _ _ _ _ _ => pts_nil) (fun _ _ _ _ _ => (pe_c R_same hr1 rfl (pa_cons (pv 1) (pa_cons (pv 3) pa_nil))))) pa_nil)))) pa_nil))))))), ?_⟩
  walk_at "rd"
  refine isiX .list hd.rp ⟨_, rfl, ite2 (fun h1 => ?_) fun h1 => ?_⟩
  · have : diffD n d = false := by cases d <;> first | rfl | cases h1
    rw [← this]
    exact q _ (Same.refl _)
  obtain ⟨a, rfl⟩ : ∃ a, d = .list a := by cases d <;> first | exact ⟨_, rfl⟩ | exact absurd rfl h1
  cases n with
  | zero => exact hd.elim
  | succ n =>
  obtain ⟨p1, xs, rfl, ha, hb, hp⟩ := id hd
  have hxa := pd_len hp
  have h60 := sm.1
  have out : (diffD (n + 1) (.list a) = false) → Q (.bl false) H := fun e => by rw [← e]; exact q _ (Same.refl _)
  refine ⟨_, .inl ⟨_, SqL.of ha, rfl⟩, ite2 (fun h2 => ite2 (fun h3 => out ?_) fun h3 => ?_) fun h2 => out ?_⟩
  · simp only [diffD]
    rw [decide_eq_false (p := a.length ≤ 20) (by omega), Bool.and_false, Bool.false_and, Bool.false_and]
  · refine ⟨p1, rfl, ⟨xs, SqL.of ha⟩, lcP_list (SqL.of ha) ((a.map fun d => decide (dpN (n + 1) d = none)).map V.bl) (by simp [hxa]) (by omega) ?_ ?_⟩
    · intro i x y H' N hx hy s N'
      obtain ⟨e, he, hr'⟩ := pd_get hp hx
      have hm := List.mem_of_getElem? he
      walk_at "rd"
      refine ⟨x, e, rfl, (hr'.imp s).up1, ((sm.2 e hm).up1).small, h100, fun H4 s4 => ?_⟩
      simp [he] at hy
      subst hy
      exact N' H4 s4
    · intro D' H2 nD s2 e2
      have e0 : (a.map fun d => decide (dpN (n + 1) d = none)).all id = a.all fun d => decide (dpN (n + 1) d = none) := by rw [List.all_map]; rfl
      have hw : diffD (n + 1) (.list a) = ((a.all fun d => decide (dpN (n + 1) d = none)) && !((a.zipIdx.map fun p => ((a.take p.2).map fun e => sameN (n + 1) p.1 e).any id).any id)) := by
        simp only [diffD]
        rw [decide_eq_true (p := 1 ≤ a.length) (by omega), decide_eq_true (p := a.length ≤ 20) (by omega), Bool.true_and, Bool.true_and]
      refine ⟨D', _, rfl, SqL.of e2, _, rfl, ite2 (fun h4 => ?_) fun h4 => ?_⟩
      · have h4' : (a.all fun d => decide (dpN (n + 1) d = none)) = false := by rw [← e0]; exact h4
        have hq := q _ s2
        rw [hw, h4', Bool.false_and] at hq
        exact hq
      have h4' : (a.all fun d => decide (dpN (n + 1) d = none)) = true := by rw [← e0]; simpa using h4
      have hdoc : ∀ (i : Nat) x, xs[i]? = some x → ∃ e, a[i]? = some e ∧ Re H (n + 1) x e ∧ docW (n + 1) e := fun i x hx => by
        obtain ⟨e, he, hr'⟩ := pd_get hp hx
        have hm := List.mem_of_getElem? he
        have h5 := List.all_eq_true.mp h4' e hm
        have h6 := hr'.up1.doc (dp_fw (of_decide_eq_true h5))
        exact ⟨e, he, h6, h6.okd ((sm.2 e hm).up1) (dp_fw (of_decide_eq_true h5))⟩
      refine ⟨p1, rfl, xs, SqL.of (s2 _ _ ha), ?_⟩
      generalize hR : (a.zipIdx.map fun p => ((a.take p.2).map fun e => sameN (n + 1) p.1 e).any id) = R at hw
      have hRl : R.length = xs.length := by rw [← hR, hxa]; simp
      refine lc_itR (walk_enum (xs := xs)) (fun D i H' => Same H2 H' ∧ H' D = some (.lst ((R.take i).map V.bl))) (fun D hD => ⟨same_new hD _, by rw [upd_same]; rfl⟩) (fun D i H' _ _ h => SqL.of (h.1 _ _ (s2 _ _ ha))) ?_ ?_
      · rintro D i y Ha Hb hD hi ⟨sa, eD⟩ ⟨T0, y1, y2, rfl, nT0, rfl, hy1, hy2⟩
        cases hy1
        obtain ⟨di, hdi, hri, hwi⟩ := hdoc _ _ hy2
        have s0 := same_new nT0 (.tup [V.int (i : Nat), y2])
        simp only [gTup, gCons, gNil, gName]
        refine ⟨T0, _, rfl, SqT.of upd_same, rfl, _, _, rfl, _, _, rfl, rfl, rfl, ?_⟩
        generalize upd Ha T0 (.tup [V.int (i : Nat), y2]) = Hc at s0 ⊢
        walk_at "rd"
        have sc := s2.trans (sa.trans s0)
        refine ⟨p1, xs, rfl, SqL.of (sc _ _ ha), fun p np => ?_⟩
        rw [cut_take xs i (by omega)]
        have s1 := same_new np (.lst (xs.take i))
        have e1 : upd Hc p (.lst (xs.take i)) p = some (.lst (xs.take i)) := upd_same
        generalize upd Hc p (.lst (xs.take i)) = Hd at s1 e1 ⊢
        refine ⟨p, rfl, ⟨_, SqL.of e1⟩, lcP_list (SqL.of e1) (((a.take i).map fun e => sameN (n + 1) di e).map V.bl) (by simp [hxa]) (by simp; omega) ?_ ?_⟩
        · intro j x y H' N hx hy s N'
          have hj : j < i := by
            have := (List.getElem?_eq_some_iff.mp hx).1
            simp at this
            omega
          rw [List.getElem?_take_of_lt hj] at hx
          obtain ⟨dj, hdj, hrj, hwj⟩ := hdoc _ _ hx
          rw [List.getElem?_map, List.getElem?_map, List.getElem?_take_of_lt hj, hdj] at hy
          cases hy
          walk_at "rd"
          have ss := sc.trans (s1.trans s)
          exact ⟨_, _, di, dj, rfl, hri.rp.imp ss, hrj.rp.imp ss, hwi, hwj, fun H4 s4 => N' H4 s4⟩
        · intro D2 H3 nD2 s3 e3
          have hRi : R[i]? = some (((a.take i).map fun e => sameN (n + 1) di e).any id) := by
            rw [← hR, List.getElem?_map, List.getElem?_zipIdx, hdi]
            simp
          have sD := (s0.trans (s1.trans s3))
          refine ⟨D2, _, rfl, SqL.of e3, ⟨_, sD _ _ eD, sz5l (by simp; omega), same_mut (sa.trans sD) hD, ?_⟩⟩
          rw [upd_same, List.take_succ, hRi]
          simp
      · rintro D H' hD ⟨sa, eD⟩
        rw [List.take_of_length_le (by omega)] at eD
        refine ⟨D, _, rfl, SqL.of eD, ?_⟩
        have hq := q _ (s2.trans sa)
        rw [hw, h4', Bool.true_and] at hq
        exact ⟨_, rfl, hq⟩
  · simp only [diffD]
    rw [decide_eq_false (p := 1 ≤ a.length) (by omega), Bool.false_and, Bool.false_and, Bool.false_and]
end

/-! ### has_form, purely -/
def kindsL : List Str := [Str.ofString "null", Str.ofString "boolean", Str.ofString "integer", Str.ofString "string", Str.ofString "array", Str.ofString "object"]
def notesL : List Str := [Str.ofString "digits", Str.ofString "name", Str.ofString "day"]
def charsD : PyData → Bool
  | .str x => decide (x.length ≤ 60) && (decide (x ≠ Str.ofString "") && decide (signsOf x).Nodup)
  | _ => false
def kindsD (d : PyData) : Bool := wordsD 1 6 d && match d with
  | .list ds => ds.all fun e => decide (strD e ∈ kindsL)
  | _ => false
def noteD : PyData → Bool
  | .str x => decide (x ∈ notesL)
  | _ => false
def sevD : PyData → Bool
  | .list ds => decide (1 ≤ ds.length) && decide (ds.length ≤ 8)
  | _ => false
def formB (n : Nat) (x : Str) (d : PyData) : Bool :=
  if x = Str.ofString "text" then isT .str d else if x = Str.ofString "short" then isTextD d else if x = Str.ofString "kinds" then kindsD d else if x = Str.ofString "names" then wordsD 0 20 d
  else if x = Str.ofString "document" then decide (dpN n d = none) else if x = Str.ofString "documents" then diffD n d else if x = Str.ofString "integer" then betwD (-10 ^ 30) (10 ^ 30) d
  else if x = Str.ofString "divisor" then betwD 1 1000 d else if x = Str.ofString "size" then betwD 0 1000 d else if x = Str.ofString "charset" then charsD d else if x = Str.ofString "notation" then noteD d
  else if x = Str.ofString "truth" then isT .bool d else if x = Str.ofString "several" then sevD d else if x = Str.ofString "named" then namedD d else true
/-! ### nested_in, first_wrong_place, purely -/
def isKS (x : Str) (k : PyData) : Bool := match k with
  | .str y => decide (y = x)
  | _ => false
/-- what stands under a text, the other keys being of any kind -/
def dgk (es : List (PyData × PyData)) (x : Str) : Option PyData := (es.find? fun e => isKS x e.1).map (·.2)
def nestR (f : PyData → Int) (n : Nat) (es : List (PyData × PyData)) (m : Int) (r : Str × Str) : Int := match dgk es r.1 with
  | some d => if formB n r.2 d = true then mx (m :: (placesD r.2 d).map fun q => f q.2) else m
  | none => m
def nestN : Nat → PyData → Int
  | 0, _ => 1
  | n + 1, .dict es => tableR.foldl (nestR (nestN n) n es) 0 + 1
  | _ + 1, _ => 1
def compR : List (Str × Str) := [(Str.ofString "min_contains", Str.ofString "contains"), (Str.ofString "max_contains", Str.ofString "contains"), (Str.ofString "then", Str.ofString "if"), (Str.ofString "else", Str.ofString "if")]
def mateOf (x : Str) : Option Str := (compR.find? fun r => decide (r.1 = x)).map (·.2)
def aloneD (es : List (PyData × PyData)) (x : Str) : Bool := match mateOf x with
  | some y => (dgk es y).isNone
  | none => false
def fstP (f : PyData → Option (List Key)) : List (List Key × PyData) → Option (List Key)
  | [] => none
  | q :: r => match f q.2 with
    | some p => some (q.1 ++ p)
    | none => fstP f r
def wfR (f : PyData → Option (List Key)) (n : Nat) (es : List (PyData × PyData)) (inner : Bool) (r : Str × Str) (d : PyData) : Option (List Key) :=
  if (aloneD es r.1 || (decide (r.1 = Str.ofString "defs") && inner) || !formB n r.2 d) = true then some [] else fstP f (placesD r.2 d)
def fstT (f : Str × Str → PyData → Option (List Key)) (es : List (PyData × PyData)) : List (Str × Str) → Option (List Key)
  | [] => none
  | r :: rs => match (dgk es r.1).bind (f r) with
    | some p => some (.inr r.1 :: p)
    | none => fstT f es rs
def oddS (es : List (PyData × PyData)) : List Str := es.filterMap fun e => match e.1 with
  | .str x => if formOf x = none then some x else none
  | _ => none
def fwpN : Nat → Bool → PyData → Option (List Key)
  | 0, _, _ => none
  | _ + 1, _, .bool _ => none
  | n + 1, b, .dict es => match srt (oddS es) with
    | x :: _ => some [.inr x]
    | [] => if es.all (fun e => isT .str e.1) then fstT (wfR (fwpN n true) n es b) es tableR else some []
  | _ + 1, _, _ => some []
def spN (n : Nat) (d : PyData) : Option (List Key) := if 12 < nestN n d then some [] else fwpN n false d

/-! ### has_form -/
def sp_hf (P : Program) (w : World) (K : PySem.W.Frag) (n : Nat) : Sp := fun vs H Q _ => ∃ x v d, vs = [.str x, v] ∧ UX P w K H n (SX P w K H n) (some x) v d ∧ okD n d ∧ n ≤ 100 ∧ ∀ H', Same H H' → Q (.bl (formB n x d)) H'
theorem inV_strs (x : Str) (ys : List Str) : inV (.str x) (ys.map V.str) = decide (x ∈ ys) := by
  unfold inV
  rw [List.any_map, Bool.eq_iff_iff, List.any_eq_true, decide_eq_true_eq]
  constructor
  · rintro ⟨y, hy, e⟩
    have : y = x := by simpa [eqV] using e
    rw [← this]; exact hy
  · intro h
    exact ⟨x, h, by simp [eqV]⟩
theorem flat_strsA (ys : List Str) : (ys.map V.str).all flatV = true := by
  rw [List.all_map, List.all_eq_true]
  intro y _
  rfl
theorem isiVU {K : PySem.W.Frag} {H : Hp} {n : Nat} {S : V → PyData → Prop} {v : V} {d : PyData} (T : Ty) {Q : VK} (h : VU K H n S v d) (q : Q (.bl (isT T d)) H) (hT : T ≠ .tuple := by intro h; cases h) : rIsi K [v, .ty T.nm] H Q := by
  rcases (show _ ∨ _ from h) with h | ⟨ds, L, xs, rfl, rfl, e, _⟩
  · exact isiZ T h.z q hT
  · exact isiL T e (by rw [show isT T (.list []) = isT T (.list ds) from by cases T <;> rfl]; exact q)
abbrev s_has_form : Stmt := top 29
theorem sc_has_form : FnScope ["form", "value", "one"] ["form", "value"] (defScope s_has_form) := ⟨rfl, rfl, rfl, by decide +kernel, rfl, by decide +kernel, by decide +kernel⟩
section
variable {P : Program} {w : World} {K : PySem.W.Frag} {mg : Str → Option Value} {base : Heap} {f : Addr} {fd : FuncData}
theorem ok_hf {n : Nat} (D : Def K mg "has_form" s_has_form f fd) (B : Blt mg) {t1 t2 t3 t4 t5 : Tok} (g_MOST_LISTED : mg "MOST_LISTED" = some (.int 20 t1)) (g_MOST_NUMBER : mg "MOST_NUMBER" = some (.int (10 ^ 30) t2)) (g_MOST_DIVISOR : mg "MOST_DIVISOR" = some (.int 1000 t3)) (g_MOST_SIZE : mg "MOST_SIZE" = some (.int 1000 t4)) (g_MOST_SEVERAL : mg "MOST_SEVERAL" = some (.int 8 t5))
    {ki no : Addr} (g_KINDS : mg "KINDS" = some (.ref ki)) (g_NOTATIONS : mg "NOTATIONS" = some (.ref no)) (hki : ∀ H : Hp, SqT K H ki (kindsL.map V.str)) (hno : ∀ H : Hp, SqT K H no (notesL.map V.str))
    (R_is_text : Rdy P w K mg base 1 "is_text" ["value"] (sp_text K)) (R_are_words : Rdy P w K mg base 2 "are_words" ["value", "low", "high"] (sp_words K)) (R_is_document : Rdy P w K mg base (n + 3) "is_document" ["value"] (sp_isdoc P w K n)) (R_are_different : Rdy P w K mg base (n + 4) "are_different" ["value"] (sp_diff P w K n)) (R_is_between : Rdy P w K mg base 2 "is_between" ["value", "low", "high"] (sp_between K)) (R_are_named : Rdy P w K mg base 2 "are_named" ["value"] (sp_named P w K)) : FnOk P w K mg base CX0 (n + 5) f fd ["form", "value"] (sp_hf P w K n) := by
  refine D.1.ok sc_has_form (fun vs H Q E h => ?_) (fun cdv A outer s H vs Q E hr h => ?_)
  · obtain ⟨x, v, d, rfl, _⟩ := h
    rfl
  obtain ⟨x, v, d, rfl, hd0, sm, h100, q⟩ := h
  have hre : ∀ {y : Str}, x = y → y ≠ Str.ofString "document" → y ≠ Str.ofString "documents" → y ≠ Str.ofString "schema" → y ≠ Str.ofString "named" → y ≠ Str.ofString "several" → HX K H n v d := fun {y} e0 e1 e2 e3 e4 e5 => by
    subst e0
    unfold UX at hd0
    rwa [if_neg (by simp [e1, e2]), if_neg (by simp [e3]), if_neg (by simp [e4]), if_neg (by simp [e5])] at hd0
  have hu := hu_of hr
  have hr1 : Room 1 _ := hr.mono (by omega)
  have hr2 : Room 2 _ := hr.mono (by omega)
  have hr3 : Room (n + 3) _ := hr.mono (by omega)
  refine ⟨_, (pss_cons (ps_match (pv 0) (pm_cons pp_val
   (pss_one (ps_ret (pe_callB (isiK (K := K) rfl) (by rfl) B.b_isinstance (by decide +kernel) (pa_cons (pv 1) (pa_cons (pe_bltn (v := .ty "str") (by rfl) B.b_str (by decide +kernel) rfl) pa_nil)))))
   (pm_cons pp_val
   (pss_one (ps_ret (pe_c R_is_text hr1 rfl (pa_cons (pv 1) pa_nil))))
   (pm_cons pp_val
   (pss_one (ps_ret (pe_and (pe_c R_are_words hr2 rfl (pa_cons (pv 1) (pa_cons pe_int (pa_cons (pe_callB (lenK (K := K) rfl) (by rfl) B.b_len (by decide +kernel) (pa_cons (pe_gref (by rfl) g_KINDS) pa_nil)) pa_nil)))) (pe_one (pe_callB (allK (K := K) rfl rfl) (by rfl) B.b_all (by decide +kernel) (pa_cons (pe_lc (own := [("one", 2)]) (by rfl) sc_has_form.nd (pi_list (pv 1)) (blkOk_by (own := [("one", 2)]) (N := ["form", "value", "one"]) (sc := defScope s_has_form) (by decide +kernel)) (fun _ _ _ _ _ => (pg_name (i := 2) sc_has_form.nd rfl (by first | exact Or.inl rfl | exact Or.inr rfl))) (fun _ _ _ _ _ => pts_nil) (fun _ _ _ _ _ => (pe_cmpR (inK (K := K) rfl) (pv 2) (pe_gref (by rfl) g_KINDS) rfl))) pa_nil))))))
   (pm_cons pp_val
   (pss_one (ps_ret (pe_c R_are_words hr2 rfl (pa_cons (pv 1) (pa_cons pe_int (pa_cons (pe_gint (by rfl) g_MOST_LISTED) pa_nil))))))
   (pm_cons pp_val
   (pss_one (ps_ret (pe_c R_is_document hr3 rfl (pa_cons (pv 1) pa_nil))))
   (pm_cons pp_val
   (pss_one (ps_ret (pe_c R_are_different hr rfl (pa_cons (pv 1) pa_nil))))
   (pm_cons pp_val
   (pss_one (ps_ret (pe_c R_is_between hr2 rfl (pa_cons (pv 1) (pa_cons (pe_un un_neg (pe_gint (by rfl) g_MOST_NUMBER)) (pa_cons (pe_gint (by rfl) g_MOST_NUMBER) pa_nil))))))
   (pm_cons pp_val
   (pss_one (ps_ret (pe_c R_is_between hr2 rfl (pa_cons (pv 1) (pa_cons pe_int (pa_cons (pe_gint (by rfl) g_MOST_DIVISOR) pa_nil))))))
   (pm_cons pp_val
   (pss_one (ps_ret (pe_c R_is_between hr2 rfl (pa_cons (pv 1) (pa_cons pe_int (pa_cons (pe_gint (by rfl) g_MOST_SIZE) pa_nil))))))
   (pm_cons pp_val
   (pss_one (ps_ret (pe_and (pe_c R_is_text hr1 rfl (pa_cons (pv 1) pa_nil)) (pe_and (pe_cmpR op_ne (pv 1) pe_str (nomark _)) (pe_one (pe_cmpR op_eq (pe_lenSetK (K := K) rfl rfl (by rfl) B.b_len (by rfl) B.b_set (pv 1)) (pe_callB (lenK (K := K) rfl) (by rfl) B.b_len (by decide +kernel) (pa_cons (pv 1) pa_nil)) (nomark _)))))))
   (pm_cons pp_val
   (pss_one (ps_ret (pe_and (pe_callB (isiK (K := K) rfl) (by rfl) B.b_isinstance (by decide +kernel) (pa_cons (pv 1) (pa_cons (pe_bltn (v := .ty "str") (by rfl) B.b_str (by decide +kernel) rfl) pa_nil))) (pe_one (pe_cmpR (inK (K := K) rfl) (pv 1) (pe_gref (by rfl) g_NOTATIONS) rfl)))))
   (pm_cons pp_val
   (pss_one (ps_ret (pe_callB (isiK (K := K) rfl) (by rfl) B.b_isinstance (by decide +kernel) (pa_cons (pv 1) (pa_cons (pe_bltn (v := .ty "bool") (by rfl) B.b_bool (by decide +kernel) rfl) pa_nil)))))
   (pm_cons pp_val
   (pss_one (ps_ret (pe_and (pe_callB (isiK (K := K) rfl) (by rfl) B.b_isinstance (by decide +kernel) (pa_cons (pv 1) (pa_cons (pe_bltn (v := .ty "list") (by rfl) B.b_list (by decide +kernel) rfl) pa_nil))) (pe_one (pe_chain op_le op_le pe_int (pe_callB (lenK (K := K) rfl) (by rfl) B.b_len (by decide +kernel) (pa_cons (pv 1) pa_nil)) (pe_gint (by rfl) g_MOST_SEVERAL))))))
   (pm_cons pp_val
   (pss_one (ps_ret (pe_c R_are_named hr2 rfl (pa_cons (pv 1) pa_nil))))
   pm_nil)))))))))))))))
  (pss_one (ps_ret pe_bl))), ?_⟩
  walk_at "rd"
  have q0 := fun (b : Bool) (e : formB n x d = b) => (by rw [← e]; exact q _ (Same.refl _) : Q (.bl b) H)
  unfold formB at q q0
  refine ite2 (fun h => ?_) fun h => ?_
  · have hd : HX K H n v d := hre h (by decide +kernel) (by decide +kernel) (by decide +kernel) (by decide +kernel) (by decide +kernel)
    exact isiZ .str hd.z (q0 _ (by rw [if_pos h]))
  simp only [if_neg h] at q q0
  refine ite2 (fun h => ?_) fun h => ?_
  · have hd : HX K H n v d := hre h (by decide +kernel) (by decide +kernel) (by decide +kernel) (by decide +kernel) (by decide +kernel)
    refine ⟨n, v, d, rfl, hd.z, fun z hz => ?_, q0 _ (by rw [if_pos h])⟩
    subst hz
    cases n with
    | zero => exact sm.elim
    | succ n => exact sm.1
  simp only [if_neg h] at q q0
  refine ite2 (fun h => ?_) fun h => ?_
  · have hd : HX K H n v d := hre h (by decide +kernel) (by decide +kernel) (by decide +kernel) (by decide +kernel) (by decide +kernel)
    simp only [if_pos h] at q
    refine ⟨6, .inr ⟨_, hki _, rfl⟩, n, v, d, 1, 6, rfl, hd, sm, fun H1 s1 => ⟨_, rfl, ite2 (fun h2 => ?_) fun h2 => ?_⟩⟩
    · obtain ⟨a, rfl⟩ : ∃ a, d = .list a := by cases d <;> first | exact ⟨_, rfl⟩ | cases h2
      have hd := hd.re (by simp)
      cases n with
      | zero => exact hd.elim
      | succ n =>
      obtain ⟨p1, xs, rfl, ha, hb, hp⟩ := id hd
      have hxa := pd_len hp
      have h60 := sm.1
      simp only [wordsD, Bool.and_eq_true, decide_eq_true_eq] at h2
      have hs := strs_of hp h2.2.1
      refine ⟨p1, rfl, ⟨xs, SqL.of (s1 _ _ ha)⟩, lcP_list (SqL.of (s1 _ _ ha)) ((a.map fun e => decide (strD e ∈ kindsL)).map V.bl) (by simp [hxa]) (by omega) ?_ ?_⟩
      · intro i y z H' N hx hy s N'
        rw [hs, List.getElem?_map, List.getElem?_map] at hx
        obtain ⟨t, ht, rfl⟩ := Option.map_eq_some_iff.mp hx
        obtain ⟨e, he, rfl⟩ := Option.map_eq_some_iff.mp ht
        simp [he] at hy
        subst hy
        walk_at "rd"
        refine ⟨ki, _, rfl, .inr (hki _), rfl, flat_strsA _, ?_⟩
        rw [inV_strs]
        exact N' _ (Same.refl _)
      · intro D' H2 nD s2 e2
        have hq := q _ (s1.trans s2)
        have e0 : (a.map fun e => decide (strD e ∈ kindsL)).all id = a.all fun e => decide (strD e ∈ kindsL) := by rw [List.all_map]; rfl
        have : kindsD (.list a) = (a.map fun e => decide (strD e ∈ kindsL)).all id := by
          rw [e0]
          unfold kindsD
          rw [show wordsD 1 6 (.list a) = true by simp only [wordsD, Bool.and_eq_true, decide_eq_true_eq]; exact h2, Bool.true_and]
        rw [this] at hq
        exact ⟨D', _, rfl, SqL.of e2, hq⟩
    · have hq := q _ s1
      have : kindsD d = false := by
        unfold kindsD
        rw [show wordsD 1 6 d = false by simpa using h2, Bool.false_and]
      rw [this] at hq
      exact hq
  simp only [if_neg h] at q q0
  refine ite2 (fun h => ?_) fun h => ?_
  · have hd : HX K H n v d := hre h (by decide +kernel) (by decide +kernel) (by decide +kernel) (by decide +kernel) (by decide +kernel)
    simp only [if_pos h] at q
    exact ⟨n, v, d, 0, 20, rfl, hd, sm, q⟩
  simp only [if_neg h] at q q0
  refine ite2 (fun h => ?_) fun h => ?_
  · have hd : ReX P w K H n v d := by
      unfold UX at hd0
      rwa [if_pos (by rw [h]; decide +kernel)] at hd0
    simp only [if_pos h] at q
    exact ⟨v, d, rfl, hd, sm.small, h100, q⟩
  simp only [if_neg h] at q q0
  refine ite2 (fun h => ?_) fun h => ?_
  · have hd : ReX P w K H n v d := by
      unfold UX at hd0
      rwa [if_pos (by rw [h]; decide +kernel)] at hd0
    simp only [if_pos h] at q
    exact ⟨v, d, rfl, hd, sm, h100, q⟩
  simp only [if_neg h] at q q0
  refine ite2 (fun h => ?_) fun h => ?_
  · have hd : HX K H n v d := hre h (by decide +kernel) (by decide +kernel) (by decide +kernel) (by decide +kernel) (by decide +kernel)
    exact ⟨n, v, d, _, _, rfl, hd.z, q0 _ (by rw [if_pos h])⟩
  simp only [if_neg h] at q q0
  refine ite2 (fun h => ?_) fun h => ?_
  · have hd : HX K H n v d := hre h (by decide +kernel) (by decide +kernel) (by decide +kernel) (by decide +kernel) (by decide +kernel)
    exact ⟨n, v, d, _, _, rfl, hd.z, q0 _ (by rw [if_pos h])⟩
  simp only [if_neg h] at q q0
  refine ite2 (fun h => ?_) fun h => ?_
  · have hd : HX K H n v d := hre h (by decide +kernel) (by decide +kernel) (by decide +kernel) (by decide +kernel) (by decide +kernel)
    exact ⟨n, v, d, _, _, rfl, hd.z, q0 _ (by rw [if_pos h])⟩
  simp only [if_neg h] at q q0
  refine ite2 (fun h => ?_) fun h => ?_
  · have hd : HX K H n v d := hre h (by decide +kernel) (by decide +kernel) (by decide +kernel) (by decide +kernel) (by decide +kernel)
    simp only [if_pos h] at q0
    have big : ∀ z, d = .str z → z.length ≤ 1000 := fun z hz => by
      subst hz
      cases n with
      | zero => exact sm.elim
      | succ n => exact sm.1
    refine ⟨n, v, d, rfl, hd.z, big, _, rfl, ite2 (fun h2 => ?_) fun h2 => q0 _ ?_⟩
    · obtain ⟨z, rfl⟩ : ∃ z, d = .str z := by cases d <;> first | exact ⟨_, rfl⟩ | cases h2
      have hd := hd.re (by simp)
      obtain rfl : v = .str z := by
        cases n with
        | zero => exact hd.elim
        | succ n => exact hd
      have h2' : z.length ≤ 60 := of_decide_eq_true h2
      refine ⟨rfl, ite2 (fun h3 => .inr ⟨z, rfl, by omega, _, ⟨sz5 (by omega), rfl⟩, rfl, q0 _ ?_⟩) fun h3 => q0 _ ?_⟩
      · have h3' : z ≠ Str.ofString "" := fun e => h3 (by rw [e])
        have hl : (signsOf z).length = z.length := by simp [signsOf, Str.length]
        simp only [charsD, h2', decide_true, Bool.true_and]
        rw [decide_eq_true h3', Bool.true_and]
        refine decide_eq_decide.mpr ?_
        rw [← met_nd, hl]
        omega
      · have h3' : z = Str.ofString "" := by simpa using h3
        simp only [charsD, h3', ne_eq, not_true_eq_false, decide_false, Bool.false_and, Bool.and_false]
    · cases d <;> first | rfl | skip
      simp only [charsD]
      rw [decide_eq_false (by simpa [isTextD] using h2), Bool.false_and]
  simp only [if_neg h] at q q0
  refine ite2 (fun h => ?_) fun h => ?_
  · have hd : HX K H n v d := hre h (by decide +kernel) (by decide +kernel) (by decide +kernel) (by decide +kernel) (by decide +kernel)
    simp only [if_pos h] at q0
    refine isiZ .str hd.z ⟨_, rfl, ite2 (fun h2 => ?_) fun h2 => q0 _ ?_⟩
    · obtain ⟨z, rfl⟩ : ∃ z, d = .str z := by cases d <;> first | exact ⟨_, rfl⟩ | cases h2
      have hd := hd.re (by simp)
      obtain rfl : v = .str z := by
        cases n with
        | zero => exact hd.elim
        | succ n => exact hd
      refine ⟨no, _, rfl, .inr (hno _), rfl, flat_strsA _, q0 _ ?_⟩
      simp only [Bool.false_eq_true, if_false]
      rw [inV_strs]
      rfl
    · cases d <;> first | rfl | exact absurd rfl h2
  simp only [if_neg h] at q q0
  refine ite2 (fun h => ?_) fun h => ?_
  · have hd : HX K H n v d := hre h (by decide +kernel) (by decide +kernel) (by decide +kernel) (by decide +kernel) (by decide +kernel)
    exact isiZ .bool hd.z (q0 _ (by rw [if_pos h]))
  simp only [if_neg h] at q q0
  refine ite2 (fun h => ?_) fun h => ?_
  · have hd : VU K H n (SX P w K H n) v d := by
      unfold UX at hd0
      rwa [if_neg (by rw [h]; decide +kernel), if_neg (by rw [h]; decide +kernel), if_neg (by rw [h]; decide +kernel), if_pos (by rw [h])] at hd0
    simp only [if_pos h] at q0
    refine isiVU .list hd ⟨_, rfl, ite2 (fun h2 => ?_) fun h2 => q0 _ ?_⟩
    · obtain ⟨a, rfl⟩ : ∃ a, d = .list a := by cases d <;> first | exact ⟨_, rfl⟩ | cases h2
      have hd : ∃ p1 xs, v = .ref p1 ∧ H p1 = some (.lst xs) ∧ xs.length = a.length := by
        rcases (show _ ∨ _ from hd) with hd | ⟨ds', L, xs, e1, e2, e3, _, e5⟩
        · have hd := hd.re (by simp)
          cases n with
          | zero => exact hd.elim
          | succ n =>
          obtain ⟨p1, xs, e1, ha, hb, hp⟩ := hd
          exact ⟨p1, xs, e1, ha, pd_len hp⟩
        · cases e1
          exact ⟨L, xs, e2, e3, pd_len e5⟩
      obtain ⟨p1, xs, rfl, ha, hxa⟩ := hd
      refine ⟨_, .inl ⟨_, SqL.of ha, rfl⟩, ite2 (fun h3 => q0 _ ?_) fun h3 => q0 _ ?_⟩
      · simp only [sevD]
        rw [decide_eq_true (by omega), Bool.true_and]
        exact decide_eq_decide.mpr (by omega)
      · simp only [sevD]
        rw [decide_eq_false (by omega), Bool.false_and]
    · cases d <;> first | rfl | exact absurd rfl h2
  simp only [if_neg h] at q q0
  refine ite2 (fun h => ?_) fun h => ?_
  · have hd : KX P w K H n v d := by
      unfold UX at hd0
      rw [if_neg (by rw [h]; decide +kernel), if_neg (by rw [h]; decide +kernel), if_pos (by rw [h])] at hd0
      rcases hd0 with hd0 | hd0 | ⟨es, a, kvs, e1, e2, e3, _, _, e6⟩
      · exact .inl hd0.x
      · exact .inl hd0.1
      · exact .inr ⟨by cases n with
          | zero => exact sm.elim
          | succ n => omega, es, a, kvs, e1, e2, e3, pd_imp e6 fun _ _ _ _ r => r.1⟩
    simp only [if_pos h] at q
    exact ⟨n, v, d, rfl, hd, sm.small, q⟩
  simp only [if_neg h] at q q0
  exact q0 _ rfl
end

/-! ### nested_in -/
theorem get_mix {F : Key → V → PyData → Prop} {kvs : List (Key × V)} {es : List (PyData × PyData)} (hp : Paired (fun (p : Key × V) (q : PyData × PyData) => q.1 = kD p.1 ∧ F p.1 p.2 q.2) kvs es) (x : Str) :
    (valV kvs (Sum.inr x) = none ∧ dgk es x = none) ∨ ∃ v d, valV kvs (Sum.inr x) = some v ∧ dgk es x = some d ∧ F (.inr x) v d := by
  induction hp with
  | nil => exact .inl ⟨rfl, rfl⟩
  | @cons a b l1 l2 r _ ih =>
    obtain ⟨k, v⟩ := a
    obtain ⟨b1, b2⟩ := b
    obtain ⟨r1, r2⟩ := r
    simp only at r1 r2
    subst r1
    by_cases hz : k = Sum.inr x
    · subst hz
      refine .inr ⟨v, b2, by simp [valV], ?_, r2⟩
      simp [dgk, kD, isKS]
    · have e1 : valV ((k, v) :: l1) (Sum.inr x) = valV l1 (Sum.inr x) := by
        simp only [valV, List.find?_cons, decide_eq_false hz]
      have hb : isKS x (kD k) = false := by
        cases k with
        | inl i => rfl
        | inr y => exact decide_eq_false fun e => hz (by rw [e])
      have e2 : dgk ((kD k, b2) :: l2) x = dgk l2 x := by
        simp only [dgk, List.find?_cons, hb]
      rw [e1, e2]
      exact ih
theorem Rp.str_of {H : Hp} {n : Nat} {x : Str} {d : PyData} (h : Rp H (n + 1) (.str x) d) : d = .str x := by
  cases d with
  | str y => cases (show V.str x = .str y from h); rfl
  | none => cases (show V.str x = .non from h)
  | bool b => cases (show V.str x = .bl b from h)
  | int i => cases (show V.str x = .int i from h)
  | list ds => obtain ⟨_, _, h, _⟩ := h; cases h
  | tuple ds => obtain ⟨_, _, h, _⟩ := h; cases h
  | dict ds => obtain ⟨_, _, h, _⟩ := h; cases h
theorem KR.text_of {H : Hp} {x : Str} : ∀ {k : NestedKey}, KR H k (.str x) → k = .text x
  | .text y, h => by cases (show V.str x = .str y from h); rfl
  | .none, h => by cases (show V.str x = .non from h)
  | .num i, h => by rcases (show V.str x = .int i ∨ ∃ b : Bool, V.str x = .bl b ∧ _ from h) with h | ⟨_, h, _⟩ <;> cases h
  | .tup _, h => by obtain ⟨_, _, h, _⟩ := h; cases h
/-- what stands under a word -/
theorem look_mixN {w : World} {H : Hp} {F : Option Str → V → PyData → Prop} {kvs : List NV} {es : List (PyData × PyData)} (hk : KsR H kvs) (hp : Paired (fun (p : NV) (q : PyData × PyData) => Rp H 3 p.2.1 q.1 ∧ F (formD q.1) p.2.2 q.2) kvs es) (x : Str) :
    (.text x ∉ kvs.map (·.1) ∧ dgk es x = none) ∨ ∃ (i : Nat) (u v : V) (d : PyData), kvs[i]? = some (.text x, u, v) ∧ dgk es x = some d ∧ F (formOf x) v d := by
  induction hp with
  | nil => exact .inl ⟨by simp, rfl⟩
  | @cons a b l1 l2 r _ ih =>
    obtain ⟨k, u, v⟩ := a
    obtain ⟨b1, b2⟩ := b
    obtain ⟨r1, r2⟩ := r
    simp only at r1 r2
    have hk0 : KR H k u := hk _ List.mem_cons_self
    by_cases hz : k = .text x
    · subst hz
      cases (show u = .str x from hk0)
      obtain rfl : b1 = .str x := Rp.str_of r1
      exact .inr ⟨0, _, v, b2, rfl, by simp [dgk, isKS], r2⟩
    · have hb : isKS x b1 = false := by
        cases b1 with
        | str y =>
          cases (show u = .str y from r1)
          refine decide_eq_false fun e => hz ?_
          subst e
          exact KR.text_of hk0
        | _ => rfl
      have e2 : dgk ((b1, b2) :: l2) x = dgk l2 x := by
        simp only [dgk, List.find?_cons, hb]
      rw [e2]
      rcases ih (fun p hp => hk p (List.mem_cons_of_mem _ hp)) with ⟨h1, h2⟩ | ⟨i, u', v', d, h1, h2, h3⟩
      · refine .inl ⟨?_, h2⟩
        rw [List.map_cons, List.mem_cons, not_or]
        exact ⟨fun e => hz e.symm, h1⟩
      · exact .inr ⟨i + 1, u', v', d, by simpa using h1, h2, h3⟩
theorem SX.look {P : Program} {w : World} {K : PySem.W.Frag} {H : Hp} {n : Nat} {v : V} {es : List (PyData × PyData)} (h : SX P w K H (n + 1) v (.dict es)) : ∃ p1, v = .ref p1 ∧ ∀ x : Str, (LookX w H p1 x none ∧ dgk es x = none) ∨ ∃ u e, LookX w H p1 x (some u) ∧ dgk es x = some e ∧ UX P w K H n (SX P w K H n) (formOf x) u e := by
  rcases (show _ ∨ _ from h) with ⟨p1, xs, rfl, ha, _, _, hp⟩ | ⟨p1, kvs, rfl, F, _, hp⟩
  · refine ⟨p1, rfl, fun x => ?_⟩
    rcases get_mix (F := fun k => UX P w K H n (SX P w K H n) (formK k)) hp x with ⟨g1, g2⟩ | ⟨u, e, g1, g2, g3⟩
    · exact .inl ⟨.inl ⟨xs, ha, g1.symm⟩, g2⟩
    · exact .inr ⟨u, e, .inl ⟨xs, ha, g1.symm⟩, g2, g3⟩
  · refine ⟨p1, rfl, fun x => ?_⟩
    rcases look_mixN (w := w) (F := UX P w K H n (SX P w K H n)) F.ks hp x with ⟨g1, g2⟩ | ⟨i, u', v, e, g1, g2, g3⟩
    · exact .inl ⟨.inr ⟨kvs, F, .inl ⟨rfl, g1⟩⟩, g2⟩
    · exact .inr ⟨v, e, .inr ⟨kvs, F, .inr ⟨i, u', v, rfl, g1⟩⟩, g2, g3⟩
theorem dgk_mem {es : List (PyData × PyData)} {x : Str} {d : PyData} (h : dgk es x = some d) : (.str x, d) ∈ es := by
  unfold dgk at h
  obtain ⟨e, he, rfl⟩ := Option.map_eq_some_iff.mp h
  have h1 := List.mem_of_find?_eq_some he
  have h2 := List.find?_some he
  obtain ⟨k, u⟩ := e
  cases k <;> first | (cases h2; done) | skip
  rw [show _ = x from of_decide_eq_true h2] at h1
  exact h1
theorem places_ok {n : Nat} {x : Str} {d : PyData} (h : okD (n + 1) d) : ∀ q ∈ placesD x d, okD (n + 1) q.2 := by
  intro q hq
  unfold placesD at hq
  split at hq
  · rw [List.mem_singleton.mp hq]; exact h
  split at hq
  · cases d with
    | list ds =>
      obtain ⟨r, hr, rfl⟩ := List.mem_map.mp hq
      obtain ⟨p, hp, rfl⟩ := List.mem_map.mp hr
      exact (h.2 _ (List.fst_mem_of_mem_zipIdx hp)).up1
    | _ => cases hq
  split at hq
  · cases d with
    | dict es =>
      obtain ⟨r, hr, rfl⟩ := List.mem_map.mp hq
      obtain ⟨z, hz, rfl⟩ := List.mem_map.mp hr
      show okD (n + 1) ((dget es z).getD .none)
      cases hd : dget es z with
      | none => trivial
      | some d2 =>
        obtain ⟨e, he, rfl, _⟩ := dget_mem hd
        exact (h.2 e he).2.up1
    | _ => cases hq
  · cases hq
theorem places_few {n : Nat} {x : Str} {d : PyData} (h : okD (n + 1) d) : (placesD x d).length ≤ 60 ∧ ∀ q ∈ placesD x d, q.1.length ≤ 1 := by
  have none : ([] : List (List Key × PyData)).length ≤ 60 ∧ ∀ q ∈ ([] : List (List Key × PyData)), q.1.length ≤ 1 := ⟨by decide, fun q hq => by cases hq⟩
  have one : ∀ l : List (Key × PyData), ∀ q ∈ l.map fun q => (([q.1] : List Key), q.2), q.1.length ≤ 1 := fun l q hq => by
    obtain ⟨r, _, rfl⟩ := List.mem_map.mp hq
    exact Nat.le_refl 1
  unfold placesD
  split
  · exact ⟨by simp, by simp⟩
  split
  · cases d with
    | list ds => exact ⟨by simp only [rowsL, List.length_map, List.length_zipIdx]; exact h.1, one _⟩
    | _ => exact none
  split
  · cases d with
    | dict es => exact ⟨by simp only [rowsD, List.length_map, srt_len, keysD]; exact h.1, one _⟩
    | _ => exact none
  · exact none
theorem form_sev {n : Nat} {d : PyData} (h : formB n (Str.ofString "several") d = true) : sevD d = true := by
  unfold formB at h
  rw [if_neg (by decide +kernel), if_neg (by decide +kernel), if_neg (by decide +kernel), if_neg (by decide +kernel), if_neg (by decide +kernel), if_neg (by decide +kernel), if_neg (by decide +kernel), if_neg (by decide +kernel), if_neg (by decide +kernel), if_neg (by decide +kernel), if_neg (by decide +kernel), if_neg (by decide +kernel), if_pos rfl] at h
  exact h
theorem form_named {n : Nat} {d : PyData} (h : formB n (Str.ofString "named") d = true) : namedD d = true := by
  unfold formB at h
  rw [if_neg (by decide +kernel), if_neg (by decide +kernel), if_neg (by decide +kernel), if_neg (by decide +kernel), if_neg (by decide +kernel), if_neg (by decide +kernel), if_neg (by decide +kernel), if_neg (by decide +kernel), if_neg (by decide +kernel), if_neg (by decide +kernel), if_neg (by decide +kernel), if_neg (by decide +kernel), if_neg (by decide +kernel), if_pos rfl] at h
  exact h
theorem form_places {n m : Nat} {x : Str} {d : PyData} (h : formB n x d = true) (sm : okD (m + 1) d) : (x = Str.ofString "several" → ∃ ds, d = .list ds ∧ ds.length ≤ 60) ∧ (x = Str.ofString "named" → ∃ es, d = .dict es ∧ es.length ≤ 60 ∧ StrKeys es ∧ ∀ e ∈ es, ∀ x, e.1 = .str x → x.length ≤ 1000 ∧ AsciiS x) := by
  constructor
  · rintro rfl
    have := form_sev h
    cases d <;> first | (cases this; done) | skip
    exact ⟨_, rfl, sm.1⟩
  · rintro rfl
    have := form_named h
    cases d <;> first | (cases this; done) | skip
    rename_i es
    simp only [namedD, Bool.and_eq_true, List.all_eq_true] at this
    refine ⟨_, rfl, sm.1, fun e he => ?_, fun e he => (sm.2 e he).1⟩
    have h2 := this.2 e he
    cases h3 : e.1 with
    | str y => exact ⟨y, rfl⟩
    | _ => rw [h3] at h2; cases h2
theorem max1 {K : PySem.W.Frag} {H : Hp} {p D : Addr} {m : Int} {ns : List Int} {N : VK} (h1 : H p = some (.lst [.int m])) (h2 : H D = some (.lst (ns.map V.int))) (h0 : 0 ≤ m) (hl : ns.length ≤ 10000) (q : ∀ H', Same H H' → N (.int (mx (m :: ns))) H') :
    rCat (.ref p) (.ref D) H fun x H1 => rMax K [x] H1 N := by
  refine ⟨p, D, _, _, rfl, rfl, h1, h2, ?_, fun r hr => ?_⟩
  · rw [List.length_map]
    exact sz5 (by simp; omega)
  refine ⟨r, m :: ns, rfl, SqL.of upd_same, by simp, fun k hk hle => ?_⟩
  rw [show k = mx (m :: ns) from mx_is (List.mem_cons_of_mem _ hk) fun y hy => by
    rcases List.mem_cons.mp hy with rfl | hy
    · have := hle m (by simp)
      omega
    · exact hle y hy]
  exact q _ (same_new hr _)
def sp_nest (P : Program) (w : World) (K : PySem.W.Frag) (n : Nat) : Sp := fun vs H Q _ => ∃ v d, vs = [v] ∧ SX P w K H n v d ∧ okD n d ∧ n ≤ 100 ∧ ∀ H', Same H H' → Q (.int (nestN n d)) H'
abbrev s_nested_in : Stmt := top 30
theorem sc_nested_in : FnScope ["value", "found", "word", "form", "tail", "inner"] ["value"] (defScope s_nested_in) := ⟨rfl, rfl, rfl, by decide +kernel, rfl, by decide +kernel, by decide +kernel⟩
section
variable {P : Program} {w : World} {K : PySem.W.Frag} {mg : Str → Option Value} {base : Heap} {f : Addr} {fd : FuncData}
theorem ok_nest {n : Nat} (D : Def K mg "nested_in" s_nested_in f fd) (B : Blt mg) {ta : Addr} (g_TABLE : mg "TABLE" = some (.ref ta)) {as : List Addr} (hT : ∀ H : Hp, SqT K H ta (as.map V.ref)) (hR : Paired (fun a r => ∀ H : Hp, SqT K H a [.str r.1, .str r.2]) as tableR)
    (R_has_form : Rdy P w K mg base (n + 5) "has_form" ["form", "value"] (sp_hf P w K n)) (R_places_of : ∀ m, Rdy P w K mg base 2 "places_of" ["form", "value"] (sp_places P w K m)) (R_nested_in : Rdy P w K mg base (n + 6) "nested_in" ["value"] (sp_nest P w K n)) : FnOk P w K mg base CX0 (n + 7) f fd ["value"] (sp_nest P w K (n + 1)) := by
  refine D.1.ok sc_nested_in (fun vs H Q E h => ?_) (fun cdv A outer s H vs Q E hr h => ?_)
  · obtain ⟨v, d, rfl, _⟩ := h
    rfl
  obtain ⟨v, d, rfl, hd, sm, h100, q⟩ := h
  have hu := hu_of hr
  have hr2 : Room 2 _ := hr.mono (by omega)
  have hr5 : Room (n + 5) _ := hr.mono (by omega)
  refine ⟨_, (pss_cons (ps_set (i := 1) sc_nested_in.nd rfl (by first | exact Or.inl rfl | exact Or.inr rfl) pe_int)
  (pss_cons (ps_if (pt_val (pe_callB (isiOK (K := K) rfl) (by rfl) B.b_isinstance (by decide +kernel) (pa_cons (pv 0) (pa_cons (pe_bltn (v := .ty "dict") (by rfl) B.b_dict (by decide +kernel) rfl) pa_nil))))
   (pss_one (ps_for PassesOwn.never rfl (pi_tup (pe_gref (by rfl) g_TABLE)) (pg_tup (by rfl) (pgs_cons (pg_name (i := 2) sc_nested_in.nd rfl (by first | exact Or.inl rfl | exact Or.inr rfl)) (pgs_cons (pg_name (i := 3) sc_nested_in.nd rfl (by first | exact Or.inl rfl | exact Or.inr rfl)) pgs_nil)))
   (pss_one (ps_if (PW.pt (pw_and (pt_cmp (pc_inX rfl (u9 hr) (pv 2) (pv 0))) (pw_and1 (pt_val (pe_c R_has_form hr5 rfl (pa_cons (pv 3) (pa_cons (pe_getX rfl (u9 hr) (pv 0) (pv 2) (fun _ _ => rfl)) pa_nil)))))))
   (pss_one (ps_set (i := 1) sc_nested_in.nd rfl (by first | exact Or.inl rfl | exact Or.inr rfl) (pe_callB (maxK (K := K) rfl rfl) (by rfl) B.b_max (by decide +kernel) (pa_cons (pe_op op_cat (pe_lst (pa_cons (pv 1) pa_nil)) (pe_lc (own := [("tail", 4), ("inner", 5)]) (by rfl) sc_nested_in.nd (pi_list (pe_c (R_places_of (n - 1)) hr2 rfl (pa_cons (pv 3) (pa_cons (pe_getX rfl (u9 hr) (pv 0) (pv 2) (fun _ _ => rfl)) pa_nil)))) (blkOk_by (own := [("tail", 4), ("inner", 5)]) (N := ["value", "found", "word", "form", "tail", "inner"]) (sc := defScope s_nested_in) (by decide +kernel)) (fun _ _ _ _ _ => (pg_tupK (K := K) (n := 2) rfl (by rfl) (pgs_cons (pg_name (i := 4) sc_nested_in.nd rfl (by first | exact Or.inl rfl | exact Or.inr rfl)) (pgs_cons (pg_name (i := 5) sc_nested_in.nd rfl (by first | exact Or.inl rfl | exact Or.inr rfl)) pgs_nil)))) (fun _ _ _ _ _ => pts_nil) (fun _ _ _ _ _ => (pe_c R_nested_in hr rfl (pa_cons (pv 5) pa_nil))))) pa_nil))))
   pss_nil))))
   pss_nil)
  (pss_one (ps_ret (pe_op op_add (pv 1) pe_int))))), ?_⟩
  walk_at "rd"
  refine isiS .dict hd ⟨_, rfl, ite2 (fun h1 => ?_) fun h1 => ?_⟩
  · obtain ⟨es, rfl⟩ : ∃ es, d = .dict es := by cases d <;> first | exact ⟨_, rfl⟩ | cases h1
    obtain ⟨p1, rfl, look⟩ := SX.look hd
    have hlen : as.length = 38 := pd_len hR
    refine ⟨⟨_, hT _⟩, ?_⟩
    refine fo_it (walk_tup (xs := as.map V.ref)) (fun i σ' H' => Same H H' ∧ ∃ (m : Int) (z1 z2 z3 z4 : Option V), 0 ≤ m ∧ m = (tableR.take i).foldl (nestR (nestN n) n es) 0 ∧ σ' = [some (V.ref p1), some (V.int m), z1, z2, z3, z4]) ⟨Same.refl _, 0, _, _, _, _, by decide, rfl, rfl⟩ (fun _ _ _ _ _ => hT _) ?_ ?_
    · rintro i x σ' Ha Hb hi ⟨sa, m, z1, z2, z3, z4, hm0, hm, rfl⟩ ⟨rfl, hx⟩
      rw [List.getElem?_map, Option.map_eq_some_iff] at hx
      obtain ⟨a, ha1, rfl⟩ := hx
      obtain ⟨r, hr1, hrr⟩ := pd_get hR ha1
      have nxt : (tableR.take (i + 1)).foldl (nestR (nestN n) n es) 0 = nestR (nestN n) n es m r := by
        rw [List.take_succ, hr1, hm, List.foldl_append]
        rfl
      rw [nxt]
      simp only [gTup, gCons, gNil, gName]
      refine ⟨a, _, rfl, hrr _, rfl, _, _, rfl, _, _, rfl, rfl, ?_⟩
      walk_at "rd"
      rcases look r.1 with ⟨g1, g2⟩ | ⟨u, e, g1, g2, g3⟩
      · have : nestR (nestN n) n es m r = m := by unfold nestR; rw [g2]
        rw [this]
        exact ⟨none, g1.imp sa, iteF' (by simp) ⟨sa, m, hm0, rfl, rfl⟩⟩
      refine ⟨some u, g1.imp sa, ?_⟩
      have hme := dgk_mem g2
      rw [table_form r (List.mem_of_getElem? hr1)] at g3
      have ok2 : okD n e := (sm.2 _ hme).2
      have he : nestR (nestN n) n es m r = if formB n r.2 e = true then mx (m :: (placesD r.2 e).map fun q => nestN n q.2) else m := by unfold nestR; rw [g2]
      refine iteT' rfl ⟨u, g1.imp sa, r.2, u, e, rfl, g3.imp sa, ok2, by omega, fun H2 s2 => ⟨_, rfl, ite2 (fun h2 => ?_) fun h2 => ?_⟩⟩
      · rw [he, if_pos h2]
        cases n with
        | zero => exact ok2.elim
        | succ n =>
        obtain ⟨c1, c2⟩ := form_places h2 ok2
        obtain ⟨few, _⟩ := places_few (x := r.2) ok2
        have pok := places_ok (x := r.2) ok2
        have sa2 := sa.trans s2
        refine ⟨by decide, fun p np => ⟨u, (g1.imp sa2).imp (same_new np _), r.2, u, e, rfl, ((g3.imp sa2).imp (same_new np _)), c1, c2, (fun e0 => form_named (n := n + 1) (e0 ▸ h2)), fun L ts H3 s3 eL pts => ?_⟩⟩
        have ep : H3 p = some (.lst [.int m]) := s3 _ _ upd_same
        have lts := pd_len pts
        refine ⟨L, rfl, ⟨_, SqL.of eL⟩, ?_⟩
        refine lc_itR (walk_list (xs := ts.map V.ref)) (fun D i H' => Same H3 H' ∧ H' D = some (.lst ((((placesD r.2 e).take i).map fun q => nestN (n + 1) q.2).map V.int))) (fun D hD => ⟨same_new hD _, by rw [upd_same]; rfl⟩) (fun D i H' _ _ h => SqL.of (h.1 _ _ eL)) ?_ ?_
        · rintro D j y Hc Hd hD hj ⟨sc, eD⟩ ⟨rfl, hy⟩
          rw [List.getElem?_map, Option.map_eq_some_iff] at hy
          obtain ⟨T, hT1, rfl⟩ := hy
          obtain ⟨w, hw, hW⟩ := pd_get pts hT1
          obtain ⟨pp, uu, b1, b2, b3⟩ := hW.li
          simp only [gTup, gCons, gNil, gName]
          refine ⟨T, _, rfl, SqT.of (sc _ _ b1), rfl, _, _, rfl, _, _, rfl, rfl, rfl, ?_⟩
          walk_at "rd"
          have hj60 : j < 60 := by rw [List.length_map] at hj; omega
          refine ⟨uu, w.2, rfl, b3.imp (s3.trans sc), pok _ (List.mem_of_getElem? hw), by omega, fun H4 s4 => ⟨_, s4 _ _ eD, sz5l (by rw [List.length_map, List.length_map, List.length_take]; omega), same_mut (sc.trans s4) hD, by rw [upd_same, List.take_succ, hw]; simp⟩⟩
        · rintro D H4 hD ⟨s4, eD⟩
          rw [List.take_of_length_le (by rw [List.length_map]; omega)] at eD
          exact max1 (s4 _ _ ep) eD hm0 (by rw [List.length_map]; omega) fun H5 s5 => ⟨(sa2.trans ((same_new np _).trans (s3.trans (s4.trans s5)))), _, mx_le (by simp), rfl, rfl⟩
      · rw [he, if_neg h2]
        exact ⟨sa.trans s2, m, hm0, rfl, rfl⟩
    · rintro σ' H' ⟨sa, m, z1, z2, z3, z4, hm0, hm, rfl⟩
      rw [List.take_of_length_le (by rw [List.length_map, hlen]; decide)] at hm
      walk_at "rd"
      have hq := q _ sa
      simp only [nestN] at hq
      rw [hm]
      exact hq
  · have : nestN (n + 1) d = 1 := by cases d <;> first | rfl | exact absurd rfl h1
    have hq := q _ (Same.refl _)
    rw [this] at hq
    exact hq
end

/-! ### wrong_from, first_wrong_place -/
def compB (K : PySem.W.Frag) (ca : Addr) : Bool := tableR.all fun r => match PySem.W.nsIn K ca r.1, mateOf r.1 with
  | some none, none => true
  | some (some (.str z _)), some y => decide (z = y)
  | _, _ => false
theorem comp_at {K : PySem.W.Frag} {ca : Addr} (h : compB K ca = true) {r : Str × Str} (hr : r ∈ tableR) : (mateOf r.1 = none ∧ PySem.W.nsIn K ca r.1 = some none) ∨ ∃ y t, mateOf r.1 = some y ∧ PySem.W.nsIn K ca r.1 = some (some (.str y t)) := by
  have := List.all_eq_true.mp h r hr
  split at this
  · rename_i h1 h2; exact .inl ⟨h2, h1⟩
  · rename_i z t y h1 h2
    rw [of_decide_eq_true this] at h1
    exact .inr ⟨y, t, h2, h1⟩
  · cases this
def rKdIn (K : PySem.W.Frag) (ca : Addr) : R2 := fun x y H Q => ∃ (z : Str) (r : Option Value), x = .str z ∧ y = .ref ca ∧ PySem.W.nsIn K ca z = some r ∧ Q (.bl r.isSome) H
theorem opKd {X : Cx} {K : PySem.W.Frag} {w : World} {ca : Addr} {es : Array DictEntry} {n : Nat} (h : X.K = K) (hw : X.w = w) (D : KDict K w ca es n) : OpR X (compareOp .In) (rKdIn K ca) := by
  subst h; subst hw
  exact op_in_kd D
theorem ixKd {X : Cx} {K : PySem.W.Frag} {w : World} (h : X.K = K) (hw : X.w = w) : IxR X (rIxD K w) := by
  subst h; subst hw
  exact ix_kdict
def sp_wf (P : Program) (w : World) (K : PySem.W.Frag) (n : Nat) : Sp := fun vs H Q _ => ∃ r v es b e, vs = [.str r.1, .str r.2, v, .bl b] ∧ r ∈ tableR ∧ SX P w K H (n + 1) v (.dict es) ∧ okD (n + 1) (.dict es) ∧ dgk es r.1 = some e ∧ n ≤ 99 ∧ ∀ v' H', Same H H' → pathV (wfR (fwpN n true) n es b r e) H' v' → Q v' H'
def sp_fwp (P : Program) (w : World) (K : PySem.W.Frag) (n : Nat) : Sp := fun vs H Q _ => ∃ v d b, vs = [v, .bl b] ∧ SX P w K H n v d ∧ okD n d ∧ n ≤ 100 ∧ ∀ v' H', Same H H' → pathV (fwpN n b d) H' v' → Q v' H'
theorem fstP_at {f : PyData → Option (List Key)} : ∀ {rs : List (List Key × PyData)} {i : Nat} {t : List Key} {d : PyData} {p : List Key}, (∀ j < i, ∀ q, rs[j]? = some q → f q.2 = none) → rs[i]? = some (t, d) → f d = some p → fstP f rs = some (t ++ p)
  | [], _, _, _, _, _, h, _ => by simp at h
  | q :: r, 0, k, d, p, _, h, g => by
    simp at h; subst h
    simp only [fstP, g]
  | q :: r, i + 1, k, d, p, hno, h, g => by
    have h0 := hno 0 (by omega) q rfl
    simp only [fstP, h0]
    exact fstP_at (fun j (hj : j < i) z hz => hno (j + 1) (by omega) z (by simpa using hz)) (by simpa using h) g
theorem fstP_none {f : PyData → Option (List Key)} : ∀ {rs : List (List Key × PyData)}, (∀ q ∈ rs, f q.2 = none) → fstP f rs = none
  | [], _ => rfl
  | q :: r, h => by
    simp only [fstP, h q (by simp)]
    exact fstP_none fun z hz => h z (by simp [hz])
theorem fstP_some {f : PyData → Option (List Key)} : ∀ {rs : List (List Key × PyData)} {p : List Key}, fstP f rs = some p → ∃ q ∈ rs, ∃ z, f q.2 = some z ∧ p = q.1 ++ z
  | [], p, h => by cases h
  | q :: r, p, h => by
    unfold fstP at h
    cases hq : f q.2 with
    | some z => rw [hq] at h; cases h; exact ⟨q, by simp, z, hq, rfl⟩
    | none =>
      rw [hq] at h
      obtain ⟨u, hu, z, h1, h2⟩ := fstP_some h
      exact ⟨u, by simp [hu], z, h1, h2⟩
abbrev s_wrong_from : Stmt := top 31
theorem sc_wrong_from : FnScope ["word", "form", "schema", "is_inner", "is_alone", "tail", "inner", "found"] ["word", "form", "schema", "is_inner"] (defScope s_wrong_from) := ⟨rfl, rfl, rfl, by decide +kernel, rfl, by decide +kernel, by decide +kernel⟩
section
variable {P : Program} {w : World} {K : PySem.W.Frag} {mg : Str → Option Value} {base : Heap} {f : Addr} {fd : FuncData}
theorem ok_wf {n : Nat} (D : Def K mg "wrong_from" s_wrong_from f fd) (B : Blt mg) {ca : Addr} (g_COMPANIONS : mg "COMPANIONS" = some (.ref ca)) {ces : Array DictEntry} {cn : Nat} (hC : KDict K w ca ces cn) (hcb : compB K ca = true)
    (hlen : ∀ d p, okD n d → fwpN n true d = some p → p.length ≤ 3 * n)
    (R_has_form : Rdy P w K mg base (n + 5) "has_form" ["form", "value"] (sp_hf P w K n)) (R_places_of : ∀ m, Rdy P w K mg base 2 "places_of" ["form", "value"] (sp_places P w K m)) (R_first_wrong_place : Rdy P w K mg base (2 * n + 7) "first_wrong_place" ["value", "is_inner"] (sp_fwp P w K n)) : FnOk P w K mg base CX0 (2 * n + 8) f fd ["word", "form", "schema", "is_inner"] (sp_wf P w K n) := by
  refine D.1.ok sc_wrong_from (fun vs H Q E h => ?_) (fun cdv A outer s H vs Q E hr h => ?_)
  · obtain ⟨r, v, es, b, e, rfl, _⟩ := h
    rfl
  obtain ⟨r, v, es, b, e, rfl, hr0, hd, sm, hge, h100, q⟩ := h
  have hu := hu_of hr
  have hr2 : Room 2 _ := hr.mono (by omega)
  have hr5 : Room (n + 5) _ := hr.mono (by omega)
  refine ⟨_, (pss_cons (ps_set (i := 4) sc_wrong_from.nd rfl (by first | exact Or.inl rfl | exact Or.inr rfl) (pe_and (pe_cmpR (opKd (K := K) (w := w) rfl rfl hC) (pv 0) (pe_gref (by rfl) g_COMPANIONS) rfl) (pe_one (pe_cmp (pc_notInX rfl (u9 hr) (pe_ix (ixKd (K := K) (w := w) rfl rfl) (pe_gref (by rfl) g_COMPANIONS) (pv 0) (fun _ _ => rfl)) (pv 2)) rfl))))
  (pss_cons (ps_if (PW.pt (pw_or (pt_val (pv 4)) (pw_or (PW.pt (pw_and (pt_cmpR op_eq (pv 0) pe_str (nomark _)) (pw_and1 (pt_val (pv 3))))) (pw_or1 (pt_not (pt_val (pe_c R_has_form hr5 rfl (pa_cons (pv 1) (pa_cons (pe_getX rfl (u9 hr) (pv 2) (pv 0) (fun _ _ => rfl)) pa_nil)))))))))
   (pss_one (ps_ret (pe_tup pa_nil)))
   pss_nil)
  (pss_cons (ps_for PassesOwn.never rfl (pi_list (pe_c (R_places_of (n - 1)) hr2 rfl (pa_cons (pv 1) (pa_cons (pe_getX rfl (u9 hr) (pv 2) (pv 0) (fun _ _ => rfl)) pa_nil)))) (pg_tup (by rfl) (pgs_cons (pg_name (i := 5) sc_wrong_from.nd rfl (by first | exact Or.inl rfl | exact Or.inr rfl)) (pgs_cons (pg_name (i := 6) sc_wrong_from.nd rfl (by first | exact Or.inl rfl | exact Or.inr rfl)) pgs_nil)))
   (pss_cons (ps_set (i := 7) sc_wrong_from.nd rfl (by first | exact Or.inl rfl | exact Or.inr rfl) (pe_c R_first_wrong_place hr rfl (pa_cons (pv 6) (pa_cons pe_bl pa_nil))))
  (pss_one (ps_if (pt_cmpR op_notN (pv 7) pe_non (nomark _))
   (pss_one (ps_ret (pe_op (op_catAK (K := K) rfl) (pv 5) (pv 7))))
   pss_nil))))
  (pss_one (ps_ret pe_non))))), ?_⟩
  obtain ⟨p1, rfl, look⟩ := SX.look hd
  have hv1 : ∃ u, LookX w H p1 r.1 (some u) ∧ UX P w K H n (SX P w K H n) (some r.2) u e := by
    rcases look r.1 with ⟨g1, g2⟩ | ⟨u, e', g1, g2, g3⟩
    · rw [g2] at hge; cases hge
    · rw [g2] at hge; cases hge; rw [table_form r hr0] at g3; exact ⟨u, g1, g3⟩
  obtain ⟨u, g1, g3⟩ := hv1
  have ok2 : okD n e := (sm.2 _ (dgk_mem hge)).2
  refine cutM (fun σ' H' => H' = H ∧ σ' = [some (.str r.1), some (.str r.2), some (.ref p1), some (.bl b), some (.bl (aloneD es r.1)), none, none, none]) (fun N hN => ?_) ?_
  · walk_at "rd"
    rcases comp_at hcb hr0 with ⟨m1, m2⟩ | ⟨y, t, m1, m2⟩
    · refine ⟨_, _, rfl, rfl, m2, _, rfl, iteF' (by simp) (hN _ _ ⟨rfl, ?_⟩)⟩
      rw [show aloneD es r.1 = false by unfold aloneD; rw [m1]]
    · refine ⟨_, _, rfl, rfl, m2, _, rfl, iteT' rfl ⟨_, _, .str y, rfl, rfl, ⟨ces, cn, _, hC.at_, hC.lit, m2, ⟨t, rfl⟩⟩, ?_⟩⟩
      have : aloneD es r.1 = (dgk es y).isNone := by unfold aloneD; rw [m1]
      rcases look y with ⟨k1, k2⟩ | ⟨_, _, k1, k2, _⟩
      · refine ⟨_, rfl, _, k1, hN _ _ ⟨rfl, ?_⟩⟩
        rw [this, k2]; rfl
      · refine ⟨_, rfl, _, k1, hN _ _ ⟨rfl, ?_⟩⟩
        rw [this, k2]; rfl
  rintro σ' H' ⟨rfl, rfl⟩
  walk_at "rd"
  have emp : ∀ H1, Same H' H1 → wfR (fwpN n true) n es b r e = some [] → 0 ≤ sizeLine ∧ ∀ p, H1 p = none → Q (V.ref p) (upd H1 p (HO.tup [])) := fun H1 s1 h => ⟨Nat.zero_le _, fun p np => q _ _ (s1.trans (same_new np _)) (by rw [h]; exact ⟨p, rfl, upd_same⟩)⟩
  refine ite2 (fun h1 => emp _ (Same.refl _) (by unfold wfR; rw [if_pos (by rw [h1]; rfl)])) fun h1 => ⟨rfl, ?_⟩
  have h1' : aloneD es r.1 = false := by simpa using h1
  refine (fun (rest : (decide (r.1 = Str.ofString "defs") && b) = false → _) => ite2 (fun h2 => ite2 (fun h3 => emp _ (Same.refl _) (by unfold wfR; rw [if_pos (by rw [decide_eq_true h2, h3, Bool.true_and, Bool.or_true, Bool.true_or])])) fun h3 => rest (by rw [show b = false by simpa using h3, Bool.and_false])) fun h2 => rest (by rw [decide_eq_false h2, Bool.false_and])) ?_
  intro hdi
  have hw : wfR (fwpN n true) n es b r e = if formB n r.2 e = true then fstP (fwpN n true) (placesD r.2 e) else some [] := by
    unfold wfR
    rw [h1', hdi, Bool.false_or, Bool.false_or]
    cases formB n r.2 e <;> rfl
  refine ⟨u, g1, r.2, u, e, rfl, g3, ok2, by omega, fun H2 s2 => ⟨_, rfl, ite2 (fun h2 => emp _ s2 (by rw [hw, h2]; rfl)) fun h2 => ?_⟩⟩
  have h2' : formB n r.2 e = true := by simpa using h2
  rw [hw, if_pos h2'] at q
  cases n with
  | zero => exact ok2.elim
  | succ n =>
  obtain ⟨c1, c2⟩ := form_places h2' ok2
  obtain ⟨few, short⟩ := places_few (x := r.2) ok2
  have pok := places_ok (x := r.2) ok2
  refine ⟨u, g1.imp s2, r.2, u, e, rfl, g3.imp s2, c1, c2, (fun e0 => form_named (n := n + 1) (e0 ▸ h2')), fun L ts H3 s3 eL pts => ?_⟩
  have lts := pd_len pts
  refine ⟨L, rfl, ⟨_, SqL.of eL⟩, ?_⟩
  refine fo_it (walk_list (xs := ts.map V.ref)) (fun i σ' Hx => Same H3 Hx ∧ (∀ j < i, ∀ q, (placesD r.2 e)[j]? = some q → fwpN (n + 1) true q.2 = none) ∧ ∃ z1 z2 z3, σ' = [some (V.str r.1), some (V.str r.2), some (V.ref p1), some (V.bl b), some (V.bl (aloneD es r.1)), z1, z2, z3]) ⟨Same.refl _, by omega, _, _, _, rfl⟩ (fun _ _ _ _ h => SqL.of (h.1 _ _ eL)) ?_ ?_
  · rintro i x σ' Hc Hd hi ⟨sc, hno, z1, z2, z3, rfl⟩ ⟨rfl, hx⟩
    rw [List.getElem?_map, Option.map_eq_some_iff] at hx
    obtain ⟨T, hT1, rfl⟩ := hx
    obtain ⟨w1, hw1, hW⟩ := pd_get pts hT1
    obtain ⟨pp, uu, b1, b2, b3⟩ := hW.li
    have hm1 := List.mem_of_getElem? hw1
    simp only [gTup, gCons, gNil, gName]
    refine ⟨T, _, rfl, SqT.of (sc _ _ b1), rfl, _, _, rfl, _, _, rfl, rfl, ?_⟩
    walk_at "rd"
    refine ⟨uu, w1.2, true, rfl, b3.imp (s3.trans sc), pok _ hm1, by omega, fun v' H4 s4 hv => ?_⟩
    have sAll := s2.trans (s3.trans (sc.trans s4))
    cases hj : fwpN (n + 1) true w1.2 with
    | none =>
      rw [hj] at hv
      cases hv
      refine iteF' (by simp) ⟨sc.trans s4, fun j hj2 q hq => ?_⟩
      by_cases hji : j = i
      · subst hji; rw [hw1] at hq; cases hq; exact hj
      · exact hno j (by omega) q hq
    | some z =>
      rw [hj] at hv
      obtain ⟨t, rfl, ht⟩ := hv
      have hres : fstP (fwpN (n + 1) true) (placesD r.2 e) = some (w1.1 ++ z) := fstP_at hno (show _ = some (w1.1, w1.2) from hw1) hj
      have l1 := hlen _ _ (pok _ hm1) hj
      have l2 := short _ hm1
      rw [hres] at q
      refine iteT' (by simp) ⟨pp, t, w1.1.map kV, z.map kV, rfl, rfl, SqT.of (s4 _ _ (sc _ _ b2)), SqT.of ht, sz5 (by simp; omega), fun h0 => ?_, fun _ h0 => ?_, fun _ _ l nl => ?_⟩
      · refine q _ _ sAll ⟨t, rfl, ?_⟩
        rw [List.map_append, h0]
        exact ht
      · refine q _ _ sAll ⟨pp, rfl, ?_⟩
        rw [List.map_append, h0, List.append_nil]
        exact s4 _ _ (sc _ _ b2)
      · refine q _ _ (sAll.trans (same_new nl _)) ⟨l, rfl, ?_⟩
        rw [List.map_append]
        exact upd_same
  · rintro σ' H4 ⟨s4, hno, z1, z2, z3, rfl⟩
    walk_at "rd"
    refine q _ _ (s2.trans (s3.trans s4)) ?_
    rw [fstP_none]
    · rfl
    · intro x hx
      obtain ⟨j, hj⟩ := List.getElem?_of_mem hx
      exact hno j (by have := (List.getElem?_eq_some_iff.mp hj).1; simp; omega) x hj
end
/-! ### first_wrong_place -/
theorem fstT_at {f : Str × Str → PyData → Option (List Key)} {es : List (PyData × PyData)} : ∀ {rs : List (Str × Str)} {i : Nat} {r : Str × Str} {d : PyData} {p : List Key}, (∀ j < i, ∀ r, rs[j]? = some r → (dgk es r.1).bind (f r) = none) → rs[i]? = some r → dgk es r.1 = some d → f r d = some p → fstT f es rs = some (.inr r.1 :: p)
  | [], _, _, _, _, _, h, _, _ => by simp at h
  | q :: rs, 0, r, d, p, _, h, g1, g2 => by
    simp at h; subst h
    simp only [fstT, g1, Option.bind_some, g2]
  | q :: rs, i + 1, r, d, p, hno, h, g1, g2 => by
    have h0 := hno 0 (by omega) q rfl
    simp only [fstT, h0]
    exact fstT_at (fun j (hj : j < i) z hz => hno (j + 1) (by omega) z (by simpa using hz)) (by simpa using h) g1 g2
theorem fstT_none {f : Str × Str → PyData → Option (List Key)} {es : List (PyData × PyData)} : ∀ {rs : List (Str × Str)}, (∀ r ∈ rs, (dgk es r.1).bind (f r) = none) → fstT f es rs = none
  | [], _ => rfl
  | q :: r, h => by
    simp only [fstT, h q (by simp)]
    exact fstT_none fun z hz => h z (by simp [hz])
theorem fstT_some {f : Str × Str → PyData → Option (List Key)} {es : List (PyData × PyData)} : ∀ {rs : List (Str × Str)} {p : List Key}, fstT f es rs = some p → ∃ r ∈ rs, ∃ d z, dgk es r.1 = some d ∧ f r d = some z ∧ p = .inr r.1 :: z
  | [], p, h => by cases h
  | r :: rs, p, h => by
    unfold fstT at h
    cases hq : (dgk es r.1).bind (f r) with
    | some z =>
      rw [hq] at h; cases h
      obtain ⟨d, h1, h2⟩ := Option.bind_eq_some_iff.mp hq
      exact ⟨r, by simp, d, z, h1, h2, rfl⟩
    | none =>
      rw [hq] at h
      obtain ⟨u, hu, d, z, h1, h2, h3⟩ := fstT_some h
      exact ⟨u, by simp [hu], d, z, h1, h2, h3⟩
/-- no path is longer than this -/
theorem fwpN_len : ∀ {n : Nat} {b : Bool} {d : PyData} {p : List Key}, okD n d → fwpN n b d = some p → p.length ≤ 3 * n
  | 0, _, _, _, h, _ => h.elim
  | n + 1, b, .bool _, p, _, h => by cases h
  | n + 1, b, .none, p, _, h => by cases h; simp
  | n + 1, b, .int _, p, _, h => by cases h; simp
  | n + 1, b, .str _, p, _, h => by cases h; simp
  | n + 1, b, .list _, p, _, h => by cases h; simp
  | n + 1, b, .tuple _, p, _, h => by cases h; simp
  | n + 1, b, .dict es, p, sm, h => by
    simp only [fwpN] at h
    split at h
    · cases h; simp; omega
    · split at h
      · obtain ⟨r, hr, d, z, h1, h2, rfl⟩ := fstT_some h
        unfold wfR at h2
        split at h2
        · cases h2; simp; omega
        · obtain ⟨q, hq, y, h3, rfl⟩ := fstP_some h2
          have ok2 : okD n d := (sm.2 _ (dgk_mem h1)).2
          cases n with
          | zero => exact ok2.elim
          | succ n =>
          have := fwpN_len (places_ok ok2 _ hq) h3
          have := (places_few ok2).2 _ hq
          simp
          omega
      · cases h; simp
def oddK : Key → Bool
  | .inr x => decide (formOf x = none)
  | .inl _ => false
theorem odd_of {F : Key → V → PyData → Prop} {kvs : List (Key × V)} {es : List (PyData × PyData)} (hp : Paired (fun (p : Key × V) (q : PyData × PyData) => q.1 = kD p.1 ∧ F p.1 p.2 q.2) kvs es) : ((kvs.map (·.1)).filter oddK).map kV = (oddS es).map V.str := by
  induction hp with
  | nil => rfl
  | @cons a b l1 l2 r _ ih =>
    obtain ⟨k, v⟩ := a
    obtain ⟨b1, b2⟩ := b
    obtain ⟨r1, r2⟩ := r
    simp only at r1
    subst r1
    cases k with
    | inl i =>
      have : oddS ((kD (.inl i), b2) :: l2) = oddS l2 := rfl
      rw [this, ← ih]
      rfl
    | inr x =>
      by_cases hx : formOf x = none
      · have e1 : oddS ((kD (.inr x), b2) :: l2) = x :: oddS l2 := by simp [oddS, kD, hx]
        have e2 : (((Sum.inr x, v) :: l1).map (·.1)).filter oddK = Sum.inr x :: (l1.map (·.1)).filter oddK := by
          rw [List.map_cons, List.filter_cons_of_pos (by simp [oddK, hx])]
        rw [e1, e2, List.map_cons, List.map_cons, ih]
        rfl
      · have e1 : oddS ((kD (.inr x), b2) :: l2) = oddS l2 := by simp [oddS, kD, hx]
        have e2 : (((Sum.inr x, v) :: l1).map (·.1)).filter oddK = (l1.map (·.1)).filter oddK := by
          rw [List.map_cons, List.filter_cons_of_neg (by simp [oddK, hx])]
        rw [e1, e2, ih]
theorem or_cut (R : Addr → Hp → Prop) {Z : Addr → Hp → Prop} {a : Prop} (ha : (∀ D1 H1, R D1 H1 → Z D1 H1) → a) (hz : ∀ D1 H1, R D1 H1 → Z D1 H1) : a := ha hz
theorem SX.sort {P : Program} {w : World} {K : PySem.W.Frag} {H : Hp} {n : Nat} {p1 : Addr} {es : List (PyData × PyData)} (h : SX P w K H (n + 1) (.ref p1) (.dict es)) : (∃ kvs, H p1 = some (.dK kvs) ∧ kvs.length = es.length ∧ Paired (fun (p : Key × V) (q : PyData × PyData) => q.1 = kD p.1 ∧ UX P w K H n (SX P w K H n) (formK p.1) p.2 q.2) kvs es) ∨ ∃ kvs, FzN w H p1 kvs ∧ kvs.length = es.length ∧ Paired (fun (p : NV) (q : PyData × PyData) => Rp H 3 p.2.1 q.1 ∧ UX P w K H n (SX P w K H n) (formD q.1) p.2.2 q.2) kvs es := by
  rcases (show _ ∨ _ from h) with ⟨p2, xs, e1, ha, hb, hn, hp⟩ | ⟨p2, kvs, e1, F, hb, hp⟩
  · cases e1; exact .inl ⟨xs, ha, pd_len hp, hp⟩
  · cases e1; exact .inr ⟨kvs, F, pd_len hp, hp⟩
def oddV : V → Bool
  | .str x => decide (formOf x = none)
  | _ => false
theorem odd_ofN {H : Hp} {F : PyData → V → PyData → Prop} {kvs : List NV} {es : List (PyData × PyData)} (hp : Paired (fun (p : NV) (q : PyData × PyData) => Rp H 3 p.2.1 q.1 ∧ F q.1 p.2.2 q.2) kvs es) : (kvs.filter fun p => oddV p.2.1).map (·.2.1) = (oddS es).map V.str := by
  induction hp with
  | nil => rfl
  | @cons a b l1 l2 r _ ih =>
    obtain ⟨k, u, v⟩ := a
    obtain ⟨b1, b2⟩ := b
    obtain ⟨r1, r2⟩ := r
    simp only at r1
    have no : oddV u = false → (∀ x, b1 = .str x → formOf x ≠ none) → (((k, u, v) :: l1).filter fun p => oddV p.2.1).map (·.2.1) = (oddS ((b1, b2) :: l2)).map V.str := fun h1 h2 => by
      rw [List.filter_cons_of_neg (by simp [h1]), ih]
      cases b1 with
      | str x =>
        have e1 : oddS ((PyData.str x, b2) :: l2) = oddS l2 := by simp [oddS, h2 x rfl]
        rw [e1]
      | _ => rfl
    cases b1 with
    | str x =>
      cases (show u = .str x from r1)
      by_cases hx : formOf x = none
      · have e1 : oddS ((PyData.str x, b2) :: l2) = x :: oddS l2 := by simp [oddS, hx]
        rw [e1, List.filter_cons_of_pos (by simp [oddV, hx]), List.map_cons, List.map_cons, ih]
      · exact no (by simp [oddV, hx]) (fun y hy => by cases hy; exact hx)
    | none => cases (show u = .non from r1); exact no rfl (fun y hy => by cases hy)
    | bool b => cases (show u = .bl b from r1); exact no rfl (fun y hy => by cases hy)
    | int i => cases (show u = .int i from r1); exact no rfl (fun y hy => by cases hy)
    | list ds => obtain ⟨_, _, rfl, _⟩ := r1; exact no rfl (fun y hy => by cases hy)
    | tuple ds => obtain ⟨_, _, rfl, _⟩ := r1; exact no rfl (fun y hy => by cases hy)
    | dict ds => obtain ⟨_, _, rfl, _⟩ := r1; exact no rfl (fun y hy => by cases hy)
abbrev s_first_wrong_place : Stmt := top 32
theorem sc_first_wrong_place : FnScope ["value", "is_inner", "odd", "word", "form", "found", "key"] ["value", "is_inner"] (defScope s_first_wrong_place) := ⟨rfl, rfl, rfl, by decide +kernel, rfl, by decide +kernel, by decide +kernel⟩
abbrev s_schema_problem : Stmt := top 33
theorem sc_schema_problem : FnScope ["value"] ["value"] (defScope s_schema_problem) := ⟨rfl, rfl, rfl, by decide +kernel, rfl, by decide +kernel, by decide +kernel⟩
abbrev s_is_schema : Stmt := top 34
theorem sc_is_schema : FnScope ["value"] ["value"] (defScope s_is_schema) := ⟨rfl, rfl, rfl, by decide +kernel, rfl, by decide +kernel, by decide +kernel⟩
section
variable {P : Program} {w : World} {K : PySem.W.Frag} {mg : Str → Option Value} {base : Heap} {f : Addr} {fd : FuncData}
theorem ok_fwp {n : Nat} (D : Def K mg "first_wrong_place" s_first_wrong_place f fd) (B : Blt mg) {ta : Addr} (g_TABLE : mg "TABLE" = some (.ref ta)) {as : List Addr} (hT : ∀ H : Hp, SqT K H ta (as.map V.ref)) (hR : Paired (fun a r => ∀ H : Hp, SqT K H a [.str r.1, .str r.2]) as tableR)
    (R_keyword_form : Rdy P w K mg base 1 "keyword_form" ["word"] sp_form) (R_wrong_from : Rdy P w K mg base (2 * n + 8) "wrong_from" ["word", "form", "schema", "is_inner"] (sp_wf P w K n)) : FnOk P w K mg base CX0 (2 * n + 9) f fd ["value", "is_inner"] (sp_fwp P w K (n + 1)) := by
  refine D.1.ok sc_first_wrong_place (fun vs H Q E h => ?_) (fun cdv A outer s H vs Q E hr h => ?_)
  · obtain ⟨v, d, b, rfl, _⟩ := h
    rfl
  obtain ⟨v, d, b, rfl, hd, sm, h100, q⟩ := h
  have hu := hu_of hr
  have hr1 : Room 1 _ := hr.mono (by omega)
  refine ⟨_, (pss_cons (ps_if (pt_val (pe_callB (isiOK (K := K) rfl) (by rfl) B.b_isinstance (by decide +kernel) (pa_cons (pv 0) (pa_cons (pe_bltn (v := .ty "bool") (by rfl) B.b_bool (by decide +kernel) rfl) pa_nil))))
   (pss_one (ps_ret pe_non))
   pss_nil)
  (pss_cons (ps_if (pt_not (pt_val (pe_callB (isiOK (K := K) rfl) (by rfl) B.b_isinstance (by decide +kernel) (pa_cons (pv 0) (pa_cons (pe_bltn (v := .ty "dict") (by rfl) B.b_dict (by decide +kernel) rfl) pa_nil)))))
   (pss_one (ps_ret (pe_tup pa_nil)))
   pss_nil)
  (pss_cons (ps_set (i := 2) sc_first_wrong_place.nd rfl (by first | exact Or.inl rfl | exact Or.inr rfl) (pe_callB (sortedSK (K := K) rfl) (by rfl) B.b_sorted (by decide +kernel) (pa_cons (pe_either (pe_lock (pe_lc (own := [("key", 6)]) (by rfl) sc_first_wrong_place.nd (pi_keys (pv 0)) (blkOk_by (own := [("key", 6)]) (N := ["value", "is_inner", "odd", "word", "form", "found", "key"]) (sc := defScope s_first_wrong_place) (by decide +kernel)) (fun _ _ _ _ _ => (pg_name (i := 6) sc_first_wrong_place.nd rfl (by first | exact Or.inl rfl | exact Or.inr rfl))) (fun _ _ _ _ _ => (pts_one (PW.pt (pw_and (pt_val (pe_callB (isiOK (K := K) rfl) (by rfl) B.b_isinstance (by decide +kernel) (pa_cons (pv 6) (pa_cons (pe_bltn (v := .ty "str") (by rfl) B.b_str (by decide +kernel) rfl) pa_nil)))) (pw_and1 (pt_cmpR op_isN (pe_c R_keyword_form hr1 rfl (pa_cons (pv 6) pa_nil)) pe_non (nomark _))))))) (fun _ _ _ _ _ => (pv 6)))) (pe_lc (own := [("key", 6)]) (by rfl) sc_first_wrong_place.nd (pi_N rfl (pv 0)) (blkOk_by (own := [("key", 6)]) (N := ["value", "is_inner", "odd", "word", "form", "found", "key"]) (sc := defScope s_first_wrong_place) (by decide +kernel)) (fun _ _ _ _ _ => (pg_name (i := 6) sc_first_wrong_place.nd rfl (by first | exact Or.inl rfl | exact Or.inr rfl))) (fun _ _ _ _ _ => (pts_one (PW.pt (pw_and (pt_val (pe_callB (isiOK (K := K) rfl) (by rfl) B.b_isinstance (by decide +kernel) (pa_cons (pv 6) (pa_cons (pe_bltn (v := .ty "str") (by rfl) B.b_str (by decide +kernel) rfl) pa_nil)))) (pw_and1 (pt_cmpR op_isN (pe_c R_keyword_form hr1 rfl (pa_cons (pv 6) pa_nil)) pe_non (nomark _))))))) (fun _ _ _ _ _ => (pv 6)))) pa_nil)))
  (pss_cons (ps_if (pt_cmpR (neNilK (K := K) rfl hu) (pv 2) (pe_lst pa_nil) (nomark _))
   (pss_one (ps_ret (pe_tup (pa_cons (pe_ix (ixLK (K := K) rfl) (pv 2) pe_int (fun _ _ => rfl)) pa_nil))))
   pss_nil)
  (pss_cons (ps_if (pt_not (pt_val (pe_callB (allK (K := K) rfl rfl) (by rfl) B.b_all (by decide +kernel) (pa_cons (pe_either (pe_lock (pe_lc (own := [("key", 6)]) (by rfl) sc_first_wrong_place.nd (pi_keys (pv 0)) (blkOk_by (own := [("key", 6)]) (N := ["value", "is_inner", "odd", "word", "form", "found", "key"]) (sc := defScope s_first_wrong_place) (by decide +kernel)) (fun _ _ _ _ _ => (pg_name (i := 6) sc_first_wrong_place.nd rfl (by first | exact Or.inl rfl | exact Or.inr rfl))) (fun _ _ _ _ _ => pts_nil) (fun _ _ _ _ _ => (pe_callB (isiOK (K := K) rfl) (by rfl) B.b_isinstance (by decide +kernel) (pa_cons (pv 6) (pa_cons (pe_bltn (v := .ty "str") (by rfl) B.b_str (by decide +kernel) rfl) pa_nil)))))) (pe_lc (own := [("key", 6)]) (by rfl) sc_first_wrong_place.nd (pi_N rfl (pv 0)) (blkOk_by (own := [("key", 6)]) (N := ["value", "is_inner", "odd", "word", "form", "found", "key"]) (sc := defScope s_first_wrong_place) (by decide +kernel)) (fun _ _ _ _ _ => (pg_name (i := 6) sc_first_wrong_place.nd rfl (by first | exact Or.inl rfl | exact Or.inr rfl))) (fun _ _ _ _ _ => pts_nil) (fun _ _ _ _ _ => (pe_callB (isiOK (K := K) rfl) (by rfl) B.b_isinstance (by decide +kernel) (pa_cons (pv 6) (pa_cons (pe_bltn (v := .ty "str") (by rfl) B.b_str (by decide +kernel) rfl) pa_nil)))))) pa_nil))))
   (pss_one (ps_ret (pe_tup pa_nil)))
   pss_nil)
  (pss_cons (ps_for PassesOwn.never rfl (pi_tup (pe_gref (by rfl) g_TABLE)) (pg_tup (by rfl) (pgs_cons (pg_name (i := 3) sc_first_wrong_place.nd rfl (by first | exact Or.inl rfl | exact Or.inr rfl)) (pgs_cons (pg_name (i := 4) sc_first_wrong_place.nd rfl (by first | exact Or.inl rfl | exact Or.inr rfl)) pgs_nil)))
   (pss_cons (ps_set (i := 5) sc_first_wrong_place.nd rfl (by first | exact Or.inl rfl | exact Or.inr rfl) (pe_ifExp (pt_cmp (pc_inX rfl (u9 hr) (pv 3) (pv 0))) (pe_c R_wrong_from hr rfl (pa_cons (pv 3) (pa_cons (pv 4) (pa_cons (pv 0) (pa_cons (pv 1) pa_nil))))) pe_non))
  (pss_one (ps_if (pt_cmpR op_notN (pv 5) pe_non (nomark _))
   (pss_one (ps_ret (pe_op (op_catAK (K := K) rfl) (pe_tup (pa_cons (pv 3) pa_nil)) (pv 5))))
   pss_nil))))
  (pss_one (ps_ret pe_non)))))))), ?_⟩
  walk_at "rd"
  have emp : ∀ H1, Same H H1 → fwpN (n + 1) b d = some [] → 0 ≤ sizeLine ∧ ∀ p, H1 p = none → Q (V.ref p) (upd H1 p (HO.tup [])) := fun H1 s1 h => ⟨Nat.zero_le _, fun p np => q _ _ (s1.trans (same_new np _)) (by rw [h]; exact ⟨p, rfl, upd_same⟩)⟩
  refine isiS .bool hd ⟨_, rfl, ite2 (fun h1 => ?_) fun h1 => isiS .dict hd ⟨_, rfl, ite2 (fun h2 => ?_) fun h2 => ?_⟩⟩
  · refine q _ _ (Same.refl _) ?_
    cases d <;> first | rfl | cases h1
  · refine emp _ (Same.refl _) ?_
    cases d <;> first | rfl | (exact absurd rfl h1) | cases h2
  obtain ⟨es, rfl⟩ : ∃ es, d = .dict es := by cases d <;> first | exact ⟨_, rfl⟩ | exact absurd rfl h2
  obtain ⟨p1, rfl, look⟩ := SX.look hd
  have h60 := sm.1
  have kR : ∀ (k : Key) (G : Hp), Rp G 1 (kV k) (kD k) := fun k G => by cases k <;> rfl
  have hle : (oddS es).length ≤ 60 := Nat.le_trans (List.length_filterMap_le _ _) h60
  apply or_cut (fun (D1 : Addr) (H1 : Hp) => Same H H1 ∧ H1 D1 = some (.lst ((oddS es).map V.str)))
  case ha =>
    intro tail
    rcases SX.sort hd with ⟨xs, ha, hxa, hp⟩ | ⟨kvs, F, hxa, hp⟩
    · refine .inl (lcU_keysF ha rfl (by simp) oddK (by omega) (fun k u H' N' hm ls ha' Nn => ?_) fun D1 H1 nD1 s1 eD1 => tail D1 H1 ⟨s1, ?_⟩)
      · walk_at "rd"
        refine .inl (isi1 .str (kR k _) ⟨_, rfl, ite2 (fun h3 => ?_) fun h3 => ?_⟩)
        · cases k with
          | inl i => cases h3
          | inr x =>
            refine ⟨1, _, .str x, rfl, rfl, fun H4 s4 => ?_⟩
            have : decide (formV (.str x) = V.non) = oddK (.inr x) := decide_eq_decide.mpr (by
              show (match formOf x with | some f => V.str f | none => V.non) = V.non ↔ formOf x = none
              cases formOf x <;> simp)
            have h6 := Nn _ s4
            rw [← this] at h6
            exact h6
        · cases k with
          | inl i => exact Nn _ (Same.refl _)
          | inr x => exact absurd rfl h3
      · rw [odd_of (F := fun k => UX P w K H n (SX P w K H n) (formK k)) hp] at eD1
        exact eD1
    · refine .inr ⟨_, rfl, p1, kvs, rfl, F, fun o o2 => lcN_filt kvs (fun p => oddV p.2.1) (fun p => p.2.1) (walk_N (kvs := kvs)) (fun _ _ _ _ ⟨h, k, v, e⟩ => ⟨h, _, e, rfl⟩) (fun H' s => s _ _ o2) (by omega) (by simp) (fun e H' N' he s Nn => ?_) fun D1 H1 nD1 s1 eD1 => tail D1 H1 ⟨s1, ?_⟩⟩
      · obtain ⟨i, hi⟩ := List.getElem?_of_mem he
        obtain ⟨q1, hq1, hr1', _⟩ := pd_get hp hi
        have hr2 := Rp.imp s hr1'
        walk_at "rd"
        refine .inl (isi1 .str hr2 ⟨_, rfl, ite2 (fun h3 => ?_) fun h3 => ?_⟩)
        · obtain ⟨x, hx⟩ : ∃ x, q1.1 = .str x := by cases h9 : q1.1 <;> first | exact ⟨_, rfl⟩ | (rw [h9] at h3; cases h3)
          rw [hx] at hr2
          have hv : e.2.1 = .str x := hr2
          rw [hv] at Nn ⊢
          refine ⟨1, _, .str x, rfl, rfl, fun H4 s4 => ?_⟩
          have : decide (formV (.str x) = V.non) = oddV (.str x) := decide_eq_decide.mpr (by
            show (match formOf x with | some f => V.str f | none => V.non) = V.non ↔ formOf x = none
            cases formOf x <;> simp)
          have h6 := Nn _ s4
          rw [← this] at h6
          exact h6
        · have hv : oddV e.2.1 = false := by
            cases h9 : q1.1 with
            | str x => rw [h9] at h3; exact absurd rfl h3
            | none => rw [h9] at hr2; rw [show e.2.1 = .non from hr2]; rfl
            | bool b => rw [h9] at hr2; rw [show e.2.1 = .bl b from hr2]; rfl
            | int b => rw [h9] at hr2; rw [show e.2.1 = .int b from hr2]; rfl
            | list ds => rw [h9] at hr2; obtain ⟨_, _, h8, _⟩ := hr2; rw [h8]; rfl
            | tuple ds => rw [h9] at hr2; obtain ⟨_, _, h8, _⟩ := hr2; rw [h8]; rfl
            | dict ds => rw [h9] at hr2; obtain ⟨_, _, h8, _⟩ := hr2; rw [h8]; rfl
          have h6 := Nn _ (Same.refl _)
          rw [hv] at h6
          exact h6
      · rw [odd_ofN (F := fun d => UX P w K H n (SX P w K H n) (formD d)) hp] at eD1
        exact eD1
  rintro D1 H1 ⟨s1, eD1⟩
  refine ⟨D1, oddS es, rfl, SqL.of eD1, by omega, fun z1 l2 pz1 sz1 nl2 => ?_⟩
  obtain rfl : z1 = srt (oddS es) := srt_is pz1 sz1
  have s2 := s1.trans (same_new nl2 (.lst ((srt (oddS es)).map V.str)))
  have el : upd H1 l2 (.lst ((srt (oddS es)).map V.str)) l2 = some (.lst ((srt (oddS es)).map V.str)) := upd_same
  generalize upd H1 l2 (.lst ((srt (oddS es)).map V.str)) = H2 at s2 el ⊢
  refine ⟨Nat.zero_le _, fun p np => ?_⟩
  have s3 := s2.trans (same_new np (.lst []))
  refine ⟨l2, p, _, rfl, rfl, SqL.of ((same_new np _) _ _ el), SqL.of upd_same, _, rfl, ?_⟩
  have el3 := (same_new np (.lst [])) _ _ el
  generalize upd H2 p (.lst []) = H3 at s3 el3 ⊢
  cases ho : srt (oddS es) with
  | cons x r =>
    rw [ho] at el3
    refine iteT' (by simp) ⟨l2, _, 0, .str x, rfl, rfl, SqL.of el3, atI_nat rfl, sz5 (by omega), fun t nt => q _ _ (s3.trans (same_new nt _)) ?_⟩
    simp only [fwpN, ho]
    exact ⟨t, rfl, upd_same⟩
  | nil =>
    refine iteF' (by simp) ?_
    apply or_cut (fun (D2 : Addr) (H4 : Hp) => Same H3 H4 ∧ H4 D2 = some (.lst ((es.map fun e => isT .str e.1).map V.bl)))
    case ha =>
      intro tail2
      rcases SX.sort hd with ⟨xs, ha, hxa, hp⟩ | ⟨kvs, F, hxa, hp⟩
      · refine .inl (lcU_keys (s3 _ _ ha) rfl ((es.map fun e => isT .str e.1).map V.bl) (by simp [hxa]) (by omega) ?_ fun D2 H4 nD2 s4 e4 => tail2 D2 H4 ⟨s4, e4⟩)
        intro i k u y H' N' hk hy ls ha' Nn
        obtain ⟨e, he, hk', _⟩ := pd_get hp hk
        simp only [List.getElem?_map, he, Option.map_some, Option.some.injEq] at hy
        subst hy
        walk_at "rd"
        refine .inl (isi1 .str (kR k _) ?_)
        rw [← hk']
        exact Nn _ (Same.refl _)
      · refine .inr ⟨_, rfl, p1, kvs, rfl, F.imp s3, fun o o2 => lcP_map (walk_N (kvs := kvs)) (fun i x => ∃ k v, kvs[i]? = some (k, x, v)) (fun _ _ _ _ h => h) (fun H' s => s _ _ o2) ((es.map fun e => isT .str e.1).map V.bl) (by simp [hxa]) (by omega) (fun i x y H' N' hx hy s Nn => ?_) fun D2 H4 nD2 s4 e4 => tail2 D2 H4 ⟨s4, e4⟩⟩
        obtain ⟨k, v, hk⟩ := hx
        obtain ⟨e, he, hk', _⟩ := pd_get hp hk
        simp only [List.getElem?_map, he, Option.map_some, Option.some.injEq] at hy
        subst hy
        walk_at "rd"
        exact .inl (isi1 .str (Rp.imp (s3.trans s) hk') (Nn _ (Same.refl _)))
    rintro D2 H4 ⟨s4, e4⟩
    have sA := s3.trans s4
    have e0 : (es.map fun e => isT .str e.1).all id = es.all fun e => isT .str e.1 := by rw [List.all_map]; rfl
    refine ⟨D2, _, rfl, SqL.of e4, _, rfl, ite2 (fun h5 => emp _ sA ?_) fun h5 => ?_⟩
    · simp only [fwpN, ho]
      rw [if_neg]
      rw [← e0]
      simpa using h5
    have hall : (es.all fun e => isT .str e.1) = true := by rw [← e0]; simpa using h5
    have hw : fwpN (n + 1) b (.dict es) = fstT (wfR (fwpN n true) n es b) es tableR := by
      simp only [fwpN, ho]
      rw [if_pos hall]
    rw [hw] at q
    have hlen : as.length = 38 := pd_len hR
    refine ⟨⟨_, hT _⟩, ?_⟩
    refine fo_it (walk_tup (xs := as.map V.ref)) (fun i σ' Hx => Same H Hx ∧ (∀ j < i, ∀ r, tableR[j]? = some r → (dgk es r.1).bind (wfR (fwpN n true) n es b r) = none) ∧ ∃ z1 z2 z3 z4, σ' = [some (V.ref p1), some (V.bl b), some (V.ref l2), z1, z2, z3, z4]) ⟨sA, by omega, _, _, _, _, rfl⟩ (fun _ _ _ _ _ => hT _) ?_ ?_
    · rintro i x σ' Hc Hd hi ⟨sc, hno, z1, z2, z3, z4, rfl⟩ ⟨rfl, hx⟩
      rw [List.getElem?_map, Option.map_eq_some_iff] at hx
      obtain ⟨a, ha1, rfl⟩ := hx
      obtain ⟨r, hr1', hrr⟩ := pd_get hR ha1
      simp only [gTup, gCons, gNil, gName]
      refine ⟨a, _, rfl, hrr _, rfl, _, _, rfl, _, _, rfl, rfl, ?_⟩
      walk_at "rd"
      have go : (dgk es r.1).bind (wfR (fwpN n true) n es b r) = none → ∀ j < i + 1, ∀ r, tableR[j]? = some r → (dgk es r.1).bind (wfR (fwpN n true) n es b r) = none := fun h j hj r2 hr2 => by
        by_cases hji : j = i
        · subst hji; rw [hr1'] at hr2; cases hr2; exact h
        · exact hno j (by omega) r2 hr2
      rcases look r.1 with ⟨g1, g2⟩ | ⟨u, e, g1, g2, g3⟩
      · refine ⟨none, g1.imp sc, iteF' (by simp) (iteF' (by simp) ⟨sc, go ?_⟩)⟩
        rw [g2]
        rfl
      refine ⟨some u, g1.imp sc, ?_⟩
      refine iteT' rfl ⟨r, V.ref p1, es, b, e, rfl, List.mem_of_getElem? hr1', hd.imp sc, sm, g2, by omega, fun v' H5 s5 hv => ?_⟩
      cases hj : wfR (fwpN n true) n es b r e with
      | none =>
        rw [hj] at hv
        cases hv
        refine iteF' (by simp) ⟨sc.trans s5, go ?_⟩
        rw [g2, Option.bind_some, hj]
      | some z =>
        rw [hj] at hv
        obtain ⟨t, rfl, ht⟩ := hv
        have hres := fstT_at hno hr1' g2 hj
        have hl := fwpN_len sm (show fwpN (n + 1) b (.dict es) = _ by rw [hw, hres])
        simp only [List.length_cons] at hl
        rw [hres] at q
        refine iteT' (by simp) ⟨sz5 (by omega), fun l nl => ⟨l, t, [.str r.1], z.map kV, rfl, rfl, SqT.of upd_same, SqT.of ((same_new nl _) _ _ ht), ?_, (fun h => by cases h), fun _ hp0 => ?_, fun _ hp0 l2 nl2 => ?_⟩⟩
        · exact sz5 (by simp; omega)
        · refine q _ _ ((sc.trans s5).trans (same_new nl _)) ⟨l, rfl, ?_⟩
          rw [upd_same, List.map_eq_nil_iff.mp hp0]
          rfl
        · refine q _ _ (((sc.trans s5).trans (same_new nl _)).trans (same_new nl2 _)) ?_
          exact ⟨l2, rfl, upd_same⟩
    · rintro σ' H5 ⟨s5, hno, z1, z2, z3, z4, rfl⟩
      walk_at "rd"
      refine q _ _ s5 ?_
      rw [fstT_none]
      · rfl
      · intro x hx
        obtain ⟨j, hj⟩ := List.getElem?_of_mem hx
        refine hno j ?_ x hj
        have h38 : tableR.length = 38 := rfl
        have := (List.getElem?_eq_some_iff.mp hj).1
        rw [List.length_map]
        omega
end

/-! ### nested_in, at every level -/
section
variable {P : Program} {w : World} {K : PySem.W.Frag} {mg : Str → Option Value} {base : Heap} {f : Addr} {fd : FuncData}
theorem ok_nests (D : Def K mg "nested_in" s_nested_in f fd) (B : Blt mg) {ta : Addr} (g_TABLE : mg "TABLE" = some (.ref ta)) {as : List Addr} (hT : ∀ H : Hp, SqT K H ta (as.map V.ref)) (hR : Paired (fun a r => ∀ H : Hp, SqT K H a [.str r.1, .str r.2]) as tableR)
    (R_has_form : ∀ n, Rdy P w K mg base (n + 5) "has_form" ["form", "value"] (sp_hf P w K n)) (R_places_of : ∀ m, Rdy P w K mg base 2 "places_of" ["form", "value"] (sp_places P w K m)) : ∀ n : Nat, FnOk P w K mg base CX0 (n + 6) f fd ["value"] (sp_nest P w K n)
  | 0 => ⟨fun vs H Q E ⟨_, _, _, h, _⟩ => h.elim, fun A outer s H args us vs Q E _ _ _ _ ⟨_, _, _, h, _⟩ => h.elim⟩
  | n + 1 => ok_nest D B g_TABLE hT hR (R_has_form n) R_places_of (D.rdy (fun _ _ _ _ _ _ us hl => match us, hl with | [_], _ => rfl) (ok_nests D B g_TABLE hT hR R_has_form R_places_of n))
end

/-! ### schema_problem, is_schema -/
def sp_sp (P : Program) (w : World) (K : PySem.W.Frag) (n : Nat) : Sp := fun vs H Q _ => ∃ v d, vs = [v] ∧ SX P w K H n v d ∧ okD n d ∧ n ≤ 100 ∧ ∀ v' H', Same H H' → pathV (spN n d) H' v' → Q v' H'
def sp_iss (P : Program) (w : World) (K : PySem.W.Frag) (n : Nat) : Sp := fun vs H Q _ => ∃ v d, vs = [v] ∧ SX P w K H n v d ∧ okD n d ∧ n ≤ 100 ∧ ∀ H', Same H H' → Q (.bl (decide (spN n d = none))) H'
section
variable {P : Program} {w : World} {K : PySem.W.Frag} {mg : Str → Option Value} {base : Heap} {f : Addr} {fd : FuncData}
theorem ok_fwps {f2 : Addr} {fd2 : FuncData} (D : Def K mg "first_wrong_place" s_first_wrong_place f fd) (D2 : Def K mg "wrong_from" s_wrong_from f2 fd2) (B : Blt mg) {ta : Addr} (g_TABLE : mg "TABLE" = some (.ref ta)) {as : List Addr} (hT : ∀ H : Hp, SqT K H ta (as.map V.ref)) (hR : Paired (fun a r => ∀ H : Hp, SqT K H a [.str r.1, .str r.2]) as tableR)
    {ca : Addr} (g_COMPANIONS : mg "COMPANIONS" = some (.ref ca)) {ces : Array DictEntry} {cn : Nat} (hC : KDict K w ca ces cn) (hcb : compB K ca = true)
    (R_keyword_form : Rdy P w K mg base 1 "keyword_form" ["word"] sp_form) (R_has_form : ∀ n, Rdy P w K mg base (n + 5) "has_form" ["form", "value"] (sp_hf P w K n)) (R_places_of : ∀ m, Rdy P w K mg base 2 "places_of" ["form", "value"] (sp_places P w K m)) : ∀ n : Nat, FnOk P w K mg base CX0 (2 * n + 7) f fd ["value", "is_inner"] (sp_fwp P w K n)
  | 0 => ⟨fun vs H Q E ⟨_, _, _, _, h, _⟩ => h.elim, fun A outer s H args us vs Q E _ _ _ _ ⟨_, _, _, _, h, _⟩ => h.elim⟩
  | n + 1 => ok_fwp D B g_TABLE hT hR R_keyword_form (D2.rdy (fun _ _ _ _ _ _ us hl => match us, hl with | [_, _, _, _], _ => rfl) (ok_wf D2 B g_COMPANIONS hC hcb (fun d p => fwpN_len) (R_has_form n) R_places_of (D.rdy (fun _ _ _ _ _ _ us hl => match us, hl with | [_, _], _ => rfl) (ok_fwps D D2 B g_TABLE hT hR g_COMPANIONS hC hcb R_keyword_form R_has_form R_places_of n))))
theorem ok_sp {n : Nat} (D : Def K mg "schema_problem" s_schema_problem f fd) (B : Blt mg) {t1 : Tok} (g_MOST_NESTED : mg "MOST_NESTED" = some (.int 12 t1)) (R_nested_in : Rdy P w K mg base (n + 6) "nested_in" ["value"] (sp_nest P w K n)) (R_first_wrong_place : Rdy P w K mg base (2 * n + 7) "first_wrong_place" ["value", "is_inner"] (sp_fwp P w K n)) : FnOk P w K mg base CX0 (2 * n + 8) f fd ["value"] (sp_sp P w K n) := by
  refine D.1.ok sc_schema_problem (fun vs H Q E h => ?_) (fun cdv A outer s H vs Q E hr h => ?_)
  · obtain ⟨v, d, rfl, _⟩ := h
    rfl
  obtain ⟨v, d, rfl, hd, sm, h100, q⟩ := h
  have hr6 : Room (n + 6) _ := hr.mono (by omega)
  refine ⟨_, (pss_one (ps_ret (pe_ifExp (pt_cmpR op_gt (pe_c R_nested_in hr6 rfl (pa_cons (pv 0) pa_nil)) (pe_gint (by rfl) g_MOST_NESTED) (nomark _)) (pe_tup pa_nil) (pe_c R_first_wrong_place hr rfl (pa_cons (pv 0) (pa_cons pe_bl pa_nil)))))), ?_⟩
  walk_at "rd"
  refine ⟨v, d, rfl, hd, sm, h100, fun H1 s1 => ?_⟩
  walk_at "rd"
  refine ite2 (fun h => ⟨Nat.zero_le _, fun p np => q _ _ (s1.trans (same_new np _)) ?_⟩) fun h => ⟨v, d, false, rfl, hd.imp s1, sm, h100, fun v' H2 s2 p2 => q _ _ (s1.trans s2) ?_⟩
  · rw [spN, if_pos h]; exact ⟨p, rfl, upd_same⟩
  · rw [spN, if_neg h]; exact p2
theorem ok_iss {n : Nat} (D : Def K mg "is_schema" s_is_schema f fd) (B : Blt mg) (R_schema_problem : Rdy P w K mg base (2 * n + 8) "schema_problem" ["value"] (sp_sp P w K n)) : FnOk P w K mg base CX0 (2 * n + 9) f fd ["value"] (sp_iss P w K n) := by
  refine D.1.ok sc_is_schema (fun vs H Q E h => ?_) (fun cdv A outer s H vs Q E hr h => ?_)
  · obtain ⟨v, d, rfl, _⟩ := h
    rfl
  obtain ⟨v, d, rfl, hd, sm, h100, q⟩ := h
  refine ⟨_, (pss_one (ps_ret (pe_cmpR op_isN (pe_c R_schema_problem hr rfl (pa_cons (pv 0) pa_nil)) pe_non (nomark _)))), ?_⟩
  walk_at "rd"
  refine ⟨v, d, rfl, hd, sm, h100, fun v' H1 s1 p1 => ?_⟩
  have := q _ s1
  cases hp : spN n d with
  | none => rw [hp] at p1 this; cases p1; simpa using this
  | some p => rw [hp] at p1 this; obtain ⟨t, rfl, _⟩ := p1; simpa using this
end

local macro_rules | `(tactic| walk_at "rd") => `(tactic| simp only [tLenSetS, rIsB, rIsA, tMatch, tDGet1, tDGet2, tLock_asg, tListEn, tTwo5, iZip, tM1, tM0, tFmt, tJs, tRevL, tPar3, tSeq, tNext, tIfS, tB, tTest, tCB, tCons, tC, tNil, tVar, tRet, tRetN, tAsg, gName, tOp, tUn, tAnd, tOr, tNot, tAndV, tOrV, tNotV, tIf, tDrop, tCall, tCallK, rI, rI0, rU, rEq, rNe, tPar, tAug, ipI, tLst, tTup, tDNewK, tDGet, tDIn, tDNotIn, sDPut, tBM, tBM0, gSub, rSetL, tChain, gTup, gCons, gNil, tYes, tBreak, tCont, tDisp, tPairs, rLenK, rLenA, rListK, L2.start, L2.wipe, cx_K, tFor_eq, tLc_eq, tDc_eq, tSl, tPart, tNoPart, iList, iTup, iRng1, iRng2, iKeys, iStr, iEnum, iEnumK, List.map_cons, List.map_nil, List.length_cons, List.length_nil, Nat.reduceAdd, Nat.reduceSub, List.reduceReplicate, List.replicate_zero, List.append_nil, List.nil_append, List.cons_append, List.getElem?_cons_zero, List.getElem?_cons_succ, Option.some.injEq, exists_eq_left', exists_eq_left, exists_eq', exists_eq, exists_and_left, V.int.injEq, V.ref.injEq, V.str.injEq, V.bl.injEq, List.cons.injEq, and_true, true_and, and_assoc, Bool.false_eq_true, ↓reduceIte, List.set_cons_zero, List.set_cons_succ, decide_eq_true_eq, Bool.not_eq_true', decide_eq_false_iff_not, Nat.zero_add, Nat.zero_sub, Nat.sub_self, Nat.sub_zero])

local macro_rules | `(tactic| walk_at "rds") => `(tactic| simp only [List.map_cons, List.map_nil, tSeq, tNext, tIfS, tRet, tRetN, tAsg, gName, tDrop, L2.start, List.length_cons, List.length_nil, Nat.reduceAdd, Nat.reduceSub, List.reduceReplicate, List.replicate_zero, List.append_nil, List.nil_append, List.cons_append, List.set_cons_zero, List.set_cons_succ, Nat.zero_add, Nat.zero_sub, Nat.sub_self, Nat.sub_zero, cx_K])

/-! ### _law_begun, _law_draw, _law_pick -/
abbrev mkv (a b c d : V) : List (Key × V) := [(Sum.inr "great", a), (Sum.inr "seed", b), (Sum.inr "spot", c), (Sum.inr "room", d)]
theorem kn1 : ¬ Str.ofString "great" = Str.ofString "spot" := by decide +kernel
theorem kn2 : ¬ Str.ofString "seed" = Str.ofString "spot" := by decide +kernel
theorem kn3 : ¬ Str.ofString "great" = Str.ofString "seed" := by decide +kernel
theorem kn4 : ¬ Str.ofString "room" = Str.ofString "spot" := by decide +kernel
theorem kn5 : ¬ Str.ofString "great" = Str.ofString "room" := by decide +kernel
theorem kn6 : ¬ Str.ofString "seed" = Str.ofString "room" := by decide +kernel
theorem kn7 : ¬ Str.ofString "spot" = Str.ofString "room" := by decide +kernel
theorem mk_merge (a b c d : V) : mergeK [] [((Sum.inr "great" : Key), a), (Sum.inr "seed", b), (Sum.inr "spot", c), (Sum.inr "room", d)] = mkv a b c d := by
  simp [mergeK, putK, kn1, kn2, kn3, kn5, kn6, kn7, mkv]
theorem mv_great (a b c d : V) : valV (mkv a b c d) (Sum.inr "great") = some a := by simp [valV]
theorem mv_seed (a b c d : V) : valV (mkv a b c d) (Sum.inr "seed") = some b := by simp [valV, kn3]
theorem mv_spot (a b c d : V) : valV (mkv a b c d) (Sum.inr "spot") = some c := by simp [valV, kn1, kn2]
theorem mp_spot (a b c d e : V) : putK (mkv a b c d) (Sum.inr "spot") e = mkv a b e d := by
  unfold putK
  simp [kn1, kn2, kn4, mkv]
theorem layAll_ints : ∀ xs : List Int, PyData.canLayAll0 (xs.map .int) = true
  | [] => rfl
  | x :: r => by
    rw [List.map_cons, PyData.canLayAll0, layAll_ints r]
    rfl
theorem depth_ints : ∀ xs : List Int, PyData.depthAll (xs.map .int) = 0
  | [] => rfl
  | x :: r => by
    rw [List.map_cons, PyData.depthAll, depth_ints r]
    rfl
theorem shaped_ints (xs : List Int) : SeqAt.shaped (.list (xs.map .int)) = true := by
  show (PyData.canLayAll0 (xs.map .int) && decide (PyData.depthAll (xs.map .int) + 1 ≤ 64)) = true
  rw [layAll_ints, depth_ints]
  rfl
theorem Dp_ints {K : PySem.W.Frag} {H : Hp} {a : Addr} {xs : List Int} (h : H a = some (.lst (xs.map V.int))) : Dp K H (.ref a) (.list (xs.map .int)) := by
  refine .lst (SqL.of h) ?_
  have : ∀ l : List Int, DpAll K H (l.map V.int) (l.map PyData.int) := by
    intro l
    induction l with
    | nil => exact .nil
    | cons x r ih => exact .cons (.int x) ih
  exact this xs
theorem eqv_nilI (xs : List Int) : PyData.eqv (.list (xs.map .int)) (.list []) = decide (xs = []) := by
  cases xs with
  | nil => rfl
  | cons x r => rfl
def MSr (H : Hp) (m g : Addr) (b rm : Int) : Prop := m ≠ g ∧ ∃ (gs : List Int) (sd k : Int), H m = some (.dK (mkv (.ref g) (.int sd) (.int k) (.int rm))) ∧ H g = some (.lst (gs.map V.int)) ∧ gs.length ≤ 63 ∧ (∀ x ∈ gs, 0 ≤ x) ∧ 0 ≤ sd ∧ 0 ≤ k ∧ k ≤ b
theorem MSr.up {H : Hp} {m g : Addr} {b c rm : Int} (h : MSr H m g b rm) (l : b ≤ c) : MSr H m g c rm := by
  obtain ⟨h0, gs, sd, k, h1, h2, h3, h4, h5, h6, h7⟩ := h
  exact ⟨h0, gs, sd, k, h1, h2, h3, h4, h5, h6, by omega⟩
theorem kn8 : ¬ Str.ofString "spot" = Str.ofString "room" := by decide +kernel
theorem mv_room (a b c d : V) : valV (mkv a b c d) (Sum.inr "room") = some d := by simp [valV, kn5, kn6, kn7]
theorem mp_room (a b c d e : V) : putK (mkv a b c d) (Sum.inr "room") e = mkv a b c e := by
  unfold putK
  simp [kn5, kn6, kn7, mkv]
theorem MSr.get {H : Hp} {m g : Addr} {b rm : Int} (h : MSr H m g b rm) : DGet H m (.str (Str.ofString "room")) (some (.int rm)) := by
  obtain ⟨h0, gs, sd, k, h1, _⟩ := h
  exact .inl ⟨_, Sum.inr "room", .inl h1, rfl, (mv_room _ _ _ _).symm⟩
theorem MSr.same {H H' : Hp} {m g : Addr} {b rm : Int} (h : MSr H m g b rm) (s : Same H H') : MSr H' m g b rm := by
  obtain ⟨h0, gs, sd, k, h1, h2, h3⟩ := h
  exact ⟨h0, gs, sd, k, s _ _ h1, s _ _ h2, h3⟩
theorem MSr.here {H : Hp} {m g : Addr} {b rm : Int} (h : MSr H m g b rm) : ∀ a ∈ [m, g], H a ≠ none := by
  obtain ⟨h0, gs, sd, k, h1, h2, h3⟩ := h
  simp [h1, h2]
theorem MSr.ne {H : Hp} {m g p : Addr} {b rm : Int} (h : MSr H m g b rm) (n : H p = none) : p ∉ [m, g] := fun e => h.here p e n
def sp_begun (K : PySem.W.Frag) : Sp := fun vs H Q _ => ∃ a ns, vs = [.ref a] ∧ Scr K H a ns ∧ ns.length ≤ 63 ∧ ∀ m g H', Same H H' → H m = none → H g = none → MSr H' m g 0 0 → Q (.ref m) H'
def sp_draw : Sp := fun vs H Q _ => ∃ m g b rm lim, vs = [.ref m, .int lim] ∧ MSr H m g b rm ∧ b < 2 ^ 60 ∧ 0 < lim ∧ lim < 1073741824 ∧ ∀ n H', 0 ≤ n → n < lim → Keep [m, g] H H' → MSr H' m g (b + 1) rm → Q (.int n) H'
def sp_pick : Sp := fun vs H Q _ => ∃ m g b rm s xs, vs = [.ref m, .ref s] ∧ MSr H m g b rm ∧ b < 2 ^ 60 ∧ H s = some (.lst xs) ∧ s ∉ [m, g] ∧ 0 < xs.length ∧ xs.length ≤ 1000 ∧ ∀ v H', v ∈ xs → Keep [m, g] H H' → MSr H' m g (b + 1) rm → Q v H'
abbrev s_law_begun : Stmt := top 36
theorem sc_law_begun : FnScope ["_law_script", "_law_seed", "_law_cell"] ["_law_script"] (defScope s_law_begun) := ⟨rfl, rfl, rfl, by decide +kernel, rfl, by decide +kernel, by decide +kernel⟩
abbrev s_law_draw : Stmt := top 37
theorem sc_law_draw : FnScope ["_law_m", "_law_limit", "_law_spot", "_law_at", "_law_cell", "_law_number"] ["_law_m", "_law_limit"] (defScope s_law_draw) := ⟨rfl, rfl, rfl, by decide +kernel, rfl, by decide +kernel, by decide +kernel⟩
abbrev s_law_pick : Stmt := top 38
theorem sc_law_pick : FnScope ["_law_m", "_law_some"] ["_law_m", "_law_some"] (defScope s_law_pick) := ⟨rfl, rfl, rfl, by decide +kernel, rfl, by decide +kernel, by decide +kernel⟩
theorem draw_end (x lim : Int) (h : 0 < lim) : 0 ≤ x % lim ∧ x % lim < lim := ⟨Int.emod_nonneg _ (by omega), Int.emod_lt_of_pos _ h⟩
theorem ixN_nat {n j : Nat} (h : j < n) : ixN n (j : Int) = some j := by
  unfold ixN
  simp
  omega
section
variable {P : Program} {w : World} {K : PySem.W.Frag} {mg : Str → Option Value} {base : Heap} {f : Addr} {fd : FuncData}
theorem ok_begun (D : Def K mg "_law_begun" s_law_begun f fd) (B : Blt mg) : FnOk P w K mg base CX0 1 f fd ["_law_script"] (sp_begun K) := by
  refine D.1.ok sc_law_begun (fun vs H Q E h => ?_) (fun cdv A outer s H vs Q E hr h => ?_)
  · obtain ⟨a, ns, rfl, _⟩ := h
    rfl
  obtain ⟨a, ns, rfl, hs, h63, q⟩ := h
  have hu := hu_of hr
  refine ⟨_, (pss_cons (ps_set (i := 1) sc_law_begun.nd rfl (by first | exact Or.inl rfl | exact Or.inr rfl) pe_int)
  (pss_cons (ps_for PassesOwn.never rfl (pi_list (pv 0)) (pg_name (i := 2) sc_law_begun.nd rfl (by first | exact Or.inl rfl | exact Or.inr rfl))
   (pss_one (ps_set (i := 1) sc_law_begun.nd rfl (by first | exact Or.inl rfl | exact Or.inr rfl) (pe_op op_mod (pe_op op_add (pe_op op_mul (pv 1) pe_int) (pv 2)) pe_int))))
  (pss_one (ps_ret (pe_disp (L2.pps_cons pe_str (pe_lc (own := [("_law_cell", 2)]) (by rfl) sc_law_begun.nd (pi_list (pv 0)) (blkOk_by (own := [("_law_cell", 2)]) (N := ["_law_script", "_law_seed", "_law_cell"]) (sc := defScope s_law_begun) (by decide +kernel)) (fun _ _ _ _ _ => (pg_name (i := 2) sc_law_begun.nd rfl (by first | exact Or.inl rfl | exact Or.inr rfl))) (fun _ _ _ _ _ => pts_nil) (fun _ _ _ _ _ => (pe_ifExp (pt_cmpR op_ge (pv 2) (pe_op op_pow pe_int pe_int) (nomark _)) (pv 2) pe_int))) (L2.pps_cons pe_str (pv 1) (L2.pps_cons pe_str pe_int (L2.pps_cons pe_str pe_int L2.pps_nil)))) (by rfl) (by rfl) (fun z => by cases z) (by decide)))))), ?_⟩
  walk_at "rd"
  refine ⟨⟨_, hs.sq⟩, ?_⟩
  refine fo_it (walk_list (xs := ns.map V.int)) (fun _ σ' H' => H' = H ∧ ∃ (sd : Int) (z : Option V), 0 ≤ sd ∧ sd < 2147483647 ∧ σ' = [some (V.ref a), some (V.int sd), z]) ⟨rfl, 17, none, by decide, by decide, rfl⟩ (fun _ _ _ _ h => by rw [h.1]; exact hs.sq) ?_ ?_
  · rintro i x σ' H1 H2 hi ⟨rfl, sd, z, h0, h1, rfl⟩ ⟨rfl, hx⟩
    rw [List.getElem?_map, Option.map_eq_some_iff] at hx
    obtain ⟨x, hx, rfl⟩ := hx
    walk_at "rd"
    have m1 := mod_in (sd * 69621 + x) (m := 2147483647) (by decide)
    exact ⟨.inr (by decide), by decide, _, m1.1, m1.2, rfl⟩
  · rintro σ' H1 ⟨rfl, sd, z, h0, h1, rfl⟩
    walk_at "rd"
    intro p np
    have s0 := same_new np (.dK [])
    have hs1 := hs.same s0
    refine ⟨⟨_, hs1.sq⟩, ?_⟩
    refine lcP_list hs1.sq ((ns.map fun x => if 10 ^ 18 ≤ x then x else 0).map V.int) (by simp) (by simp; omega) ?_ ?_
    · intro i x y H' N hx hy s' N'
      rw [List.getElem?_map, Option.map_eq_some_iff] at hx
      obtain ⟨x, hx, rfl⟩ := hx
      simp only [List.getElem?_map, hx, Option.map_some, Option.some.injEq] at hy
      subst hy
      walk_at "rd"
      refine ⟨⟨by decide, by decide, by decide⟩, ?_⟩
      have e18 : (10 : Int) ^ Int.toNat 18 = 10 ^ 18 := by decide
      rw [e18]
      have hN := N' _ (Same.refl _)
      split
      · rename_i h; rw [if_pos h] at hN; exact hN
      · rename_i h; rw [if_neg h] at hN; exact hN
    · intro D' H' nD s' e
      have hDp : D' ≠ p := fun z => by rw [z, upd_same] at nD; cases nD
      have nD1 : H1 D' = none := by rw [upd_ne hDp] at nD; exact nD
      refine ⟨s' _ _ upd_same, [(Sum.inr "great", .ref D'), (Sum.inr "seed", .int sd), (Sum.inr "spot", .int 0), (Sum.inr "room", .int 0)], rfl, by simp, ?_⟩
      rw [mk_merge]
      refine q p D' _ (same_mut (s0.trans s') np) np nD1 ⟨hDp.symm, _, sd, 0, upd_same, by rw [upd_ne hDp]; exact e, by simp; omega, fun x hx => ?_, h0, by omega, by omega⟩
      obtain ⟨y, hy, rfl⟩ := List.mem_map.mp hx
      split <;> omega
theorem ok_draw (D : Def K mg "_law_draw" s_law_draw f fd) (B : Blt mg) : FnOk P w K mg base CX0 1 f fd ["_law_m", "_law_limit"] sp_draw := by
  refine D.1.ok sc_law_draw (fun vs H Q E h => ?_) (fun cdv A outer s H vs Q E hr h => ?_)
  · obtain ⟨m, g, b, rm, lim, rfl, _⟩ := h
    rfl
  obtain ⟨m, g, b, rm, lim, rfl, ⟨hne, gs, sd, k, hm, hg, hl, hpos, hsd, hk, hkb⟩, hb, h0, h1, q⟩ := h
  have hu := hu_of hr
  refine ⟨_, (pss_cons (ps_set (i := 2) sc_law_draw.nd rfl (by first | exact Or.inl rfl | exact Or.inr rfl) (pe_dget hu (pv 0) pe_str (fun _ _ => rfl)))
  (pss_cons (ps_dput hu (pv 0) pe_str (pe_op op_add (pv 2) pe_int) rfl)
  (pss_cons (ps_if (pt_cmpR (neDK (K := K) rfl hr.units) (pe_dget hu (pv 0) pe_str (fun _ _ => rfl)) (pe_lst pa_nil) (nomark _))
   (pss_cons (ps_set (i := 3) sc_law_draw.nd rfl (by first | exact Or.inl rfl | exact Or.inr rfl) (pe_op op_mod (pv 2) (pe_callB (lenK (K := K) rfl) (by rfl) B.b_len (by decide +kernel) (pa_cons (pe_dget hu (pv 0) pe_str (fun _ _ => rfl)) pa_nil))))
  (pss_cons (ps_set (i := 4) sc_law_draw.nd rfl (by first | exact Or.inl rfl | exact Or.inr rfl) (pe_ix (ixLK (K := K) rfl) (pe_dget hu (pv 0) pe_str (fun _ _ => rfl)) (pv 3) (fun _ _ => rfl)))
  (pss_one (ps_if (pt_cmpR op_gt (pv 4) pe_int (nomark _))
   (pss_cons (ps_asg (pe_op op_fdiv (pv 4) (pv 1)) (pg_sub (pe_dget hu (pv 0) pe_str (fun _ _ => rfl)) (pv 3) set_list))
  (pss_one (ps_ret (pe_op op_mod (pv 4) (pv 1)))))
   pss_nil))))
   pss_nil)
  (pss_cons (ps_set (i := 5) sc_law_draw.nd rfl (by first | exact Or.inl rfl | exact Or.inr rfl) (pe_op op_mod (pe_op op_add (pe_op op_add (pe_op op_add (pe_dget hu (pv 0) pe_str (fun _ _ => rfl)) (pe_op op_mul (pe_op op_mul pe_int (pv 2)) (pv 2))) (pe_op op_mul pe_int (pv 2))) pe_int) pe_int))
  (pss_one (ps_ret (pe_op op_mod (pe_op op_fdiv (pe_op op_mod (pe_op op_pow (pe_op op_mod (pe_op op_mul (pv 5) pe_int) pe_int) pe_int) pe_int) pe_int) (pv 1)))))))), ?_⟩
  refine cutM (fun σ' H' => H' = H ∧ σ' = [some (V.ref m), some (V.int lim), some (V.int k), none, none, none]) (fun N hN => ?_) ?_
  · walk_at "rd"
    exact ⟨_, .inl ⟨_, Sum.inr "spot", .inl hm, rfl, (mv_spot _ _ _ _).symm⟩, hN _ _ ⟨rfl, rfl⟩⟩
  rintro σ' H9 ⟨e9, rfl⟩
  rw [e9]
  clear e9 H9
  obtain ⟨H1, eH1⟩ : ∃ H1, H1 = upd H m (.dK (mkv (.ref g) (.int sd) (.int (k + 1)) (.int rm))) := ⟨_, rfl⟩
  have hm1 : H1 m = some (.dK (mkv (.ref g) (.int sd) (.int (k + 1)) (.int rm))) := by rw [eH1, upd_same]
  have hg1 : H1 g = some (.lst (gs.map V.int)) := by rw [eH1, upd_ne hne.symm]; exact hg
  have K1 : Keep [m, g] H H1 := by rw [eH1]; exact (Keep.refl _ _).mut (by simp)
  refine cutM (fun σ' H' => H' = H1 ∧ σ' = [some (V.ref m), some (V.int lim), some (V.int k), none, none, none]) (fun N hN => ?_) ?_
  · walk_at "rd"
    refine ⟨_, DPut.k (k := Sum.inr "spot") hm (sz5l (by simp)), hN _ _ ⟨?_, rfl⟩⟩
    rw [mp_spot, eH1]
  rintro σ' H9 ⟨e9, rfl⟩
  rw [e9]
  clear e9 H9
  have hG : ∀ {H' : Hp}, Same H1 H' → DGet H' m (V.str (Str.ofString "great")) (some (.ref g)) := fun s => .inl ⟨_, Sum.inr "great", .inl (s _ _ hm1), rfl, (mv_great _ _ _ _).symm⟩
  have hS : ∀ {H' : Hp}, Same H1 H' → DGet H' m (V.str (Str.ofString "seed")) (some (.int sd)) := fun s => .inl ⟨_, Sum.inr "seed", .inl (s _ _ hm1), rfl, (mv_seed _ _ _ _).symm⟩
  have fin : ∀ (H' : Hp) (x : Int), Keep [m, g] H H' → MSr H' m g (b + 1) rm → Q (.int (x % lim)) H' := fun H' x kk mm => q _ H' (draw_end x lim h0).1 (draw_end x lim h0).2 kk mm
  have mst : ∀ {H' : Hp}, Same H1 H' → MSr H' m g (b + 1) rm := fun s => ⟨hne, gs, sd, k + 1, s _ _ hm1, s _ _ hg1, hl, hpos, hsd, by omega, by omega⟩
  have pw : ∀ x : Int, CPow (x % 2147483647) 3 := fun x => by
    have := mod_in x (m := 2147483647) (by decide)
    exact ⟨by decide, by decide, by omega⟩
  walk_at "rd"
  refine ⟨_, hG (Same.refl _), Nat.zero_le _, fun p np => ?_⟩
  have s1 := same_new np (.lst [])
  refine ⟨_, _, Dp_ints (s1 _ _ hg1), Dp_ints (xs := []) upd_same, shaped_ints _, rfl, ?_⟩
  rw [show (PyData.list (List.map PyData.int [])) = .list [] from rfl, eqv_nilI]
  have K2 : Keep [m, g] H (upd H1 p (.lst [])) := K1.trans (.of s1)
  have rest : ∀ H', Keep [m, g] H H' → Same H1 H' → (∃ x_8, DGet H' m (V.str (Str.ofString "seed")) (some x_8) ∧ CMul 104729 k ∧ CMul (104729 * k) k ∧ ∃ i, x_8 = V.int i ∧ CMul 7919 k ∧ 0 < (2147483647 : Int) ∧ CMul ((i + 104729 * k * k + 7919 * k + 31) % 2147483647) 48271 ∧ 0 < (2147483647 : Int) ∧ CPow ((i + 104729 * k * k + 7919 * k + 31) % 2147483647 * 48271 % 2147483647) 3 ∧ 0 < (2147483629 : Int) ∧ CDiv (((i + 104729 * k * k + 7919 * k + 31) % 2147483647 * 48271 % 2147483647) ^ Int.toNat 3 % 2147483629) 7 ∧ 0 < lim ∧ Q (V.int (((i + 104729 * k * k + 7919 * k + 31) % 2147483647 * 48271 % 2147483647) ^ Int.toNat 3 % 2147483629 / 7 % lim)) H') := fun H' kk ss =>
    ⟨_, hS ss, .inl (by decide), .inr (by omega), sd, rfl, .inl (by decide), by decide, .inr (by decide), by decide, pw _, by decide, ⟨by decide, by decide⟩, h0, fin H' _ kk (mst ss)⟩
  refine ⟨_, rfl, ite2 (fun hn => ?_) fun hn => rest _ K2 s1⟩
  have hnil : gs ≠ [] := by simpa using hn
  have hlp : 0 < gs.length := List.length_pos_iff.mpr hnil
  have hml : ((gs.map V.int).length : Int) = gs.length := by simp
  have mm := mod_in k (m := (gs.length : Int)) (by omega)
  obtain ⟨j, hj⟩ : ∃ j : Nat, k % (gs.length : Int) = (j : Int) := ⟨(k % (gs.length : Int)).toNat, by omega⟩
  have hjl : j < gs.length := by omega
  have hx : (gs.map V.int)[j]? = some (.int gs[j]) := by rw [List.getElem?_map, List.getElem?_eq_getElem hjl]; rfl
  refine ⟨_, hG s1, _, .inl ⟨_, SqL.of (s1 _ _ hg1), rfl⟩, by simp; omega, _, hG s1, g, _, _, .int gs[j], rfl, rfl, SqL.of (s1 _ _ hg1), by rw [hml, hj]; exact atI_nat hx, gs[j], rfl, ?_⟩
  refine ite2 (fun hp => ?_) fun hp => rest _ K2 s1
  refine ⟨_, rfl, ⟨h0, h1⟩, _, hG s1, g, rfl, _, s1 _ _ hg1, j, by rw [hml, hj]; exact ixN_nat (by simpa using hjl), _, rfl, h0, fin _ _ (K2.mut (by simp)) ?_⟩
  refine ⟨hne, gs.set j (gs[j] / lim), sd, k + 1, by rw [upd_ne hne]; exact s1 _ _ hm1, by rw [upd_same, List.map_set], by simp; omega, fun x hx => ?_, hsd, by omega, by omega⟩
  rcases List.mem_or_eq_of_mem_set hx with hx | rfl
  · exact hpos x hx
  · exact Int.ediv_nonneg (by omega) (by omega)
theorem ok_pick (D : Def K mg "_law_pick" s_law_pick f fd) (B : Blt mg) (R_law_draw : Rdy P w K mg base 1 "_law_draw" ["_law_m", "_law_limit"] sp_draw) : FnOk P w K mg base CX0 2 f fd ["_law_m", "_law_some"] sp_pick := by
  refine D.1.ok sc_law_pick (fun vs H Q E h => ?_) (fun cdv A outer s H vs Q E hr h => ?_)
  · obtain ⟨m, g, b, rm, s, xs, rfl, _⟩ := h
    rfl
  obtain ⟨m, g, b, rm, s', xs, rfl, hm, hb, hs, n1, hp, hl, q⟩ := h
  have hu := hu_of hr
  refine ⟨_, (pss_one (ps_ret (pe_ix (ixLK (K := K) rfl) (pv 1) (pe_c R_law_draw hr rfl (pa_cons (pv 0) (pa_cons (pe_callB (lenK (K := K) rfl) (by rfl) B.b_len (by decide +kernel) (pa_cons (pv 1) pa_nil)) pa_nil))) (fun _ _ => rfl)))), ?_⟩
  walk_at "rd"
  refine ⟨_, .inl ⟨_, SqL.of hs, rfl⟩, m, g, b, rm, _, rfl, hm, hb, by omega, by omega, fun n H' n0 n1' k' m' => ?_⟩
  exact ix_any (k' _ _ hs n1) n0 n1' fun v hv => q v H' hv k' m'
end
theorem MSr.put {H : Hp} {m g : Addr} {b rm : Int} (h : MSr H m g b rm) (z : Int) : ∃ H', DPut H m (.str (Str.ofString "room")) (.int z) H' ∧ MSr H' m g b z ∧ Keep [m, g] H H' := by
  obtain ⟨h0, gs, sd, k, h1, h2, h3, h4, h5, h6, h7⟩ := h
  refine ⟨_, DPut.k (k := Sum.inr "room") h1 (sz5l (by simp)), ⟨h0, gs, sd, k, ?_, ?_, h3, h4, h5, h6, h7⟩, (Keep.refl _ _).mut (by simp)⟩
  · rw [upd_same, mp_room]
  · rw [upd_ne h0.symm]; exact h2
theorem MSr.keep {S : List Addr} {H H' : Hp} {m g : Addr} {b rm : Int} (h : MSr H m g b rm) (k : Keep S H H') (hm : m ∉ S) (hg : g ∉ S) : MSr H' m g b rm := by
  obtain ⟨h0, gs, sd, k', h1, h2, h3⟩ := h
  exact ⟨h0, gs, sd, k', k _ _ h1 hm, k _ _ h2 hg, h3⟩
/-- _law_pick(m, [..]) -/
theorem pick_lit {σ : L2.St} {t : TE} {n : Nat} {ds : List PyData} {H : Hp} {N : VK} {i : Nat} {m g : Addr} {b rm : Int} (h : Mk emptyHp σ t (n + 1) (.list ds)) (hi : σ[i]? = some (some (.ref m))) (hm : MSr H m g b rm) (hb : b < 2 ^ 60) (h0 : 0 < ds.length) (hl : ds.length ≤ 1000)
    (q : ∀ v d H', d ∈ ds → Keep [m, g] H H' → MSr H' m g (b + 1) rm → Re (news H H') n v d → N v H') : tCall sp_pick [] E0 (tCons (tVar i) (tCons t tNil)) σ H N :=
  ⟨_, hi, h.run fun v H1 s1 r1 => by
    obtain ⟨p, xs, rfl, hp, _, hpr⟩ := r1
    have hx := pd_len hpr
    have np : H p = none := by
      cases e : H p with
      | none => rfl
      | some o => rw [news_no e] at hp; cases hp
    refine ⟨m, g, b, rm, p, xs, rfl, hm.same s1, hb, news_sub _ _ _ _ hp, hm.ne np, by omega, by omega, fun v H2 hv k2 m2 => ?_⟩
    obtain ⟨d, hd, r⟩ := pd_memL hpr hv
    exact q v d H2 hd ((Keep.of s1).trans k2) m2 (r.imp (news_keep k2 hm.here))⟩

/-! ### _law_words, _law_form, _law_mate, _law_signs -/
def tableW : List Str := tableR.map (·.1)
def sp_lwords : Sp := fun vs H Q _ => vs = [] ∧ ∀ l H', Same H H' → H l = none → H' l = some (.lst (tableW.map V.str)) → Q (.ref l) H'
def lformS (x : Str) : Str :=
  if x ∈ [Str.ofString "prefix_items", Str.ofString "all_of", Str.ofString "any_of", Str.ofString "one_of"] then Str.ofString "list"
  else if x ∈ [Str.ofString "properties", Str.ofString "dependent", Str.ofString "defs"] then Str.ofString "dict"
  else if x ∈ [Str.ofString "items", Str.ofString "contains", Str.ofString "property_names", Str.ofString "additional", Str.ofString "not", Str.ofString "if", Str.ofString "then", Str.ofString "else"] then Str.ofString "one"
  else if x ∈ [Str.ofString "unevaluated_items", Str.ofString "unevaluated_properties"] then Str.ofString "one" else Str.ofString ""
def sp_lform : Sp := fun vs H Q _ => ∃ x, vs = [.str x] ∧ ∀ H', Same H H' → Q (.str (lformS x)) H'
def lmateS (x : Str) : Str :=
  if x ∈ [Str.ofString "min_contains", Str.ofString "max_contains"] then Str.ofString "contains"
  else if x ∈ [Str.ofString "then", Str.ofString "else"] then Str.ofString "if" else x
def sp_lmate : Sp := fun vs H Q _ => ∃ x, vs = [.str x] ∧ ∀ H', Same H H' → Q (.str (lmateS x)) H'
abbrev s_law_words : Stmt := top 39
theorem sc_law_words : FnScope ["_law_some"] [] (defScope s_law_words) := ⟨rfl, rfl, rfl, by decide +kernel, rfl, by decide +kernel, by decide +kernel⟩
abbrev s_law_form : Stmt := top 40
theorem sc_law_form : FnScope ["_law_word"] ["_law_word"] (defScope s_law_form) := ⟨rfl, rfl, rfl, by decide +kernel, rfl, by decide +kernel, by decide +kernel⟩
abbrev s_law_mate : Stmt := top 41
theorem sc_law_mate : FnScope ["_law_word"] ["_law_word"] (defScope s_law_mate) := ⟨rfl, rfl, rfl, by decide +kernel, rfl, by decide +kernel, by decide +kernel⟩
section
variable {P : Program} {w : World} {K : PySem.W.Frag} {mg : Str → Option Value} {base : Heap} {f : Addr} {fd : FuncData}
theorem ok_lwords (D : Def K mg "_law_words" s_law_words f fd) (B : Blt mg) : FnOk P w K mg base CX0 1 f fd [] sp_lwords := by
  refine D.1.ok sc_law_words (fun vs H Q E h => ?_) (fun cdv A outer s H vs Q E hr h => ?_)
  · obtain ⟨rfl, _⟩ := h
    rfl
  obtain ⟨rfl, q⟩ := h
  refine ⟨_, (pss_cons (ps_set (i := 0) sc_law_words.nd rfl (by first | exact Or.inl rfl | exact Or.inr rfl) (pe_lst (pa_cons pe_str (pa_cons pe_str (pa_cons pe_str (pa_cons pe_str (pa_cons pe_str (pa_cons pe_str (pa_cons pe_str (pa_cons pe_str (pa_cons pe_str pa_nil)))))))))))
  (pss_cons (ps_set (i := 0) sc_law_words.nd rfl (by first | exact Or.inl rfl | exact Or.inr rfl) (pe_op op_cat (pv 0) (pe_lst (pa_cons pe_str (pa_cons pe_str (pa_cons pe_str (pa_cons pe_str (pa_cons pe_str (pa_cons pe_str (pa_cons pe_str (pa_cons pe_str pa_nil)))))))))))
  (pss_cons (ps_set (i := 0) sc_law_words.nd rfl (by first | exact Or.inl rfl | exact Or.inr rfl) (pe_op op_cat (pv 0) (pe_lst (pa_cons pe_str (pa_cons pe_str (pa_cons pe_str (pa_cons pe_str (pa_cons pe_str (pa_cons pe_str pa_nil)))))))))
  (pss_cons (ps_set (i := 0) sc_law_words.nd rfl (by first | exact Or.inl rfl | exact Or.inr rfl) (pe_op op_cat (pv 0) (pe_lst (pa_cons pe_str (pa_cons pe_str (pa_cons pe_str (pa_cons pe_str (pa_cons pe_str (pa_cons pe_str (pa_cons pe_str (pa_cons pe_str (pa_cons pe_str pa_nil))))))))))))
  (pss_one (ps_ret (pe_op op_cat (pv 0) (pe_lst (pa_cons pe_str (pa_cons pe_str (pa_cons pe_str (pa_cons pe_str (pa_cons pe_str (pa_cons pe_str pa_nil)))))))))))))), ?_⟩
  walk_at "rds"
  refine Mk.run (n := 2) (mk_lst (mka_cons (mk_str (Str.ofString "ref")) (mka_cons (mk_str (Str.ofString "kinds")) (mka_cons (mk_str (Str.ofString "const")) (mka_cons (mk_str (Str.ofString "among")) (mka_cons (mk_str (Str.ofString "minimum")) (mka_cons (mk_str (Str.ofString "maximum")) (mka_cons (mk_str (Str.ofString "multiple_of")) (mka_cons (mk_str (Str.ofString "min_length")) (mka_cons (mk_str (Str.ofString "max_length")) mka_nil)))))))))) fun v1 H1 s1 r1 => ?_
  obtain ⟨p1, rfl, h1⟩ := texts_of [Str.ofString "ref", Str.ofString "kinds", Str.ofString "const", Str.ofString "among", Str.ofString "minimum", Str.ofString "maximum", Str.ofString "multiple_of", Str.ofString "min_length", Str.ofString "max_length"] r1
  have h1 := news_sub _ _ _ _ h1
  refine cat_lit [Str.ofString "charset", Str.ofString "notation", Str.ofString "min_items", Str.ofString "max_items", Str.ofString "unique", Str.ofString "prefix_items", Str.ofString "items", Str.ofString "contains"] (mk_lst (mka_cons (mk_str (Str.ofString "charset")) (mka_cons (mk_str (Str.ofString "notation")) (mka_cons (mk_str (Str.ofString "min_items")) (mka_cons (mk_str (Str.ofString "max_items")) (mka_cons (mk_str (Str.ofString "unique")) (mka_cons (mk_str (Str.ofString "prefix_items")) (mka_cons (mk_str (Str.ofString "items")) (mka_cons (mk_str (Str.ofString "contains")) mka_nil))))))))) rfl h1 (by simp) fun p2 H2 s2 n2 h2 => ?_
  refine cat_lit [Str.ofString "min_contains", Str.ofString "max_contains", Str.ofString "min_properties", Str.ofString "max_properties", Str.ofString "required", Str.ofString "properties"] (mk_lst (mka_cons (mk_str (Str.ofString "min_contains")) (mka_cons (mk_str (Str.ofString "max_contains")) (mka_cons (mk_str (Str.ofString "min_properties")) (mka_cons (mk_str (Str.ofString "max_properties")) (mka_cons (mk_str (Str.ofString "required")) (mka_cons (mk_str (Str.ofString "properties")) mka_nil))))))) rfl h2 (by simp) fun p3 H3 s3 n3 h3 => ?_
  refine cat_lit [Str.ofString "property_names", Str.ofString "additional", Str.ofString "dependent", Str.ofString "all_of", Str.ofString "any_of", Str.ofString "one_of", Str.ofString "not", Str.ofString "if", Str.ofString "then"] (mk_lst (mka_cons (mk_str (Str.ofString "property_names")) (mka_cons (mk_str (Str.ofString "additional")) (mka_cons (mk_str (Str.ofString "dependent")) (mka_cons (mk_str (Str.ofString "all_of")) (mka_cons (mk_str (Str.ofString "any_of")) (mka_cons (mk_str (Str.ofString "one_of")) (mka_cons (mk_str (Str.ofString "not")) (mka_cons (mk_str (Str.ofString "if")) (mka_cons (mk_str (Str.ofString "then")) mka_nil)))))))))) rfl h3 (by simp) fun p4 H4 s4 n4 h4 => ?_
  refine cat_lit [Str.ofString "else", Str.ofString "unevaluated_items", Str.ofString "unevaluated_properties", Str.ofString "title", Str.ofString "default", Str.ofString "defs"] (mk_lst (mka_cons (mk_str (Str.ofString "else")) (mka_cons (mk_str (Str.ofString "unevaluated_items")) (mka_cons (mk_str (Str.ofString "unevaluated_properties")) (mka_cons (mk_str (Str.ofString "title")) (mka_cons (mk_str (Str.ofString "default")) (mka_cons (mk_str (Str.ofString "defs")) mka_nil))))))) rfl h4 (by simp) fun p5 H5 s5 n5 h5 => ?_
  refine q p5 H5 ((((s1.trans s2).trans s3).trans s4).trans s5) ?_ h5
  have n := n5
  cases e : H p5 with
  | none => rfl
  | some o => rw [(((s1.trans s2).trans s3).trans s4) _ _ e] at n; cases n
theorem ok_lform (D : Def K mg "_law_form" s_law_form f fd) (B : Blt mg) : FnOk P w K mg base CX0 1 f fd ["_law_word"] sp_lform := by
  refine D.1.ok sc_law_form (fun vs H Q E h => ?_) (fun cdv A outer s H vs Q E hr h => ?_)
  · obtain ⟨x, rfl, _⟩ := h
    rfl
  obtain ⟨x, rfl, q⟩ := h
  refine ⟨_, (pss_cons (ps_if (pt_cmpR (inK (K := K) rfl) (pv 0) (pe_tup (pa_cons pe_str (pa_cons pe_str (pa_cons pe_str (pa_cons pe_str pa_nil))))) rfl)
   (pss_one (ps_ret pe_str))
   pss_nil)
  (pss_cons (ps_if (pt_cmpR (inK (K := K) rfl) (pv 0) (pe_tup (pa_cons pe_str (pa_cons pe_str (pa_cons pe_str pa_nil)))) rfl)
   (pss_one (ps_ret pe_str))
   pss_nil)
  (pss_cons (ps_if (pt_cmpR (inK (K := K) rfl) (pv 0) (pe_tup (pa_cons pe_str (pa_cons pe_str (pa_cons pe_str (pa_cons pe_str (pa_cons pe_str (pa_cons pe_str (pa_cons pe_str (pa_cons pe_str pa_nil))))))))) rfl)
   (pss_one (ps_ret pe_str))
   pss_nil)
  (pss_one (ps_ret (pe_ifExp (pt_cmpR (inK (K := K) rfl) (pv 0) (pe_tup (pa_cons pe_str (pa_cons pe_str pa_nil))) rfl) pe_str pe_str)))))), ?_⟩
  walk_at "rds"
  unfold lformS at q
  simp only [tTest, tC]
  refine in_lit [Str.ofString "prefix_items", Str.ofString "all_of", Str.ofString "any_of", Str.ofString "one_of"] (mk_tup (mka_cons (mk_str (Str.ofString "prefix_items")) (mka_cons (mk_str (Str.ofString "all_of")) (mka_cons (mk_str (Str.ofString "any_of")) (mka_cons (mk_str (Str.ofString "one_of")) mka_nil))))) rfl fun H1 s1 => ⟨_, rfl, ite2 (fun h => ?_) fun h => ?_⟩
  · rw [if_pos (of_decide_eq_true h)] at q
    exact q _ s1
  rw [if_neg (of_decide_eq_false (by simpa using h))] at q
  refine in_lit [Str.ofString "properties", Str.ofString "dependent", Str.ofString "defs"] (mk_tup (mka_cons (mk_str (Str.ofString "properties")) (mka_cons (mk_str (Str.ofString "dependent")) (mka_cons (mk_str (Str.ofString "defs")) mka_nil)))) rfl fun H2 s2 => ⟨_, rfl, ite2 (fun h => ?_) fun h => ?_⟩
  · rw [if_pos (of_decide_eq_true h)] at q
    exact q _ (s1.trans s2)
  rw [if_neg (of_decide_eq_false (by simpa using h))] at q
  refine in_lit [Str.ofString "items", Str.ofString "contains", Str.ofString "property_names", Str.ofString "additional", Str.ofString "not", Str.ofString "if", Str.ofString "then", Str.ofString "else"] (mk_tup (mka_cons (mk_str (Str.ofString "items")) (mka_cons (mk_str (Str.ofString "contains")) (mka_cons (mk_str (Str.ofString "property_names")) (mka_cons (mk_str (Str.ofString "additional")) (mka_cons (mk_str (Str.ofString "not")) (mka_cons (mk_str (Str.ofString "if")) (mka_cons (mk_str (Str.ofString "then")) (mka_cons (mk_str (Str.ofString "else")) mka_nil))))))))) rfl fun H3 s3 => ⟨_, rfl, ite2 (fun h => ?_) fun h => ?_⟩
  · rw [if_pos (of_decide_eq_true h)] at q
    exact q _ (s1.trans (s2.trans s3))
  rw [if_neg (of_decide_eq_false (by simpa using h))] at q
  refine in_lit [Str.ofString "unevaluated_items", Str.ofString "unevaluated_properties"] (mk_tup (mka_cons (mk_str (Str.ofString "unevaluated_items")) (mka_cons (mk_str (Str.ofString "unevaluated_properties")) mka_nil))) rfl fun H4 s4 => ⟨_, rfl, ite2 (fun h => ?_) fun h => ?_⟩
  · rw [if_pos (of_decide_eq_true h)] at q
    exact q _ (s1.trans (s2.trans (s3.trans s4)))
  rw [if_neg (of_decide_eq_false (by simpa using h))] at q
  exact q _ (s1.trans (s2.trans (s3.trans s4)))
theorem ok_lmate (D : Def K mg "_law_mate" s_law_mate f fd) (B : Blt mg) : FnOk P w K mg base CX0 1 f fd ["_law_word"] sp_lmate := by
  refine D.1.ok sc_law_mate (fun vs H Q E h => ?_) (fun cdv A outer s H vs Q E hr h => ?_)
  · obtain ⟨x, rfl, _⟩ := h
    rfl
  obtain ⟨x, rfl, q⟩ := h
  refine ⟨_, (pss_cons (ps_if (pt_cmpR (inK (K := K) rfl) (pv 0) (pe_tup (pa_cons pe_str (pa_cons pe_str pa_nil))) rfl)
   (pss_one (ps_ret pe_str))
   pss_nil)
  (pss_one (ps_ret (pe_ifExp (pt_cmpR (inK (K := K) rfl) (pv 0) (pe_tup (pa_cons pe_str (pa_cons pe_str pa_nil))) rfl) pe_str (pv 0))))), ?_⟩
  walk_at "rds"
  unfold lmateS at q
  simp only [tTest, tC, tIf]
  refine in_lit [Str.ofString "min_contains", Str.ofString "max_contains"] (mk_tup (mka_cons (mk_str (Str.ofString "min_contains")) (mka_cons (mk_str (Str.ofString "max_contains")) mka_nil))) rfl fun H1 s1 => ⟨_, rfl, ite2 (fun h => ?_) fun h => ?_⟩
  · rw [if_pos (of_decide_eq_true h)] at q
    exact q _ s1
  rw [if_neg (of_decide_eq_false (by simpa using h))] at q
  refine in_lit [Str.ofString "then", Str.ofString "else"] (mk_tup (mka_cons (mk_str (Str.ofString "then")) (mka_cons (mk_str (Str.ofString "else")) mka_nil))) rfl fun H2 s2 => ⟨_, rfl, ite2 (fun h => ?_) fun h => ?_⟩
  · rw [if_pos (of_decide_eq_true h)] at q
    exact q _ (s1.trans s2)
  rw [if_neg (of_decide_eq_false (by simpa using h))] at q
  exact ⟨_, rfl, q _ (s1.trans s2)⟩
end

/-! ### checks that can be computed (no sorting) -/
def ascB (x : Str) : Bool := x.cps.toList.all fun c => decide (c < 128)
theorem ascB_ok {x : Str} (h : ascB x = true) : AsciiS x := fun c hc => of_decide_eq_true (List.all_eq_true.mp h c hc)
def docB : Nat → PyData → Bool
  | 0, _ => false
  | n + 1, .list ds => decide (ds.length ≤ 60) && ds.all (docB n)
  | n + 1, .dict es => decide (es.length ≤ 60) && es.all fun e => (match e.1 with | .str x => decide (x.length ≤ 60) && ascB x | _ => false) && docB n e.2
  | _ + 1, .none => true
  | _ + 1, .bool _ => true
  | _ + 1, .int i => decide (-10 ^ 30 ≤ i) && decide (i ≤ 10 ^ 30)
  | _ + 1, .str x => decide (x.length ≤ 60) && ascB x
  | _ + 1, .tuple _ => false
theorem docB_ok : ∀ {n : Nat} {d : PyData}, docB n d = true → docW n d
  | 0, _, h => by cases h
  | n + 1, .list ds, h => by
    simp only [docB, Bool.and_eq_true, decide_eq_true_eq, List.all_eq_true] at h
    exact ⟨h.1, fun d hd => docB_ok (h.2 d hd)⟩
  | n + 1, .dict es, h => by
    simp only [docB, Bool.and_eq_true, decide_eq_true_eq, List.all_eq_true] at h
    refine ⟨h.1, fun e he => ⟨?_, docB_ok (h.2 e he).2⟩⟩
    have h1 := (h.2 e he).1
    cases hk : e.1 with
    | str x =>
      rw [hk] at h1
      simp only [Bool.and_eq_true, decide_eq_true_eq] at h1
      exact ⟨x, rfl, h1.1, ascB_ok h1.2⟩
    | _ => rw [hk] at h1; cases h1
  | n + 1, .none, h => trivial
  | n + 1, .bool _, h => trivial
  | n + 1, .int i, h => by
    simp only [docB, Bool.and_eq_true, decide_eq_true_eq] at h
    exact h
  | n + 1, .str x, h => by
    simp only [docB, Bool.and_eq_true, decide_eq_true_eq] at h
    exact ⟨h.1, ascB_ok h.2⟩
  | n + 1, .tuple _, h => by cases h
theorem fstR_nn {f : PyData → Option (List Key)} : ∀ {rs : List (Key × PyData)}, (∀ q ∈ rs, f q.2 = none) → fstR f rs = none
  | [], _ => rfl
  | q :: r, h => by
    unfold fstR
    rw [h q (by simp)]
    exact fstR_nn fun z hz => h z (by simp [hz])
theorem docW_fw : ∀ {n : Nat} {d : PyData}, docW n d → fwN n d = none
  | 0, _, h => h.elim
  | n + 1, .list ds, h => fstR_nn fun q hq => by
    obtain ⟨p, hp, rfl⟩ := List.mem_map.mp hq
    exact docW_fw (h.2 _ (List.fst_mem_of_mem_zipIdx hp))
  | n + 1, .dict es, h => by
    simp only [fwN]
    rw [if_pos]
    · refine fstR_nn fun q hq => ?_
      obtain ⟨x, hx, rfl⟩ := List.mem_map.mp hq
      show fwN n ((dget es x).getD .none) = none
      cases hd : dget es x with
      | none => cases n <;> rfl
      | some d2 =>
        obtain ⟨e, he, rfl, _⟩ := dget_mem hd
        exact docW_fw (h.2 e he).2
    · rw [List.all_eq_true]
      intro e he
      obtain ⟨⟨x, hx, hn⟩, _⟩ := h.2 e he
      rw [hx]
      exact decide_eq_true hn.1
  | n + 1, .none, h => rfl
  | n + 1, .bool _, h => rfl
  | n + 1, .int i, h => if_pos h
  | n + 1, .str x, h => by simp only [fwN]; rw [if_pos h.1]
  | n + 1, .tuple _, h => h.elim
theorem docW.ok : ∀ {n : Nat} {d : PyData}, docW n d → okD n d
  | 0, _, h => h.elim
  | n + 1, .list ds, h => ⟨h.1, fun d hd => (h.2 d hd).ok⟩
  | n + 1, .dict es, h => ⟨h.1, fun e he => ⟨fun x hx => by
      obtain ⟨⟨y, hy, hn⟩, _⟩ := h.2 e he
      rw [hy] at hx; cases hx
      exact ⟨Nat.le_trans hn.1 (by decide), hn.2⟩, (h.2 e he).2.ok⟩⟩
  | n + 1, .none, h => trivial
  | n + 1, .bool _, h => trivial
  | n + 1, .int _, h => trivial
  | n + 1, .str x, h => ⟨Nat.le_trans h.1 (by decide), h.2⟩
  | n + 1, .tuple _, h => h.elim
def okB : Nat → PyData → Bool
  | 0, _ => false
  | n + 1, .list ds => decide (ds.length ≤ 60) && ds.all (okB n)
  | n + 1, .tuple ds => decide (ds.length ≤ 60) && ds.all (okB n)
  | n + 1, .dict es => decide (es.length ≤ 60) && es.all fun e => (match e.1 with | .str x => decide (x.length ≤ 1000) && ascB x | _ => true) && okB n e.2
  | _ + 1, .str x => decide (x.length ≤ 1000) && ascB x
  | _ + 1, _ => true
theorem okB_ok : ∀ {n : Nat} {d : PyData}, okB n d = true → okD n d
  | 0, _, h => by cases h
  | n + 1, .list ds, h => by
    simp only [okB, Bool.and_eq_true, decide_eq_true_eq, List.all_eq_true] at h
    exact ⟨h.1, fun d hd => okB_ok (h.2 d hd)⟩
  | n + 1, .tuple ds, h => by
    simp only [okB, Bool.and_eq_true, decide_eq_true_eq, List.all_eq_true] at h
    exact ⟨h.1, fun d hd => okB_ok (h.2 d hd)⟩
  | n + 1, .dict es, h => by
    simp only [okB, Bool.and_eq_true, decide_eq_true_eq, List.all_eq_true] at h
    refine ⟨h.1, fun e he => ⟨fun x hx => ?_, okB_ok (h.2 e he).2⟩⟩
    have h1 := (h.2 e he).1
    rw [hx] at h1
    simp only [Bool.and_eq_true, decide_eq_true_eq] at h1
    exact ⟨h1.1, ascB_ok h1.2⟩
  | n + 1, .none, h => trivial
  | n + 1, .bool _, h => trivial
  | n + 1, .int i, h => trivial
  | n + 1, .str x, h => by
    simp only [okB, Bool.and_eq_true, decide_eq_true_eq] at h
    exact ⟨h.1, ascB_ok h.2⟩
/-- more are the same by this than are -/
def sameX : Nat → PyData → PyData → Bool
  | 0, _, _ => false
  | n + 1, .list xs, .list ys => decide (xs.length = ys.length) && (List.zipWith (sameX n) xs ys).all id
  | n + 1, .dict es, .dict fs => decide (es.length = fs.length) && (es.map fun e => optB (dget fs (strD e.1)) (sameX n e.2)).all id
  | _ + 1, d, e => sameL d e
theorem sameX_ok : ∀ {n : Nat} {d e : PyData}, sameN n d e = true → sameX n d e = true
  | 0, _, _, h => by cases h
  | n + 1, .list xs, .list ys, h => by
    simp only [sameN, sameX, Bool.and_eq_true, List.all_eq_true] at h ⊢
    refine ⟨h.1, fun b hb => ?_⟩
    obtain ⟨i, hi⟩ := List.mem_iff_getElem?.mp hb
    obtain ⟨x, y, hx, hy, rfl⟩ := List.getElem?_zipWith_eq_some.mp hi
    exact sameX_ok (h.2 (sameN n x y) (List.mem_of_getElem? (i := i) (by rw [List.getElem?_zipWith, hx, hy])))
  | n + 1, .dict es, .dict fs, h => by
    simp only [sameN, sameX, Bool.and_eq_true, List.all_eq_true, decide_eq_true_eq] at h ⊢
    refine ⟨?_, fun b hb => ?_⟩
    · have := (perm_srt h.1).length_eq
      simpa [keysD] using this
    obtain ⟨e, he, rfl⟩ := List.mem_map.mp hb
    have := h.2 _ (List.mem_map.mpr ⟨e, he, rfl⟩)
    cases hd : dget fs (strD e.1) with
    | none => rw [hd] at this; cases this
    | some d2 => rw [hd] at this; exact sameX_ok this
  | n + 1, .none, e, h => by cases e <;> first | exact h | cases h
  | n + 1, .bool _, e, h => by cases e <;> first | exact h | cases h
  | n + 1, .int _, e, h => by cases e <;> first | exact h | cases h
  | n + 1, .str _, e, h => by cases e <;> first | exact h | cases h
  | n + 1, .tuple _, e, h => by cases e <;> first | exact h | cases h
  | n + 1, .list _, .none, h => by cases h
  | n + 1, .list _, .bool _, h => by cases h
  | n + 1, .list _, .int _, h => by cases h
  | n + 1, .list _, .str _, h => by cases h
  | n + 1, .list _, .tuple _, h => by cases h
  | n + 1, .list _, .dict _, h => by cases h
  | n + 1, .dict _, .none, h => by cases h
  | n + 1, .dict _, .bool _, h => by cases h
  | n + 1, .dict _, .int _, h => by cases h
  | n + 1, .dict _, .str _, h => by cases h
  | n + 1, .dict _, .tuple _, h => by cases h
  | n + 1, .dict _, .list _, h => by cases h
def docC (n : Nat) (d : PyData) : Bool := docB n d && decide (dep n d ≤ 12)
theorem docC_ok {n : Nat} {d : PyData} (h : docC n d = true) : dpN n d = none := by
  simp only [docC, Bool.and_eq_true, decide_eq_true_eq] at h
  unfold dpN
  rw [if_neg (by omega)]
  exact docW_fw (docB_ok h.1)
def diffC (n : Nat) : PyData → Bool
  | .list ds => decide (1 ≤ ds.length) && decide (ds.length ≤ 20) && ds.all (docC n) && ds.zipIdx.all fun p => (ds.take p.2).all fun e => !sameX n p.1 e
  | _ => false
theorem diffC_ok {n : Nat} {d : PyData} (h : diffC n d = true) : diffD n d = true := by
  cases d with
  | list ds =>
    simp only [diffC, Bool.and_eq_true, decide_eq_true_eq, List.all_eq_true, Bool.not_eq_true'] at h
    simp only [diffD, Bool.and_eq_true, decide_eq_true_eq, Bool.not_eq_true']
    refine ⟨⟨h.1.1, List.all_eq_true.mpr fun d hd => decide_eq_true (docC_ok (h.1.2 d hd))⟩, ?_⟩
    rw [List.any_eq_false]
    intro b hb hb1
    obtain ⟨p, hp, rfl⟩ := List.mem_map.mp hb
    simp only [id, List.any_eq_true] at hb1
    obtain ⟨c, hc, hc1⟩ := hb1
    obtain ⟨e, he, rfl⟩ := List.mem_map.mp hc
    have := h.2 p hp e he
    rw [sameX_ok hc1] at this
    cases this
  | _ => cases h
def formC (n : Nat) (x : Str) (d : PyData) : Bool := if x = Str.ofString "document" then docC n d else if x = Str.ofString "documents" then diffC n d else formB n x d
theorem formC_ok {n : Nat} {x : Str} {d : PyData} (h : formC n x d = true) : formB n x d = true := by
  unfold formC at h
  split at h
  · rename_i hx
    subst hx
    unfold formB
    rw [if_neg (by decide +kernel), if_neg (by decide +kernel), if_neg (by decide +kernel), if_neg (by decide +kernel), if_pos rfl]
    exact decide_eq_true (docC_ok h)
  split at h
  · rename_i hx
    subst hx
    unfold formB
    rw [if_neg (by decide +kernel), if_neg (by decide +kernel), if_neg (by decide +kernel), if_neg (by decide +kernel), if_neg (by decide +kernel), if_pos rfl]
    exact diffC_ok h
  · exact h
def fineB (d : PyData) : Bool := d.showable && d.leavesShort 40 && decide (d.weight + 64 ≤ 165 * cnt d)
theorem fineB_ok {d : PyData} (h : fineB d = true) : Fine d := by
  simp only [fineB, Bool.and_eq_true, decide_eq_true_eq] at h
  exact ⟨h.1.1, h.1.2, h.2⟩

/-! ### displays judged -/
section
variable {G : Hp} {σ : L2.St} {n : Nat}
theorem pd_rep {A B : Type} {F : A → B → Prop} {xs : List A} {ys : List B} (h : Paired F xs ys) : ∀ k : Nat, Paired F (List.replicate k xs).flatten (List.replicate k ys).flatten
  | 0 => .nil
  | k + 1 => by
    rw [List.replicate_succ, List.replicate_succ, List.flatten_cons, List.flatten_cons]
    exact pd_app h (pd_rep h k)
/-- [..] * k -/
theorem mk_rep {ta : TA} {ds : List PyData} (h : MkA G σ ta n ds) (k : Nat) (hk : k ≤ 100 := by decide) (hl : ds.length ≤ 100 := by simp) : Mk G σ (tOp rRep (tLst ta) (tC (.int (k : Nat)))) (n + 1) (.list (List.replicate k ds).flatten) := fun H0 H Q dm ap s q =>
  mk_lst h (by omega) H0 H _ dm ap s fun v H1 s1 r1 => by
    obtain ⟨p, xs, rfl, hp, _, hpr⟩ := r1
    have hx := pd_len hpr
    have hm : xs.length * k ≤ 10000 := Nat.le_trans (Nat.mul_le_mul (show xs.length ≤ 100 by omega) hk) (by decide)
    refine ⟨p, (k : Int), xs, rfl, rfl, news_sub _ _ _ _ hp, by omega, by omega, sz5 (by rw [Int.toNat_natCast]; omega), fun r nr => ?_⟩
    rw [Int.toNat_natCast]
    refine q _ _ (s1.trans (same_new nr _)) ⟨r, _, rfl, news_here ((dm.same s1).free nr) upd_same, ?_, pd_imp (pd_rep hpr k) fun _ _ _ _ z => z.imp (news_put ((dm.same s1).free nr) nr)⟩
    rw [List.length_flatten, List.map_replicate, List.sum_replicate_nat, Nat.mul_comm]
    omega
end

/-! ### schema_problem, computed -/
def insS (x : Str) : List Str → List Str
  | [] => [x]
  | y :: r => if leS x y = true then x :: y :: r else y :: insS x r
def sortC : List Str → List Str
  | [] => []
  | x :: r => insS x (sortC r)
theorem insS_perm (x : Str) : ∀ l, (insS x l).Perm (x :: l)
  | [] => .refl _
  | y :: r => by
    unfold insS
    split
    · exact .refl _
    · exact ((insS_perm x r).cons y).trans (.swap x y r)
theorem sortC_perm : ∀ l, (sortC l).Perm l
  | [] => .refl _
  | x :: r => (insS_perm x _).trans ((sortC_perm r).cons x)
theorem insS_pw (x : Str) : ∀ {l : List Str}, l.Pairwise (fun a b => leS a b = true) → (insS x l).Pairwise (fun a b => leS a b = true)
  | [], _ => by simp [insS]
  | y :: r, h => by
    obtain ⟨h1, h2⟩ := List.pairwise_cons.mp h
    unfold insS
    split
    · rename_i hxy
      refine List.pairwise_cons.mpr ⟨fun z hz => ?_, h⟩
      rcases List.mem_cons.mp hz with rfl | hz
      · exact hxy
      · exact leS_trans _ _ _ hxy (h1 z hz)
    · rename_i hxy
      refine List.pairwise_cons.mpr ⟨fun z hz => ?_, insS_pw x h2⟩
      rcases List.mem_cons.mp ((insS_perm x r).mem_iff.mp hz) with rfl | hz
      · have := leS_total z y
        simp only [Bool.or_eq_true] at this
        exact this.resolve_left hxy
      · exact h1 z hz
theorem sortC_pw : ∀ l, (sortC l).Pairwise (fun a b => leS a b = true)
  | [] => by simp [sortC]
  | x :: r => insS_pw x (sortC_pw r)
theorem srt_eq (xs : List Str) : srt xs = sortC xs :=
  List.Perm.eq_of_pairwise (le := fun a b => leS a b = true) (fun a b _ _ h1 h2 => leS_anti a b h1 h2) (srt_pw xs) (sortC_pw xs) ((srt_perm xs).trans (sortC_perm xs).symm)
def rowsDC (es : List (PyData × PyData)) : List (Key × PyData) := (sortC (keysD es)).map fun x => (.inr x, (dget es x).getD .none)
theorem rowsD_eq (es : List (PyData × PyData)) : rowsD es = rowsDC es := by
  unfold rowsD rowsDC
  rw [srt_eq]
def placesC (x : Str) (d : PyData) : List (List Key × PyData) := if x = Str.ofString "schema" then [([], d)] else if x = Str.ofString "several" then (match d with | .list ds => (rowsL ds).map fun q => ([q.1], q.2) | _ => []) else if x = Str.ofString "named" then (match d with | .dict es => (rowsDC es).map fun q => ([q.1], q.2) | _ => []) else []
theorem places_eq (x : Str) (d : PyData) : placesD x d = placesC x d := by
  unfold placesD placesC
  cases d <;> first | rfl | (simp only [rowsD_eq])
def nestRC (f : PyData → Int) (n : Nat) (es : List (PyData × PyData)) (m : Int) (r : Str × Str) : Int := match dgk es r.1 with
  | some d => if formB n r.2 d = true then mx (m :: (placesC r.2 d).map fun q => f q.2) else m
  | none => m
def nestC : Nat → PyData → Int
  | 0, _ => 1
  | n + 1, .dict es => tableR.foldl (nestRC (nestC n) n es) 0 + 1
  | _ + 1, _ => 1
theorem nest_eqC : ∀ (n : Nat) (d : PyData), nestN n d = nestC n d
  | 0, _ => rfl
  | n + 1, .dict es => by
    show tableR.foldl (nestR (nestN n) n es) 0 + 1 = tableR.foldl (nestRC (nestC n) n es) 0 + 1
    rw [show nestR (nestN n) n es = nestRC (nestC n) n es from funext fun m => funext fun r => by
      unfold nestR nestRC
      cases dgk es r.1 with
      | none => rfl
      | some d => simp only [places_eq, nest_eqC n]]
  | n + 1, .none => rfl
  | n + 1, .bool _ => rfl
  | n + 1, .int _ => rfl
  | n + 1, .str _ => rfl
  | n + 1, .list _ => rfl
  | n + 1, .tuple _ => rfl
def wfC (f : PyData → Option (List Key)) (n : Nat) (es : List (PyData × PyData)) (inner : Bool) (r : Str × Str) (d : PyData) : Option (List Key) :=
  if (aloneD es r.1 || (decide (r.1 = Str.ofString "defs") && inner) || !formB n r.2 d) = true then some [] else fstP f (placesC r.2 d)
def fwpC : Nat → Bool → PyData → Option (List Key)
  | 0, _, _ => none
  | _ + 1, _, .bool _ => none
  | n + 1, b, .dict es => match sortC (oddS es) with
    | x :: _ => some [.inr x]
    | [] => if es.all (fun e => isT .str e.1) then fstT (wfC (fwpC n true) n es b) es tableR else some []
  | _ + 1, _, _ => some []
theorem fwp_eqC : ∀ (n : Nat) (b : Bool) (d : PyData), fwpN n b d = fwpC n b d
  | 0, _, _ => rfl
  | n + 1, b, .dict es => by
    simp only [fwpN, fwpC, srt_eq]
    have hw : wfR (fwpN n true) n es b = wfC (fwpC n true) n es b := funext fun r => funext fun d => by
      unfold wfR wfC
      rw [places_eq, show fwpN n true = fwpC n true from funext (fwp_eqC n true)]
    rw [hw]
    all_goals (cases sortC (oddS es) <;> rfl)
  | n + 1, _, .bool _ => rfl
  | n + 1, _, .none => rfl
  | n + 1, _, .int _ => rfl
  | n + 1, _, .str _ => rfl
  | n + 1, _, .list _ => rfl
  | n + 1, _, .tuple _ => rfl
def spC (n : Nat) (d : PyData) : Option (List Key) := if 12 < nestC n d then some [] else fwpC n false d
theorem sp_eqC (n : Nat) (d : PyData) : spN n d = spC n d := by
  unfold spN spC
  rw [nest_eqC, fwp_eqC]
/-! ### dicts of plain leaves -/
def vD : V → PyData
  | .int i => .int i
  | .bl b => .bool b
  | .str x => .str x
  | _ => .none
def leafB : V → Bool
  | .int i => decide (-10 ^ 40 ≤ i) && decide (i ≤ 10 ^ 40)
  | .bl _ => true
  | .str x => decide (x.length ≤ 60) && ascB x
  | .non => true
  | _ => false
def esV (kvs : List (Key × V)) : List (PyData × PyData) := kvs.map fun p => (kD p.1, vD p.2)
theorem re_leaf {H : Hp} {v : V} (h : leafB v = true) : Re H 1 v (vD v) := by
  cases v <;> first | rfl | cases h
theorem pd_esV {H : Hp} : ∀ {kvs : List (Key × V)}, (kvs.all fun p => leafB p.2) = true → Paired (KvR (Re H 1)) kvs (esV kvs)
  | [], _ => .nil
  | p :: r, h => by
    rw [List.all_cons, Bool.and_eq_true] at h
    exact .cons ⟨rfl, re_leaf h.1⟩ (pd_esV h.2)
def putAll (l : List (Key × V)) : List (Key × V) := l.foldl (fun acc p => putK acc p.1 p.2) []
/-! ### keywords without companion -/
def aloneL : List Str := [Str.ofString "min_contains", Str.ofString "max_contains", Str.ofString "then", Str.ofString "else"]
def innerL : List V := [.int 0, .int 1, .bl true, .bl false, .int 5, .str (Str.ofString "x")]
def rows5 : List (List (Key × V) × List (Key × V)) := [([], []), ([(.inr (Str.ofString "ref"), .int 5)], []), ([], [(.inr (Str.ofString "title"), .int 5)]), ([(.inr (Str.ofString "items"), .int 5)], [(.inr (Str.ofString "else"), .int 5)]), ([], [(.inr (Str.ofString "defs"), .int 5)])]
def heldK (x : Str) (v : V) (r : List (Key × V) × List (Key × V)) : List (Key × V) := putAll (r.2 ++ [(.inr x, v)] ++ r.1)
def firstK (x : Str) (r : List (Key × V) × List (Key × V)) : Key := match r.1 with
  | p :: _ => p.1
  | [] => .inr x
def keyB : Key → Bool
  | .inr y => decide (y.length ≤ 60) && ascB y
  | .inl i => decide (-10 ^ 30 ≤ i) && decide (i ≤ 10 ^ 30)
theorem lonely_ok : (aloneL.all fun x => innerL.all fun v => rows5.all fun r => decide (spC 30 (.dict (esV (heldK x v r))) = some [firstK x r]) && okB 3 (.dict (esV (heldK x v r))) && decide ((heldK x v r).map (·.1)).Nodup && decide ((heldK x v r).length ≤ 100) && keyB (firstK x r) && (heldK x v r).all fun p => leafB p.2) = true := by decide +kernel
theorem mates_ok : (aloneL.all fun x => decide (spC 30 (.dict [(.str x, if lmateS x = Str.ofString "contains" then .int 1 else .bool true), (.str (lmateS x), .bool true)]) = none) && decide (x ≠ lmateS x) && okB 3 (.dict [(.str x, if lmateS x = Str.ofString "contains" then .int 1 else .bool true), (.str (lmateS x), .bool true)])) = true := by decide +kernel
/-! ### defs inside -/
def innD : List PyData := [.dict [], .dict [(.str (Str.ofString "a"), .bool true)], .dict [(.str (Str.ofString "a"), .dict [(.str (Str.ofString "defs"), .int 5)])], .int 5]
def hereD (d : PyData) : PyData := .dict [(.str (Str.ofString "defs"), d), (.str (Str.ofString "title"), .str (Str.ofString "t"))]
def heldD (x : Str) (d : PyData) : PyData := if lformS x = Str.ofString "list" then .list [.bool true, hereD d] else if lformS x = Str.ofString "dict" then .dict [(.str (Str.ofString "x"), hereD d)] else hereD d
def frontD (x : Str) : List Key := if lformS x = Str.ofString "list" then [.inr x, .inl 1] else if lformS x = Str.ofString "dict" then [.inr x, .inr (Str.ofString "x")] else [.inr x]
def wholeD (x : Str) (d : PyData) : PyData := if lmateS x = x then .dict [(.str x, heldD x d)] else .dict [(.str (lmateS x), .bool true), (.str x, heldD x d)]
def formsL : List Str := tableW.filter fun x => decide (lformS x ≠ Str.ofString "")
theorem defs_ok : (formsL.all fun x => innD.all fun d => decide (spC 30 (wholeD x d) = some (frontD x ++ [.inr (Str.ofString "defs")])) && okB 8 (wholeD x d) && (frontD x ++ [(.inr (Str.ofString "defs") : Key)]).all keyB && decide ((frontD x).length ≤ 3)) = true := by decide +kernel
def lastD : PyData := .dict [(.str (Str.ofString "defs"), .dict [(.str (Str.ofString "a"), .bool true)]), (.str (Str.ofString "items"), .dict [(.str (Str.ofString "not"), .bool true)])]
theorem last_ok : (decide (spC 30 lastD = none) && okB 5 lastD) = true := by decide +kernel

/-! ### _law_lonely_right -/
def optD : Option (List Key) → PyData
  | none => .none
  | some p => .tuple (p.map kD)
theorem Rp_opt {H : Hp} {r : Option (List Key)} {v : V} (h : pathV r H v) (hl : ∀ p, r = some p → p.length ≤ 1000) : Rp H 2 v (optD r) := by
  cases r with
  | none => cases h; rfl
  | some p =>
    obtain ⟨t, rfl, ht⟩ := h
    exact Rp_path ht (hl _ rfl)
theorem path_fine {p : List Key} (h : ∀ k ∈ p, leafD (kD k)) (hl : p.length ≤ 20) : Fine (.tuple (p.map kD)) ∧ cnt (.tuple (p.map kD)) ≤ 2000 := by
  refine ⟨fine_path h, ?_⟩
  simp only [cnt, cnt_keys]
  omega
theorem keyB_ok {k : Key} (h : keyB k = true) : leafD (kD k) := by
  cases k with
  | inl i =>
    simp only [keyB, Bool.and_eq_true, decide_eq_true_eq] at h
    exact h
  | inr x =>
    simp only [keyB, Bool.and_eq_true, decide_eq_true_eq] at h
    exact ⟨h.1, ascB_ok h.2⟩
theorem leaf_inv {H : Hp} {n : Nat} {v v0 : V} (h0 : leafB v0 = true) (h : Re H (n + 1) v (vD v0)) : v = v0 := by
  cases v0 <;> first | exact h | cases h0
theorem pd_inv {H : Hp} {n : Nat} : ∀ {kvs kv0 : List (Key × V)}, Paired (KvR (Re H (n + 1))) kvs (esV kv0) → (kv0.all fun p => leafB p.2) = true → kvs = kv0
  | [], [], _, _ => rfl
  | p :: r, q :: t, .cons h1 h2, ha => by
    rw [List.all_cons, Bool.and_eq_true] at ha
    obtain ⟨k, v⟩ := p
    obtain ⟨k2, v2⟩ := q
    obtain ⟨e1, e2⟩ := h1
    have e3 := leaf_inv ha.1 e2
    have e4 : k = k2 := by
      have : kD k2 = kD k := e1
      cases k <;> cases k2 <;> simp_all [kD]
    rw [pd_inv h2 ha.2]
    simp at e3
    rw [e3, e4]
theorem putAll_snoc (l : List (Key × V)) (k : Key) (v : V) : putAll (l ++ [(k, v)]) = putK (putAll l) k v := by
  unfold putAll
  rw [List.foldl_append]
  rfl
theorem putAll_len (l : List (Key × V)) : (putAll l).length ≤ l.length := by
  have : ∀ (l acc : List (Key × V)), (l.foldl (fun acc p => putK acc p.1 p.2) acc).length ≤ acc.length + l.length := by
    intro l
    induction l with
    | nil => intro acc; simp
    | cons p r ih =>
      intro acc
      have h1 := ih (putK acc p.1 p.2)
      have h2 := length_putK acc p.1 p.2
      rw [List.foldl_cons, List.length_cons]
      omega
  have := this l []
  rw [List.length_nil, Nat.zero_add] at this
  exact this
def partsK (x : Str) (v : V) (r : List (Key × V) × List (Key × V)) : List (List (Key × V)) := [r.2, [(.inr x, v)], r.1]
theorem rows5_nd : (rows5.all fun r => decide (r.1.map (·.1)).Nodup && decide (r.2.map (·.1)).Nodup && decide (r.1.length ≤ 1) && decide (r.2.length ≤ 1)) = true := by decide +kernel
def rowD (r : List (Key × V) × List (Key × V)) : PyData := .tuple [.dict (esV r.1), .dict (esV r.2)]
theorem rows5_leaf : (rows5.all fun r => (r.1.all fun p => leafB p.2) && r.2.all fun p => leafB p.2) = true := by decide +kernel
theorem row_at {H : Hp} {n : Nat} {v : V} {r : List (Key × V) × List (Key × V)} (h : Re H (n + 3) v (rowD r)) (hr : r ∈ rows5) : ∃ t a b, v = .ref t ∧ H t = some (.tup [.ref a, .ref b]) ∧ H a = some (.dK r.1) ∧ H b = some (.dK r.2) := by
  obtain ⟨t, xs, rfl, ht, _, hp⟩ := h
  have hl := List.all_eq_true.mp rows5_leaf r hr
  rw [Bool.and_eq_true] at hl
  cases hp with
  | cons h1 hp => cases hp with
    | cons h2 hp => cases hp with
      | nil =>
        obtain ⟨a, k1, rfl, ha, _, _, p1⟩ := h1
        obtain ⟨b, k2, rfl, hb, _, _, p2⟩ := h2
        rw [pd_inv p1 hl.1] at ha
        rw [pd_inv p2 hl.2] at hb
        exact ⟨t, a, b, rfl, ht, ha, hb⟩
def sp_lonely : Sp := fun vs H Q _ => ∃ m g b, vs = [.ref m] ∧ MSr H m g b 0 ∧ b + 2 < 2 ^ 60 ∧ ∀ H', Keep [m, g] H H' → MSr H' m g (b + 2) 0 → Q (.bl true) H'
abbrev s_law_lonely_right : Stmt := top 42
theorem sc_law_lonely_right : FnScope ["_law_m", "_law_word", "_law_inner", "_law_rows", "_law_ahead", "_law_behind", "_law_held", "_law_part", "_law_name", "_law_first", "_law_mate_here"] ["_law_m"] (defScope s_law_lonely_right) := ⟨rfl, rfl, rfl, by decide +kernel, rfl, by decide +kernel, by decide +kernel⟩
section
variable {P : Program} {w : World} {K : PySem.W.Frag} {mg : Str → Option Value} {base : Heap} {f : Addr} {fd : FuncData}
theorem ok_lonely (D : Def K mg "_law_lonely_right" s_law_lonely_right f fd) (B : Blt mg) (hsys : ∃ o, base.get? sysModules = some o) (R_law_pick : Rdy P w K mg base 2 "_law_pick" ["_law_m", "_law_some"] sp_pick) (R_law_mate : Rdy P w K mg base 1 "_law_mate" ["_law_word"] sp_lmate) (R_schema_problem : Rdy P w K mg base 68 "schema_problem" ["value"] (sp_sp P w K 30)) (R_is_schema : Rdy P w K mg base 69 "is_schema" ["value"] (sp_iss P w K 30)) : FnG P w K mg base 70 f fd ["_law_m"] sp_lonely := by
  refine okG D.1 sc_law_lonely_right (fun vs H Q E h => ?_) (fun cdv A outer s H vs Q E hgd hr h => ?_)
  · obtain ⟨m, g, b, rfl, _⟩ := h
    rfl
  obtain ⟨m, g, b, rfl, hm, hb, q⟩ := h
  have hu := hu_of hr
  have hr1 : Room 1 _ := hr.mono (by omega)
  have hr2 : Room 2 _ := hr.mono (by omega)
  have hr3 : Room 68 _ := hr.mono (by omega)
  have hr4 : Room 69 _ := hr.mono (by omega)
  refine ⟨_, (pss_cons (ps_set (i := 1) sc_law_lonely_right.nd rfl (by first | exact Or.inl rfl | exact Or.inr rfl) (pe_c R_law_pick hr2 rfl (pa_cons (pv 0) (pa_cons (pe_lst (pa_cons pe_str (pa_cons pe_str (pa_cons pe_str (pa_cons pe_str pa_nil))))) pa_nil))))
  (pss_cons (ps_set (i := 2) sc_law_lonely_right.nd rfl (by first | exact Or.inl rfl | exact Or.inr rfl) (pe_c R_law_pick hr2 rfl (pa_cons (pv 0) (pa_cons (pe_lst (pa_cons pe_int (pa_cons pe_int (pa_cons pe_bl (pa_cons pe_bl (pa_cons pe_int (pa_cons pe_str pa_nil))))))) pa_nil))))
  (pss_cons (ps_set (i := 3) sc_law_lonely_right.nd rfl (by first | exact Or.inl rfl | exact Or.inr rfl) (pe_lst (pa_cons (pe_tup (pa_cons pe_dnewK (pa_cons pe_dnewK pa_nil))) (pa_cons (pe_tup (pa_cons (pe_disp (L2.pps_cons pe_str pe_int L2.pps_nil) (by rfl) (by rfl) (fun z => by cases z) (by decide)) (pa_cons pe_dnewK pa_nil))) (pa_cons (pe_tup (pa_cons pe_dnewK (pa_cons (pe_disp (L2.pps_cons pe_str pe_int L2.pps_nil) (by rfl) (by rfl) (fun z => by cases z) (by decide)) pa_nil))) (pa_cons (pe_tup (pa_cons (pe_disp (L2.pps_cons pe_str pe_int L2.pps_nil) (by rfl) (by rfl) (fun z => by cases z) (by decide)) (pa_cons (pe_disp (L2.pps_cons pe_str pe_int L2.pps_nil) (by rfl) (by rfl) (fun z => by cases z) (by decide)) pa_nil))) (pa_cons (pe_tup (pa_cons pe_dnewK (pa_cons (pe_disp (L2.pps_cons pe_str pe_int L2.pps_nil) (by rfl) (by rfl) (fun z => by cases z) (by decide)) pa_nil))) pa_nil)))))))
  (pss_cons (ps_for PassesOwn.never rfl (pi_list (pv 3)) (pg_tup (by rfl) (pgs_cons (pg_name (i := 4) sc_law_lonely_right.nd rfl (by first | exact Or.inl rfl | exact Or.inr rfl)) (pgs_cons (pg_name (i := 5) sc_law_lonely_right.nd rfl (by first | exact Or.inl rfl | exact Or.inr rfl)) pgs_nil)))
   (pss_cons (ps_set (i := 6) sc_law_lonely_right.nd rfl (by first | exact Or.inl rfl | exact Or.inr rfl) pe_dnewK)
  (pss_cons (ps_for PassesOwn.never rfl (pi_tup (pe_tup (pa_cons (pv 5) (pa_cons (pe_disp (L2.pps_cons (pv 1) (pv 2) L2.pps_nil) (by rfl) (by rfl) (fun z => by cases z) (by decide)) (pa_cons (pv 4) pa_nil))))) (pg_name (i := 7) sc_law_lonely_right.nd rfl (by first | exact Or.inl rfl | exact Or.inr rfl))
   (pss_one (ps_lock (ps_for PassesOwn.never rfl (pi_keys (pv 7)) (pg_name (i := 8) sc_law_lonely_right.nd rfl (by first | exact Or.inl rfl | exact Or.inr rfl))
   (pss_one (ps_dput hu (pv 6) (pv 8) (pe_dget hu (pv 7) (pv 8) (fun _ _ => rfl)) rfl))))))
  (pss_cons (ps_set (i := 9) sc_law_lonely_right.nd rfl (by first | exact Or.inl rfl | exact Or.inr rfl) (pe_op op_cat (pe_lock (pe_lc (own := [("_law_name", 8)]) (by rfl) sc_law_lonely_right.nd (pi_keys (pv 4)) (blkOk_by (own := [("_law_name", 8)]) (N := ["_law_m", "_law_word", "_law_inner", "_law_rows", "_law_ahead", "_law_behind", "_law_held", "_law_part", "_law_name", "_law_first", "_law_mate_here"]) (sc := defScope s_law_lonely_right) (by decide +kernel)) (fun _ _ _ _ _ => (pg_name (i := 8) sc_law_lonely_right.nd rfl (by first | exact Or.inl rfl | exact Or.inr rfl))) (fun _ _ _ _ _ => pts_nil) (fun _ _ _ _ _ => (pv 8)))) (pe_lst (pa_cons (pv 1) pa_nil))))
  (pss_one (ps_if (PW.pt (pw_or (pt_cmpR op_ne (pe_callB (call_repr hgd hsys (Room.u100 hr)) (by rfl) B.b_repr (by decide +kernel) (pa_cons (pe_c R_schema_problem hr3 rfl (pa_cons (pv 6) pa_nil)) pa_nil)) (pe_callB (call_repr hgd hsys (Room.u100 hr)) (by rfl) B.b_repr (by decide +kernel) (pa_cons (pe_tup (pa_cons (pe_ix (ixLK (K := K) rfl) (pv 9) pe_int (fun _ _ => rfl)) pa_nil)) pa_nil)) (nomark _)) (pw_or1 (pt_cmpR op_notB (pe_c R_is_schema hr4 rfl (pa_cons (pv 6) pa_nil)) pe_bl (nomark _)))))
   (pss_one (ps_ret pe_bl))
   pss_nil))))))
  (pss_cons (ps_set (i := 10) sc_law_lonely_right.nd rfl (by first | exact Or.inl rfl | exact Or.inr rfl) (pe_c R_law_mate hr1 rfl (pa_cons (pv 1) pa_nil)))
  (pss_one (ps_ret (pe_cmpR op_isN (pe_c R_schema_problem hr3 rfl (pa_cons (pe_disp (L2.pps_cons (pv 1) (pe_ifExp (pt_cmpR op_eq (pv 10) pe_str (nomark _)) pe_int pe_bl) (L2.pps_cons (pv 10) pe_bl L2.pps_nil)) (by rfl) (by rfl) (fun z => by cases z) (by decide)) pa_nil)) pe_non (nomark _))))))))), ?_⟩
  have nmg := hm.here
  walk_at "rds"
  refine pick_lit (n := 3) (mk_lst (mka_cons (mk_str (Str.ofString "min_contains")) (mka_cons (mk_str (Str.ofString "max_contains")) (mka_cons (mk_str (Str.ofString "then")) (mka_cons (mk_str (Str.ofString "else")) mka_nil))))) rfl hm (by omega) (by simp) (by simp) fun v1 d1 H1 hd1 k1 m1 r1 => ?_
  have hx : ∃ x, x ∈ aloneL ∧ v1 = .str x := by
    simp only [List.mem_cons, List.not_mem_nil, or_false] at hd1
    rcases hd1 with rfl | rfl | rfl | rfl <;> exact ⟨_, by simp [aloneL], r1⟩
  obtain ⟨x, hx, rfl⟩ := hx
  refine pick_lit (n := 3) (mk_lst (mka_cons (mk_int 0) (mka_cons (mk_int 1) (mka_cons (mk_bl true) (mka_cons (mk_bl false) (mka_cons (mk_int 5) (mka_cons (mk_str (Str.ofString "x")) mka_nil))))))) rfl m1 (by omega) (by simp) (by simp) fun v2 d2 H2 hd2 k2 m2 r2 => ?_
  have hv : v2 ∈ innerL := by
    simp only [List.mem_cons, List.not_mem_nil, or_false] at hd2
    rcases hd2 with rfl | rfl | rfl | rfl | rfl | rfl <;> simp [innerL, show v2 = _ from r2]
  refine Mk.run (n := 6) (mk_lst (mka_cons (mk_tup (mka_cons mk_dnew (mka_cons mk_dnew mka_nil))) (mka_cons (mk_tup (mka_cons (mk_disp (mkp_str (Str.ofString "ref") (mk_int 5) mkp_nil)) (mka_cons mk_dnew mka_nil))) (mka_cons (mk_tup (mka_cons mk_dnew (mka_cons (mk_disp (mkp_str (Str.ofString "title") (mk_int 5) mkp_nil)) mka_nil))) (mka_cons (mk_tup (mka_cons (mk_disp (mkp_str (Str.ofString "items") (mk_int 5) mkp_nil)) (mka_cons (mk_disp (mkp_str (Str.ofString "else") (mk_int 5) mkp_nil)) mka_nil))) (mka_cons (mk_tup (mka_cons mk_dnew (mka_cons (mk_disp (mkp_str (Str.ofString "defs") (mk_int 5) mkp_nil)) mka_nil))) mka_nil)))))) fun v3 H3 s3 r3 => ?_
  have r3 : Re H3 6 v3 (.list (rows5.map rowD)) := r3.imp (news_sub _ _)
  obtain ⟨L, xs, rfl, eL, _, hp3⟩ := r3
  have k03 : Keep [m, g] H H3 := (k1.trans k2).trans (.of s3)
  have m3 := m2.same s3
  have hp5 := pd_len hp3
  rw [tFor_eq]
  refine ⟨_, rfl, L, rfl, ⟨xs, SqL.of eL⟩, ?_⟩
  refine fo_it (walk_list (xs := xs)) (fun i σ' H' => Same H3 H' ∧ ∃ z4 z5 z6 z7 z8 z9 : Option V, σ' = [some (V.ref m), some (V.str x), some v2, some (V.ref L), z4, z5, z6, z7, z8, z9, none]) ⟨.refl _, _, _, _, _, _, _, rfl⟩ (fun _ _ _ _ z => SqL.of (z.1 _ _ eL)) ?_ ?_
  · rintro i y σ' Ha Hb hi ⟨sa, z4, z5, z6, z7, z8, z9, rfl⟩ ⟨rfl, hy⟩
    obtain ⟨rd, hrd, hre⟩ := pd_get hp3 hy
    rw [List.getElem?_map, Option.map_eq_some_iff] at hrd
    obtain ⟨r, hr9, rfl⟩ := hrd
    have hrm := List.mem_of_getElem? hr9
    obtain ⟨t, a, c, rfl, et, ea, ec⟩ := row_at (n := 2) hre hrm
    have et := sa _ _ et
    have ea := sa _ _ ea
    have ec := sa _ _ ec
    simp only [gTup, gCons, gNil, gName]
    refine ⟨t, _, rfl, SqT.of et, rfl, _, _, rfl, _, _, rfl, rfl, ?_⟩
    walk_at "rd"
    have hnd := List.all_eq_true.mp rows5_nd r hrm
    simp only [Bool.and_eq_true, decide_eq_true_eq] at hnd
    obtain ⟨⟨⟨hn1, hn2⟩, hl1⟩, hl2⟩ := hnd
    intro p np p1 np1
    refine ⟨upd_same, [(.inr x, v2)], rfl, by simp, by decide, fun p2 np2 => ?_⟩
    rw [show mergeK [] [(Sum.inr x, v2)] = [(Sum.inr x, v2)] from rfl] at np2 ⊢
    have np1' := np1
    have sb := same_new np (HO.dK [])
    have ne1 : p1 ≠ p := fun z => by rw [z, upd_same] at np1; cases np1
    have sc : Same (upd Hb p (HO.dK [])) (upd (upd (upd (upd Hb p (HO.dK [])) p1 (HO.dK [])) p1 (HO.dK [(Sum.inr x, v2)])) p2 (HO.tup [V.ref c, V.ref p1, V.ref a])) := (same_mut (same_new np1 _) np1).trans (same_new np2 _)
    have ep := sc _ _ (show upd Hb p (HO.dK []) p = _ from upd_same)
    have ep1 := (same_new np2 (HO.tup [V.ref c, V.ref p1, V.ref a])) _ _ (show upd (upd (upd Hb p (HO.dK [])) p1 (HO.dK [])) p1 (HO.dK [(Sum.inr x, v2)]) p1 = _ from upd_same)
    have ep2 : upd (upd (upd (upd Hb p (HO.dK [])) p1 (HO.dK [])) p1 (HO.dK [(Sum.inr x, v2)])) p2 (HO.tup [V.ref c, V.ref p1, V.ref a]) p2 = _ := upd_same
    have sbc := sb.trans sc
    generalize upd (upd (upd (upd Hb p (HO.dK [])) p1 (HO.dK [])) p1 (HO.dK [(Sum.inr x, v2)])) p2 (HO.tup [V.ref c, V.ref p1, V.ref a]) = Hc at sc ep ep1 ep2 sbc ⊢
    clear np2 np1'
    have nep2 : p2 ≠ p := fun z => by rw [z, ep] at ep2; cases ep2
    refine ⟨⟨_, SqT.of ep2⟩, ?_⟩
    refine fo_it (walk_tup (xs := [V.ref c, V.ref p1, V.ref a])) (fun j σ' H' => (Keep [p] Hc H' ∧ H' p = some (.dK (putAll (((partsK x v2 r).take j).flatten)))) ∧ ∃ z7 z8, σ' = [some (V.ref m), some (V.str x), some v2, some (V.ref L), some (V.ref a), some (V.ref c), some (V.ref p), z7, z8, z9, none]) ⟨⟨.refl _ _, ep⟩, _, _, rfl⟩ (fun _ _ _ _ z => SqT.of (z.1.1 _ _ ep2 (by simp [nep2]))) ?_ ?_
    · rintro j y σ' Hd He hj ⟨⟨kd, ed⟩, z7, z8, rfl⟩ ⟨rfl, hy⟩
      have hy3 : ∃ q kv, y = .ref q ∧ (partsK x v2 r)[j]? = some kv ∧ Hc q = some (.dK kv) ∧ q ≠ p ∧ (kv.map (·.1)).Nodup ∧ kv.length ≤ 1 := by
        have nea : a ≠ p := ne_of_none ea np
        have nec : c ≠ p := ne_of_none ec np
        rcases j with _ | _ | _ | j
        · cases hy; exact ⟨c, _, rfl, rfl, sbc _ _ ec, nec, hn2, hl2⟩
        · cases hy; exact ⟨p1, _, rfl, rfl, ep1, ne1, by simp, by simp⟩
        · cases hy; exact ⟨a, _, rfl, rfl, sbc _ _ ea, nea, hn1, hl1⟩
        · simp at hj; omega
      obtain ⟨d, kv, rfl, hkv, hd, ned, hnk, hlk⟩ := hy3
      have hd := kd _ _ hd (by simp [ned])
      have hjl : ((partsK x v2 r).take (j + 1)).flatten = ((partsK x v2 r).take j).flatten ++ kv := by rw [List.take_succ, hkv, List.flatten_append]; simp
      have hfl : ((partsK x v2 r).take j).flatten.length ≤ 3 := by
        have : (partsK x v2 r).flatten.length ≤ 3 := by simp [partsK]; omega
        rw [← List.take_append_drop j (partsK x v2 r), List.flatten_append, List.length_append] at this
        omega
      generalize ((partsK x v2 r).take j).flatten = done at ed hfl hjl
      refine ⟨d, .dK kv, hd, trivial, fun od => ?_⟩
      show tFor _ _ _ _ _ _
      rw [tFor_eq]
      refine ⟨.ref d, rfl, d, od, rfl, .inl ⟨kv, upd_same, ?_⟩⟩
      have e0 : upd He d (.frz od (.dK kv)) p = some (.dK (putAll done)) := by rw [upd_ne ned.symm]; exact ed
      have k0 : Keep [p, d] Hc (upd He d (.frz od (.dK kv))) := fun b o e hb => by
        simp only [List.mem_cons, List.not_mem_nil, or_false, not_or] at hb
        rw [upd_ne hb.2]
        exact kd _ _ e (by simp [hb.1])
      refine fo_it (walk_keys (kvs := kv)) (fun k σ' H' => (H' d = some (.frz od (.dK kv)) ∧ Keep [p, d] Hc H' ∧ H' p = some (.dK (putAll (done ++ kv.take k)))) ∧ ∃ z8, σ' = [some (V.ref m), some (V.str x), some v2, some (V.ref L), some (V.ref a), some (V.ref c), some (V.ref p), some (V.ref d), z8, z9, none]) ⟨⟨upd_same, k0, by simpa using e0⟩, _, rfl⟩ (fun _ _ _ _ z => z.1.1) ?_ ?_
      · rintro k y σ' Hf Hg hk ⟨⟨f1, f2, f3⟩, z8, rfl⟩ ⟨rfl, kx, ux, hkx, rfl⟩
        walk_at "rd"
        have hlen := putAll_len (done ++ kv.take k)
        rw [List.length_append, List.length_take] at hlen
        refine ⟨ux, .inl ⟨kv, kx, .inr ⟨od, f1⟩, rfl, (valV_at hnk hkx).symm⟩, _, DPut.k (k := kx) f3 (sz5l (by omega)), ?_, fun b o e hb => ?_, ?_⟩
        · rw [upd_ne ned]; exact f1
        · have hb2 := hb
          simp only [List.mem_cons, List.not_mem_nil, or_false, not_or] at hb2
          rw [upd_ne hb2.1]
          exact f2 _ _ e hb
        · rw [upd_same, List.take_succ, hkx, ← List.append_assoc]
          show _ = some (HO.dK (putAll (_ ++ [(kx, ux)])))
          rw [putAll_snoc]
      · rintro σ' Hf ⟨⟨f1, f2, f3⟩, z8, rfl⟩
        rw [List.take_length] at f3
        refine ⟨f1, ?_⟩
        refine ⟨⟨fun b o e hb => ?_, ?_⟩, _, _, rfl⟩
        · by_cases hbd : b = d
          · rw [hbd, upd_same, ← hd]
            rw [hbd] at e
            exact kd _ _ e (by simp [ned])
          · rw [upd_ne hbd]
            exact f2 _ _ e (by simpa [hbd] using hb)
        · rw [upd_ne ned.symm, f3, hjl]
    · rintro σ' Hd ⟨⟨kd, ed⟩, z7, z8, rfl⟩
      replace ed : Hd p = some (.dK (heldK x v2 r)) := by
        rw [ed]
        simp [partsK, heldK]
      have sad : Same Hb Hd := fun b o e => kd _ _ (sbc _ _ e) (by simp [ne_of_none e np])
      have had := sad _ _ ea
      clear kd ep ep1 ep2 sbc
      walk_at "rd"
      have hall := List.all_eq_true.mp (List.all_eq_true.mp (List.all_eq_true.mp lonely_ok x hx) v2 hv) r hrm
      simp only [Bool.and_eq_true, decide_eq_true_eq] at hall
      obtain ⟨⟨⟨⟨⟨hsp, hok⟩, hnd⟩, hl100⟩, hkey⟩, hleaf⟩ := hall
      rw [← sp_eqC] at hsp
      obtain ⟨f1, f2⟩ := path_fine (p := [firstK x r]) (fun k hk => by rw [List.mem_singleton.mp hk]; exact keyB_ok hkey) (by simp)
      have hre : ∀ G, Same Hd G → SX P w K G 30 (.ref p) (.dict (esV (heldK x v2 r))) := fun G sg => SX.up (n := 2) (Re.s (n := 2) ⟨p, _, rfl, sg _ _ ed, by omega, hnd, pd_esV hleaf⟩) (by omega)
      refine lcU_keys had rfl (r.1.map fun p => kV p.1) (by simp) (by omega) (fun i k v y H' N hk hy ls rd Nn => ?_) fun D1 H1 nD1 s1 eD1 => ⟨by decide, fun p3 np3 => ?_⟩
      · rw [List.getElem?_map, hk] at hy
        cases hy
        exact ⟨_, rfl, Nn _ (Same.refl _)⟩
      have s2 := same_new np3 (HO.lst [V.str x])
      refine ⟨D1, p3, _, _, rfl, rfl, s2 _ _ eD1, upd_same, sz5 (by simp; omega), fun q3 nq3 => ?_⟩
      have s3' := same_new nq3 (HO.lst ((r.1.map fun p => kV p.1) ++ [V.str x]))
      have e3 : upd (upd H1 p3 (HO.lst [V.str x])) q3 (HO.lst ((r.1.map fun p => kV p.1) ++ [V.str x])) q3 = _ := upd_same
      have s13 := s1.trans (s2.trans s3')
      generalize upd (upd H1 p3 (HO.lst [V.str x])) q3 (HO.lst ((r.1.map fun p => kV p.1) ++ [V.str x])) = H4 at e3 s13 ⊢
      refine ⟨.ref p, _, rfl, hre _ s13, (okB_ok hok).up (by omega), by omega, fun v' H5 s5 hp => ?_⟩
      rw [hsp] at hp
      have hat : ((r.1.map fun p => kV p.1) ++ [V.str x])[0]? = some (kV (firstK x r)) := by
        unfold firstK
        cases r.1 <;> rfl
      refine repr1 (Rp_opt hp (fun p e => by cases e; simp)) (by omega) f1 f2 ⟨q3, _, 0, _, rfl, rfl, SqL.of (s5 _ _ e3), atI_nat hat, by decide, fun t4 nt4 => ?_⟩
      have s6 := same_new nt4 (HO.tup [kV (firstK x r)])
      refine repr1 (Rp_path (p := [firstK x r]) upd_same (by simp)) (by omega) f1 f2 ⟨rfl, iteF' (by simp [optD]) ?_⟩
      have sd6 := s13.trans (s5.trans s6)
      refine ⟨.ref p, _, rfl, hre _ sd6, (okB_ok hok).up (by omega), by omega, fun H7 s7 => ⟨_, rfl, iteF' (by rw [hsp]; simp) ?_⟩⟩
      exact sa.trans (sad.trans (sd6.trans s7))
  · rintro σ' Hz ⟨sz, z4, z5, z6, z7, z8, z9, rfl⟩
    walk_at "rd"
    have hmt := List.all_eq_true.mp mates_ok x hx
    simp only [Bool.and_eq_true, decide_eq_true_eq] at hmt
    obtain ⟨⟨hsp, hne⟩, hok⟩ := hmt
    rw [← sp_eqC] at hsp
    have fin : ∀ (u : V) (p : Addr) (G : Hp), leafB u = true → vD u = (if lmateS x = Str.ofString "contains" then PyData.int 1 else .bool true) → Same H3 G → G p = some (.dK [(.inr x, u), (.inr (lmateS x), .bl true)]) → sp_sp P w K 30 [V.ref p] G (fun x H1 => Q (V.bl (decide (x = V.non))) H1) E0 := fun u p G hu hd sg e => by
      rw [← hd] at hsp hok
      refine ⟨.ref p, .dict [(.str x, vD u), (.str (lmateS x), .bool true)], rfl, SX.up (n := 2) (Re.s (n := 2) ⟨p, _, rfl, e, by simp, by simp [hne], .cons ⟨rfl, re_leaf hu⟩ (.cons ⟨rfl, rfl⟩ .nil)⟩) (by omega), (okB_ok hok).up (by omega), by omega, fun v' H' s hp => ?_⟩
      rw [hsp] at hp
      cases hp
      exact q _ (k03.trans (.of (sg.trans s))) (((m3.same sg).same s).up (by omega))
    refine ⟨x, rfl, fun Hy sy p np => ⟨rfl, ite2 (fun hc => ⟨upd_same, [(.inr x, .int 1), (.inr (lmateS x), .bl true)], rfl, by simp, ?_⟩) fun hc => ⟨upd_same, [(.inr x, .bl true), (.inr (lmateS x), .bl true)], rfl, by simp, ?_⟩⟩⟩
    · rw [show mergeK [] [((Sum.inr x : Key), V.int 1), (Sum.inr (lmateS x), V.bl true)] = [(Sum.inr x, V.int 1), (Sum.inr (lmateS x), V.bl true)] by simp [mergeK, putK, hne]]
      exact fin _ _ _ rfl (by rw [if_pos (by simpa using hc)]; rfl) ((sz.trans sy).trans (same_mut (same_new np _) np)) upd_same
    · rw [show mergeK [] [((Sum.inr x : Key), V.bl true), (Sum.inr (lmateS x), V.bl true)] = [(Sum.inr x, V.bl true), (Sum.inr (lmateS x), V.bl true)] by simp [mergeK, putK, hne]]
      exact fin _ _ _ rfl (by rw [if_neg (by simpa using hc)]; rfl) ((sz.trans sy).trans (same_mut (same_new np _) np)) upd_same
end

/-! ### _law_defs_right -/
def sp_defs : Sp := fun vs H Q _ => ∃ m g b, vs = [.ref m] ∧ MSr H m g b 0 ∧ b + 1 < 2 ^ 60 ∧ ∀ H', Keep [m, g] H H' → MSr H' m g (b + 1) 0 → Q (.bl true) H'
theorem catA3 {K : PySem.W.Frag} {H : Hp} {xs : List V} {y : V} {Z : VK} {t pf : Addr} (nt : H t = none) (e : H pf = some (.tup xs)) (hl : xs.length + 1 ≤ sizeLine) (fin : ∀ t2 H', Same H H' → H' t2 = some (.tup (xs ++ [y])) → Z (.ref t2) H') : rCatA K (.ref pf) (.ref t) (upd H t (.tup [y])) Z := by
  have s1 := same_new nt (.tup [y])
  refine ⟨pf, t, xs, [y], rfl, rfl, SqT.of (s1 _ _ e), SqT.of upd_same, hl, fun h => ?_, fun _ h => by simp at h, fun _ _ p np => ?_⟩
  · subst h
    exact fin _ _ s1 upd_same
  · exact fin _ _ (s1.trans (same_new np _)) upd_same
def formV2 : V → Bool
  | .str x => decide (lformS x ≠ Str.ofString "")
  | _ => false
abbrev s_law_defs_right : Stmt := top 43
theorem sc_law_defs_right : FnScope ["_law_m", "_law_inner", "_law_word", "_law_held", "_law_front", "_law_whole", "_law_one"] ["_law_m"] (defScope s_law_defs_right) := ⟨rfl, rfl, rfl, by decide +kernel, rfl, by decide +kernel, by decide +kernel⟩
section
variable {P : Program} {w : World} {K : PySem.W.Frag} {mg : Str → Option Value} {base : Heap} {f : Addr} {fd : FuncData}
theorem ok_defs (D : Def K mg "_law_defs_right" s_law_defs_right f fd) (B : Blt mg) (hsys : ∃ o, base.get? sysModules = some o) (R_law_pick : Rdy P w K mg base 2 "_law_pick" ["_law_m", "_law_some"] sp_pick) (R_law_words : Rdy P w K mg base 1 "_law_words" [] sp_lwords) (R_law_form : Rdy P w K mg base 1 "_law_form" ["_law_word"] sp_lform) (R_law_mate : Rdy P w K mg base 1 "_law_mate" ["_law_word"] sp_lmate) (R_schema_problem : Rdy P w K mg base 68 "schema_problem" ["value"] (sp_sp P w K 30)) : FnG P w K mg base 70 f fd ["_law_m"] sp_defs := by
  refine okG D.1 sc_law_defs_right (fun vs H Q E h => ?_) (fun cdv A outer s H vs Q E hgd hr h => ?_)
  · obtain ⟨m, g, b, rfl, _⟩ := h
    rfl
  obtain ⟨m, g, b, rfl, hm, hb, q⟩ := h
  have hu := hu_of hr
  have hr1 : Room 1 _ := hr.mono (by omega)
  have hr2 : Room 2 _ := hr.mono (by omega)
  have hr3 : Room 68 _ := hr.mono (by omega)
  refine ⟨_, (pss_cons (ps_set (i := 1) sc_law_defs_right.nd rfl (by first | exact Or.inl rfl | exact Or.inr rfl) (pe_c R_law_pick hr2 rfl (pa_cons (pv 0) (pa_cons (pe_lst (pa_cons pe_dnewK (pa_cons (pe_disp (L2.pps_cons pe_str pe_bl L2.pps_nil) (by rfl) (by rfl) (fun z => by cases z) (by decide)) (pa_cons (pe_disp (L2.pps_cons pe_str (pe_disp (L2.pps_cons pe_str pe_int L2.pps_nil) (by rfl) (by rfl) (fun z => by cases z) (by decide)) L2.pps_nil) (by rfl) (by rfl) (fun z => by cases z) (by decide)) (pa_cons pe_int pa_nil))))) pa_nil))))
  (pss_cons (ps_for PassesOwn.never rfl (pi_list (pe_lc (own := [("_law_one", 6)]) (by rfl) sc_law_defs_right.nd (pi_list (pe_c0 R_law_words hr1 rfl)) (blkOk_by (own := [("_law_one", 6)]) (N := ["_law_m", "_law_inner", "_law_word", "_law_held", "_law_front", "_law_whole", "_law_one"]) (sc := defScope s_law_defs_right) (by decide +kernel)) (fun _ _ _ _ _ => (pg_name (i := 6) sc_law_defs_right.nd rfl (by first | exact Or.inl rfl | exact Or.inr rfl))) (fun _ _ _ _ _ => (pts_one (pt_cmpR op_ne (pe_c R_law_form hr1 rfl (pa_cons (pv 6) pa_nil)) pe_str (nomark _)))) (fun _ _ _ _ _ => (pv 6)))) (pg_name (i := 2) sc_law_defs_right.nd rfl (by first | exact Or.inl rfl | exact Or.inr rfl))
   (pss_cons (ps_par (i := 3) (j := 4) (by rfl) sc_law_defs_right.nd rfl rfl (by decide) rfl rfl (pa_cons (pe_disp (L2.pps_cons pe_str (pv 1) (L2.pps_cons pe_str pe_str L2.pps_nil)) (by rfl) (by rfl) (fun z => by cases z) (by decide)) (pa_cons (pe_tup (pa_cons (pv 2) pa_nil)) pa_nil)) (by rfl))
  (pss_cons (ps_if (pt_cmpR op_eq (pe_c R_law_form hr1 rfl (pa_cons (pv 2) pa_nil)) pe_str (nomark _))
   (pss_one (ps_par (i := 3) (j := 4) (by rfl) sc_law_defs_right.nd rfl rfl (by decide) rfl rfl (pa_cons (pe_lst (pa_cons pe_bl (pa_cons (pv 3) pa_nil))) (pa_cons (pe_tup (pa_cons (pv 2) (pa_cons pe_int pa_nil))) pa_nil)) (by rfl)))
   pss_nil)
  (pss_cons (ps_if (pt_cmpR op_eq (pe_c R_law_form hr1 rfl (pa_cons (pv 2) pa_nil)) pe_str (nomark _))
   (pss_one (ps_par (i := 3) (j := 4) (by rfl) sc_law_defs_right.nd rfl rfl (by decide) rfl rfl (pa_cons (pe_disp (L2.pps_cons pe_str (pv 3) L2.pps_nil) (by rfl) (by rfl) (fun z => by cases z) (by decide)) (pa_cons (pe_tup (pa_cons (pv 2) (pa_cons pe_str pa_nil))) pa_nil)) (by rfl)))
   pss_nil)
  (pss_cons (ps_set (i := 5) sc_law_defs_right.nd rfl (by first | exact Or.inl rfl | exact Or.inr rfl) (pe_disp (L2.pps_cons (pe_c R_law_mate hr1 rfl (pa_cons (pv 2) pa_nil)) pe_bl L2.pps_nil) (by rfl) (by rfl) (fun z => by cases z) (by decide)))
  (pss_cons (ps_dput hu (pv 5) (pv 2) (pv 3) rfl)
  (pss_one (ps_if (pt_cmpR op_ne (pe_callB (call_repr hgd hsys (Room.u100 hr)) (by rfl) B.b_repr (by decide +kernel) (pa_cons (pe_c R_schema_problem hr3 rfl (pa_cons (pv 5) pa_nil)) pa_nil)) (pe_callB (call_repr hgd hsys (Room.u100 hr)) (by rfl) B.b_repr (by decide +kernel) (pa_cons (pe_op (op_catAK (K := K) rfl) (pv 4) (pe_tup (pa_cons pe_str pa_nil))) pa_nil)) (nomark _))
   (pss_one (ps_ret pe_bl))
   pss_nil))))))))
  (pss_one (ps_ret (pe_cmpR op_isN (pe_c R_schema_problem hr3 rfl (pa_cons (pe_disp (L2.pps_cons pe_str (pe_disp (L2.pps_cons pe_str pe_bl L2.pps_nil) (by rfl) (by rfl) (fun z => by cases z) (by decide)) (L2.pps_cons pe_str (pe_disp (L2.pps_cons pe_str pe_bl L2.pps_nil) (by rfl) (by rfl) (fun z => by cases z) (by decide)) L2.pps_nil)) (by rfl) (by rfl) (fun z => by cases z) (by decide)) pa_nil)) pe_non (nomark _)))))), ?_⟩
  walk_at "rds"
  refine pick_lit (n := 5) (mk_lst (mka_cons mk_dnew (mka_cons (mk_disp (mkp_str (Str.ofString "a") (mk_bl true) mkp_nil)) (mka_cons (mk_disp (mkp_str (Str.ofString "a") (mk_disp (mkp_str (Str.ofString "defs") (mk_int 5) mkp_nil)) mkp_nil)) (mka_cons (mk_int 5) mka_nil))))) rfl hm (by omega) (by simp) (by simp) fun v1 d H1 hd k1 m1 r1 => ?_
  have r1 : Re H1 5 v1 d := r1.imp (news_sub _ _)
  rw [tFor_eq]
  walk_at "rd"
  refine ⟨rfl, fun l H2 s2 nl el => ⟨l, rfl, ⟨_, SqL.of el⟩, ?_⟩⟩
  refine lcN_filt (tableW.map V.str) formV2 id (walk_list (xs := tableW.map V.str)) (fun _ _ _ _ ⟨h, hy⟩ => ⟨h, _, hy, rfl⟩) (fun H' s => SqL.of (s _ _ el)) (by rw [List.length_map]; decide +kernel) (by simp) (fun e H' N he s Nn => ?_) fun D1 H3 nD1 s3 eD1 => ?_
  · obtain ⟨x, hx, rfl⟩ := List.mem_map.mp he
    walk_at "rd"
    refine ⟨x, rfl, fun H4 s4 => ⟨rfl, ?_⟩⟩
    have h6 := Nn _ s4
    rw [show formV2 (V.str x) = !decide (V.str (lformS x) = V.str (Str.ofString "")) from by simp [formV2]] at h6
    exact h6
  rw [show ((tableW.map V.str).filter formV2).map id = formsL.map V.str by rw [List.map_id, List.filter_map]; rfl] at eD1
  refine ⟨D1, rfl, ⟨_, SqL.of eD1⟩, ?_⟩
  have s13 := s2.trans s3
  refine fo_it (walk_list (xs := formsL.map V.str)) (fun i σ' H' => Same H3 H' ∧ ∃ z2 z3 z4 z5 z6 : Option V, σ' = [some (V.ref m), some v1, z2, z3, z4, z5, z6]) ⟨.refl _, _, _, _, _, _, rfl⟩ (fun _ _ _ _ z => SqL.of (z.1 _ _ eD1)) ?_ ?_
  · rintro i y σ' Ha Hb hi ⟨sa, z2, z3, z4, z5, z6, rfl⟩ ⟨rfl, hy⟩
    obtain ⟨x, hx, rfl⟩ : ∃ x, x ∈ formsL ∧ V.str x = y := List.mem_map.mp (List.mem_of_getElem? hy)
    have rd : Re Hb 5 v1 d := r1.imp (s13.trans sa)
    have nodup2 : ∀ {k1 k2 : Str} {a b : V}, k1 ≠ k2 → mergeK [] [((Sum.inr k1 : Key), a), (Sum.inr k2, b)] = [(Sum.inr k1, a), (Sum.inr k2, b)] := fun h => by simp [mergeK, putK, h]
    refine cutM (fun σ' H' => ∃ u3 t, σ' = [some (V.ref m), some v1, some (.str x), some u3, some (V.ref t), z5, z6] ∧ Same Hb H' ∧ Re H' 7 u3 (hereD d) ∧ H' t = some (.tup ([.inr x].map kV))) (fun N hN => ?_) ?_
    · walk_at "rd"
      intro p np
      refine ⟨upd_same, [(.inr (Str.ofString "defs"), v1), (.inr (Str.ofString "title"), .str (Str.ofString "t"))], rfl, by simp, by decide, fun p1 np1 => ?_⟩
      rw [nodup2 (by decide +kernel)] at np1 ⊢
      have s4 := (same_mut (same_new np (HO.dK [])) np (o := HO.dK [(Sum.inr (Str.ofString "defs"), v1), (Sum.inr (Str.ofString "title"), .str (Str.ofString "t"))])).trans (same_new np1 (HO.tup [V.str x]))
      refine hN _ _ ⟨_, _, rfl, s4, ⟨p, _, rfl, (same_new np1 _) _ _ upd_same, by simp, by simp; decide +kernel, .cons ⟨rfl, (rd.imp s4).up1⟩ (.cons ⟨rfl, rfl⟩ .nil)⟩, upd_same⟩
    rintro σ' Hc ⟨u3, t, rfl, s4, r3, et⟩
    refine cutM (fun σ' H' => ∃ u3 t, σ' = [some (V.ref m), some v1, some (.str x), some u3, some (V.ref t), z5, z6] ∧ Same Hb H' ∧ ((lformS x = Str.ofString "list" ∧ Re H' 8 u3 (heldD x d) ∧ H' t = some (.tup ((frontD x).map kV))) ∨ lformS x ≠ Str.ofString "list" ∧ Re H' 7 u3 (hereD d) ∧ H' t = some (.tup ([.inr x].map kV)))) (fun N hN => ?_) ?_
    · walk_at "rd"
      refine ⟨x, rfl, fun Hd sd => ⟨rfl, ite2 (fun hc => ⟨by decide, fun p np => ⟨by decide, fun p1 np1 => hN _ _ ⟨_, _, rfl, ?_, .inl ⟨by simpa using hc, ?_, ?_⟩⟩⟩⟩) fun hc => hN _ _ ⟨_, _, rfl, s4.trans sd, .inr ⟨by simpa using hc, r3.imp sd, sd _ _ et⟩⟩⟩⟩
      · exact (s4.trans sd).trans ((same_new np _).trans (same_new np1 _))
      · rw [heldD, if_pos (by simpa using hc)]
        exact ⟨p, _, rfl, (same_new np1 _) _ _ upd_same, by simp, .cons rfl (.cons (r3.imp (sd.trans ((same_new np _).trans (same_new np1 _)))) .nil)⟩
      · rw [frontD, if_pos (by simpa using hc)]
        exact upd_same
    clear et r3 s4 t u3
    rintro σ' Hd ⟨u3, t, rfl, s4, hcs⟩
    refine cutM (fun σ' H' => ∃ u3 t, σ' = [some (V.ref m), some v1, some (.str x), some u3, some (V.ref t), z5, z6] ∧ Same Hb H' ∧ Re H' 8 u3 (heldD x d) ∧ H' t = some (.tup ((frontD x).map kV))) (fun N hN => ?_) ?_
    · walk_at "rd"
      refine ⟨x, rfl, fun He se => ⟨rfl, ite2 (fun hc => ?_) fun hc => ?_⟩⟩
      · have hc : lformS x = Str.ofString "dict" := by simpa using hc
        rcases hcs with ⟨h1, _⟩ | ⟨h1, h2, h3⟩
        · rw [hc] at h1; exact absurd h1 (by decide +kernel)
        intro p np
        refine ⟨upd_same, [(.inr (Str.ofString "x"), u3)], rfl, by simp, by decide, fun p1 np1 => ?_⟩
        rw [show mergeK [] [((Sum.inr (Str.ofString "x") : Key), u3)] = [(Sum.inr (Str.ofString "x"), u3)] from rfl] at np1 ⊢
        have s5 := (same_mut (same_new np (HO.dK [])) np (o := HO.dK [(Sum.inr (Str.ofString "x"), u3)])).trans (same_new np1 (HO.tup [V.str x, V.str (Str.ofString "x")]))
        refine hN _ _ ⟨_, _, rfl, s4.trans (se.trans s5), ?_, ?_⟩
        · rw [heldD, if_neg h1, if_pos hc]
          exact ⟨p, _, rfl, (same_new np1 _) _ _ upd_same, by simp, by simp, .cons ⟨rfl, h2.imp (se.trans s5)⟩ .nil⟩
        · rw [frontD, if_neg h1, if_pos hc]
          exact upd_same
      · have hc : lformS x ≠ Str.ofString "dict" := by simpa using hc
        refine hN _ _ ⟨_, _, rfl, s4.trans se, ?_, ?_⟩
        · rcases hcs with ⟨h1, h2, h3⟩ | ⟨h1, h2, h3⟩
          · exact h2.imp se
          · rw [heldD, if_neg h1, if_neg hc]; exact (h2.imp se).up1
        · rcases hcs with ⟨h1, h2, h3⟩ | ⟨h1, h2, h3⟩
          · exact se _ _ h3
          · rw [frontD, if_neg h1, if_neg hc]; exact se _ _ h3
    clear hcs s4 t u3
    rintro σ' He ⟨u3, t, rfl, s4, r3, et⟩
    walk_at "rd"
    intro p np
    refine ⟨x, rfl, fun Hf sf => ⟨sf _ _ upd_same, [(.inr (lmateS x), .bl true)], rfl, by simp, _, DPut.k (k := .inr x) upd_same (sz5l (by simp [mergeK, putK])), ?_⟩⟩
    have s5 : Same He (upd (upd Hf p (.dK (mergeK [] [(Sum.inr (lmateS x), V.bl true)]))) p (.dK (putK (mergeK [] [(Sum.inr (lmateS x), V.bl true)]) (Sum.inr x) u3))) := same_mut (same_mut ((same_new np _).trans sf) np) np
    have e5 : upd (upd Hf p (.dK (mergeK [] [(Sum.inr (lmateS x), V.bl true)]))) p (.dK (putK (mergeK [] [(Sum.inr (lmateS x), V.bl true)]) (Sum.inr x) u3)) p = some (.dK (putK [(Sum.inr (lmateS x), V.bl true)] (Sum.inr x) u3)) := upd_same
    generalize upd (upd Hf p (.dK (mergeK [] [(Sum.inr (lmateS x), V.bl true)]))) p (.dK (putK (mergeK [] [(Sum.inr (lmateS x), V.bl true)]) (Sum.inr x) u3)) = Hg at s5 e5 ⊢
    have hall := List.all_eq_true.mp (List.all_eq_true.mp defs_ok x hx) d hd
    simp only [Bool.and_eq_true, decide_eq_true_eq] at hall
    obtain ⟨⟨⟨hsp, hok⟩, hkey⟩, hlen⟩ := hall
    rw [← sp_eqC] at hsp
    obtain ⟨f1, f2⟩ := path_fine (p := frontD x ++ [.inr (Str.ofString "defs")]) (fun k hk => keyB_ok (List.all_eq_true.mp hkey k hk)) (by rw [List.length_append, List.length_singleton]; omega)
    have rw9 : Re Hg 9 (.ref p) (wholeD x d) := by
      unfold wholeD
      have r4 : Re Hg 8 u3 (heldD x d) := r3.imp s5
      by_cases hmx : lmateS x = x
      · rw [if_pos hmx]
        exact ⟨p, _, rfl, e5, by simp [putK, hmx], by simp [putK, hmx], by rw [show putK [((Sum.inr (lmateS x) : Key), V.bl true)] (Sum.inr x) u3 = [(Sum.inr x, u3)] by simp [putK, hmx]]; exact .cons ⟨rfl, r4⟩ .nil⟩
      · rw [if_neg hmx]
        exact ⟨p, _, rfl, e5, by simp [putK, hmx], by simp [putK, hmx], by rw [show putK [((Sum.inr (lmateS x) : Key), V.bl true)] (Sum.inr x) u3 = [(Sum.inr (lmateS x), V.bl true), (Sum.inr x, u3)] by simp [putK, hmx]]; exact .cons ⟨rfl, rfl⟩ (.cons ⟨rfl, r4⟩ .nil)⟩
    refine ⟨.ref p, _, rfl, SX.up (Re.s rw9) (by omega), (okB_ok hok).up (by omega), by omega, fun v' Hh sh hp => ?_⟩
    rw [hsp] at hp
    refine repr1 (Rp_opt hp (fun p e => by cases e; rw [List.length_append, List.length_singleton]; omega)) (by omega) f1 f2 ⟨by decide, fun t2 nt2 => ?_⟩
    refine catA3 nt2 (sh _ _ (s5 _ _ et)) (sz5 (by rw [List.length_map]; omega)) fun t3 Hi si e3 => ?_
    refine repr1 (Rp_path (p := frontD x ++ [.inr (Str.ofString "defs")]) (by rw [e3, List.map_append]; rfl) (by rw [List.length_append, List.length_singleton]; omega)) (by omega) f1 f2 ⟨rfl, iteF' (by simp [optD]) ?_⟩
    exact sa.trans (s4.trans (s5.trans (sh.trans si)))
  · rintro σ' Hz ⟨sz, z2, z3, z4, z5, z6, rfl⟩
    have hl := last_ok
    simp only [Bool.and_eq_true, decide_eq_true_eq] at hl
    obtain ⟨hsp, hok⟩ := hl
    rw [← sp_eqC] at hsp
    walk_at "rds"
    simp only [tOp, tCall, tCons, tNil, tC]
    refine Mk.run (n := 5) (mk_disp (mkp_str (Str.ofString "defs") (mk_disp (mkp_str (Str.ofString "a") (mk_bl true) mkp_nil)) (mkp_str (Str.ofString "items") (mk_disp (mkp_str (Str.ofString "not") (mk_bl true) mkp_nil)) mkp_nil))) fun v9 H9 s9 r9 => ?_
    refine ⟨v9, lastD, rfl, SX.up (Re.s (r9.imp (news_sub _ _))) (by omega), (okB_ok hok).up (by omega), by omega, fun v' Hy sy hp => ?_⟩
    rw [hsp] at hp
    cases hp
    have sA := s13.trans (sz.trans (s9.trans sy))
    exact ⟨trivial, q _ (k1.trans (.of sA)) (m1.same sA)⟩
end

/-! ### what stands in the rows of the table -/
theorem tab_oneA : ∀ r ∈ tableR, formOf r.1 = some r.2 := by decide +kernel
theorem formOf_in {w f : Str} (h : formOf w = some f) : (w, f) ∈ tableR := by
  unfold formOf at h
  obtain ⟨r, hr, rfl⟩ := Option.map_eq_some_iff.mp h
  have h1 := List.mem_of_find?_eq_some hr
  have h2 := List.find?_some hr
  obtain ⟨a, b⟩ := r
  have : a = w := of_decide_eq_true h2
  subst this
  exact h1
theorem nestR_ge (f : PyData → Int) (m : Nat) (es : List (PyData × PyData)) (a : Int) (r : Str × Str) : a ≤ nestR f m es a r := by
  unfold nestR
  split
  · split
    · exact mx_le (by simp)
    · exact Int.le_refl _
  · exact Int.le_refl _
theorem nestF_ge (f : PyData → Int) (m : Nat) (es : List (PyData × PyData)) : ∀ (rs : List (Str × Str)) (a : Int), a ≤ rs.foldl (nestR f m es) a
  | [], a => Int.le_refl _
  | r :: rs, a => Int.le_trans (nestR_ge f m es a r) (nestF_ge f m es rs _)
theorem nestF_mem {f : PyData → Int} {m : Nat} {es : List (PyData × PyData)} {V : PyData} {q : List Key × PyData} : ∀ {rs : List (Str × Str)} {a : Int} {r : Str × Str}, r ∈ rs → dgk es r.1 = some V → formB m r.2 V = true → q ∈ placesD r.2 V → f q.2 ≤ rs.foldl (nestR f m es) a
  | r0 :: rs, a, r, hr, h1, h2, h3 => by
    rcases List.mem_cons.mp hr with rfl | hr
    · refine Int.le_trans ?_ (nestF_ge f m es rs _)
      unfold nestR
      rw [h1]
      simp only
      rw [if_pos h2]
      exact mx_le (List.mem_cons_of_mem _ (List.mem_cons_of_mem _ (List.mem_map.mpr ⟨q, h3, rfl⟩)))
    · exact nestF_mem (rs := rs) hr h1 h2 h3
theorem mx_all {l : List Int} {B : Int} (h0 : 0 ≤ B) (h : ∀ x ∈ l, x ≤ B) : mx l ≤ B := by
  rcases List.mem_cons.mp (mx_mem l) with e | e
  · rw [e]; exact h0
  · exact h _ e
theorem nestF_le {f : PyData → Int} {m : Nat} {es : List (PyData × PyData)} {B : Int} (h0 : 0 ≤ B) : ∀ (rs : List (Str × Str)) (a : Int), a ≤ B → (∀ r ∈ rs, ∀ V, dgk es r.1 = some V → formB m r.2 V = true → ∀ q ∈ placesD r.2 V, f q.2 ≤ B) → rs.foldl (nestR f m es) a ≤ B
  | [], a, ha, _ => ha
  | r :: rs, a, ha, h => by
    refine nestF_le h0 rs _ ?_ fun r2 hr2 => h r2 (by simp [hr2])
    unfold nestR
    split
    · rename_i V hV
      split
      · rename_i hf
        refine mx_all h0 fun x hx => ?_
        rcases List.mem_cons.mp hx with rfl | hx
        · exact ha
        · obtain ⟨q, hq, rfl⟩ := List.mem_map.mp hx
          exact h r (by simp) V hV hf q hq
      · exact ha
    · exact ha
theorem nest_ge {m : Nat} {es : List (PyData × PyData)} {w f : Str} {V : PyData} {q : List Key × PyData} (hr : (w, f) ∈ tableR) (h1 : dgk es w = some V) (h2 : formB m f V = true) (h3 : q ∈ placesD f V) : nestN m q.2 + 1 ≤ nestN (m + 1) (.dict es) := by
  simp only [nestN]
  have := nestF_mem (f := nestN m) (a := 0) hr h1 h2 h3
  omega
theorem nest_le {m : Nat} {es : List (PyData × PyData)} {B : Int} (h0 : 0 ≤ B) (h : ∀ r ∈ tableR, ∀ V, dgk es r.1 = some V → formB m r.2 V = true → ∀ q ∈ placesD r.2 V, nestN m q.2 ≤ B) : nestN (m + 1) (.dict es) ≤ B + 1 := by
  simp only [nestN]
  have := nestF_le h0 tableR 0 h0 h
  omega
theorem nest_pos : ∀ (m : Nat) (d : PyData), 1 ≤ nestN m d
  | 0, _ => by simp [nestN]
  | m + 1, .dict es => by
    simp only [nestN]
    have := nestF_ge (nestN m) m es tableR 0
    omega
  | m + 1, .none => by simp [nestN]
  | m + 1, .bool _ => by simp [nestN]
  | m + 1, .int _ => by simp [nestN]
  | m + 1, .str _ => by simp [nestN]
  | m + 1, .list _ => by simp [nestN]
  | m + 1, .tuple _ => by simp [nestN]
theorem nest_bool (m : Nat) (b : Bool) : nestN m (.bool b) = 1 := by cases m <;> rfl

theorem fwp_bool (m : Nat) (b c : Bool) : fwpN m c (.bool b) = none := by cases m <;> rfl
/-- all keys are keywords -/
def KwD (es : List (PyData × PyData)) : Prop := ∀ e ∈ es, ∃ w f, e.1 = .str w ∧ formOf w = some f
theorem srt_nil : srt [] = [] := List.eq_nil_of_length_eq_zero (by rw [srt_len]; rfl)
theorem fwp_kw {m : Nat} {b : Bool} {es : List (PyData × PyData)} (h : KwD es) : fwpN (m + 1) b (.dict es) = fstT (wfR (fwpN m true) m es b) es tableR := by
  have ho : oddS es = [] := by
    refine List.filterMap_eq_nil_iff.mpr fun e he => ?_
    obtain ⟨w, f, h1, h2⟩ := h e he
    rw [h1]
    simp [h2]
  have ha : (es.all fun e => isT .str e.1) = true := List.all_eq_true.mpr fun e he => by
    obtain ⟨w, f, h1, _⟩ := h e he
    rw [h1]; rfl
  simp only [fwpN, ho, srt_nil]
  rw [if_pos ha]
/-- at most one row tells something -/
theorem fstT_only {g : Str × Str → PyData → Option (List Key)} {es : List (PyData × PyData)} {w f : Str} : ∀ {rs : List (Str × Str)}, (∀ r ∈ rs, r.1 ≠ w → (dgk es r.1).bind (g r) = none) → (∀ r ∈ rs, r.1 = w → r = (w, f)) → (w, f) ∈ rs → fstT g es rs = ((dgk es w).bind (g (w, f))).map (Sum.inr w :: ·)
  | r :: rs, h1, h2, h3 => by
    unfold fstT
    by_cases hr : r.1 = w
    · have e := h2 r (by simp) hr
      subst e
      cases hb : (dgk es w).bind (g (w, f)) with
      | some p => simp [hb]
      | none =>
        simp only [hb, Option.map_none]
        refine fstT_none fun r hr' => ?_
        by_cases hw : r.1 = w
        · rw [h2 r (by simp [hr']) hw]; exact hb
        · exact h1 r (by simp [hr']) hw
    · rw [h1 r (by simp) hr]
      refine fstT_only (fun r hr => h1 r (by simp [hr])) (fun r hr => h2 r (by simp [hr])) ?_
      rcases List.mem_cons.mp h3 with e | e
      · rw [← e] at hr; exact absurd rfl hr
      · exact e
theorem row_is {w f : Str} (hf : formOf w = some f) : ∀ r ∈ tableR, r.1 = w → r = (w, f) := by
  intro r hr e
  obtain ⟨a, b⟩ := r
  simp only at e
  subst e
  have := tab_oneA _ hr
  rw [hf] at this
  cases this
  rfl
/-- looking up -/
theorem dgk_one (w x : Str) (V : PyData) : dgk [(.str w, V)] x = if w = x then some V else none := by
  unfold dgk
  rw [List.find?_cons]
  by_cases h : w = x
  · rw [if_pos h]; simp [isKS, h]
  · rw [if_neg h]; simp [isKS, h]
theorem dgk_two (w y x : Str) (V U : PyData) : dgk [(.str y, U), (.str w, V)] x = if y = x then some U else if w = x then some V else none := by
  unfold dgk
  rw [List.find?_cons]
  by_cases h : y = x
  · rw [if_pos h]; simp [isKS, h]
  · rw [if_neg h]
    have : isKS x (.str y) = false := decide_eq_false h
    simp only [this]
    exact dgk_one w x V
theorem isKS_kD (x : Str) (k : Key) : isKS x (kD k) = decide (k = .inr x) := by
  cases k with
  | inl i => simp [isKS, kD]
  | inr y => simp [isKS, kD]
theorem dgk_put {es : List (PyData × PyData)} {k : Key} {d : PyData} {x : Str} (h : k ≠ .inr x) : dgk (putE es k d) x = dgk es x := by
  unfold dgk putE
  split
  · rename_i hany
    clear hany
    induction es with
    | nil => rfl
    | cons e r ih =>
      rw [List.map_cons, List.find?_cons, List.find?_cons]
      by_cases hk : isK k e.1 = true
      · have : isKS x e.1 = false := by rw [isK_is hk, isKS_kD]; simpa using h
        rw [if_pos hk, this]
        simp only [show isKS x (kD k) = false by rw [isKS_kD]; simpa using h]
        exact ih
      · rw [if_neg hk]
        cases isKS x e.1 with
        | true => rfl
        | false => exact ih
  · rw [List.find?_append]
    cases hf : es.find? fun e => isKS x e.1 with
    | some q => rfl
    | none =>
      simp only [Option.none_or, List.find?_cons, show isKS x (kD k) = false by rw [isKS_kD]; simpa using h, List.find?_nil]
/-- one keyword alone -/
theorem one_fwp {m : Nat} {b : Bool} {w f : Str} {V : PyData} (hf : formOf w = some f) : fwpN (m + 1) b (.dict [(.str w, V)]) = (wfR (fwpN m true) m [(.str w, V)] b (w, f) V).map (Sum.inr w :: ·) := by
  rw [fwp_kw (fun e he => by rw [List.mem_singleton.mp he]; exact ⟨w, f, rfl, hf⟩), fstT_only (w := w) (f := f) (fun r hr hne => ?_) (row_is hf) (formOf_in hf), dgk_one, if_pos rfl]
  · rfl
  · rw [dgk_one, if_neg fun e => hne e.symm]; rfl
theorem one_nest {m : Nat} {w f : Str} {V : PyData} {B : Int} (hf : formOf w = some f) (h0 : 0 ≤ B) (h : formB m f V = true → ∀ q ∈ placesD f V, nestN m q.2 ≤ B) : nestN (m + 1) (.dict [(.str w, V)]) ≤ B + 1 := by
  refine nest_le h0 fun r hr U hU hform q hq => ?_
  rw [dgk_one] at hU
  split at hU
  · rename_i e
    have := row_is hf r hr e.symm
    subst this
    cases hU
    exact h hform q hq
  · cases hU
theorem map_eqM {A B : Type} {f g : A → B} {l : List A} (h : ∀ x ∈ l, f x = g x) : l.map f = l.map g := List.map_congr_left h
theorem dep_up : ∀ {k : Nat} {d : PyData}, okD k d → ∀ j, dep (k + j) d = dep k d
  | 0, _, h, _ => h.elim
  | k + 1, .list ds, h, j => by
    rw [show k + 1 + j = (k + j) + 1 by omega]
    simp only [dep]
    rw [map_eqM fun x hx => dep_up (h.2 x hx) j]
  | k + 1, .dict es, h, j => by
    rw [show k + 1 + j = (k + j) + 1 by omega]
    simp only [dep]
    rw [map_eqM (f := fun e : PyData × PyData => dep (k + j) e.2) fun e he => dep_up (h.2 e he).2 j]
  | k + 1, .none, _, j => by rw [show k + 1 + j = (k + j) + 1 by omega]; rfl
  | k + 1, .bool _, _, j => by rw [show k + 1 + j = (k + j) + 1 by omega]; rfl
  | k + 1, .int _, _, j => by rw [show k + 1 + j = (k + j) + 1 by omega]; rfl
  | k + 1, .str _, _, j => by rw [show k + 1 + j = (k + j) + 1 by omega]; rfl
  | k + 1, .tuple _, _, j => by rw [show k + 1 + j = (k + j) + 1 by omega]; rfl
theorem fstR_eq {f g : PyData → Option (List Key)} : ∀ {rs : List (Key × PyData)}, (∀ q ∈ rs, f q.2 = g q.2) → fstR f rs = fstR g rs
  | [], _ => rfl
  | q :: r, h => by
    unfold fstR
    rw [h q (by simp), fstR_eq fun z hz => h z (by simp [hz])]
theorem rowsD_mem {es : List (PyData × PyData)} {q : Key × PyData} (h : q ∈ rowsD es) : q.2 = .none ∨ ∃ e ∈ es, e.2 = q.2 := by
  obtain ⟨x, hx, rfl⟩ := List.mem_map.mp h
  show (dget es x).getD .none = .none ∨ _
  cases hd : dget es x with
  | none => exact .inl rfl
  | some d2 =>
    obtain ⟨e, he, rfl, _⟩ := dget_mem hd
    exact .inr ⟨e, he, by simp [hd]⟩
theorem fwk_up : ∀ {k : Nat} {d : PyData}, okD k d → ∀ j, fwN (k + j) d = fwN k d
  | 0, _, h, _ => h.elim
  | k + 1, .list ds, h, j => by
    rw [show k + 1 + j = (k + j) + 1 by omega]
    simp only [fwN]
    refine fstR_eq fun q hq => ?_
    obtain ⟨p, hp, rfl⟩ := List.mem_map.mp hq
    exact fwk_up (h.2 _ (List.fst_mem_of_mem_zipIdx hp)) j
  | k + 1, .dict es, h, j => by
    rw [show k + 1 + j = (k + j) + 1 by omega]
    simp only [fwN]
    split
    · refine fstR_eq fun q hq => ?_
      rcases rowsD_mem hq with e | ⟨e, he, e2⟩
      · rw [e]; cases k <;> cases j <;> rfl
      · rw [← e2]; exact fwk_up (h.2 e he).2 j
    · rfl
  | k + 1, .none, _, j => by rw [show k + 1 + j = (k + j) + 1 by omega]; rfl
  | k + 1, .bool _, _, j => by rw [show k + 1 + j = (k + j) + 1 by omega]; rfl
  | k + 1, .int _, _, j => by rw [show k + 1 + j = (k + j) + 1 by omega]; rfl
  | k + 1, .str _, _, j => by rw [show k + 1 + j = (k + j) + 1 by omega]; rfl
  | k + 1, .tuple _, _, j => by rw [show k + 1 + j = (k + j) + 1 by omega]; rfl
theorem dp_up {k : Nat} {d : PyData} (h : okD k d) (j : Nat) : dpN (k + j) d = dpN k d := by
  unfold dpN
  rw [dep_up h, fwk_up h]
theorem same_up : ∀ {k : Nat} {d e : PyData}, okD k d → okD k e → ∀ j, sameN (k + j) d e = sameN k d e
  | 0, _, _, h, _, _ => h.elim
  | k + 1, .list ds, .list es, h, g, j => by
    rw [show k + 1 + j = (k + j) + 1 by omega]
    simp only [sameN]
    congr 2
    apply List.ext_getElem?
    intro i
    rw [List.getElem?_zipWith, List.getElem?_zipWith]
    cases h1 : ds[i]? <;> cases h2 : es[i]? <;> simp
    exact same_up (h.2 _ (List.mem_of_getElem? h1)) (g.2 _ (List.mem_of_getElem? h2)) j
  | k + 1, .dict ds, .dict es, h, g, j => by
    rw [show k + 1 + j = (k + j) + 1 by omega]
    simp only [sameN]
    congr 2
    apply List.map_congr_left
    intro e he
    cases h2 : dget es (strD e.1) with
    | none => rfl
    | some d2 =>
      obtain ⟨e2, he2, rfl, _⟩ := dget_mem h2
      exact same_up (h.2 e he).2 (g.2 e2 he2).2 j
  | k + 1, .none, e, _, _, j => by rw [show k + 1 + j = (k + j) + 1 by omega]; cases e <;> rfl
  | k + 1, .bool _, e, _, _, j => by rw [show k + 1 + j = (k + j) + 1 by omega]; cases e <;> rfl
  | k + 1, .int _, e, _, _, j => by rw [show k + 1 + j = (k + j) + 1 by omega]; cases e <;> rfl
  | k + 1, .str _, e, _, _, j => by rw [show k + 1 + j = (k + j) + 1 by omega]; cases e <;> rfl
  | k + 1, .tuple _, e, _, _, j => by rw [show k + 1 + j = (k + j) + 1 by omega]; cases e <;> rfl
  | k + 1, .list _, .none, _, _, j => by rw [show k + 1 + j = (k + j) + 1 by omega]; rfl
  | k + 1, .list _, .bool _, _, _, j => by rw [show k + 1 + j = (k + j) + 1 by omega]; rfl
  | k + 1, .list _, .int _, _, _, j => by rw [show k + 1 + j = (k + j) + 1 by omega]; rfl
  | k + 1, .list _, .str _, _, _, j => by rw [show k + 1 + j = (k + j) + 1 by omega]; rfl
  | k + 1, .list _, .tuple _, _, _, j => by rw [show k + 1 + j = (k + j) + 1 by omega]; rfl
  | k + 1, .list _, .dict _, _, _, j => by rw [show k + 1 + j = (k + j) + 1 by omega]; rfl
  | k + 1, .dict _, .none, _, _, j => by rw [show k + 1 + j = (k + j) + 1 by omega]; rfl
  | k + 1, .dict _, .bool _, _, _, j => by rw [show k + 1 + j = (k + j) + 1 by omega]; rfl
  | k + 1, .dict _, .int _, _, _, j => by rw [show k + 1 + j = (k + j) + 1 by omega]; rfl
  | k + 1, .dict _, .str _, _, _, j => by rw [show k + 1 + j = (k + j) + 1 by omega]; rfl
  | k + 1, .dict _, .tuple _, _, _, j => by rw [show k + 1 + j = (k + j) + 1 by omega]; rfl
  | k + 1, .dict _, .list _, _, _, j => by rw [show k + 1 + j = (k + j) + 1 by omega]; rfl
theorem diff_up {k : Nat} {d : PyData} (h : okD k d) (j : Nat) : diffD (k + j) d = diffD k d := by
  cases k with
  | zero => exact h.elim
  | succ k =>
  cases d with
  | list ds =>
    have hu : ∀ x ∈ ds, okD (k + 1) x := fun x hx => (h.2 x hx).up1
    simp only [diffD]
    have e1 : (ds.all fun d => decide (dpN (k + 1 + j) d = none)) = ds.all fun d => decide (dpN (k + 1) d = none) := by
      rw [Bool.eq_iff_iff, List.all_eq_true, List.all_eq_true]
      constructor
      · intro g x hx; have := g x hx; rw [dp_up (hu x hx)] at this; exact this
      · intro g x hx; have := g x hx; rw [← dp_up (hu x hx) j] at this; exact this
    have e2 : (ds.zipIdx.map fun p => ((ds.take p.2).map fun e => sameN (k + 1 + j) p.1 e).any id) = ds.zipIdx.map fun p => ((ds.take p.2).map fun e => sameN (k + 1) p.1 e).any id := by
      refine map_eqM fun p hp => ?_
      rw [map_eqM fun e he => same_up (hu _ (List.fst_mem_of_mem_zipIdx hp)) (hu e (List.mem_of_mem_take he)) j]
    rw [e1, e2]
  | _ => rfl
theorem form_up {k : Nat} {d : PyData} (h : okD k d) (x : Str) (j : Nat) : formB (k + j) x d = formB k x d := by
  unfold formB
  rw [dp_up h, diff_up h]

/-! ### dicts with keys that are no keywords, purely -/
theorem wfR_ok {g : PyData → Option (List Key)} {m : Nat} {es : List (PyData × PyData)} {b : Bool} {r : Str × Str} {U : PyData} (ha : aloneD es r.1 = false) (hd : r.1 = Str.ofString "defs" → b = false) (hf : formB m r.2 U = true) : wfR g m es b r U = fstP g (placesD r.2 U) := by
  unfold wfR
  rw [if_neg]
  rw [ha, hf]
  by_cases h : r.1 = Str.ofString "defs"
  · rw [hd h]; simp
  · rw [decide_eq_false h]; simp
def wordsO : List Str := [Str.ofString "zz", Str.ofString "Items", Str.ofString "", Str.ofString "ref ", Str.ofString "a", Str.ofString "item", Str.ofString "$ref"]
theorem wordsO_ok : (wordsO.all fun z => decide (formOf z = none) && decide (z ≠ Str.ofString "kinds") && keyB (.inr z)) = true := by decide +kernel
def kindL : List PyData := [.int 5, .list [], .list [.str (Str.ofString "null"), .str (Str.ofString "null")], .str (Str.ofString "null")]
theorem kindL_ok : (kindL.all fun d => decide (fwpC 30 false (.dict [(.str (Str.ofString "kinds"), d)]) = some [.inr (Str.ofString "kinds")]) && decide (fwpC 28 true (.dict [(.str (Str.ofString "kinds"), d)]) = some [.inr (Str.ofString "kinds")]) && okB 3 d) = true := by decide +kernel
theorem table_kinds : (tableR.all fun r => decide (r.1 ≠ Str.ofString "kinds") || decide (r.2 = Str.ofString "kinds")) = true := by decide +kernel
/-- the first of the sorted -/
theorem srt_head {xs ys : List Str} (h : ∀ z, z ∈ xs ↔ z ∈ ys) : (srt xs).head? = (srt ys).head? := by
  have key : ∀ {xs ys : List Str}, (∀ z, z ∈ xs → z ∈ ys) → (∀ z, z ∈ ys → z ∈ xs) → ∀ x, (srt xs).head? = some x → (srt ys).head? = some x := by
    intro xs ys h1 h2 x hx
    have px := srt_pw xs
    have py := srt_pw ys
    cases ex : srt xs with
    | nil => rw [ex] at hx; cases hx
    | cons a r =>
      rw [ex] at hx px
      cases hx
      have hxm : x ∈ xs := mem_srt.mp (by rw [ex]; exact List.mem_cons_self)
      cases ey : srt ys with
      | nil => exact absurd (mem_srt.mpr (h1 _ hxm)) (by rw [ey]; simp)
      | cons y s =>
        rw [ey] at py
        have hym : y ∈ ys := mem_srt.mp (by rw [ey]; exact List.mem_cons_self)
        have l1 : leS x y = true := by
          rcases List.mem_cons.mp (show y ∈ x :: r by rw [← ex]; exact mem_srt.mpr (h2 _ hym)) with e | e
          · subst e; have := leS_total y y; simpa using this
          · exact (List.pairwise_cons.mp px).1 _ e
        have l2 : leS y x = true := by
          rcases List.mem_cons.mp (show x ∈ y :: s by rw [← ey]; exact mem_srt.mpr (h1 _ hxm)) with e | e
          · subst e; have := leS_total x x; simpa using this
          · exact (List.pairwise_cons.mp py).1 _ e
        exact congrArg some (leS_anti _ _ l2 l1)
  cases e : (srt xs).head? with
  | some x => exact (key (fun z => (h z).mp) (fun z => (h z).mpr) x e).symm
  | none =>
    cases e2 : (srt ys).head? with
    | none => rfl
    | some y => rw [key (fun z => (h z).mpr) (fun z => (h z).mp) y e2] at e; cases e
/-- what is drawn: the keys that are texts, and whether there are others -/
structure OddI (zs : List Str) (k : Nat) (es : List (PyData × PyData)) : Prop where
  ky : ∀ e ∈ es, (∃ z ∈ zs, e.1 = .str z) ∨ ((∀ x, e.1 ≠ .str x) ∧ 0 < k)
  zi : ∀ z ∈ zs, ∃ e ∈ es, e.1 = .str z
  st : 0 < k → ∃ e ∈ es, ∀ x, e.1 ≠ .str x
  wd : ∀ z ∈ zs, z ∈ wordsO
def dueP (zs : List Str) (k : Nat) : List Key := match (srt zs).head? with
  | some x => [.inr x]
  | none => if 0 < k then [] else [.inr (Str.ofString "kinds")]
def withK (es : List (PyData × PyData)) (d : PyData) : List (PyData × PyData) := es ++ [(.str (Str.ofString "kinds"), d)]
theorem word_odd {z : Str} (h : z ∈ wordsO) : formOf z = none ∧ z ≠ Str.ofString "kinds" := by
  have := List.all_eq_true.mp wordsO_ok z h
  simp only [Bool.and_eq_true, decide_eq_true_eq] at this
  exact this.1
theorem kinds_form : formOf (Str.ofString "kinds") = some (Str.ofString "kinds") := by decide +kernel
theorem OddI.odd {zs : List Str} {k : Nat} {es : List (PyData × PyData)} {d : PyData} (h : OddI zs k es) (z : Str) : z ∈ oddS (withK es d) ↔ z ∈ zs := by
  constructor
  · intro hz
    obtain ⟨e, he, hez⟩ := List.mem_filterMap.mp hz
    rcases List.mem_append.mp he with he | he
    · rcases h.ky e he with ⟨y, hy, hey⟩ | ⟨hn, _⟩
      · rw [hey] at hez
        simp only at hez
        split at hez
        · cases hez; exact hy
        · cases hez
      · cases h9 : e.1 with
        | str x => exact absurd h9 (hn x)
        | _ => rw [h9] at hez; cases hez
    · rw [List.mem_singleton.mp he] at hez
      simp only [kinds_form] at hez
      cases hez
  · intro hz
    obtain ⟨e, he, hez⟩ := h.zi z hz
    refine List.mem_filterMap.mpr ⟨e, List.mem_append_left _ he, ?_⟩
    rw [hez]
    simp [(word_odd (h.wd z hz)).1]
theorem OddI.fwp {zs : List Str} {k : Nat} {es : List (PyData × PyData)} {d : PyData} (h : OddI zs k es) (hd : d ∈ kindL) {n : Nat} {b : Bool} (hn : (n = 29 ∧ b = false) ∨ (n = 27 ∧ b = true)) : fwpN (n + 1) b (.dict (withK es d)) = some (dueP zs k) := by
  have hh := srt_head (h.odd (d := d))
  unfold dueP
  rw [← hh]
  simp only [fwpN]
  cases hs : srt (oddS (withK es d)) with
  | cons x r => rfl
  | nil =>
    simp only [List.head?_nil]
    have hz : zs = [] := by
      cases zs with
      | nil => rfl
      | cons z r =>
        have : z ∈ srt (oddS (withK es d)) := mem_srt.mpr ((h.odd z).mpr List.mem_cons_self)
        rw [hs] at this; cases this
    subst hz
    by_cases hk : 0 < k
    · rw [if_pos hk, if_neg]
      intro hall
      obtain ⟨e, he, hne⟩ := h.st hk
      have := List.all_eq_true.mp hall e (List.mem_append_left _ he)
      cases h9 : e.1 with
      | str x => exact hne x h9
      | _ => rw [h9] at this; cases this
    · rw [if_neg hk]
      have he : es = [] := by
        cases es with
        | nil => rfl
        | cons e r =>
          rcases h.ky e List.mem_cons_self with ⟨z, hz, _⟩ | ⟨_, h0⟩
          · cases hz
          · exact absurd h0 hk
      subst he
      have hkd := List.all_eq_true.mp kindL_ok d hd
      simp only [Bool.and_eq_true, decide_eq_true_eq] at hkd
      have h1 : fwpN (n + 1) b (.dict [(.str (Str.ofString "kinds"), d)]) = some [.inr (Str.ofString "kinds")] := by
        rw [fwp_eqC]
        rcases hn with ⟨rfl, rfl⟩ | ⟨rfl, rfl⟩
        · exact hkd.1.1
        · exact hkd.1.2
      simp only [fwpN] at h1
      rw [show srt (oddS [(PyData.str (Str.ofString "kinds"), d)]) = [] from hs] at h1
      exact h1
theorem OddI.dgk {zs : List Str} {k : Nat} {es : List (PyData × PyData)} {d : PyData} (h : OddI zs k es) {r : Str × Str} (hr : r ∈ tableR) (hne : r.1 ≠ Str.ofString "kinds") : dgk (withK es d) r.1 = none := by
  unfold SC.dgk
  rw [Option.map_eq_none_iff, List.find?_eq_none]
  intro e he hk
  have ht := table_form r hr
  rcases List.mem_append.mp he with he | he
  · rcases h.ky e he with ⟨z, hz, hez⟩ | ⟨hn, _⟩
    · rw [hez] at hk
      have : z = r.1 := of_decide_eq_true hk
      rw [← this, (word_odd (h.wd z hz)).1] at ht
      cases ht
    · cases h9 : e.1 with
      | str x => exact hn x h9
      | _ => rw [h9] at hk; cases hk
  · rw [List.mem_singleton.mp he] at hk
    exact hne (of_decide_eq_true hk).symm
theorem OddI.nest {zs : List Str} {k : Nat} {es : List (PyData × PyData)} {d : PyData} (h : OddI zs k es) (n : Nat) : nestN (n + 1) (.dict (withK es d)) ≤ 1 := by
  have := nest_le (m := n) (es := withK es d) (B := 0) (by decide) fun r hr U hU hform q hq => by
    exfalso
    by_cases hk : r.1 = Str.ofString "kinds"
    · have := List.all_eq_true.mp table_kinds r hr
      simp only [Bool.or_eq_true, decide_eq_true_eq] at this
      rcases this with h1 | h1
      · exact h1 hk
      · rw [h1] at hq
        unfold placesD at hq
        rw [if_neg (by decide +kernel), if_neg (by decide +kernel), if_neg (by decide +kernel)] at hq
        cases hq
    · rw [h.dgk hr hk] at hU
      cases hU
  omega
theorem OddI.sp {zs : List Str} {k : Nat} {es : List (PyData × PyData)} {d : PyData} (h : OddI zs k es) (hd : d ∈ kindL) : spN 30 (.dict (withK es d)) = some (dueP zs k) := by
  unfold spN
  rw [if_neg (by have : nestN 30 (.dict (withK es d)) ≤ 1 := h.nest (d := d) 29; omega)]
  exact h.fwp hd (.inl ⟨rfl, rfl⟩)
def overD (X : PyData) : PyData := .dict [(.str (Str.ofString "any_of"), .list [.bool true, .dict [(.str (Str.ofString "not"), X)]])]
theorem OddI.over {zs : List Str} {k : Nat} {es : List (PyData × PyData)} {d : PyData} (h : OddI zs k es) (hd : d ∈ kindL) : spN 30 (overD (.dict (withK es d))) = some (.inr (Str.ofString "any_of") :: .inl 1 :: .inr (Str.ofString "not") :: dueP zs k) := by
  have f1 : formOf (Str.ofString "any_of") = some (Str.ofString "several") := by decide +kernel
  have f2 : formOf (Str.ofString "not") = some (Str.ofString "schema") := by decide +kernel
  have p1 : ∀ V, placesD (Str.ofString "schema") V = [([], V)] := fun V => by unfold placesD; rw [if_pos rfl]
  have p2 : ∀ ds : List PyData, placesD (Str.ofString "several") (.list ds) = (rowsL ds).map fun q => ([q.1], q.2) := fun ds => by unfold placesD; rw [if_neg (by decide +kernel), if_pos rfl]
  have n1 := h.nest (d := d) 27
  have n2 : nestN 29 (.dict [(.str (Str.ofString "not"), .dict (withK es d))]) ≤ 2 := one_nest (m := 28) (B := 1) f2 (by decide) fun _ q hq => by
    rw [p1, List.mem_singleton] at hq
    subst hq
    exact n1
  have n3 : nestN 30 (overD (.dict (withK es d))) ≤ 3 := one_nest (m := 29) (B := 2) f1 (by decide) fun _ q hq => by
    rw [p2] at hq
    simp only [rowsL, List.zipIdx_cons, List.zipIdx_nil, List.map_cons, List.map_nil, List.mem_cons, List.not_mem_nil, or_false] at hq
    rcases hq with rfl | rfl
    · show (1 : Int) ≤ 2; decide
    · exact n2
  unfold spN
  rw [if_neg (by omega)]
  have g1 : fwpN 29 true (.dict [(.str (Str.ofString "not"), .dict (withK es d))]) = some (.inr (Str.ofString "not") :: dueP zs k) := by
    rw [one_fwp (m := 28) f2, wfR_ok (by rfl) (fun e => absurd e (by decide +kernel)) (by rfl)]
    show (fstP _ (placesD (Str.ofString "schema") _)).map _ = _
    rw [p1]
    simp only [fstP, h.fwp hd (n := 27) (b := true) (.inr ⟨rfl, rfl⟩)]
    rfl
  show fwpN (29 + 1) false (.dict [(.str (Str.ofString "any_of"), _)]) = _
  rw [one_fwp (m := 29) f1, wfR_ok (by rfl) (fun e => absurd e (by decide +kernel)) (by rfl)]
  show (fstP _ (placesD (Str.ofString "several") _)).map _ = _
  rw [p2]
  simp only [rowsL, List.zipIdx_cons, List.zipIdx_nil, List.map_cons, List.map_nil, fstP]
  rw [show fwpN 29 true (.bool true) = none from rfl, g1]
  rfl
/-- what one more key does -/
theorem OddI.text {zs : List Str} {es es' : List (PyData × PyData)} {z : Str} (h : OddI zs 0 es) (hz : z ∈ wordsO) (hk : es'.map (·.1) = es.map (·.1) ++ [.str z] ∨ (es'.map (·.1) = es.map (·.1) ∧ PyData.str z ∈ es.map (·.1))) : OddI (zs ++ [z]) 0 es' := by
  have mem : ∀ k, k ∈ es'.map (·.1) ↔ k ∈ es.map (·.1) ∨ k = .str z := fun k => by
    rcases hk with hk | ⟨hk, hm⟩
    · rw [hk, List.mem_append, List.mem_singleton]
    · rw [hk]
      exact ⟨.inl, fun h => h.elim id fun e => e ▸ hm⟩
  refine ⟨fun e he => ?_, fun y hy => ?_, fun h0 => absurd h0 (Nat.lt_irrefl _), fun y hy => ?_⟩
  · rcases (mem e.1).mp (List.mem_map.mpr ⟨e, he, rfl⟩) with hm | hm
    · obtain ⟨e2, h1, h2⟩ := List.mem_map.mp hm
      rcases h.ky e2 h1 with ⟨y, hy, hey⟩ | ⟨_, h0⟩
      · exact .inl ⟨y, List.mem_append_left _ hy, h2 ▸ hey⟩
      · exact absurd h0 (Nat.lt_irrefl _)
    · exact .inl ⟨z, by simp, hm⟩
  · rcases List.mem_append.mp hy with hy | hy
    · obtain ⟨e, he, hey⟩ := h.zi y hy
      obtain ⟨e2, h1, h2⟩ := List.mem_map.mp ((mem (.str y)).mpr (.inl (List.mem_map.mpr ⟨e, he, hey⟩)))
      exact ⟨e2, h1, h2⟩
    · rw [List.mem_singleton.mp hy]
      obtain ⟨e2, h1, h2⟩ := List.mem_map.mp ((mem (.str z)).mpr (.inr rfl))
      exact ⟨e2, h1, h2⟩
  · rcases List.mem_append.mp hy with hy | hy
    · exact h.wd y hy
    · rw [List.mem_singleton.mp hy]; exact hz
theorem OddI.other {zs : List Str} {k : Nat} {es es' : List (PyData × PyData)} {u : PyData} (h : OddI zs k es) (hu : ∀ x, u ≠ .str x) (hk : es'.map (·.1) = es.map (·.1) ++ [u] ∨ (es'.map (·.1) = es.map (·.1) ∧ ∃ e ∈ es, ∀ x, e.1 ≠ .str x)) : OddI zs (k + 1) es' := by
  have mem : ∀ c, c ∈ es'.map (·.1) → c ∈ es.map (·.1) ∨ c = u := fun c hc => by
    rcases hk with hk | ⟨hk, hm⟩
    · rw [hk, List.mem_append, List.mem_singleton] at hc; exact hc
    · rw [hk] at hc; exact .inl hc
  have memr : ∀ c, c ∈ es.map (·.1) → c ∈ es'.map (·.1) := fun c hc => by
    rcases hk with hk | ⟨hk, hm⟩
    · rw [hk, List.mem_append]; exact .inl hc
    · rw [hk]; exact hc
  refine ⟨fun e he => ?_, fun y hy => ?_, fun _ => ?_, h.wd⟩
  · rcases mem e.1 (List.mem_map.mpr ⟨e, he, rfl⟩) with hm | hm
    · obtain ⟨e2, h1, h2⟩ := List.mem_map.mp hm
      rcases h.ky e2 h1 with ⟨y, hy, hey⟩ | ⟨h0, _⟩
      · exact .inl ⟨y, hy, h2 ▸ hey⟩
      · exact .inr ⟨fun x hx => h0 x (h2.trans hx), Nat.succ_pos _⟩
    · exact .inr ⟨fun x hx => hu x (hm ▸ hx), Nat.succ_pos _⟩
  · obtain ⟨e, he, hey⟩ := h.zi y hy
    obtain ⟨e2, h1, h2⟩ := List.mem_map.mp (memr (.str y) (List.mem_map.mpr ⟨e, he, hey⟩))
    exact ⟨e2, h1, h2⟩
  · rcases hk with hk | ⟨hk, e, he, hne⟩
    · obtain ⟨e2, h1, h2⟩ := List.mem_map.mp (show u ∈ es'.map (·.1) by rw [hk]; simp)
      exact ⟨e2, h1, fun x hx => hu x (h2 ▸ hx)⟩
    · obtain ⟨e2, h1, h2⟩ := List.mem_map.mp (memr e.1 (List.mem_map.mpr ⟨e, he, rfl⟩))
      exact ⟨e2, h1, fun x hx => hne x (h2 ▸ hx)⟩

/-! ### _law_odd_right -/
structure EntR (H : Hp) (q : NV) (e : PyData × PyData) : Prop where
  kr : Rp H 3 q.2.1 e.1
  vr : Re H 3 q.2.2 e.2
  ok : okD 3 e.2
theorem EntR.imp {H H' : Hp} {q : NV} {e : PyData × PyData} (s : Same H H') (h : EntR H q e) : EntR H' q e := ⟨h.kr.imp s, h.vr.imp s, h.ok⟩
theorem pd_setR {A B : Type} {F : A → B → Prop} : ∀ {xs : List A} {ys : List B}, Paired F xs ys → ∀ (j : Nat) {a : A} {b : B}, F a b → Paired F (xs.set j a) (ys.set j b)
  | _, _, .nil, _, _, _, _ => .nil
  | _, _, .cons h t, 0, _, _, q => .cons q t
  | _, _, .cons h t, j + 1, _, _, q => .cons h (pd_setR t j q)
theorem keep_gone {S : List Addr} {H H' : Hp} (k : Keep S H H') : Same (gone S H) (gone S H') := fun b o e => by
  have hb : b ∉ S := fun z => by unfold gone at e; rw [if_pos z] at e; cases e
  rw [gone_at hb] at e ⊢
  exact k _ _ e hb
theorem nn_of {H H' : Hp} {a : Addr} (s : Same H H') (n : H' a = none) : H a = none := by
  cases e : H a with
  | none => rfl
  | some o => rw [s _ _ e] at n; cases n
/-- the dict that is being built; its keys and values stand outside of S -/
structure HB (w : World) (S : List Addr) (p : Addr) (kvs : List NV) (es : List (PyData × PyData)) (H : Hp) : Prop where
  ne : (p == sysModules) = false
  li : H p = some (oddE w p kvs)
  ks : KsR (gone S H) kvs
  pr : Paired (EntR (gone S H)) kvs es
theorem HB.bd {w : World} {S : List Addr} {p : Addr} {kvs : List NV} {es : List (PyData × PyData)} {H : Hp} (h : HB w S p kvs es H) : BdN w H p kvs := ⟨h.ne, h.li, fun q hq => (h.ks q hq).mono fun b xs e => gone_sub _ _ _ _ e⟩
theorem HB.move {w : World} {S T : List Addr} {p : Addr} {kvs : List NV} {es : List (PyData × PyData)} {H H' : Hp} (h : HB w S p kvs es H) (k : Keep T H H') (hp : p ∉ T) (hT : ∀ b ∈ T, b ∈ S) : HB w S p kvs es H' := by
  have kg : Same (gone S H) (gone S H') := keep_gone fun b o e hb => k b o e fun hz => hb (hT b hz)
  exact ⟨h.ne, k _ _ h.li hp, fun q hq => (h.ks q hq).mono fun b xs e => kg _ _ e, pd_imp h.pr fun _ _ _ _ r => r.imp kg⟩
/-- one more key -/
theorem set_odd {w : World} {S : List Addr} {H : Hp} {p : Addr} {kvs : List NV} {es : List (PyData × PyData)} {k : NestedKey} {u v : V} {ek ev : PyData} (h : HB w S p kvs es H) (hp : p ∈ S) (hl : es.length ≤ 1000) (hk : KR (gone S H) k u) (rk : Rp (gone S H) 3 u ek) (rv : Re (gone S H) 3 v ev) (ok : okD 3 ev) {Q : Hp → Prop}
    (q : ∀ kvs' es', HB w S p kvs' es' (upd H p (oddE w p kvs')) → es'.length ≤ es.length + 1 → (es' = es ++ [(ek, ev)] ∨ ∃ (j : Nat) (e0 : PyData × PyData) (u0 : V), es[j]? = some e0 ∧ es'.map (·.1) = es.map (·.1) ∧ KR (gone S H) k u0 ∧ Rp (gone S H) 3 u0 e0.1) → Q (upd H p (oddE w p kvs'))) : rSetN w (.ref p) u v H Q := by
  have pr := h.pr
  have hlen := pd_len pr
  refine ⟨p, kvs, k, rfl, h.bd, hk.mono fun b xs e => gone_sub _ _ _ _ e, by omega, fun hno => ?_, fun j u0 v0 hj => ?_⟩
  · refine q _ (es ++ [(ek, ev)]) ⟨h.ne, upd_same, ?_, ?_⟩ (by simp) (.inl rfl)
    · rw [gone_mut hp]
      intro c hc
      rcases List.mem_append.mp hc with hc | hc
      · exact h.ks c hc
      · rw [List.mem_singleton.mp hc]; exact hk
    · rw [gone_mut hp]
      exact pd_app pr (.cons ⟨rk, rv, ok⟩ .nil)
  · obtain ⟨e0, he0, er⟩ := pd_get pr hj
    have hk0 : KR (gone S H) k u0 := h.ks _ (List.mem_of_getElem? hj)
    refine q _ (es.set j (e0.1, ev)) ⟨h.ne, upd_same, ?_, ?_⟩ (by simp) (.inr ⟨j, e0, u0, he0, ?_, hk0, er.kr⟩)
    · rw [gone_mut hp]
      intro c hc
      rcases List.mem_or_eq_of_mem_set hc with hc | hc
      · exact h.ks c hc
      · rw [hc]; exact hk0
    · rw [gone_mut hp]
      exact pd_setR pr j ⟨er.kr, rv, ok⟩
    · rw [List.map_set]
      refine List.ext_getElem? fun i => ?_
      rw [List.getElem?_set]
      split
      · rename_i hij
        subst hij
        rw [if_pos (by rw [List.length_map]; exact (List.getElem?_eq_some_iff.mp he0).1), List.getElem?_map, he0]
        rfl
      · rfl
structure OI (w : World) (S : List Addr) (Hb : Hp) (m g lo p : Addr) (B : Int) (zs : List Str) (k L : Nat) (H' : Hp) : Prop where
  li : ∃ kvs es, Keep S Hb H' ∧ MSr H' m g B 0 ∧ H' lo = some (.lst (zs.map V.str)) ∧ HB w S p kvs es H' ∧ OddI zs k es ∧ es.length ≤ L
section
variable {P : Program} {w : World} {K : PySem.W.Frag} {G : Hp} {n : Nat}
theorem ux_sc {fo : Option Str} {v : V} {d : PyData} (hf : fo = some (Str.ofString "schema")) (h : SX P w K G n v d) : UX P w K G n (SX P w K G n) fo v d := by
  unfold UX
  rw [if_neg (by rw [hf]; decide +kernel), if_pos hf]
  exact h
theorem ux_sv {fo : Option Str} {a : Addr} {xs : List V} {ds : List PyData} (hf : fo = some (Str.ofString "several")) (h : G a = some (.lst xs)) (hl : ds.length ≤ 60) (hp : Paired (SX P w K G n) xs ds) : UX P w K G n (SX P w K G n) fo (.ref a) (.list ds) := by
  unfold UX
  rw [if_neg (by rw [hf]; decide +kernel), if_neg (by rw [hf]; decide +kernel), if_neg (by rw [hf]; decide +kernel), if_pos hf]
  exact .inr ⟨ds, a, xs, rfl, rfl, h, hl, hp⟩
end
theorem okd1 {n : Nat} {x : Str} {d : PyData} (hx : x.length ≤ 1000 ∧ AsciiS x) (h : okD n d) : okD (n + 1) (.dict [(.str x, d)]) := ⟨by simp, fun e he => by
  simp only [List.mem_cons, List.not_mem_nil, or_false] at he
  subst he
  exact ⟨fun y hy => by cases hy; exact hx, h⟩⟩
def sp_oddr : Sp := fun vs H Q _ => ∃ m g b, vs = [.ref m] ∧ MSr H m g b 0 ∧ b + 20 < 2 ^ 60 ∧ ∀ H', Keep [m, g] H H' → MSr H' m g (b + 20) 0 → Q (.bl true) H'
abbrev s_law_odd_right : Stmt := top 44
theorem sc_law_odd_right : FnScope ["_law_m", "_law_words_here", "_law_others", "_law_held", "_law_odd", "_law_strange", "_law_turn", "_law_wrong", "_law_due"] ["_law_m"] (defScope s_law_odd_right) := ⟨rfl, rfl, rfl, by decide +kernel, rfl, by decide +kernel, by decide +kernel⟩
section
variable {P : Program} {w : World} {K : PySem.W.Frag} {mg : Str → Option Value} {base : Heap} {f : Addr} {fd : FuncData}
theorem ok_oddr (D : Def K mg "_law_odd_right" s_law_odd_right f fd) (B : Blt mg) (hsys : ∃ o, base.get? sysModules = some o) (R_law_draw : Rdy P w K mg base 1 "_law_draw" ["_law_m", "_law_limit"] sp_draw) (R_law_pick : Rdy P w K mg base 2 "_law_pick" ["_law_m", "_law_some"] sp_pick) (R_schema_problem : Rdy P w K mg base 68 "schema_problem" ["value"] (sp_sp P w K 30)) (R_is_schema : Rdy P w K mg base 69 "is_schema" ["value"] (sp_iss P w K 30)) : FnG P w K mg base 70 f fd ["_law_m"] sp_oddr := by
  refine okG D.1 sc_law_odd_right (fun vs H Q E h => ?_) (fun cdv A outer s H vs Q E hgd hr h => ?_)
  · obtain ⟨m, g, b, rfl, _⟩ := h
    rfl
  obtain ⟨m, g, b, rfl, hm, hb, q⟩ := h
  have hu := hu_of hr
  have hr1 : Room 1 _ := hr.mono (by omega)
  have hr2 : Room 2 _ := hr.mono (by omega)
  have hr3 : Room 68 _ := hr.mono (by omega)
  have hr4 : Room 69 _ := hr.mono (by omega)
  refine ⟨_, (pss_cons (ps_par (i := 1) (j := 2) (by rfl) sc_law_odd_right.nd rfl rfl (by decide) rfl rfl (pa_cons (pe_lst (pa_cons pe_str (pa_cons pe_str (pa_cons pe_str (pa_cons pe_str (pa_cons pe_str (pa_cons pe_str (pa_cons pe_str pa_nil)))))))) (pa_cons (pe_lst (pa_cons pe_int (pa_cons pe_non (pa_cons (pe_tup (pa_cons pe_int pa_nil)) (pa_cons pe_bl (pa_cons pe_int (pa_cons (pe_tup (pa_cons pe_str pa_nil)) pa_nil))))))) pa_nil)) (by rfl))
  (pss_cons (ps_par3 (i := 3) (j := 4) (l := 5) (by rfl) sc_law_odd_right.nd rfl rfl rfl (by decide) (by decide) (by decide) rfl rfl rfl (pa_cons (pe_thawN rfl pe_dnewK) (pa_cons (pe_lst pa_nil) (pa_cons pe_int pa_nil))) (by rfl))
  (pss_cons (ps_for PassesOwn.never rfl (pi_range1 (by rfl) B.b_range (pa_cons (pe_c R_law_draw hr1 rfl (pa_cons (pv 0) (pa_cons pe_int pa_nil))) pa_nil)) (pg_name (i := 6) sc_law_odd_right.nd rfl (by first | exact Or.inl rfl | exact Or.inr rfl))
   (pss_cons (ps_expr (pe_bm PySem.F.plainAttrs_list PySem.F.slot_list_append PySem.F.type_list_append mt_append (pv 4) (pa_cons (pe_c R_law_pick hr2 rfl (pa_cons (pv 0) (pa_cons (pv 1) pa_nil))) pa_nil)))
  (pss_one (ps_asg (pe_c R_law_pick hr2 rfl (pa_cons (pv 0) (pa_cons (pe_lst (pa_cons pe_bl (pa_cons pe_int (pa_cons pe_non pa_nil)))) pa_nil))) (pg_sub (pv 3) (pe_ix (ixLK (K := K) rfl) (pv 4) (pe_un un_neg pe_int) (fun _ _ => rfl)) (set_oddN rfl (u9 hr)))))))
  (pss_cons (ps_for PassesOwn.never rfl (pi_range1 (by rfl) B.b_range (pa_cons (pe_c R_law_draw hr1 rfl (pa_cons (pv 0) (pa_cons pe_int pa_nil))) pa_nil)) (pg_name (i := 6) sc_law_odd_right.nd rfl (by first | exact Or.inl rfl | exact Or.inr rfl))
   (pss_cons (ps_set (i := 5) sc_law_odd_right.nd rfl (by first | exact Or.inl rfl | exact Or.inr rfl) (pe_op op_add (pv 5) pe_int))
  (pss_one (ps_asg pe_bl (pg_sub (pv 3) (pe_c R_law_pick hr2 rfl (pa_cons (pv 0) (pa_cons (pv 2) pa_nil))) (set_oddN rfl (u9 hr)))))))
  (pss_cons (ps_asg (pe_tup (pa_cons (pe_c R_law_pick hr2 rfl (pa_cons (pv 0) (pa_cons (pe_lst (pa_cons pe_int (pa_cons (pe_lst pa_nil) (pa_cons (pe_lst (pa_cons pe_str (pa_cons pe_str pa_nil))) (pa_cons pe_str pa_nil))))) pa_nil))) (pa_cons (pe_tup (pa_cons pe_str pa_nil)) pa_nil))) (pg_tup (by rfl) (pgs_cons (pg_sub (pv 3) pe_str (set_oddN rfl (u9 hr))) (pgs_cons (pg_name (i := 7) sc_law_odd_right.nd rfl (by first | exact Or.inl rfl | exact Or.inr rfl)) pgs_nil))))
  (pss_cons (ps_set (i := 8) sc_law_odd_right.nd rfl (by first | exact Or.inl rfl | exact Or.inr rfl) (pe_ifExp (pt_cmpR (neNilK (K := K) rfl hu) (pv 4) (pe_lst pa_nil) (nomark _)) (pe_tup (pa_cons (pe_ix (ixLK (K := K) rfl) (pe_callB (sortedSK (K := K) rfl) (by rfl) B.b_sorted (by decide +kernel) (pa_cons (pv 4) pa_nil)) pe_int (fun _ _ => rfl)) pa_nil)) (pe_ifExp (pt_cmpR op_gt (pv 5) pe_int (nomark _)) (pe_tup pa_nil) (pv 7))))
  (pss_cons (ps_if (PW.pt (pw_or (pt_cmpR op_ne (pe_callB (call_repr hgd hsys (Room.u100 hr)) (by rfl) B.b_repr (by decide +kernel) (pa_cons (pe_c R_schema_problem hr3 rfl (pa_cons (pe_freezeN rfl (pv 3)) pa_nil)) pa_nil)) (pe_callB (call_repr hgd hsys (Room.u100 hr)) (by rfl) B.b_repr (by decide +kernel) (pa_cons (pv 8) pa_nil)) (nomark _)) (pw_or1 (pt_cmpR op_notB (pe_c R_is_schema hr4 rfl (pa_cons (pv 3) pa_nil)) pe_bl (nomark _)))))
   (pss_one (ps_ret pe_bl))
   pss_nil)
  (pss_one (ps_ret (pe_cmpR op_eq (pe_callB (call_repr hgd hsys (Room.u100 hr)) (by rfl) B.b_repr (by decide +kernel) (pa_cons (pe_c R_schema_problem hr3 rfl (pa_cons (pe_disp (L2.pps_cons pe_str (pe_lst (pa_cons pe_bl (pa_cons (pe_disp (L2.pps_cons pe_str (pv 3) L2.pps_nil) (by rfl) (by rfl) (fun z => by cases z) (by decide)) pa_nil))) L2.pps_nil) (by rfl) (by rfl) (fun z => by cases z) (by decide)) pa_nil)) pa_nil)) (pe_callB (call_repr hgd hsys (Room.u100 hr)) (by rfl) B.b_repr (by decide +kernel) (pa_cons (pe_op (op_catAK (K := K) rfl) (pe_tup (pa_cons pe_str (pa_cons pe_int (pa_cons pe_str pa_nil)))) (pv 8)) pa_nil)) (nomark _))))))))))), ?_⟩
  refine cutM (fun σ' H' => ∃ wl ol t1 t2, σ' = [some (V.ref m), some (V.ref wl), some (V.ref ol), none, none, none, none, none, none] ∧ Same H H' ∧ H' wl = some (.lst (wordsO.map V.str)) ∧ H' ol = some (.lst [.int 5, .non, .ref t1, .bl true, .int 0, .ref t2]) ∧ H' t1 = some (.tup [.int 1]) ∧ H' t2 = some (.tup [.str (Str.ofString "a")]) ∧ H wl = none ∧ H ol = none ∧ H t1 = none ∧ H t2 = none) (fun N hN => ?_) ?_
  · walk_at "rd"
    refine ⟨by decide, fun wl nwl => ⟨by decide, fun t1 nt1 => ⟨by decide, fun t2 nt2 => ⟨by decide, fun ol nol => hN _ _ ⟨wl, ol, t1, t2, rfl, ?_, ?_, upd_same, ?_, ?_, nwl, ?_, ?_, ?_⟩⟩⟩⟩⟩
    · exact (same_new nwl _).trans ((same_new nt1 _).trans ((same_new nt2 _).trans (same_new nol _)))
    · exact ((same_new nt1 _).trans ((same_new nt2 _).trans (same_new nol _))) _ _ upd_same
    · exact ((same_new nt2 _).trans (same_new nol _)) _ _ upd_same
    · exact (same_new nol _) _ _ upd_same
    · exact nn_of ((same_new nwl _).trans ((same_new nt1 _).trans (same_new nt2 _))) nol
    · exact nn_of (same_new nwl _) nt1
    · exact nn_of ((same_new nwl _).trans (same_new nt1 _)) nt2
  rintro σ' Ha ⟨wl, ol, t1, t2, rfl, sa, ewl, eol, et1, et2, nwl, nol, nt1, nt2⟩
  have ma := hm.same sa
  refine cutM (fun σ' H' => ∃ p lo, σ' = [some (V.ref m), some (V.ref wl), some (V.ref ol), some (V.ref p), some (V.ref lo), some (.int 0), none, none, none] ∧ Same Ha H' ∧ BdN w H' p [] ∧ H' lo = some (.lst []) ∧ Ha p = none ∧ Ha lo = none ∧ p ≠ lo) (fun N hN => ?_) ?_
  · walk_at "rd"
    simp only [tThawN]
    walk_at "rd"
    intro p np
    refine ⟨upd_same, fun B0 => ⟨by decide, fun lo nlo => ?_⟩⟩
    have n1 : p ≠ lo := ne_of_none upd_same nlo
    have s1 : Same Ha (upd (upd Ha p (.dK [])) p (oddE w p [])) := same_mut (same_new np _) np
    exact hN _ _ ⟨p, lo, rfl, s1.trans (same_new nlo _), B0.imp (same_new nlo _), upd_same, np, nn_of s1 nlo, n1⟩
  rintro σ' Hb ⟨p, lo, rfl, sb, bd, elo, np, nlo, npl⟩
  have mb := ma.same sb
  have pmg : p ∉ [m, g] := ma.ne np
  have lmg : lo ∉ [m, g] := ma.ne nlo
  have ns : ∀ {b : Addr} {o : HO}, Ha b = some o → H b = none → b ∉ [m, g, lo, p] := fun h1 h2 => by
    have h3 := hm.ne h2
    simp only [List.mem_cons, List.not_mem_nil, or_false, not_or] at h3 ⊢
    exact ⟨h3.1, h3.2, ne_of_none h1 nlo, ne_of_none h1 np⟩
  have wS := ns ewl nwl
  have oS := ns eol nol
  have t1S := ns et1 nt1
  have t2S := ns et2 nt2
  have ewl := sb _ _ ewl
  have eol := sb _ _ eol
  have et1 := sb _ _ et1
  have et2 := sb _ _ et2
  have hS0 : ∀ z ∈ [m, g, lo, p], Hb z ≠ none := fun z hz => by
    have h1 := mb.here
    simp only [List.mem_cons, List.not_mem_nil, or_false] at hz h1
    rcases hz with rfl | rfl | rfl | rfl
    · exact h1 _ (.inl rfl)
    · exact h1 _ (.inr rfl)
    · rw [elo]; simp
    · rw [bd.li]; simp [oddE]
  have live : ∀ {X : Hp} {zs : List V} {kvs es} {B : Int}, MSr X m g B 0 → X lo = some (.lst zs) → HB w [m, g, lo, p] p kvs es X → ∀ z ∈ [m, g, lo, p], X z ≠ none := fun h1 h2 h3 z hz => by
    have h4 := h1.here
    simp only [List.mem_cons, List.not_mem_nil, or_false] at hz h4
    rcases hz with rfl | rfl | rfl | rfl
    · exact h4 _ (.inl rfl)
    · exact h4 _ (.inr rfl)
    · rw [h2]; simp
    · rw [h3.li]; simp [oddE]
  walk_at "rd"
  refine ⟨m, g, b, 0, 4, rfl, mb, by omega, by decide, by decide, fun n1 Hc n10 n14 kc mc => ⟨_, rfl, by omega, by omega, ?_⟩⟩
  obtain ⟨c1, hc1⟩ : ∃ c : Nat, n1.toNat = c := ⟨_, rfl⟩
  have hc14 : c1 ≤ 3 := by omega
  rw [hc1]
  have kS : ∀ {X Y : Hp}, Keep [m, g] X Y → Keep [m, g, lo, p] X Y := fun k b o e hb => k b o e (by simp only [List.mem_cons, List.not_mem_nil, or_false, not_or] at hb ⊢; exact ⟨hb.1, hb.2.1⟩)
  have OI0 : OI w [m, g, lo, p] Hb m g lo p (b + 1 + 2 * (0 : Nat)) [] 0 0 Hc := ⟨[], [], kS kc, mc.up (by omega), kc _ _ elo lmg, ⟨bd.ne, kc _ _ bd.li pmg, (fun q hq => by cases hq), .nil⟩, ⟨(fun e he => by cases he), (fun z hz => by cases hz), (fun h0 => absurd h0 (Nat.lt_irrefl _)), (fun z hz => by cases hz)⟩, Nat.le_refl _⟩
  refine fo_it walk_range (fun i σ' H' => ∃ zs z6, σ' = [some (V.ref m), some (V.ref wl), some (V.ref ol), some (V.ref p), some (V.ref lo), some (.int 0), z6, none, none] ∧ zs.length ≤ i ∧ OI w [m, g, lo, p] Hb m g lo p (b + 1 + 2 * (i : Nat)) zs 0 i H') ⟨[], _, rfl, Nat.le_refl _, OI0⟩ (fun _ _ _ _ _ => trivial) ?_ ?_
  · rintro i y σ' Hd He hi ⟨zs, z6, rfl, hzl, I⟩ ⟨rfl, rfl⟩
    obtain ⟨kvs, es, kd, md, ed, hbd, odd, hln⟩ := I.li
    refine cutM (fun σ' H' => ∃ z, z ∈ wordsO ∧ σ' = [some (V.ref m), some (V.ref wl), some (V.ref ol), some (V.ref p), some (V.ref lo), some (.int 0), some (.int (0 + i)), none, none] ∧ Keep [m, g, lo, p] Hb H' ∧ MSr H' m g (b + 1 + 2 * (i : Nat) + 1) 0 ∧ H' lo = some (.lst ((zs ++ [z]).map V.str)) ∧ HB w [m, g, lo, p] p kvs es H') (fun N hN => ?_) ?_
    · walk_at "rd"
      refine ⟨.inl ⟨rfl, _, SqL.of ed⟩, m, g, _, 0, wl, wordsO.map V.str, rfl, md, by omega, kd _ _ ewl wS, fun h => wS (by simp only [List.mem_cons, List.not_mem_nil, or_false] at h ⊢; rcases h with h | h <;> simp [h]), by simp [wordsO], by simp [wordsO], fun v Hf hv kf mf => ?_⟩
      obtain ⟨z, hz, rfl⟩ := List.mem_map.mp hv
      have ef := kf _ _ ed lmg
      have kl : Keep [lo] Hf (upd Hf lo (.lst (zs.map V.str ++ [V.str z]))) := fun b o e hb => by rw [upd_ne (by simpa using hb)]; exact e
      have mlo : m ∉ [lo] ∧ g ∉ [lo] := by
        simp only [List.mem_cons, List.not_mem_nil, or_false, not_or] at lmg ⊢
        exact ⟨fun h => lmg.1 h.symm, fun h => lmg.2 h.symm⟩
      refine ⟨lo, _, _, rfl, rfl, ef, sz5l (by rw [List.length_map]; omega), hN _ _ ⟨z, hz, rfl, kd.trans ((kS kf).trans fun b o e hb => kl b o e (by simp only [List.mem_cons, List.not_mem_nil, or_false, not_or] at hb ⊢; exact hb.2.2.1)), mf.keep kl mlo.1 mlo.2, by rw [upd_same, List.map_append]; rfl, (hbd.move kf pmg (by simp)).move kl (by simpa using npl) (by simp)⟩⟩
    rintro σ' Hf ⟨z, hz, rfl, kf, mf, ef, hbf⟩
    walk_at "rds"
    refine pick_lit (n := 3) (mk_lst (mka_cons (mk_bl true) (mka_cons (mk_int 5) (mka_cons mk_non mka_nil)))) rfl mf (by omega) (by simp) (by simp) fun v2 d2 Hg hd2 kg mg2 r2 => ?_
    have hbg := hbf.move kg pmg (by simp)
    have rg : Re (gone [m, g, lo, p] Hg) 3 v2 d2 := r2.imp (news_gone (live mf ef hbf))
    have okd2 : okD 3 d2 := by
      simp only [List.mem_cons, List.not_mem_nil, or_false] at hd2
      rcases hd2 with rfl | rfl | rfl <;> trivial
    have eg := kg _ _ ef lmg
    walk_at "rd"
    refine ⟨lo, _, -1, .str z, rfl, rfl, SqL.of eg, by rw [List.map_append]; exact atI_last _ _, ?_⟩
    refine set_odd hbg (by simp) (by omega) (k := .text z) rfl (ek := .str z) rfl rg okd2 fun kvs' es' hb' hl' hk' => ?_
    refine ⟨zs ++ [z], by simp; omega, ⟨kvs', es', ?_, ?_, ?_, hb', odd.text hz ?_, by omega⟩⟩
    · exact (kf.trans (kS kg)).mut (by simp)
    · exact (mg2.keep (S := [p]) (fun b o e hb => by rw [upd_ne (by simpa using hb)]; exact e) (fun h => pmg (by simp at h; simp [h])) (fun h => pmg (by simp at h; simp [h]))).up (by omega)
    · rw [upd_ne npl.symm]; exact eg
    · rcases hk' with h1 | ⟨j, e0, u0, h1, h2, h3, h4⟩
      · exact .inl (by rw [h1, List.map_append]; rfl)
      · refine .inr ⟨h2, ?_⟩
        cases (show u0 = .str z from h3)
        have := Rp.str_of h4
        rw [← this]
        exact List.mem_map.mpr ⟨_, List.mem_of_getElem? h1, rfl⟩
  · rintro σ' Hd ⟨zs, z6, rfl, hzl, I⟩
    have hz3 : zs.length ≤ 3 := by omega
    obtain ⟨kvs, es, kd, md, ed, hbd, odd, hln⟩ := I.li
    walk_at "rd"
    refine ⟨m, g, _, 0, 3, rfl, md, by omega, by decide, by decide, fun n2 He n20 n23 ke me => ⟨_, rfl, by omega, by omega, ?_⟩⟩
    obtain ⟨c2, hc2⟩ : ∃ c : Nat, n2.toNat = c := ⟨_, rfl⟩
    have hc22 : c2 ≤ 2 := by omega
    rw [hc2]
    have OI1 : OI w [m, g, lo, p] Hb m g lo p (b + 8 + (0 : Nat)) zs 0 (3 + 0) He := ⟨kvs, es, kd.trans (kS ke), me.up (by omega), ke _ _ ed lmg, hbd.move ke pmg (by simp), odd, by omega⟩
    clear md ed hbd odd kd hln kvs es I
    refine fo_it walk_range (fun j σ' H' => ∃ z6, σ' = [some (V.ref m), some (V.ref wl), some (V.ref ol), some (V.ref p), some (V.ref lo), some (.int (j : Nat)), z6, none, none] ∧ OI w [m, g, lo, p] Hb m g lo p (b + 8 + (j : Nat)) zs j (3 + j) H') ⟨_, rfl, OI1⟩ (fun _ _ _ _ _ => trivial) ?_ ?_
    · rintro j y σ' Hf Hg hj ⟨z6, rfl, I⟩ ⟨rfl, rfl⟩
      obtain ⟨kvs, es, kd, md, ed, hbd, odd, hln⟩ := I.li
      walk_at "rd"
      refine ⟨m, g, _, 0, ol, _, rfl, md, by omega, kd _ _ eol oS, fun h => oS (by simp only [List.mem_cons, List.not_mem_nil, or_false] at h ⊢; rcases h with h | h <;> simp [h]), by simp, by simp, fun v Hh hv kh mh => ?_⟩
      have hbh := hbd.move kh pmg (by simp)
      have kdh := kd.trans (kS kh)
      have g1 : gone [m, g, lo, p] Hh t1 = some (.tup [.int 1]) := by rw [gone_at t1S]; exact kdh _ _ et1 t1S
      have g2 : gone [m, g, lo, p] Hh t2 = some (.tup [.str (Str.ofString "a")]) := by rw [gone_at t2S]; exact kdh _ _ et2 t2S
      have hkey : ∃ k ek, KR (gone [m, g, lo, p] Hh) k v ∧ Rp (gone [m, g, lo, p] Hh) 3 v ek ∧ (∀ x, ek ≠ PyData.str x) ∧ ∀ x, k ≠ .text x := by
        simp only [List.mem_cons, List.not_mem_nil, or_false] at hv
        rcases hv with rfl | rfl | rfl | rfl | rfl | rfl
        · exact ⟨.num 5, .int 5, .inl rfl, rfl, (fun x h => by cases h), fun x h => by cases h⟩
        · exact ⟨.none, .none, rfl, rfl, (fun x h => by cases h), fun x h => by cases h⟩
        · exact ⟨.tup [.num 1], .tuple [.int 1], ⟨t1, _, rfl, g1, .cons (.inl rfl) .nil⟩, ⟨t1, _, rfl, g1, by simp, .cons rfl .nil⟩, (fun x h => by cases h), fun x h => by cases h⟩
        · exact ⟨.num 1, .bool true, .inr ⟨true, rfl, rfl⟩, rfl, (fun x h => by cases h), fun x h => by cases h⟩
        · exact ⟨.num 0, .int 0, .inl rfl, rfl, (fun x h => by cases h), fun x h => by cases h⟩
        · exact ⟨.tup [.text (Str.ofString "a")], .tuple [.str (Str.ofString "a")], ⟨t2, _, rfl, g2, .cons rfl .nil⟩, ⟨t2, _, rfl, g2, by simp, .cons rfl .nil⟩, (fun x h => by cases h), fun x h => by cases h⟩
      obtain ⟨k, ek, hk, rk, hne, hkt⟩ := hkey
      refine set_odd hbh (by simp) (by omega) hk rk (ev := .bool true) rfl trivial fun kvs' es' hb' hl' hk' => ?_
      refine ⟨by rw [show ((j : Nat) : Int) + 1 = ((j + 1 : Nat) : Int) by omega], ⟨kvs', es', ?_, ?_, ?_, hb', odd.other hne ?_, by omega⟩⟩
      · exact kdh.mut (by simp)
      · exact (mh.keep (S := [p]) (fun b o e hb => by rw [upd_ne (by simpa using hb)]; exact e) (fun h => pmg (by simp at h; simp [h])) (fun h => pmg (by simp at h; simp [h]))).up (by omega)
      · rw [upd_ne npl.symm]; exact kh _ _ ed lmg
      · rcases hk' with h1 | ⟨i, e0, u0, h1, h2, h3, h4⟩
        · exact .inl (by rw [h1, List.map_append]; rfl)
        · refine .inr ⟨h2, e0, List.mem_of_getElem? h1, fun x hx => ?_⟩
          rw [hx] at h4
          cases (show u0 = .str x from h4)
          exact hkt x (KR.text_of h3)
    · rintro σ' Hf ⟨z6, rfl, I⟩
      obtain ⟨kvs, es, kd, md, ed, hbd, odd, hln⟩ := I.li
      dsimp only
      refine cutM (fun σ' H' => ∃ wr d kvs', σ' = [some (V.ref m), some (V.ref wl), some (V.ref ol), some (V.ref p), some (V.ref lo), some (.int (c2 : Nat)), z6, some (.ref wr), none] ∧ d ∈ kindL ∧ Keep [m, g, lo, p] Hb H' ∧ MSr H' m g (b + 20) 0 ∧ H' lo = some (.lst (zs.map V.str)) ∧ HB w [m, g, lo, p] p kvs' (withK es d) H' ∧ H' wr = some (.tup [.str (Str.ofString "kinds")])) (fun N hN => ?_) ?_
      · walk_at "rds"
        refine (show tCall sp_pick [] E0 (tCons (tVar 0) (tCons (tLst _) tNil)) _ _ _ from ?_)
        refine pick_lit (n := 3) (mk_lst (mka_cons (mk_int 5) (mka_cons (mk_lst mka_nil) (mka_cons (mk_lst (mka_cons (mk_str (Str.ofString "null")) (mka_cons (mk_str (Str.ofString "null")) mka_nil))) (mka_cons (mk_str (Str.ofString "null")) mka_nil))))) rfl md (by omega) (by simp) (by simp) fun v d Hg hd kg mg2 r2 => ?_
        have rg : Re (gone [m, g, lo, p] Hg) 3 v d := r2.imp (news_gone (live md ed hbd))
        have hbg := hbd.move kg pmg (by simp)
        have hdk : d ∈ kindL := hd
        have hok := List.all_eq_true.mp kindL_ok d hdk
        simp only [Bool.and_eq_true, decide_eq_true_eq] at hok
        walk_at "rd"
        refine ⟨by decide, fun q4 nq4 => ⟨by decide, fun q5 nq5 => ⟨_, SqT.of upd_same, rfl, ?_⟩⟩⟩
        have ss := (same_new nq4 (HO.tup [V.str (Str.ofString "kinds")])).trans (same_new nq5 (HO.tup [v, V.ref q4]))
        have e4 := (same_new nq5 (HO.tup [v, V.ref q4])) _ _ (show upd Hg q4 (HO.tup [V.str (Str.ofString "kinds")]) q4 = _ from upd_same)
        have n4p : q4 ≠ p := fun z => by rw [z, hbg.li] at nq4; cases nq4
        generalize upd (upd Hg q4 (HO.tup [V.str (Str.ofString "kinds")])) q5 (HO.tup [v, V.ref q4]) = Hs at ss e4 ⊢
        refine ⟨_, _, rfl, set_odd (hbg.move (T := []) (fun b o e _ => ss _ _ e) (by simp) (by simp)) (by simp) (by omega) (k := .text (Str.ofString "kinds")) rfl (ek := .str (Str.ofString "kinds")) rfl (rg.imp (gone_same ss)) (okB_ok hok.2) fun kvs' es' hb' hl' hk' => ⟨_, _, rfl, rfl, hN _ _ ⟨q4, d, kvs', rfl, hdk, ?_, ?_, ?_, ?_, ?_⟩⟩⟩
        · exact (kd.trans ((kS kg).trans (.of ss))).mut (by simp)
        · exact ((mg2.same ss).keep (S := [p]) (fun b o e hb => by rw [upd_ne (by simpa using hb)]; exact e) (fun h => pmg (by simp at h; simp [h])) (fun h => pmg (by simp at h; simp [h]))).up (by omega)
        · rw [upd_ne npl.symm]; exact ss _ _ (kg _ _ ed lmg)
        · rcases hk' with h1 | ⟨i, e0, u0, h1, h2, h3, h4⟩
          · rw [h1] at hb'; exact hb'
          · exfalso
            cases (show u0 = .str (Str.ofString "kinds") from h3)
            have h5 := Rp.str_of h4
            rcases odd.ky e0 (List.mem_of_getElem? h1) with ⟨z, hz, hez⟩ | ⟨hn, _⟩
            · rw [h5] at hez
              cases hez
              exact (word_odd (odd.wd _ hz)).2 rfl
            · exact hn _ h5
        · rw [upd_ne n4p]; exact e4
      rintro σ' Hg ⟨wr, d, kvs', rfl, hdk, kg, mg2, eg, hbg, ewr⟩
      refine cutM (fun σ' H' => ∃ T, σ' = [some (V.ref m), some (V.ref wl), some (V.ref ol), some (V.ref p), some (V.ref lo), some (.int (c2 : Nat)), z6, some (.ref wr), some (.ref T)] ∧ Same Hg H' ∧ H' T = some (.tup ((dueP zs c2).map kV))) (fun N hN => ?_) ?_
      · walk_at "rd"
        refine ⟨by decide, fun q1 nq1 => ⟨lo, q1, _, rfl, rfl, SqL.of ((same_new nq1 _) _ _ eg), SqL.of upd_same, _, rfl, ?_⟩⟩
        have sq := same_new nq1 (HO.lst [])
        have eq1 := sq _ _ eg
        have ewq := sq _ _ ewr
        generalize upd Hg q1 (HO.lst []) = Hq at sq eq1 ewq ⊢
        cases hz0 : zs with
        | nil =>
          refine iteF' (by simp) (ite2 (fun h0 => ⟨by decide, fun t nt => hN _ _ ⟨t, rfl, sq.trans (same_new nt _), ?_⟩⟩) fun h0 => hN _ _ ⟨wr, rfl, sq, ?_⟩)
          · rw [upd_same]
            unfold dueP
            rw [hz0, show srt ([] : List Str) = [] from srt_nil]
            rw [List.head?_nil]
            simp only
            rw [if_pos (by omega)]
            rfl
          · rw [ewq]
            unfold dueP
            rw [hz0, show srt ([] : List Str) = [] from srt_nil]
            rw [List.head?_nil]
            simp only
            rw [if_neg (by omega)]
            rfl
        | cons z0 zr =>
          rw [← hz0]
          refine iteT' (by simp [hz0]) ⟨lo, zs, rfl, SqL.of eq1, by omega, fun z1 l2 pz1 sz1 nl2 => ?_⟩
          obtain rfl : z1 = srt zs := srt_is pz1 sz1
          have hlen : (srt zs).length = zs.length := srt_len zs
          cases hsz : srt zs with
          | nil => rw [hsz, hz0] at hlen; simp at hlen
          | cons x r =>
            refine ⟨l2, _, 0, .str x, rfl, rfl, SqL.of upd_same, atI_nat rfl, by decide, fun t nt => hN _ _ ⟨t, rfl, (sq.trans (same_new nl2 _)).trans (same_new nt _), ?_⟩⟩
            rw [upd_same]
            unfold dueP
            rw [hsz]
            rfl
      rintro σ' Hh ⟨T, rfl, sh, eT⟩
      walk_at "rd"
      simp only [tFreezeN]
      walk_at "rd"
      have hbh := hbg.move (T := []) (fun b o e _ => sh _ _ e) (by simp) (by simp)
      refine ⟨kvs', hbh.bd, fun o O => ?_⟩
      have FK := hbh.bd.known O
      have sg : Same (gone [m, g, lo, p] Hh) (upd Hh p (oddH o)) := fun b o2 e => by
        have hb : b ∉ [m, g, lo, p] := fun z => by unfold gone at e; rw [if_pos z] at e; cases e
        rw [gone_at hb] at e
        have hbp : b ≠ p := fun z => hb (by simp [z])
        rw [upd_ne hbp]
        exact e
      have TS : T ∉ [p] := fun z => by
        rw [List.mem_singleton.mp z, hbh.li] at eT; cases eT
      have eT2 : upd Hh p (oddH o) T = some (.tup ((dueP zs c2).map kV)) := by rw [upd_ne (by simpa using TS)]; exact eT
      have kpO : Keep [m, g, lo, p] Hb (upd Hh p (oddH o)) := (kg.trans (.of sh)).mut (by simp)
      have mO : MSr (upd Hh p (oddH o)) m g (b + 20) 0 := (mg2.same sh).keep (S := [p]) (fun b o e hb => by rw [upd_ne (by simpa using hb)]; exact e) (fun h => pmg (by simp at h; simp [h])) (fun h => pmg (by simp at h; simp [h]))
      generalize upd Hh p (oddH o) = Hk at FK sg eT2 kpO mO ⊢
      have hlw : (withK es d).length ≤ 60 := by simp [withK]; omega
      have hsx : SX P w K Hk 4 (.ref p) (.dict (withK es d)) := .inr ⟨p, kvs', rfl, FK, by rw [pd_len hbh.pr]; exact hlw, pd_imp hbh.pr fun _ _ _ _ r => ⟨r.kr.imp sg, .of (r.vr.imp sg) (r.vr.imp sg).s⟩⟩
      have hkey : ∀ e ∈ withK es d, ∀ x, e.1 = .str x → x.length ≤ 1000 ∧ AsciiS x := fun e he x hx => by
        have hk9 : ∀ {z : Str}, keyB (.inr z) = true → z.length ≤ 1000 ∧ AsciiS z := fun h => by
          have := keyB_ok h
          exact ⟨Nat.le_trans this.1 (by decide), this.2⟩
        rcases List.mem_append.mp he with he | he
        · rcases odd.ky e he with ⟨z, hz, hez⟩ | ⟨hn, _⟩
          · rw [hez] at hx
            cases hx
            have := List.all_eq_true.mp wordsO_ok _ (odd.wd _ hz)
            simp only [Bool.and_eq_true, decide_eq_true_eq] at this
            exact hk9 this.2
          · exact absurd hx (hn x)
        · rw [List.mem_singleton.mp he] at hx
          cases hx
          exact hk9 (by decide +kernel)
      have hok : okD 4 (.dict (withK es d)) := ⟨hlw, fun e he => by
        obtain ⟨q0, _, r⟩ := pd_memR hbh.pr he
        exact ⟨hkey e he, r.ok⟩⟩
      have hdue : ∀ k ∈ dueP zs c2, leafD (kD k) := fun k hk => by
        unfold dueP at hk
        cases hh : (srt zs).head? with
        | some x =>
          rw [hh] at hk
          rw [List.mem_singleton.mp hk]
          have hx : x ∈ zs := mem_srt.mp (List.mem_of_mem_head? hh)
          have := List.all_eq_true.mp wordsO_ok _ (odd.wd _ hx)
          simp only [Bool.and_eq_true, decide_eq_true_eq] at this
          exact keyB_ok this.2
        | none =>
          rw [hh] at hk
          simp only at hk
          split at hk
          · cases hk
          · rw [List.mem_singleton.mp hk]
            exact keyB_ok (by decide +kernel)
      have hdl : (dueP zs c2).length ≤ 1 := by
        unfold dueP
        split
        · simp
        · split <;> simp
      obtain ⟨f1, f2⟩ := path_fine hdue (by omega)
      refine ⟨.ref p, _, rfl, SX.up hsx (by omega), hok.up (by omega), by omega, fun v' Hl sl hp => ?_⟩
      rw [odd.sp hdk] at hp
      refine repr1 (Rp_opt hp (fun p e => by cases e; omega)) (by omega) f1 f2 ?_
      refine repr1 (Rp_path (sl _ _ eT2) (by omega)) (by omega) f1 f2 ⟨rfl, iteF' (by simp [optD]) ?_⟩
      refine ⟨.ref p, _, rfl, SX.up (hsx.imp sl) (by omega), hok.up (by omega), by omega, fun Hm sm => ⟨_, rfl, iteF' (by rw [odd.sp hdk]; simp) ?_⟩⟩
      intro p1 np1 p2 np2
      have n12 : p1 ≠ p2 := ne_of_none upd_same np2
      refine ⟨upd_same, [(.inr (Str.ofString "not"), .ref p)], rfl, by simp, by decide, fun p3 np3 => ?_⟩
      have n13 : p1 ≠ p3 := ne_of_none (by rw [upd_ne n12, upd_ne n12]; exact upd_same) np3
      have n23 : p2 ≠ p3 := ne_of_none upd_same np3
      refine ⟨by rw [upd_ne n13, upd_ne n12, upd_ne n12]; exact upd_same, [(.inr (Str.ofString "any_of"), .ref p3)], rfl, by simp, ?_⟩
      rw [show mergeK [] [((Sum.inr (Str.ofString "not") : Key), V.ref p)] = [(Sum.inr (Str.ofString "not"), V.ref p)] from rfl] at np3 ⊢
      rw [show mergeK [] [((Sum.inr (Str.ofString "any_of") : Key), V.ref p3)] = [(Sum.inr (Str.ofString "any_of"), V.ref p3)] from rfl]
      have sN : Same Hm (upd (upd (upd (upd (upd Hm p1 (HO.dK [])) p2 (HO.dK [])) p2 (HO.dK [(Sum.inr (Str.ofString "not"), V.ref p)])) p3 (HO.lst [V.bl true, V.ref p2])) p1 (HO.dK [(Sum.inr (Str.ofString "any_of"), V.ref p3)])) := same_mut ((same_mut ((same_new np1 _).trans (same_new np2 _)) (nn_of (same_new np1 _) np2)).trans (same_new np3 _)) np1
      have e1 : upd (upd (upd (upd (upd Hm p1 (HO.dK [])) p2 (HO.dK [])) p2 (HO.dK [(Sum.inr (Str.ofString "not"), V.ref p)])) p3 (HO.lst [V.bl true, V.ref p2])) p1 (HO.dK [(Sum.inr (Str.ofString "any_of"), V.ref p3)]) p1 = _ := upd_same
      have e2 : upd (upd (upd (upd (upd Hm p1 (HO.dK [])) p2 (HO.dK [])) p2 (HO.dK [(Sum.inr (Str.ofString "not"), V.ref p)])) p3 (HO.lst [V.bl true, V.ref p2])) p1 (HO.dK [(Sum.inr (Str.ofString "any_of"), V.ref p3)]) p2 = some (HO.dK [(Sum.inr (Str.ofString "not"), V.ref p)]) := by rw [upd_ne n12.symm, upd_ne n23]; exact upd_same
      have e3 : upd (upd (upd (upd (upd Hm p1 (HO.dK [])) p2 (HO.dK [])) p2 (HO.dK [(Sum.inr (Str.ofString "not"), V.ref p)])) p3 (HO.lst [V.bl true, V.ref p2])) p1 (HO.dK [(Sum.inr (Str.ofString "any_of"), V.ref p3)]) p3 = some (HO.lst [V.bl true, V.ref p2]) := by rw [upd_ne n13.symm]; exact upd_same
      generalize upd (upd (upd (upd (upd Hm p1 (HO.dK [])) p2 (HO.dK [])) p2 (HO.dK [(Sum.inr (Str.ofString "not"), V.ref p)])) p3 (HO.lst [V.bl true, V.ref p2])) p1 (HO.dK [(Sum.inr (Str.ofString "any_of"), V.ref p3)]) = Hn at sN e1 e2 e3 ⊢
      have sKN := (sl.trans sm).trans sN
      have f1' : formOf (Str.ofString "any_of") = some (Str.ofString "several") := by decide +kernel
      have f2' : formOf (Str.ofString "not") = some (Str.ofString "schema") := by decide +kernel
      have x5 : SX P w K Hn 5 (.ref p2) (.dict [(.str (Str.ofString "not"), .dict (withK es d))]) := .inl ⟨p2, _, rfl, e2, by simp, by simp, .cons ⟨rfl, ux_sc f2' (hsx.imp sKN)⟩ .nil⟩
      have x6 : SX P w K Hn 6 (.ref p1) (overD (.dict (withK es d))) := .inl ⟨p1, _, rfl, e1, by simp, by simp, .cons ⟨rfl, ux_sv f1' e3 (by simp) (.cons (Re.s (n := 5) rfl) (.cons x5 .nil))⟩ .nil⟩
      have k6 : ∀ {z : Str}, keyB (.inr z) = true → z.length ≤ 1000 ∧ AsciiS z := fun h => by
        have := keyB_ok h
        exact ⟨Nat.le_trans this.1 (by decide), this.2⟩
      have o6 : okD 7 (overD (.dict (withK es d))) := okd1 (n := 6) (k6 (by decide +kernel)) ⟨by simp, fun e he => by
        simp only [List.mem_cons, List.not_mem_nil, or_false] at he
        rcases he with rfl | rfl
        · trivial
        · exact okd1 (k6 (by decide +kernel)) hok⟩
      have hover := odd.over hdk
      have hpl : ∀ k ∈ ((.inr (Str.ofString "any_of") :: .inl 1 :: .inr (Str.ofString "not") :: dueP zs c2 : List Key)), leafD (kD k) := fun k hk => by
        simp only [List.mem_cons] at hk
        rcases hk with rfl | rfl | rfl | hk
        · exact keyB_ok (by decide +kernel)
        · exact keyB_ok (by decide +kernel)
        · exact keyB_ok (by decide +kernel)
        · exact hdue k hk
      obtain ⟨f3, f4⟩ := path_fine hpl (by simp only [List.length_cons]; omega)
      refine ⟨.ref p1, _, rfl, SX.up x6 (by omega), o6.up (by omega), by omega, fun v' Ho so hp => ?_⟩
      rw [hover] at hp
      refine repr1 (Rp_opt hp (fun p e => by cases e; simp only [List.length_cons]; omega)) (by omega) f3 f4 ⟨by decide, fun t3 nt3 => ?_⟩
      have st := same_new nt3 (HO.tup [V.str (Str.ofString "any_of"), V.int 1, V.str (Str.ofString "not")])
      have fin : ∀ (R : Addr) (HR : Hp), Same Ho HR → HR R = some (.tup ((.inr (Str.ofString "any_of") :: .inl 1 :: .inr (Str.ofString "not") :: dueP zs c2 : List Key).map kV)) → rRepr [V.ref R] HR fun y H2 => scal (.str (optD (some (.inr (Str.ofString "any_of") :: .inl 1 :: .inr (Str.ofString "not") :: dueP zs c2))).shown) y = true ∧ Q (V.bl (decide (.str (optD (some (.inr (Str.ofString "any_of") :: .inl 1 :: .inr (Str.ofString "not") :: dueP zs c2))).shown = y))) H2 := fun R HR sR eR => by
        refine repr1 (Rp_path eR (by simp only [List.length_cons]; omega)) (by omega) f3 f4 ⟨rfl, ?_⟩
        have sA := sKN.trans (so.trans sR)
        have hq := q HR (fun b o e hb => sA _ _ (kpO b o (sb _ _ (sa _ _ e)) (by
          have h1 := sa _ _ e
          simp only [List.mem_cons, List.not_mem_nil, or_false, not_or] at hb ⊢
          exact ⟨hb.1, hb.2, ne_of_none h1 nlo, ne_of_none h1 np⟩))) (mO.same sA)
        simpa [optD] using hq
      refine ⟨t3, T, _, _, rfl, rfl, SqT.of upd_same, SqT.of (st _ _ (so _ _ (sKN _ _ eT2))), sz5 (by simp; omega), fun h0 => by simp at h0, fun _ h0 => fin t3 _ st ?_, fun _ _ l nl => fin l _ (st.trans (same_new nl _)) ?_⟩
      · rw [upd_same, List.map_cons, List.map_cons, List.map_cons, h0]
        rfl
      · rw [upd_same]
        rfl
end

/-! ### law -/
def sp_law (K : PySem.W.Frag) : Sp := fun vs H Q _ => ∃ a ns, vs = [.ref a] ∧ Scr K H a ns ∧ ns.length ≤ 63 ∧ ∀ H', Q (.bl true) H'
abbrev s_law : Stmt := top 45
theorem sc_law : FnScope ["_law_script", "_law_m", "_law_bout", "_law_turn"] ["_law_script"] (defScope s_law) := ⟨rfl, rfl, rfl, by decide +kernel, rfl, by decide +kernel, by decide +kernel⟩
section
variable {P : Program} {w : World} {K : PySem.W.Frag} {mg : Str → Option Value} {base : Heap} {f : Addr} {fd : FuncData}
theorem ok_law (D : Def K mg "law" s_law f fd) (B : Blt mg) (R_law_begun : Rdy P w K mg base 1 "_law_begun" ["_law_script"] (sp_begun K)) (R_law_lonely_right : RdyG P w K mg base 70 "_law_lonely_right" ["_law_m"] sp_lonely) (R_law_defs_right : RdyG P w K mg base 70 "_law_defs_right" ["_law_m"] sp_defs) (R_law_odd_right : RdyG P w K mg base 70 "_law_odd_right" ["_law_m"] sp_oddr) : FnG P w K mg base 71 f fd ["_law_script"] (sp_law K) := by
  refine okG D.1 sc_law (fun vs H Q E h => ?_) (fun cdv A outer s H vs Q E hgd hr h => ?_)
  · obtain ⟨a, ns, rfl, _⟩ := h
    rfl
  obtain ⟨a, ns, rfl, hs, h63, q⟩ := h
  have hu := hu_of hr
  have hr1 : Room 1 _ := hr.mono (by omega)
  refine ⟨_, (pss_cons (ps_set (i := 1) sc_law.nd rfl (by first | exact Or.inl rfl | exact Or.inr rfl) (pe_c R_law_begun hr1 rfl (pa_cons (pv 0) pa_nil)))
  (pss_cons (ps_for PassesOwn.never rfl (pi_range1 (by rfl) B.b_range (pa_cons (pe_op op_add pe_int (pe_callB (call_min2 rfl) (by rfl) B.b_min (by decide +kernel) (pa_cons pe_int (pa_cons (pe_callB (lenK (K := K) rfl) (by rfl) B.b_len (by decide +kernel) (pa_cons (pv 0) pa_nil)) pa_nil)))) pa_nil)) (pg_name (i := 2) sc_law.nd rfl (by first | exact Or.inl rfl | exact Or.inr rfl))
   (pss_cons (ps_if (PW.pt (pw_or (pt_not (pt_val (pe_cg R_law_lonely_right hgd hr rfl (pa_cons (pv 1) pa_nil)))) (pw_or1 (pt_not (pt_val (pe_cg R_law_defs_right hgd hr rfl (pa_cons (pv 1) pa_nil)))))))
   (pss_one (ps_ret pe_bl))
   pss_nil)
  (pss_one (ps_for PassesOwn.never rfl (pi_range1 (by rfl) B.b_range (pa_cons pe_int pa_nil)) (pg_name (i := 3) sc_law.nd rfl (by first | exact Or.inl rfl | exact Or.inr rfl))
   (pss_one (ps_if (pt_not (pt_val (pe_cg R_law_odd_right hgd hr rfl (pa_cons (pv 1) pa_nil))))
   (pss_one (ps_ret pe_bl))
   pss_nil))))))
  (pss_one (ps_ret pe_bl)))), ?_⟩
  walk_at "rd"
  refine ⟨a, ns, rfl, hs, h63, fun m g H1 s1 nm ng m1 => ⟨_, .inl ⟨_, (hs.same s1).sq, rfl⟩, ?_⟩⟩
  rw [List.length_map]
  have hmin : (0 : Int) ≤ (if (ns.length : Int) < 3 then (ns.length : Int) else 3) ∧ (if (ns.length : Int) < 3 then (ns.length : Int) else 3) ≤ 3 := by split <;> omega
  generalize (if (ns.length : Int) < 3 then (ns.length : Int) else 3) = mm at hmin ⊢
  refine ⟨by omega, by omega, ?_⟩
  obtain ⟨t, ht⟩ : ∃ t : Nat, (2 + mm).toNat = t := ⟨_, rfl⟩
  rw [ht]
  have ht2 : t ≤ 5 := by omega
  refine fo_it walk_range (fun i σ' H' => ∃ z2 z3 : Option V, σ' = [some (V.ref a), some (V.ref m), z2, z3] ∧ MSr H' m g (100 * i) 0) ⟨none, none, rfl, by simpa using m1⟩ (fun _ _ _ _ _ => trivial) ?_ ?_
  · rintro i y σ' H3 H4 hi ⟨z2, z3, rfl, m3⟩ ⟨rfl, rfl⟩
    walk_at "rd"
    refine ⟨m, g, _, rfl, m3, by omega, fun H5 k5 m5 => ⟨_, rfl, iteF' (by simp) ⟨m, g, _, rfl, m5, by omega, fun H6 k6 m6 => ⟨_, rfl, iteF' (by simp) ?_⟩⟩⟩⟩
    refine ⟨by decide, by decide, ?_⟩
    refine fo_it walk_range (fun j σ' H' => ∃ z3 : Option V, σ' = [some (V.ref a), some (V.ref m), some (.int (0 + i)), z3] ∧ MSr H' m g (100 * i + 3 + 20 * j) 0) ⟨_, rfl, m6.up (by omega)⟩ (fun _ _ _ _ _ => trivial) ?_ ?_
    · rintro j y σ' H7 H8 hj ⟨z3, rfl, m7⟩ ⟨rfl, rfl⟩
      have hj4 : j < 4 := hj
      walk_at "rd"
      exact ⟨m, g, _, rfl, m7, by omega, fun H9 k9 m9 => ⟨_, rfl, iteF' (by simp) (m9.up (by omega))⟩⟩
    · rintro σ' H7 ⟨z3, rfl, m7⟩
      refine ⟨_, _, rfl, m7.up ?_⟩
      rw [show Int.toNat 4 = 4 from rfl]
      omega
  · rintro σ' H' _
    walk_at "rd"
    exact q _
end

abbrev LVL : Nat := 71
theorem all_mk {l : PySem.W.OpenLaw} {w : World} {K : PySem.W.Frag} {h : Heap} {mg : Str → Option Value} {fa f0 f1 f2 f3 f4 f5 f6 f7 f8 f9 f10 f11 f12 f13 f14 f15 f16 f17 f18 f19 f20 f21 f22 f23 f24 f25 f26 f27 f28 f29 : Addr} (X : K.In h) (G : h.Ns mainGlobals mg) (hfa : mg "law" = some (.ref fa))
    {od0 an0 : Option Addr} {sl0 : Array (Option Value)} {oc0 kV0 dc0 pm0 cd0 ct0 : Value}
    (a0 : PySem.W.nsIn K mainGlobals "is_integer" = some (some (.ref f0)))
    (l0 : K.lookup f0 = some ⟨oc0, od0, .func (PySem.W.fnOf "is_integer" "is_integer" (defArgs s_is_integer) (defBody s_is_integer) (defScope s_is_integer) .none kV0 dc0 pm0 an0 cd0 ct0), sl0⟩)
    (c0 : PySem.W.codeIn K cd0 "is_integer" = true) (k0 : PySem.W.keepIn K (.ref f0) = true)
    {od1 an1 : Option Addr} {sl1 : Array (Option Value)} {oc1 kV1 dc1 pm1 cd1 ct1 : Value}
    (a1 : PySem.W.nsIn K mainGlobals "is_text" = some (some (.ref f1)))
    (l1 : K.lookup f1 = some ⟨oc1, od1, .func (PySem.W.fnOf "is_text" "is_text" (defArgs s_is_text) (defBody s_is_text) (defScope s_is_text) .none kV1 dc1 pm1 an1 cd1 ct1), sl1⟩)
    (c1 : PySem.W.codeIn K cd1 "is_text" = true) (k1 : PySem.W.keepIn K (.ref f1) = true)
    {od2 an2 : Option Addr} {sl2 : Array (Option Value)} {oc2 kV2 dc2 pm2 cd2 ct2 : Value}
    (a2 : PySem.W.nsIn K mainGlobals "depth_of" = some (some (.ref f2)))
    (l2 : K.lookup f2 = some ⟨oc2, od2, .func (PySem.W.fnOf "depth_of" "depth_of" (defArgs s_depth_of) (defBody s_depth_of) (defScope s_depth_of) .none kV2 dc2 pm2 an2 cd2 ct2), sl2⟩)
    (c2 : PySem.W.codeIn K cd2 "depth_of" = true) (k2 : PySem.W.keepIn K (.ref f2) = true)
    {od3 an3 : Option Addr} {sl3 : Array (Option Value)} {oc3 kV3 dc3 pm3 cd3 ct3 : Value}
    (a3 : PySem.W.nsIn K mainGlobals "first_wrong" = some (some (.ref f3)))
    (l3 : K.lookup f3 = some ⟨oc3, od3, .func (PySem.W.fnOf "first_wrong" "first_wrong" (defArgs s_first_wrong) (defBody s_first_wrong) (defScope s_first_wrong) .none kV3 dc3 pm3 an3 cd3 ct3), sl3⟩)
    (c3 : PySem.W.codeIn K cd3 "first_wrong" = true) (k3 : PySem.W.keepIn K (.ref f3) = true)
    {od4 an4 : Option Addr} {sl4 : Array (Option Value)} {oc4 kV4 dc4 pm4 cd4 ct4 : Value}
    (a4 : PySem.W.nsIn K mainGlobals "document_problem" = some (some (.ref f4)))
    (l4 : K.lookup f4 = some ⟨oc4, od4, .func (PySem.W.fnOf "document_problem" "document_problem" (defArgs s_document_problem) (defBody s_document_problem) (defScope s_document_problem) .none kV4 dc4 pm4 an4 cd4 ct4), sl4⟩)
    (c4 : PySem.W.codeIn K cd4 "document_problem" = true) (k4 : PySem.W.keepIn K (.ref f4) = true)
    {od5 an5 : Option Addr} {sl5 : Array (Option Value)} {oc5 kV5 dc5 pm5 cd5 ct5 : Value}
    (a5 : PySem.W.nsIn K mainGlobals "is_document" = some (some (.ref f5)))
    (l5 : K.lookup f5 = some ⟨oc5, od5, .func (PySem.W.fnOf "is_document" "is_document" (defArgs s_is_document) (defBody s_is_document) (defScope s_is_document) .none kV5 dc5 pm5 an5 cd5 ct5), sl5⟩)
    (c5 : PySem.W.codeIn K cd5 "is_document" = true) (k5 : PySem.W.keepIn K (.ref f5) = true)
    {od6 an6 : Option Addr} {sl6 : Array (Option Value)} {oc6 kV6 dc6 pm6 cd6 ct6 : Value}
    (a6 : PySem.W.nsIn K mainGlobals "kind_of" = some (some (.ref f6)))
    (l6 : K.lookup f6 = some ⟨oc6, od6, .func (PySem.W.fnOf "kind_of" "kind_of" (defArgs s_kind_of) (defBody s_kind_of) (defScope s_kind_of) .none kV6 dc6 pm6 an6 cd6 ct6), sl6⟩)
    (c6 : PySem.W.codeIn K cd6 "kind_of" = true) (k6 : PySem.W.keepIn K (.ref f6) = true)
    {od7 an7 : Option Addr} {sl7 : Array (Option Value)} {oc7 kV7 dc7 pm7 cd7 ct7 : Value}
    (a7 : PySem.W.nsIn K mainGlobals "same" = some (some (.ref f7)))
    (l7 : K.lookup f7 = some ⟨oc7, od7, .func (PySem.W.fnOf "same" "same" (defArgs s_same) (defBody s_same) (defScope s_same) .none kV7 dc7 pm7 an7 cd7 ct7), sl7⟩)
    (c7 : PySem.W.codeIn K cd7 "same" = true) (k7 : PySem.W.keepIn K (.ref f7) = true)
    {od8 an8 : Option Addr} {sl8 : Array (Option Value)} {oc8 kV8 dc8 pm8 cd8 ct8 : Value}
    (a8 : PySem.W.nsIn K mainGlobals "keyword_form" = some (some (.ref f8)))
    (l8 : K.lookup f8 = some ⟨oc8, od8, .func (PySem.W.fnOf "keyword_form" "keyword_form" (defArgs s_keyword_form) (defBody s_keyword_form) (defScope s_keyword_form) .none kV8 dc8 pm8 an8 cd8 ct8), sl8⟩)
    (c8 : PySem.W.codeIn K cd8 "keyword_form" = true) (k8 : PySem.W.keepIn K (.ref f8) = true)
    {od9 an9 : Option Addr} {sl9 : Array (Option Value)} {oc9 kV9 dc9 pm9 cd9 ct9 : Value}
    (a9 : PySem.W.nsIn K mainGlobals "places_of" = some (some (.ref f9)))
    (l9 : K.lookup f9 = some ⟨oc9, od9, .func (PySem.W.fnOf "places_of" "places_of" (defArgs s_places_of) (defBody s_places_of) (defScope s_places_of) .none kV9 dc9 pm9 an9 cd9 ct9), sl9⟩)
    (c9 : PySem.W.codeIn K cd9 "places_of" = true) (k9 : PySem.W.keepIn K (.ref f9) = true)
    {od10 an10 : Option Addr} {sl10 : Array (Option Value)} {oc10 kV10 dc10 pm10 cd10 ct10 : Value}
    (a10 : PySem.W.nsIn K mainGlobals "is_between" = some (some (.ref f10)))
    (l10 : K.lookup f10 = some ⟨oc10, od10, .func (PySem.W.fnOf "is_between" "is_between" (defArgs s_is_between) (defBody s_is_between) (defScope s_is_between) .none kV10 dc10 pm10 an10 cd10 ct10), sl10⟩)
    (c10 : PySem.W.codeIn K cd10 "is_between" = true) (k10 : PySem.W.keepIn K (.ref f10) = true)
    {od11 an11 : Option Addr} {sl11 : Array (Option Value)} {oc11 kV11 dc11 pm11 cd11 ct11 : Value}
    (a11 : PySem.W.nsIn K mainGlobals "are_words" = some (some (.ref f11)))
    (l11 : K.lookup f11 = some ⟨oc11, od11, .func (PySem.W.fnOf "are_words" "are_words" (defArgs s_are_words) (defBody s_are_words) (defScope s_are_words) .none kV11 dc11 pm11 an11 cd11 ct11), sl11⟩)
    (c11 : PySem.W.codeIn K cd11 "are_words" = true) (k11 : PySem.W.keepIn K (.ref f11) = true)
    {od12 an12 : Option Addr} {sl12 : Array (Option Value)} {oc12 kV12 dc12 pm12 cd12 ct12 : Value}
    (a12 : PySem.W.nsIn K mainGlobals "are_different" = some (some (.ref f12)))
    (l12 : K.lookup f12 = some ⟨oc12, od12, .func (PySem.W.fnOf "are_different" "are_different" (defArgs s_are_different) (defBody s_are_different) (defScope s_are_different) .none kV12 dc12 pm12 an12 cd12 ct12), sl12⟩)
    (c12 : PySem.W.codeIn K cd12 "are_different" = true) (k12 : PySem.W.keepIn K (.ref f12) = true)
    {od13 an13 : Option Addr} {sl13 : Array (Option Value)} {oc13 kV13 dc13 pm13 cd13 ct13 : Value}
    (a13 : PySem.W.nsIn K mainGlobals "are_named" = some (some (.ref f13)))
    (l13 : K.lookup f13 = some ⟨oc13, od13, .func (PySem.W.fnOf "are_named" "are_named" (defArgs s_are_named) (defBody s_are_named) (defScope s_are_named) .none kV13 dc13 pm13 an13 cd13 ct13), sl13⟩)
    (c13 : PySem.W.codeIn K cd13 "are_named" = true) (k13 : PySem.W.keepIn K (.ref f13) = true)
    {od14 an14 : Option Addr} {sl14 : Array (Option Value)} {oc14 kV14 dc14 pm14 cd14 ct14 : Value}
    (a14 : PySem.W.nsIn K mainGlobals "has_form" = some (some (.ref f14)))
    (l14 : K.lookup f14 = some ⟨oc14, od14, .func (PySem.W.fnOf "has_form" "has_form" (defArgs s_has_form) (defBody s_has_form) (defScope s_has_form) .none kV14 dc14 pm14 an14 cd14 ct14), sl14⟩)
    (c14 : PySem.W.codeIn K cd14 "has_form" = true) (k14 : PySem.W.keepIn K (.ref f14) = true)
    {od15 an15 : Option Addr} {sl15 : Array (Option Value)} {oc15 kV15 dc15 pm15 cd15 ct15 : Value}
    (a15 : PySem.W.nsIn K mainGlobals "nested_in" = some (some (.ref f15)))
    (l15 : K.lookup f15 = some ⟨oc15, od15, .func (PySem.W.fnOf "nested_in" "nested_in" (defArgs s_nested_in) (defBody s_nested_in) (defScope s_nested_in) .none kV15 dc15 pm15 an15 cd15 ct15), sl15⟩)
    (c15 : PySem.W.codeIn K cd15 "nested_in" = true) (k15 : PySem.W.keepIn K (.ref f15) = true)
    {od16 an16 : Option Addr} {sl16 : Array (Option Value)} {oc16 kV16 dc16 pm16 cd16 ct16 : Value}
    (a16 : PySem.W.nsIn K mainGlobals "wrong_from" = some (some (.ref f16)))
    (l16 : K.lookup f16 = some ⟨oc16, od16, .func (PySem.W.fnOf "wrong_from" "wrong_from" (defArgs s_wrong_from) (defBody s_wrong_from) (defScope s_wrong_from) .none kV16 dc16 pm16 an16 cd16 ct16), sl16⟩)
    (c16 : PySem.W.codeIn K cd16 "wrong_from" = true) (k16 : PySem.W.keepIn K (.ref f16) = true)
    {od17 an17 : Option Addr} {sl17 : Array (Option Value)} {oc17 kV17 dc17 pm17 cd17 ct17 : Value}
    (a17 : PySem.W.nsIn K mainGlobals "first_wrong_place" = some (some (.ref f17)))
    (l17 : K.lookup f17 = some ⟨oc17, od17, .func (PySem.W.fnOf "first_wrong_place" "first_wrong_place" (defArgs s_first_wrong_place) (defBody s_first_wrong_place) (defScope s_first_wrong_place) .none kV17 dc17 pm17 an17 cd17 ct17), sl17⟩)
    (c17 : PySem.W.codeIn K cd17 "first_wrong_place" = true) (k17 : PySem.W.keepIn K (.ref f17) = true)
    {od18 an18 : Option Addr} {sl18 : Array (Option Value)} {oc18 kV18 dc18 pm18 cd18 ct18 : Value}
    (a18 : PySem.W.nsIn K mainGlobals "schema_problem" = some (some (.ref f18)))
    (l18 : K.lookup f18 = some ⟨oc18, od18, .func (PySem.W.fnOf "schema_problem" "schema_problem" (defArgs s_schema_problem) (defBody s_schema_problem) (defScope s_schema_problem) .none kV18 dc18 pm18 an18 cd18 ct18), sl18⟩)
    (c18 : PySem.W.codeIn K cd18 "schema_problem" = true) (k18 : PySem.W.keepIn K (.ref f18) = true)
    {od19 an19 : Option Addr} {sl19 : Array (Option Value)} {oc19 kV19 dc19 pm19 cd19 ct19 : Value}
    (a19 : PySem.W.nsIn K mainGlobals "is_schema" = some (some (.ref f19)))
    (l19 : K.lookup f19 = some ⟨oc19, od19, .func (PySem.W.fnOf "is_schema" "is_schema" (defArgs s_is_schema) (defBody s_is_schema) (defScope s_is_schema) .none kV19 dc19 pm19 an19 cd19 ct19), sl19⟩)
    (c19 : PySem.W.codeIn K cd19 "is_schema" = true) (k19 : PySem.W.keepIn K (.ref f19) = true)
    {od20 an20 : Option Addr} {sl20 : Array (Option Value)} {oc20 kV20 dc20 pm20 cd20 ct20 : Value}
    (a20 : PySem.W.nsIn K mainGlobals "_law_begun" = some (some (.ref f20)))
    (l20 : K.lookup f20 = some ⟨oc20, od20, .func (PySem.W.fnOf "_law_begun" "_law_begun" (defArgs s_law_begun) (defBody s_law_begun) (defScope s_law_begun) .none kV20 dc20 pm20 an20 cd20 ct20), sl20⟩)
    (c20 : PySem.W.codeIn K cd20 "_law_begun" = true) (k20 : PySem.W.keepIn K (.ref f20) = true)
    {od21 an21 : Option Addr} {sl21 : Array (Option Value)} {oc21 kV21 dc21 pm21 cd21 ct21 : Value}
    (a21 : PySem.W.nsIn K mainGlobals "_law_draw" = some (some (.ref f21)))
    (l21 : K.lookup f21 = some ⟨oc21, od21, .func (PySem.W.fnOf "_law_draw" "_law_draw" (defArgs s_law_draw) (defBody s_law_draw) (defScope s_law_draw) .none kV21 dc21 pm21 an21 cd21 ct21), sl21⟩)
    (c21 : PySem.W.codeIn K cd21 "_law_draw" = true) (k21 : PySem.W.keepIn K (.ref f21) = true)
    {od22 an22 : Option Addr} {sl22 : Array (Option Value)} {oc22 kV22 dc22 pm22 cd22 ct22 : Value}
    (a22 : PySem.W.nsIn K mainGlobals "_law_pick" = some (some (.ref f22)))
    (l22 : K.lookup f22 = some ⟨oc22, od22, .func (PySem.W.fnOf "_law_pick" "_law_pick" (defArgs s_law_pick) (defBody s_law_pick) (defScope s_law_pick) .none kV22 dc22 pm22 an22 cd22 ct22), sl22⟩)
    (c22 : PySem.W.codeIn K cd22 "_law_pick" = true) (k22 : PySem.W.keepIn K (.ref f22) = true)
    {od23 an23 : Option Addr} {sl23 : Array (Option Value)} {oc23 kV23 dc23 pm23 cd23 ct23 : Value}
    (a23 : PySem.W.nsIn K mainGlobals "_law_words" = some (some (.ref f23)))
    (l23 : K.lookup f23 = some ⟨oc23, od23, .func (PySem.W.fnOf "_law_words" "_law_words" (defArgs s_law_words) (defBody s_law_words) (defScope s_law_words) .none kV23 dc23 pm23 an23 cd23 ct23), sl23⟩)
    (c23 : PySem.W.codeIn K cd23 "_law_words" = true) (k23 : PySem.W.keepIn K (.ref f23) = true)
    {od24 an24 : Option Addr} {sl24 : Array (Option Value)} {oc24 kV24 dc24 pm24 cd24 ct24 : Value}
    (a24 : PySem.W.nsIn K mainGlobals "_law_form" = some (some (.ref f24)))
    (l24 : K.lookup f24 = some ⟨oc24, od24, .func (PySem.W.fnOf "_law_form" "_law_form" (defArgs s_law_form) (defBody s_law_form) (defScope s_law_form) .none kV24 dc24 pm24 an24 cd24 ct24), sl24⟩)
    (c24 : PySem.W.codeIn K cd24 "_law_form" = true) (k24 : PySem.W.keepIn K (.ref f24) = true)
    {od25 an25 : Option Addr} {sl25 : Array (Option Value)} {oc25 kV25 dc25 pm25 cd25 ct25 : Value}
    (a25 : PySem.W.nsIn K mainGlobals "_law_mate" = some (some (.ref f25)))
    (l25 : K.lookup f25 = some ⟨oc25, od25, .func (PySem.W.fnOf "_law_mate" "_law_mate" (defArgs s_law_mate) (defBody s_law_mate) (defScope s_law_mate) .none kV25 dc25 pm25 an25 cd25 ct25), sl25⟩)
    (c25 : PySem.W.codeIn K cd25 "_law_mate" = true) (k25 : PySem.W.keepIn K (.ref f25) = true)
    {od26 an26 : Option Addr} {sl26 : Array (Option Value)} {oc26 kV26 dc26 pm26 cd26 ct26 : Value}
    (a26 : PySem.W.nsIn K mainGlobals "_law_lonely_right" = some (some (.ref f26)))
    (l26 : K.lookup f26 = some ⟨oc26, od26, .func (PySem.W.fnOf "_law_lonely_right" "_law_lonely_right" (defArgs s_law_lonely_right) (defBody s_law_lonely_right) (defScope s_law_lonely_right) .none kV26 dc26 pm26 an26 cd26 ct26), sl26⟩)
    (c26 : PySem.W.codeIn K cd26 "_law_lonely_right" = true) (k26 : PySem.W.keepIn K (.ref f26) = true)
    {od27 an27 : Option Addr} {sl27 : Array (Option Value)} {oc27 kV27 dc27 pm27 cd27 ct27 : Value}
    (a27 : PySem.W.nsIn K mainGlobals "_law_defs_right" = some (some (.ref f27)))
    (l27 : K.lookup f27 = some ⟨oc27, od27, .func (PySem.W.fnOf "_law_defs_right" "_law_defs_right" (defArgs s_law_defs_right) (defBody s_law_defs_right) (defScope s_law_defs_right) .none kV27 dc27 pm27 an27 cd27 ct27), sl27⟩)
    (c27 : PySem.W.codeIn K cd27 "_law_defs_right" = true) (k27 : PySem.W.keepIn K (.ref f27) = true)
    {od28 an28 : Option Addr} {sl28 : Array (Option Value)} {oc28 kV28 dc28 pm28 cd28 ct28 : Value}
    (a28 : PySem.W.nsIn K mainGlobals "_law_odd_right" = some (some (.ref f28)))
    (l28 : K.lookup f28 = some ⟨oc28, od28, .func (PySem.W.fnOf "_law_odd_right" "_law_odd_right" (defArgs s_law_odd_right) (defBody s_law_odd_right) (defScope s_law_odd_right) .none kV28 dc28 pm28 an28 cd28 ct28), sl28⟩)
    (c28 : PySem.W.codeIn K cd28 "_law_odd_right" = true) (k28 : PySem.W.keepIn K (.ref f28) = true)
    {od29 an29 : Option Addr} {sl29 : Array (Option Value)} {oc29 kV29 dc29 pm29 cd29 ct29 : Value}
    (a29 : PySem.W.nsIn K mainGlobals "law" = some (some (.ref f29)))
    (l29 : K.lookup f29 = some ⟨oc29, od29, .func (PySem.W.fnOf "law" "law" (defArgs s_law) (defBody s_law) (defScope s_law) .none kV29 dc29 pm29 an29 cd29 ct29), sl29⟩)
    (c29 : PySem.W.codeIn K cd29 "law" = true) (k29 : PySem.W.keepIn K (.ref f29) = true)
    {tk_MOST_NUMBER : Tok} (g_MOST_NUMBER : PySem.W.nsIn K mainGlobals "MOST_NUMBER" = some (some (.int (10^30) tk_MOST_NUMBER)))
    {tk_MOST_TEXT : Tok} (g_MOST_TEXT : PySem.W.nsIn K mainGlobals "MOST_TEXT" = some (some (.int 60 tk_MOST_TEXT)))
    {tk_MOST_DEEP : Tok} (g_MOST_DEEP : PySem.W.nsIn K mainGlobals "MOST_DEEP" = some (some (.int 12 tk_MOST_DEEP)))
    {ta_TABLE : Addr} (g_TABLE : PySem.W.nsIn K mainGlobals "TABLE" = some (some (.ref ta_TABLE))) (l_TABLE : tabB K ta_TABLE tableR = true)
    {ta_KINDS : Addr} (g_KINDS : PySem.W.nsIn K mainGlobals "KINDS" = some (some (.ref ta_KINDS))) (l_KINDS : strsB K ta_KINDS kindsL = true)
    {ta_NOTATIONS : Addr} (g_NOTATIONS : PySem.W.nsIn K mainGlobals "NOTATIONS" = some (some (.ref ta_NOTATIONS))) (l_NOTATIONS : strsB K ta_NOTATIONS notesL = true)
    {ta_COMPANIONS : Addr} {es_COMPANIONS : Array DictEntry} {n_COMPANIONS : Nat} (g_COMPANIONS : PySem.W.nsIn K mainGlobals "COMPANIONS" = some (some (.ref ta_COMPANIONS))) (l_COMPANIONS : K.lookup ta_COMPANIONS = some ⟨.type "dict", none, .dict es_COMPANIONS n_COMPANIONS, #[]⟩) (kl_COMPANIONS : PySem.W.KeysLit w.params es_COMPANIONS.toList) (lo_COMPANIONS : (ta_COMPANIONS == sysModules) = false) (cb_COMPANIONS : compB K ta_COMPANIONS = true)
    {tk_MOST_NESTED : Tok} (g_MOST_NESTED : PySem.W.nsIn K mainGlobals "MOST_NESTED" = some (some (.int 12 tk_MOST_NESTED)))
    {tk_MOST_SIZE : Tok} (g_MOST_SIZE : PySem.W.nsIn K mainGlobals "MOST_SIZE" = some (some (.int 1000 tk_MOST_SIZE)))
    {tk_MOST_DIVISOR : Tok} (g_MOST_DIVISOR : PySem.W.nsIn K mainGlobals "MOST_DIVISOR" = some (some (.int 1000 tk_MOST_DIVISOR)))
    {tk_MOST_SEVERAL : Tok} (g_MOST_SEVERAL : PySem.W.nsIn K mainGlobals "MOST_SEVERAL" = some (some (.int 8 tk_MOST_SEVERAL)))
    {tk_MOST_LISTED : Tok} (g_MOST_LISTED : PySem.W.nsIn K mainGlobals "MOST_LISTED" = some (some (.int 20 tk_MOST_LISTED)))
    (z_len : PySem.W.nsIn K mainGlobals "len" = some none)
    (z_range : PySem.W.nsIn K mainGlobals "range" = some none)
    (z_isinstance : PySem.W.nsIn K mainGlobals "isinstance" = some none)
    (z_max : PySem.W.nsIn K mainGlobals "max" = some none)
    (z_min : PySem.W.nsIn K mainGlobals "min" = some none)
    (z_list : PySem.W.nsIn K mainGlobals "list" = some none)
    (z_dict : PySem.W.nsIn K mainGlobals "dict" = some none)
    (z_int : PySem.W.nsIn K mainGlobals "int" = some none)
    (z_str : PySem.W.nsIn K mainGlobals "str" = some none)
    (z_bool : PySem.W.nsIn K mainGlobals "bool" = some none)
    (z_tuple : PySem.W.nsIn K mainGlobals "tuple" = some none)
    (z_sorted : PySem.W.nsIn K mainGlobals "sorted" = some none)
    (z_enumerate : PySem.W.nsIn K mainGlobals "enumerate" = some none)
    (z_repr : PySem.W.nsIn K mainGlobals "repr" = some none)
    (z_all : PySem.W.nsIn K mainGlobals "all" = some none)
    (z_any : PySem.W.nsIn K mainGlobals "any" = some none)
    (z_zip : PySem.W.nsIn K mainGlobals "zip" = some none)
    (z_set : PySem.W.nsIn K mainGlobals "set" = some none)
    (z_sum : PySem.W.nsIn K mainGlobals "sum" = some none)
    : ∃ fd : FuncData, (∀ (s : Shared) (v : Value), BindsTo s fd ⟨[v], []⟩ [("_law_script", v)]) ∧ ∀ base : Heap, K.In base → base.Ns mainGlobals mg → (∃ o, base.get? sysModules = some o) → FnG l.prog w K mg base LVL fa fd ["_law_script"] (sp_law K) := by
  have e := hfa.symm.trans (PySem.W.mg_of X G a29)
  cases e
  have D_is_integer : Def K mg "is_integer" s_is_integer _ _ := ⟨fun_mk (st := s_is_integer) l0 c0 k0, PySem.W.mg_of X G a0⟩
  have D_is_text : Def K mg "is_text" s_is_text _ _ := ⟨fun_mk (st := s_is_text) l1 c1 k1, PySem.W.mg_of X G a1⟩
  have D_depth_of : Def K mg "depth_of" s_depth_of _ _ := ⟨fun_mk (st := s_depth_of) l2 c2 k2, PySem.W.mg_of X G a2⟩
  have D_first_wrong : Def K mg "first_wrong" s_first_wrong _ _ := ⟨fun_mk (st := s_first_wrong) l3 c3 k3, PySem.W.mg_of X G a3⟩
  have D_document_problem : Def K mg "document_problem" s_document_problem _ _ := ⟨fun_mk (st := s_document_problem) l4 c4 k4, PySem.W.mg_of X G a4⟩
  have D_is_document : Def K mg "is_document" s_is_document _ _ := ⟨fun_mk (st := s_is_document) l5 c5 k5, PySem.W.mg_of X G a5⟩
  have D_kind_of : Def K mg "kind_of" s_kind_of _ _ := ⟨fun_mk (st := s_kind_of) l6 c6 k6, PySem.W.mg_of X G a6⟩
  have D_same : Def K mg "same" s_same _ _ := ⟨fun_mk (st := s_same) l7 c7 k7, PySem.W.mg_of X G a7⟩
  have D_keyword_form : Def K mg "keyword_form" s_keyword_form _ _ := ⟨fun_mk (st := s_keyword_form) l8 c8 k8, PySem.W.mg_of X G a8⟩
  have D_places_of : Def K mg "places_of" s_places_of _ _ := ⟨fun_mk (st := s_places_of) l9 c9 k9, PySem.W.mg_of X G a9⟩
  have D_is_between : Def K mg "is_between" s_is_between _ _ := ⟨fun_mk (st := s_is_between) l10 c10 k10, PySem.W.mg_of X G a10⟩
  have D_are_words : Def K mg "are_words" s_are_words _ _ := ⟨fun_mk (st := s_are_words) l11 c11 k11, PySem.W.mg_of X G a11⟩
  have D_are_different : Def K mg "are_different" s_are_different _ _ := ⟨fun_mk (st := s_are_different) l12 c12 k12, PySem.W.mg_of X G a12⟩
  have D_are_named : Def K mg "are_named" s_are_named _ _ := ⟨fun_mk (st := s_are_named) l13 c13 k13, PySem.W.mg_of X G a13⟩
  have D_has_form : Def K mg "has_form" s_has_form _ _ := ⟨fun_mk (st := s_has_form) l14 c14 k14, PySem.W.mg_of X G a14⟩
  have D_nested_in : Def K mg "nested_in" s_nested_in _ _ := ⟨fun_mk (st := s_nested_in) l15 c15 k15, PySem.W.mg_of X G a15⟩
  have D_wrong_from : Def K mg "wrong_from" s_wrong_from _ _ := ⟨fun_mk (st := s_wrong_from) l16 c16 k16, PySem.W.mg_of X G a16⟩
  have D_first_wrong_place : Def K mg "first_wrong_place" s_first_wrong_place _ _ := ⟨fun_mk (st := s_first_wrong_place) l17 c17 k17, PySem.W.mg_of X G a17⟩
  have D_schema_problem : Def K mg "schema_problem" s_schema_problem _ _ := ⟨fun_mk (st := s_schema_problem) l18 c18 k18, PySem.W.mg_of X G a18⟩
  have D_is_schema : Def K mg "is_schema" s_is_schema _ _ := ⟨fun_mk (st := s_is_schema) l19 c19 k19, PySem.W.mg_of X G a19⟩
  have D_law_begun : Def K mg "_law_begun" s_law_begun _ _ := ⟨fun_mk (st := s_law_begun) l20 c20 k20, PySem.W.mg_of X G a20⟩
  have D_law_draw : Def K mg "_law_draw" s_law_draw _ _ := ⟨fun_mk (st := s_law_draw) l21 c21 k21, PySem.W.mg_of X G a21⟩
  have D_law_pick : Def K mg "_law_pick" s_law_pick _ _ := ⟨fun_mk (st := s_law_pick) l22 c22 k22, PySem.W.mg_of X G a22⟩
  have D_law_words : Def K mg "_law_words" s_law_words _ _ := ⟨fun_mk (st := s_law_words) l23 c23 k23, PySem.W.mg_of X G a23⟩
  have D_law_form : Def K mg "_law_form" s_law_form _ _ := ⟨fun_mk (st := s_law_form) l24 c24 k24, PySem.W.mg_of X G a24⟩
  have D_law_mate : Def K mg "_law_mate" s_law_mate _ _ := ⟨fun_mk (st := s_law_mate) l25 c25 k25, PySem.W.mg_of X G a25⟩
  have D_law_lonely_right : Def K mg "_law_lonely_right" s_law_lonely_right _ _ := ⟨fun_mk (st := s_law_lonely_right) l26 c26 k26, PySem.W.mg_of X G a26⟩
  have D_law_defs_right : Def K mg "_law_defs_right" s_law_defs_right _ _ := ⟨fun_mk (st := s_law_defs_right) l27 c27 k27, PySem.W.mg_of X G a27⟩
  have D_law_odd_right : Def K mg "_law_odd_right" s_law_odd_right _ _ := ⟨fun_mk (st := s_law_odd_right) l28 c28 k28, PySem.W.mg_of X G a28⟩
  have D_law : Def K mg "law" s_law _ _ := ⟨fun_mk (st := s_law) l29 c29 k29, PySem.W.mg_of X G a29⟩
  have g_MOST_NUMBER := PySem.W.mg_of X G g_MOST_NUMBER
  have g_MOST_TEXT := PySem.W.mg_of X G g_MOST_TEXT
  have g_MOST_DEEP := PySem.W.mg_of X G g_MOST_DEEP
  have g_TABLE := PySem.W.mg_of X G g_TABLE
  have g_KINDS := PySem.W.mg_of X G g_KINDS
  have g_NOTATIONS := PySem.W.mg_of X G g_NOTATIONS
  have g_COMPANIONS := PySem.W.mg_of X G g_COMPANIONS
  have g_MOST_NESTED := PySem.W.mg_of X G g_MOST_NESTED
  have g_MOST_SIZE := PySem.W.mg_of X G g_MOST_SIZE
  have g_MOST_DIVISOR := PySem.W.mg_of X G g_MOST_DIVISOR
  have g_MOST_SEVERAL := PySem.W.mg_of X G g_MOST_SEVERAL
  have g_MOST_LISTED := PySem.W.mg_of X G g_MOST_LISTED
  have B : Blt mg := ⟨PySem.W.mg_none_of X G z_len, PySem.W.mg_none_of X G z_range, PySem.W.mg_none_of X G z_isinstance, PySem.W.mg_none_of X G z_max, PySem.W.mg_none_of X G z_min, PySem.W.mg_none_of X G z_list, PySem.W.mg_none_of X G z_dict, PySem.W.mg_none_of X G z_int, PySem.W.mg_none_of X G z_str, PySem.W.mg_none_of X G z_bool, PySem.W.mg_none_of X G z_tuple, PySem.W.mg_none_of X G z_sorted, PySem.W.mg_none_of X G z_enumerate, PySem.W.mg_none_of X G z_repr, PySem.W.mg_none_of X G z_all, PySem.W.mg_none_of X G z_any, PySem.W.mg_none_of X G z_zip, PySem.W.mg_none_of X G z_set, PySem.W.mg_none_of X G z_sum⟩
  refine ⟨PySem.W.fnOf "law" "law" (defArgs s_law) (defBody s_law) (defScope s_law) .none kV29 dc29 pm29 an29 cd29 ct29, fun s v => .of_eq rfl, fun base _ _ hsys => ?_⟩
  have R_isint := D_is_integer.rdy (P := l.prog) (w := w) (base := base) (fun _ _ _ _ _ _ us hl => match us, hl with | [_], _ => rfl) (ok_isint D_is_integer B)
  have R_text := D_is_text.rdy (P := l.prog) (w := w) (base := base) (fun _ _ _ _ _ _ us hl => match us, hl with | [_], _ => rfl) (ok_text D_is_text B g_MOST_TEXT)
  have R_kind := D_kind_of.rdy (P := l.prog) (w := w) (base := base) (fun _ _ _ _ _ _ us hl => match us, hl with | [_], _ => rfl) (ok_kind_of D_kind_of B)
  have R_depth := fun n : Nat => D_depth_of.rdy (P := l.prog) (w := w) (base := base) (fun _ _ _ _ _ _ us hl => match us, hl with | [_], _ => rfl) (ok_depthsX D_depth_of B n)
  have R_fw := fun n : Nat => D_first_wrong.rdy (P := l.prog) (w := w) (base := base) (fun _ _ _ _ _ _ us hl => match us, hl with | [_], _ => rfl) (ok_fws D_first_wrong B g_MOST_NUMBER R_isint R_text n)
  have R_dp := fun n : Nat => D_document_problem.rdy (P := l.prog) (w := w) (base := base) (fun _ _ _ _ _ _ us hl => match us, hl with | [_], _ => rfl) (ok_dp D_document_problem B g_MOST_DEEP ((R_depth n).mono (by omega)) (R_fw n))
  have R_isdoc := fun n : Nat => D_is_document.rdy (P := l.prog) (w := w) (base := base) (fun _ _ _ _ _ _ us hl => match us, hl with | [_], _ => rfl) (ok_isdoc D_is_document B (R_dp n))
  have R_same := fun n : Nat => D_same.rdy (P := l.prog) (w := w) (base := base) (fun _ _ _ _ _ _ us hl => match us, hl with | [_, _], _ => rfl) (ok_sames D_same B R_kind n)
  obtain ⟨tas, hT, hR⟩ := tab_ok l_TABLE
  have hki := fun H : Hp => strs_tup l_KINDS H
  have hno := fun H : Hp => strs_tup l_NOTATIONS H
  have hC : KDict K w ta_COMPANIONS es_COMPANIONS n_COMPANIONS := ⟨l_COMPANIONS, kl_COMPANIONS, lo_COMPANIONS⟩
  have R_kform := D_keyword_form.rdy (P := l.prog) (w := w) (base := base) (fun _ _ _ _ _ _ us hl => match us, hl with | [_], _ => rfl) (ok_form D_keyword_form B g_TABLE hT hR)
  have R_places := fun n : Nat => D_places_of.rdy (P := l.prog) (w := w) (base := base) (fun _ _ _ _ _ _ us hl => match us, hl with | [_, _], _ => rfl) (ok_places (n := n) D_places_of B)
  have R_between := D_is_between.rdy (P := l.prog) (w := w) (base := base) (fun _ _ _ _ _ _ us hl => match us, hl with | [_, _, _], _ => rfl) (ok_between D_is_between B R_isint)
  have R_words := D_are_words.rdy (P := l.prog) (w := w) (base := base) (fun _ _ _ _ _ _ us hl => match us, hl with | [_, _, _], _ => rfl) (ok_words D_are_words B R_text)
  have R_diff := fun n : Nat => D_are_different.rdy (P := l.prog) (w := w) (base := base) (fun _ _ _ _ _ _ us hl => match us, hl with | [_], _ => rfl) (ok_diff D_are_different B g_MOST_LISTED (R_isdoc n) (R_same n))
  have R_named := D_are_named.rdy (P := l.prog) (w := w) (base := base) (fun _ _ _ _ _ _ us hl => match us, hl with | [_], _ => rfl) (ok_named D_are_named B g_MOST_LISTED R_text)
  have R_hf := fun n : Nat => D_has_form.rdy (P := l.prog) (w := w) (base := base) (fun _ _ _ _ _ _ us hl => match us, hl with | [_, _], _ => rfl) (ok_hf D_has_form B g_MOST_LISTED g_MOST_NUMBER g_MOST_DIVISOR g_MOST_SIZE g_MOST_SEVERAL g_KINDS g_NOTATIONS hki hno R_text R_words (R_isdoc n) (R_diff n) R_between R_named)
  have R_nest := fun n : Nat => D_nested_in.rdy (P := l.prog) (w := w) (base := base) (fun _ _ _ _ _ _ us hl => match us, hl with | [_], _ => rfl) (ok_nests D_nested_in B g_TABLE hT hR R_hf R_places n)
  have R_fwp := fun n : Nat => D_first_wrong_place.rdy (P := l.prog) (w := w) (base := base) (fun _ _ _ _ _ _ us hl => match us, hl with | [_, _], _ => rfl) (ok_fwps D_first_wrong_place D_wrong_from B g_TABLE hT hR g_COMPANIONS hC cb_COMPANIONS R_kform R_hf R_places n)
  have R_sp := fun n : Nat => D_schema_problem.rdy (P := l.prog) (w := w) (base := base) (fun _ _ _ _ _ _ us hl => match us, hl with | [_], _ => rfl) (ok_sp D_schema_problem B g_MOST_NESTED (R_nest n) (R_fwp n))
  have R_iss := fun n : Nat => D_is_schema.rdy (P := l.prog) (w := w) (base := base) (fun _ _ _ _ _ _ us hl => match us, hl with | [_], _ => rfl) (ok_iss D_is_schema B (R_sp n))

  have R_begun := D_law_begun.rdy (P := l.prog) (w := w) (base := base) (fun _ _ _ _ _ _ us hl => match us, hl with | [_], _ => rfl) (ok_begun D_law_begun B)
  have R_draw := D_law_draw.rdy (P := l.prog) (w := w) (base := base) (fun _ _ _ _ _ _ us hl => match us, hl with | [_, _], _ => rfl) (ok_draw D_law_draw B)
  have R_pick := D_law_pick.rdy (P := l.prog) (w := w) (base := base) (fun _ _ _ _ _ _ us hl => match us, hl with | [_, _], _ => rfl) (ok_pick D_law_pick B R_draw)
  have R_lwords := D_law_words.rdy (P := l.prog) (w := w) (base := base) (fun _ _ _ _ _ _ us hl => match us, hl with | [], _ => rfl) (ok_lwords D_law_words B)
  have R_lform := D_law_form.rdy (P := l.prog) (w := w) (base := base) (fun _ _ _ _ _ _ us hl => match us, hl with | [_], _ => rfl) (ok_lform D_law_form B)
  have R_lmate := D_law_mate.rdy (P := l.prog) (w := w) (base := base) (fun _ _ _ _ _ _ us hl => match us, hl with | [_], _ => rfl) (ok_lmate D_law_mate B)
  have R_lonely := D_law_lonely_right.rdyG (P := l.prog) (w := w) (base := base) (fun _ _ _ _ _ _ us hl => match us, hl with | [_], _ => rfl) (ok_lonely D_law_lonely_right B hsys R_pick R_lmate (R_sp 30) (R_iss 30))
  have R_defs := D_law_defs_right.rdyG (P := l.prog) (w := w) (base := base) (fun _ _ _ _ _ _ us hl => match us, hl with | [_], _ => rfl) (ok_defs D_law_defs_right B hsys R_pick R_lwords R_lform R_lmate (R_sp 30))
  have R_oddr := D_law_odd_right.rdyG (P := l.prog) (w := w) (base := base) (fun _ _ _ _ _ _ us hl => match us, hl with | [_], _ => rfl) (ok_oddr D_law_odd_right B hsys R_draw R_pick (R_sp 30) (R_iss 30))
  exact ok_law D_law B R_begun R_lonely R_defs R_oddr
theorem walk {l : PySem.W.OpenLaw} {q : Program} {loose : List Str} {XP : (Str → Option Value) → Heap → Prop} {YP : World → Heap → Prop} {d : DefRec} {K : Params → PySem.W.Frag} (hn : l.most = some 63) (hdf : d.params.defaults = [])
    (hq : PyProof.Rows.importsNone q = true) (hY : ∀ (w : World) (h : Heap), YP w h → (K w.params).In h)
    (F : ∀ (w : World) (mg : Str → Option Value) (fa : Addr) (h : Heap), (K w.params).In h → h.Ns mainGlobals mg → mg d.name = some (.ref fa) →
      ∃ fd : FuncData, (∀ (s : Shared) (u : Value), BindsTo s fd ⟨[u], []⟩ [("_law_script", u)]) ∧ ∀ base : Heap, (K w.params).In base → base.Ns mainGlobals mg → (∃ o, base.get? sysModules = some o) → FnG l.prog w (K w.params) mg base LVL fa fd ["_law_script"] (sp_law (K w.params))) :
    PySem.W.WalkO q loose XP YP l.row.toRowW d [] (fun f vs => PySem.call f vs) :=
  SC.walkG (n := 63) (k := LVL) (x := "_law_script") (sp := sp_law) hn (by decide) hdf ⟨rfl, by decide, by decide⟩ hq hY F fun K H a ns hl hO hS => ⟨a, ns, rfl, Scr.of hS hO, hl, fun _ => rfl⟩

end SC
open PySem PySem.W PyProof.Rows
set_option maxRecDepth 100000 in
set_option maxHeartbeats 0 in
theorem PySem.Challenge.cw_schemacheck_k14_companions_odd_keys_and_holds : PySem.Challenge.rw_schemacheck_k14_companions_odd_keys_and.Holds := by
  w_on; o_law; k_head; (case hw => w_witness2)
  k_fill
  refine SC.walk (l := PySem.Challenge.rw_schemacheck_k14_companions_odd_keys_and) rfl rfl (by decide +kernel) (fun w h Y => PySem.W.kIn_of Y) ?F
  case F =>
    intro w mg fa h KX G hmg
    refine' SC.all_mk KX G hmg ?a0 ?l0 ?c0 ?k0 ?a1 ?l1 ?c1 ?k1 ?a2 ?l2 ?c2 ?k2 ?a3 ?l3 ?c3 ?k3 ?a4 ?l4 ?c4 ?k4 ?a5 ?l5 ?c5 ?k5 ?a6 ?l6 ?c6 ?k6 ?a7 ?l7 ?c7 ?k7 ?a8 ?l8 ?c8 ?k8 ?a9 ?l9 ?c9 ?k9 ?a10 ?l10 ?c10 ?k10 ?a11 ?l11 ?c11 ?k11 ?a12 ?l12 ?c12 ?k12 ?a13 ?l13 ?c13 ?k13 ?a14 ?l14 ?c14 ?k14 ?a15 ?l15 ?c15 ?k15 ?a16 ?l16 ?c16 ?k16 ?a17 ?l17 ?c17 ?k17 ?a18 ?l18 ?c18 ?k18 ?a19 ?l19 ?c19 ?k19 ?a20 ?l20 ?c20 ?k20 ?a21 ?l21 ?c21 ?k21 ?a22 ?l22 ?c22 ?k22 ?a23 ?l23 ?c23 ?k23 ?a24 ?l24 ?c24 ?k24 ?a25 ?l25 ?c25 ?k25 ?a26 ?l26 ?c26 ?k26 ?a27 ?l27 ?c27 ?k27 ?a28 ?l28 ?c28 ?k28 ?a29 ?l29 ?c29 ?k29 ?g_MOST_NUMBER ?g_MOST_TEXT ?g_MOST_DEEP ?g_TABLE ?l_TABLE ?g_KINDS ?l_KINDS ?g_NOTATIONS ?l_NOTATIONS ?g_COMPANIONS ?l_COMPANIONS ?kl_COMPANIONS ?lo_COMPANIONS ?cb_COMPANIONS ?g_MOST_NESTED ?g_MOST_SIZE ?g_MOST_DIVISOR ?g_MOST_SEVERAL ?g_MOST_LISTED ?z_len ?z_range ?z_isinstance ?z_max ?z_min ?z_list ?z_dict ?z_int ?z_str ?z_bool ?z_tuple ?z_sorted ?z_enumerate ?z_repr ?z_all ?z_any ?z_zip ?z_set ?z_sum
    (case a0 => k_is)
    (case l0 => k_is)
    (case c0 => k_is)
    (case k0 => k_is)
    (case a1 => k_is)
    (case l1 => k_is)
    (case c1 => k_is)
    (case k1 => k_is)
    (case a2 => k_is)
    (case l2 => k_is)
    (case c2 => k_is)
    (case k2 => k_is)
    (case a3 => k_is)
    (case l3 => k_is)
    (case c3 => k_is)
    (case k3 => k_is)
    (case a4 => k_is)
    (case l4 => k_is)
    (case c4 => k_is)
    (case k4 => k_is)
    (case a5 => k_is)
    (case l5 => k_is)
    (case c5 => k_is)
    (case k5 => k_is)
    (case a6 => k_is)
    (case l6 => k_is)
    (case c6 => k_is)
    (case k6 => k_is)
    (case a7 => k_is)
    (case l7 => k_is)
    (case c7 => k_is)
    (case k7 => k_is)
    (case a8 => k_is)
    (case l8 => k_is)
    (case c8 => k_is)
    (case k8 => k_is)
    (case a9 => k_is)
    (case l9 => k_is)
    (case c9 => k_is)
    (case k9 => k_is)
    (case a10 => k_is)
    (case l10 => k_is)
    (case c10 => k_is)
    (case k10 => k_is)
    (case a11 => k_is)
    (case l11 => k_is)
    (case c11 => k_is)
    (case k11 => k_is)
    (case a12 => k_is)
    (case l12 => k_is)
    (case c12 => k_is)
    (case k12 => k_is)
    (case a13 => k_is)
    (case l13 => k_is)
    (case c13 => k_is)
    (case k13 => k_is)
    (case a14 => k_is)
    (case l14 => k_is)
    (case c14 => k_is)
    (case k14 => k_is)
    (case a15 => k_is)
    (case l15 => k_is)
    (case c15 => k_is)
    (case k15 => k_is)
    (case a16 => k_is)
    (case l16 => k_is)
    (case c16 => k_is)
    (case k16 => k_is)
    (case a17 => k_is)
    (case l17 => k_is)
    (case c17 => k_is)
    (case k17 => k_is)
    (case a18 => k_is)
    (case l18 => k_is)
    (case c18 => k_is)
    (case k18 => k_is)
    (case a19 => k_is)
    (case l19 => k_is)
    (case c19 => k_is)
    (case k19 => k_is)
    (case a20 => k_is)
    (case l20 => k_is)
    (case c20 => k_is)
    (case k20 => k_is)
    (case a21 => k_is)
    (case l21 => k_is)
    (case c21 => k_is)
    (case k21 => k_is)
    (case a22 => k_is)
    (case l22 => k_is)
    (case c22 => k_is)
    (case k22 => k_is)
    (case a23 => k_is)
    (case l23 => k_is)
    (case c23 => k_is)
    (case k23 => k_is)
    (case a24 => k_is)
    (case l24 => k_is)
    (case c24 => k_is)
    (case k24 => k_is)
    (case a25 => k_is)
    (case l25 => k_is)
    (case c25 => k_is)
    (case k25 => k_is)
    (case a26 => k_is)
    (case l26 => k_is)
    (case c26 => k_is)
    (case k26 => k_is)
    (case a27 => k_is)
    (case l27 => k_is)
    (case c27 => k_is)
    (case k27 => k_is)
    (case a28 => k_is)
    (case l28 => k_is)
    (case c28 => k_is)
    (case k28 => k_is)
    (case a29 => k_is)
    (case l29 => k_is)
    (case c29 => k_is)
    (case k29 => k_is)
    (case g_MOST_NUMBER => k_is)
    (case g_MOST_TEXT => k_is)
    (case g_MOST_DEEP => k_is)
    (case g_TABLE => k_is)
    (case l_TABLE => first | decide +kernel | kernel_rfl)
    (case g_KINDS => k_is)
    (case l_KINDS => first | decide +kernel | kernel_rfl)
    (case g_NOTATIONS => k_is)
    (case l_NOTATIONS => first | decide +kernel | kernel_rfl)
    (case g_COMPANIONS => k_is)
    (case l_COMPANIONS => k_is)
    (case kl_COMPANIONS => first | exact ⟨⟨_, _, rfl, rfl⟩, ⟨_, _, rfl, rfl⟩, ⟨_, _, rfl, rfl⟩, ⟨_, _, rfl, rfl⟩, trivial⟩ | (repeat (first | exact trivial | refine ⟨⟨_, _, rfl, rfl⟩, ?_⟩)))
    (case lo_COMPANIONS => first | rfl | decide +kernel)
    (case cb_COMPANIONS => first | decide +kernel | kernel_rfl)
    (case g_MOST_NESTED => k_is)
    (case g_MOST_SIZE => k_is)
    (case g_MOST_DIVISOR => k_is)
    (case g_MOST_SEVERAL => k_is)
    (case g_MOST_LISTED => k_is)
    (case z_len => k_is)
    (case z_range => k_is)
    (case z_isinstance => k_is)
    (case z_max => k_is)
    (case z_min => k_is)
    (case z_list => k_is)
    (case z_dict => k_is)
    (case z_int => k_is)
    (case z_str => k_is)
    (case z_bool => k_is)
    (case z_tuple => k_is)
    (case z_sorted => k_is)
    (case z_enumerate => k_is)
    (case z_repr => k_is)
    (case z_all => k_is)
    (case z_any => k_is)
    (case z_zip => k_is)
    (case z_set => k_is)
    (case z_sum => k_is)
#print axioms PySem.Challenge.cw_schemacheck_k14_companions_odd_keys_and_holds
