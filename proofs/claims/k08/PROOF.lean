import PyProof.Rows.All
import Wide.All
import OpenK.AllK
import Wide.FinOn
import HandS.ForMost
import HandS.IsInst
import HandS.DictComp
import HandS.Flow
import HandS.Walk
import HandS.More
import HandS.Style
import HandS.FStr
import HandS.Text
import KE.GoesEnum
import KE.KDictZip
import PyProof.ListNew
import HandS.GenList
import HandS.TupAny
import PySem.Challenge.RW_schemacheck_k08_copies
set_option Elab.async false
set_option linter.all false
set_option maxRecDepth 100000
set_option maxHeartbeats 4000000
/-! Schemacheck: data as trees over the abstract heap. -/
namespace SC
open PySem L2

/-! ### pairs -/
theorem pd_len {A B : Type} {F : A → B → Prop} {xs : List A} {ys : List B} (h : Paired F xs ys) : xs.length = ys.length := by
  induction h with
  | nil => rfl
  | cons _ _ ih => simp [ih]
theorem pd_imp {A B : Type} {F G : A → B → Prop} {xs : List A} {ys : List B} (h : Paired F xs ys) (f : ∀ a b, a ∈ xs → b ∈ ys → F a b → G a b) : Paired G xs ys := by
  induction h with
  | nil => exact .nil
  | cons r _ ih => exact .cons (f _ _ (by simp) (by simp) r) (ih fun a b ha hb q => f a b (by simp [ha]) (by simp [hb]) q)
theorem pd_app {A B : Type} {F : A → B → Prop} {xs zs : List A} {ys ws : List B} (h : Paired F xs ys) (g : Paired F zs ws) : Paired F (xs ++ zs) (ys ++ ws) := by
  induction h with
  | nil => exact g
  | cons r _ ih => exact .cons r ih
theorem pd_get {A B : Type} {F : A → B → Prop} {xs : List A} {ys : List B} (h : Paired F xs ys) : ∀ {i : Nat} {x : A}, xs[i]? = some x → ∃ y, ys[i]? = some y ∧ F x y := by
  induction h with
  | nil => intro i x e; simp at e
  | cons r _ ih =>
    intro i x e
    cases i with
    | zero => simp at e; subst e; exact ⟨_, rfl, r⟩
    | succ i => simp at e; obtain ⟨y, h1, h2⟩ := ih e; exact ⟨y, by simpa using h1, h2⟩
theorem pd_memR {A B : Type} {F : A → B → Prop} {xs : List A} {ys : List B} (h : Paired F xs ys) : ∀ {y : B}, y ∈ ys → ∃ x, x ∈ xs ∧ F x y := by
  induction h with
  | nil => intro y e; simp at e
  | cons r _ ih =>
    intro y e
    rcases List.mem_cons.mp e with rfl | e
    · exact ⟨_, by simp, r⟩
    · obtain ⟨x, h1, h2⟩ := ih e; exact ⟨x, by simp [h1], h2⟩
theorem pd_eq {A B : Type} {F G : A → B → Prop} {xs : List A} {ys zs : List B} (h : Paired F xs ys) (g : Paired G xs zs) (f : ∀ a b c, b ∈ ys → c ∈ zs → F a b → G a c → b = c) : ys = zs := by
  induction h generalizing zs with
  | nil => cases g; rfl
  | cons r _ ih =>
    cases g with
    | cons r2 g2 =>
      rw [f _ _ _ (by simp) (by simp) r r2, ih g2 fun a b c hb hc => f a b c (by simp [hb]) (by simp [hc])]

/-! ### a value stands for a datum, at most n deep -/
def kD : Key → PyData
  | .inl i => .int i
  | .inr x => .str x
theorem kD_inj {a b : Key} (h : kD a = kD b) : a = b := by
  cases a <;> cases b <;> simp [kD] at h <;> simp [h]
def Rp (H : Hp) : Nat → V → PyData → Prop
  | 0, _, _ => False
  | _ + 1, v, .none => v = .non
  | _ + 1, v, .bool b => v = .bl b
  | _ + 1, v, .int i => v = .int i
  | _ + 1, v, .str x => v = .str x
  | n + 1, v, .list ds => ∃ a xs, v = .ref a ∧ H a = some (.lst xs) ∧ xs.length ≤ 10000 ∧ Paired (Rp H n) xs ds
  | n + 1, v, .tuple ds => ∃ a xs, v = .ref a ∧ H a = some (.tup xs) ∧ xs.length ≤ 10000 ∧ Paired (Rp H n) xs ds
  | n + 1, v, .dict es => ∃ a kvs, v = .ref a ∧ Rd H a (.dK kvs) ∧ kvs.length ≤ 10000 ∧ (kvs.map (·.1)).Nodup ∧ Paired (fun (p : Key × V) (q : PyData × PyData) => q.1 = kD p.1 ∧ Rp H n p.2 q.2) kvs es
theorem rd_same {H H' : Hp} {a : Addr} {u : HO} (e : Same H H') (h : Rd H a u) : Rd H' a u := by
  rcases h with h | ⟨o, h⟩
  · exact .inl (e _ _ h)
  · exact .inr ⟨o, e _ _ h⟩
/-- all is as it was, but dicts may be locked -/
def LSame (H H' : Hp) : Prop := ∀ b o, H b = some o → H' b = some o ∨ ∃ kvs od, o = .dK kvs ∧ H' b = some (.frz od (.dK kvs))
theorem LSame.of {H H' : Hp} (h : Same H H') : LSame H H' := fun b o e => .inl (h b o e)
theorem LSame.refl (H : Hp) : LSame H H := fun b o e => .inl e
theorem LSame.trans {H H1 H2 : Hp} (a : LSame H H1) (b : LSame H1 H2) : LSame H H2 := fun c o e => by
  rcases a c o e with h | ⟨kvs, od, h1, h2⟩
  · exact b c o h
  · rcases b c _ h2 with h | ⟨_, _, h3, _⟩
    · exact .inr ⟨kvs, od, h1, h⟩
    · cases h3
theorem LSame.lst {H H' : Hp} {a : Addr} {xs : List V} (h : LSame H H') (e : H a = some (.lst xs)) : H' a = some (.lst xs) := by
  rcases h a _ e with q | ⟨_, _, q, _⟩
  · exact q
  · cases q
theorem LSame.tup {H H' : Hp} {a : Addr} {xs : List V} (h : LSame H H') (e : H a = some (.tup xs)) : H' a = some (.tup xs) := by
  rcases h a _ e with q | ⟨_, _, q, _⟩
  · exact q
  · cases q
theorem LSame.rdk {H H' : Hp} {a : Addr} {kvs : List (Key × V)} (h : LSame H H') (e : Rd H a (.dK kvs)) : Rd H' a (.dK kvs) := by
  rcases e with e | ⟨od, e⟩
  · rcases h a _ e with q | ⟨k2, od, q, q2⟩
    · exact .inl q
    · cases q; exact .inr ⟨od, q2⟩
  · rcases h a _ e with q | ⟨_, _, q, _⟩
    · exact .inr ⟨od, q⟩
    · cases q
theorem Rp.imp {H H' : Hp} : ∀ {n : Nat} {v : V} {d : PyData}, Same H H' → Rp H n v d → Rp H' n v d
  | 0, _, _, _, h => h
  | n + 1, v, .none, _, h => h
  | n + 1, v, .bool _, _, h => h
  | n + 1, v, .int _, _, h => h
  | n + 1, v, .str _, _, h => h
  | n + 1, v, .list ds, e, ⟨a, xs, h1, h2, hb, h3⟩ => ⟨a, xs, h1, e _ _ h2, hb, pd_imp h3 fun _ _ _ _ q => Rp.imp e q⟩
  | n + 1, v, .tuple ds, e, ⟨a, xs, h1, h2, hb, h3⟩ => ⟨a, xs, h1, e _ _ h2, hb, pd_imp h3 fun _ _ _ _ q => Rp.imp e q⟩
  | n + 1, v, .dict es, e, ⟨a, xs, h1, h2, hb, hn, h3⟩ => ⟨a, xs, h1, rd_same e h2, hb, hn, pd_imp h3 fun _ _ _ _ q => ⟨q.1, Rp.imp e q.2⟩⟩
theorem Rp.up1 {H : Hp} : ∀ {n : Nat} {v : V} {d : PyData}, Rp H n v d → Rp H (n + 1) v d
  | 0, _, _, h => h.elim
  | n + 1, v, .none, h => h
  | n + 1, v, .bool _, h => h
  | n + 1, v, .int _, h => h
  | n + 1, v, .str _, h => h
  | n + 1, v, .list ds, ⟨a, xs, h1, h2, hb, h3⟩ => ⟨a, xs, h1, h2, hb, pd_imp h3 fun _ _ _ _ q => Rp.up1 q⟩
  | n + 1, v, .tuple ds, ⟨a, xs, h1, h2, hb, h3⟩ => ⟨a, xs, h1, h2, hb, pd_imp h3 fun _ _ _ _ q => Rp.up1 q⟩
  | n + 1, v, .dict es, ⟨a, xs, h1, h2, hb, hn, h3⟩ => ⟨a, xs, h1, h2, hb, hn, pd_imp h3 fun _ _ _ _ q => ⟨q.1, Rp.up1 q.2⟩⟩
theorem Rp.up {H : Hp} {n m : Nat} {v : V} {d : PyData} (h : Rp H n v d) (hl : n ≤ m) : Rp H m v d := by
  induction hl with
  | refl => exact h
  | step _ ih => exact ih.up1
theorem Rp.pos {H : Hp} {n : Nat} {v : V} {d : PyData} (h : Rp H n v d) : 0 < n := by
  cases n with
  | zero => exact h.elim
  | succ n => omega
theorem Rp.lk {H H' : Hp} : ∀ {n : Nat} {v : V} {d : PyData}, LSame H H' → Rp H n v d → Rp H' n v d
  | 0, _, _, _, h => h
  | n + 1, v, .none, _, h => h
  | n + 1, v, .bool _, _, h => h
  | n + 1, v, .int _, _, h => h
  | n + 1, v, .str _, _, h => h
  | n + 1, v, .list ds, e, ⟨a, xs, h1, h2, hb, h3⟩ => ⟨a, xs, h1, e.lst h2, hb, pd_imp h3 fun _ _ _ _ q => Rp.lk e q⟩
  | n + 1, v, .tuple ds, e, ⟨a, xs, h1, h2, hb, h3⟩ => ⟨a, xs, h1, e.tup h2, hb, pd_imp h3 fun _ _ _ _ q => Rp.lk e q⟩
  | n + 1, v, .dict es, e, ⟨a, xs, h1, h2, hb, hn, h3⟩ => ⟨a, xs, h1, e.rdk h2, hb, hn, pd_imp h3 fun _ _ _ _ q => ⟨q.1, Rp.lk e q.2⟩⟩
/-- a value stands for one datum alone -/
theorem rd_one {H : Hp} {a : Addr} {x y : List (Key × V)} (h : Rd H a (.dK x)) (g : Rd H a (.dK y)) : x = y := by
  rcases h with h | ⟨o, h⟩ <;> rcases g with g | ⟨u, g⟩ <;> rw [h] at g <;> cases g <;> rfl
theorem Rp.one {H : Hp} : ∀ {n m : Nat} {v : V} {d e : PyData}, Rp H n v d → Rp H m v e → d = e
  | 0, _, _, _, _, h, _ => h.elim
  | _, 0, _, _, _, _, h => h.elim
  | n + 1, m + 1, v, .none, e, h, g => by
    cases h
    cases e <;> simp [Rp] at g <;> rfl
  | n + 1, m + 1, v, .bool b, e, h, g => by
    cases h
    cases e <;> simp [Rp] at g
    subst g; rfl
  | n + 1, m + 1, v, .int b, e, h, g => by
    cases h
    cases e <;> simp [Rp] at g
    subst g; rfl
  | n + 1, m + 1, v, .str b, e, h, g => by
    cases h
    cases e <;> simp [Rp] at g
    subst g; rfl
  | n + 1, m + 1, v, .list ds, e, ⟨a, xs, h1, h2, hb, h3⟩, g => by
    subst h1
    cases e <;> simp [Rp] at g
    · obtain ⟨ys, g2, gb, g3⟩ := g
      rw [h2] at g2; cases g2
      rw [pd_eq h3 g3 fun _ _ _ _ _ p q => Rp.one p q]
    · rw [h2] at g; simp at g
    · obtain ⟨ys, g2, _⟩ := g
      rcases g2 with g2 | ⟨_, g2⟩ <;> rw [h2] at g2 <;> cases g2
  | n + 1, m + 1, v, .tuple ds, e, ⟨a, xs, h1, h2, hb, h3⟩, g => by
    subst h1
    cases e <;> simp [Rp] at g
    · rw [h2] at g; simp at g
    · obtain ⟨ys, g2, gb, g3⟩ := g
      rw [h2] at g2; cases g2
      rw [pd_eq h3 g3 fun _ _ _ _ _ p q => Rp.one p q]
    · obtain ⟨ys, g2, _⟩ := g
      rcases g2 with g2 | ⟨_, g2⟩ <;> rw [h2] at g2 <;> cases g2
  | n + 1, m + 1, v, .dict es, e, ⟨a, xs, h1, h2, hb, hn, h3⟩, g => by
    subst h1
    cases e <;> simp [Rp] at g
    · obtain ⟨ys, g2, _⟩ := g
      rcases h2 with h2 | ⟨_, h2⟩ <;> rw [h2] at g2 <;> cases g2
    · obtain ⟨ys, g2, _⟩ := g
      rcases h2 with h2 | ⟨_, h2⟩ <;> rw [h2] at g2 <;> cases g2
    · obtain ⟨ys, g2, gb, gn, g3⟩ := g
      cases rd_one h2 g2
      rw [pd_eq h3 g3 fun x b c _ _ p q => by
        obtain ⟨b1, b2⟩ := b
        obtain ⟨c1, c2⟩ := c
        obtain ⟨p1, p2⟩ := p
        obtain ⟨q1, q2⟩ := q
        simp at p1 q1 p2 q2
        rw [p1, q1, Rp.one p2 q2]]
/-- without the place a -/
def del (H : Hp) (a : Addr) : Hp := fun b => if b = a then none else H b
theorem del_ne {H : Hp} {a b : Addr} (h : b ≠ a) : del H a b = H b := if_neg h
theorem del_at {H : Hp} {a : Addr} : del H a a = none := if_pos rfl
theorem del_sub (H : Hp) (a : Addr) : Same (del H a) H := fun b o e => by
  by_cases hb : b = a
  · subst hb; rw [del_at] at e; cases e
  · rw [del_ne hb] at e; exact e
theorem rd_del {H : Hp} {a b : Addr} {u : HO} (hb : b ≠ a) (h : Rd H b u) : Rd (del H a) b u := by
  rcases h with h | ⟨o, h⟩
  · exact .inl (by rw [del_ne hb]; exact h)
  · exact .inr ⟨o, by rw [del_ne hb]; exact h⟩
/-- a smaller datum does not hold a greater one -/
theorem Rp.del {H : Hp} {a : Addr} {m : Nat} {D : PyData} (hD : Rp H m (.ref a) D) : ∀ {n : Nat} {v : V} {d : PyData}, sizeOf d < sizeOf D → Rp H n v d → Rp (del H a) n v d
  | 0, _, _, _, h => h
  | n + 1, v, .none, _, h => h
  | n + 1, v, .bool _, _, h => h
  | n + 1, v, .int _, _, h => h
  | n + 1, v, .str _, _, h => h
  | n + 1, v, .list ds, hs, h => by
    obtain ⟨b, xs, h1, h2, hl, h3⟩ := id h
    have hb : b ≠ a := by
      rintro rfl
      subst h1
      rw [Rp.one h hD] at hs
      exact absurd hs (Nat.lt_irrefl _)
    refine ⟨b, xs, h1, by rw [del_ne hb]; exact h2, hl, pd_imp h3 fun x d _ hd q => Rp.del hD ?_ q⟩
    have := List.sizeOf_lt_of_mem hd
    simp at hs
    omega
  | n + 1, v, .tuple ds, hs, h => by
    obtain ⟨b, xs, h1, h2, hl, h3⟩ := id h
    have hb : b ≠ a := by
      rintro rfl
      subst h1
      rw [Rp.one h hD] at hs
      exact absurd hs (Nat.lt_irrefl _)
    refine ⟨b, xs, h1, by rw [del_ne hb]; exact h2, hl, pd_imp h3 fun x d _ hd q => Rp.del hD ?_ q⟩
    have := List.sizeOf_lt_of_mem hd
    simp at hs
    omega
  | n + 1, v, .dict es, hs, h => by
    obtain ⟨b, xs, h1, h2, hl, hn, h3⟩ := id h
    have hb : b ≠ a := by
      rintro rfl
      subst h1
      rw [Rp.one h hD] at hs
      exact absurd hs (Nat.lt_irrefl _)
    refine ⟨b, xs, h1, rd_del hb h2, hl, hn, pd_imp h3 fun x d _ hd q => ⟨q.1, Rp.del hD ?_ q.2⟩⟩
    have h4 := List.sizeOf_lt_of_mem hd
    obtain ⟨d1, d2⟩ := d
    simp at hs h4
    show sizeOf d2 < _
    omega
/-- nothing is locked -/
def NoFrz (G : Hp) : Prop := ∀ a o u, G a ≠ some (.frz o u)
theorem NoFrz.rd {G : Hp} {a : Addr} {u : HO} (h : NoFrz G) (r : Rd G a u) : G a = some u := by
  rcases r with r | ⟨o, r⟩
  · exact r
  · exact absurd r (h a o u)
theorem NoFrz.del {G : Hp} (h : NoFrz G) (a : Addr) : NoFrz (del G a) := fun b o u e => h b o u (del_sub G a b _ e)
theorem size_kv {es : List (PyData × PyData)} {q : PyData × PyData} (h : q ∈ es) : sizeOf q.2 < sizeOf (PyData.dict es) := by
  have h4 := List.sizeOf_lt_of_mem h
  obtain ⟨d1, d2⟩ := q
  simp at h4
  show sizeOf d2 < _
  simp
  omega
theorem size_item {ds : List PyData} {d : PyData} (h : d ∈ ds) : sizeOf d < sizeOf (PyData.list ds) := by
  have h4 := List.sizeOf_lt_of_mem h
  simp
  omega

/-! ### heaps: all as before, but for some places -/
def Keep (S : List Addr) (H H' : Hp) : Prop := ∀ b o, H b = some o → b ∉ S → H' b = some o
theorem Keep.refl (S : List Addr) (H : Hp) : Keep S H H := fun _ _ h _ => h
theorem Keep.trans {S : List Addr} {H H1 H2 : Hp} (a : Keep S H H1) (b : Keep S H1 H2) : Keep S H H2 := fun c o h n => b c o (a c o h n) n
theorem Keep.sub {S T : List Addr} {H H' : Hp} (a : Keep S H H') (h : ∀ b ∈ S, b ∈ T) : Keep T H H' := fun c o e n => a c o e fun z => n (h c z)
theorem Keep.of {S : List Addr} {H H' : Hp} (a : Same H H') : Keep S H H' := fun c o e _ => a c o e
theorem Keep.same {H H' : Hp} (a : Keep [] H H') : Same H H' := fun c o e => a c o e (by simp)
theorem Keep.new {S : List Addr} {H H' : Hp} {p : Addr} {o : HO} (a : Keep S H H') (h : H' p = none) : Keep S H (upd H' p o) := fun c u e n => by
  rw [upd_ne (ne_of_none (a c u e n) h)]
  exact a c u e n
theorem Keep.mut {S : List Addr} {H H' : Hp} {p : Addr} {o : HO} (a : Keep S H H') (h : p ∈ S) : Keep S H (upd H' p o) := fun c u e n => by
  have hc : c ≠ p := fun z => n (by rw [z]; exact h)
  rw [upd_ne hc]
  exact a c u e n
theorem Keep.fresh {S : List Addr} {H H' : Hp} {p : Addr} {o : HO} (a : Keep S H H') (h : H p = none) : Keep S H (upd H' p o) := fun c u e n => by
  rw [upd_ne (ne_of_none e h)]
  exact a c u e n
theorem Keep.free {S : List Addr} {H H' : Hp} {p : Addr} (a : Keep S H H') (h : H' p = none) (n : p ∉ S) : H p = none := by
  cases e : H p with
  | none => rfl
  | some o =>
    rw [a p o e n] at h
    cases h
theorem same_new {H : Hp} {p : Addr} (h : H p = none) (o : HO) : Same H (upd H p o) := fun b u q => by rw [upd_ne (ne_of_none q h)]; exact q
theorem same_mut {H H' : Hp} {p : Addr} {o : HO} (a : Same H H') (h : H p = none) : Same H (upd H' p o) := fun c u e => by
  rw [upd_ne (ne_of_none e h)]
  exact a c u e
/-- what is new in H' -/
def news (H H' : Hp) : Hp := fun a => match H a with
  | some _ => none
  | none => H' a
theorem news_sub (H H' : Hp) : Same (news H H') H' := fun b o e => by
  unfold news at e
  split at e
  · cases e
  · exact e
theorem news_no {H H' : Hp} {a : Addr} {o : HO} (h : H a = some o) : news H H' a = none := by
  unfold news; rw [h]
theorem news_at {H H' : Hp} {a : Addr} (h : H a = none) : news H H' a = H' a := by
  unfold news; rw [h]
/-- a later heap that keeps all that H1 has outside S, S known in H -/
theorem news_mono {S : List Addr} {H H1 H2 : Hp} (k : Keep S H1 H2) (hs : ∀ a ∈ S, H a ≠ none) : Same (news H H1) (news H H2) := fun b o e => by
  unfold news at e ⊢
  split at e
  · cases e
  · rename_i hb
    exact k b o e fun z => hs b z hb
/-- newer than H1 is newer than H -/
theorem news_more {S : List Addr} {H H1 H2 : Hp} (k : Keep S H H1) (hs : ∀ a ∈ S, H1 a ≠ none) : Same (news H1 H2) (news H H2) := fun b o e => by
  unfold news at e ⊢
  split at e
  · cases e
  · rename_i hb
    split
    · rename_i u hu
      by_cases hz : b ∈ S
      · exact absurd hb (hs b hz)
      · rw [k b _ hu hz] at hb; cases hb
    · exact e

/-- a turn of a loop that makes new data and stores at D -/
theorem grow {S : List Addr} {Hx H1 H4 : Hp} {D : Addr} {o : HO} (k1 : Keep S Hx H1) (k2 : Keep S H1 H4) (hx : ∀ a ∈ S, Hx a ≠ none) (h1 : ∀ a ∈ S, H1 a ≠ none) (hD : D ∈ S) :
    Same (news Hx H1) (news Hx (upd H4 D o)) ∧ Same (news H1 H4) (news Hx (upd H4 D o)) :=
  ⟨news_mono (k2.mut hD) hx, (news_more k1 h1).trans (news_mono (S := S) ((Keep.refl _ _).mut hD) hx)⟩

/-! ### the script, read and never written -/
def Scr (K : PySem.W.Frag) (H : Hp) (a : Addr) (ns : List Int) : Prop := (∃ ob, H a = some (.frz ob (.lst (ns.map V.int)))) ∨ ∀ H' : Hp, SqL K H' a (ns.map V.int)
theorem Scr.of {K : PySem.W.Frag} {H : Hp} {a : Addr} {ns : List Int} (h : SqL K H a (ns.map V.int)) (hO : Only H) : Scr K H a ns := by
  rcases h with (h | ⟨o, h⟩) | h
  · rcases hO a with z | ⟨ob, xs, z⟩
    · rw [z] at h; cases h
    · rw [z] at h; cases h
  · exact .inl ⟨o, h⟩
  · exact .inr fun _ => .inr h
theorem Scr.sq {K : PySem.W.Frag} {H : Hp} {a : Addr} {ns : List Int} (h : Scr K H a ns) : SqL K H a (ns.map V.int) := by
  rcases h with ⟨o, h⟩ | h
  · exact .inl (.inr ⟨o, h⟩)
  · exact h H
theorem Scr.keep {K : PySem.W.Frag} {S : List Addr} {H H' : Hp} {a : Addr} {ns : List Int} (h : Scr K H a ns) (k : Keep S H H') (n : ∀ b ∈ S, ∀ ob u, H b ≠ some (.frz ob u)) : Scr K H' a ns := by
  rcases h with ⟨o, h⟩ | h
  · refine .inl ⟨o, k _ _ h fun z => ?_⟩
    exact n a z _ _ h
  · exact .inr h
theorem Scr.same {K : PySem.W.Frag} {H H' : Hp} {a : Addr} {ns : List Int} (h : Scr K H a ns) (k : Same H H') : Scr K H' a ns := by
  rcases h with ⟨o, h⟩ | h
  · exact .inl ⟨o, k _ _ h⟩
  · exact .inr h
theorem Scr.put {K : PySem.W.Frag} {H : Hp} {a b : Addr} {ns : List Int} {xs : List V} {o : HO} (h : Scr K H a ns) (e : H b = some (.lst xs)) : Scr K (upd H b o) a ns := by
  rcases h with ⟨u, h⟩ | h
  · refine .inl ⟨u, ?_⟩
    rw [upd_ne (ne_of h e (by intro z; cases z))]
    exact h
  · exact .inr h
end SC

set_option Elab.async false
set_option linter.all false
set_option maxRecDepth 100000
set_option maxHeartbeats 4000000
/-! Schemacheck: defs that are ready to be called, built-ins, kinds of values. -/
namespace SC
open PySem L2

/-! ### a def that may be called -/
def Rdy (P : Program) (w : World) (K : PySem.W.Frag) (mg : Str → Option Value) (base : Heap) (k : Nat) (x : Str) (ps : List Str) (sp : Sp) : Prop :=
  ∃ f fd, FnOk P w K mg base CX0 k f fd ps sp ∧ mg x = some (.ref f) ∧ PySem.W.keepIn K (.ref f) = true ∧ Binds K fd ps []
/-- and with keywords ks: gV puts the positional values and the keywords' values in order -/
def RdyK (P : Program) (w : World) (K : PySem.W.Frag) (mg : Str → Option Value) (base : Heap) (k : Nat) (x : Str) (ps ks : List Str) (gV : List V → List V → List V) (sp : Sp) : Prop :=
  ∃ f fd g, FnOk P w K mg base CX0 k f fd ps sp ∧ mg x = some (.ref f) ∧ PySem.W.keepIn K (.ref f) = true ∧ KBinds K fd ps ks g gV
theorem Rdy.mono {P : Program} {w : World} {K : PySem.W.Frag} {mg : Str → Option Value} {base : Heap} {j k : Nat} {x : Str} {ps : List Str} {sp : Sp} (h : Rdy P w K mg base j x ps sp) (l : j ≤ k) : Rdy P w K mg base k x ps sp := by
  obtain ⟨f, fd, h1, h2⟩ := h
  exact ⟨f, fd, h1.mono l, h2⟩
section
variable {X : Cx} {k : Nat} {x : Str} {ps ks : List Str} {sp : Sp} {p pos : Pos} {e : Expr} {es : List Expr} {kws : List Keyword} {t tk : TA} {gV : List V → List V → List V}
theorem pe_c (R : Rdy X.prog X.w X.K X.mg X.base k x ps sp) (hr : Room k X.A) (hg : Gl X x) (ha : PA X (e :: es) t) (hdb : (x == ("__debug__" : Str)) = false := by decide)
    (he : starEach (e :: es) X.env = (false, eval e X.env) :: starEach es X.env := by rfl) (hpl : (backTo pos (starEach es X.env)).any (·.1) = false := by rfl) : PE X (.Call (.Name x p) (e :: es) [] pos) (tCall sp [] E0 t) := by
  obtain ⟨f, fd, h1, h2, h3, h4⟩ := R
  exact pe_call h1 hr hg h2 h3 h4 .nil pass0 ha hdb he hpl
theorem pe_c0 (R : Rdy X.prog X.w X.K X.mg X.base k x ps sp) (hr : Room k X.A) (hg : Gl X x) (hdb : (x == ("__debug__" : Str)) = false := by decide) : PE X (.Call (.Name x p) [] [] pos) (tCall sp [] E0 tNil) := by
  obtain ⟨f, fd, h1, h2, h3, h4⟩ := R
  exact pe_call0 h1 hr hg h2 h3 h4 .nil pass0 hdb
theorem pe_ck (_R : Rdy X.prog X.w X.K X.mg X.base k x ps sp) (hr : Room k X.A) (hg : Gl X x) (R : RdyK X.prog X.w X.K X.mg X.base k x ps ks gV sp) (ha : PA X (e :: es) t) (hkw : PK X kws tk)
    (hall : (backToKw pos (keywordEach kws X.env)).all (·.1.isSome) = true := by rfl) (hks : (backToKw pos (keywordEach kws X.env)).filterMap (·.1) = ks := by rfl) (hdb : (x == ("__debug__" : Str)) = false := by decide)
    (he : starEach (e :: es) X.env = (false, eval e X.env) :: starEach es X.env := by rfl) (hpl : ((backTo pos (starEach (e :: es) X.env)).any (·.1) || (backToKw pos (keywordEach kws X.env)).any (·.1.isNone)) = false := by rfl) :
    PE X (.Call (.Name x p) (e :: es) kws pos) (tCallK sp gV E0 t tk) := by
  obtain ⟨f, fd, g, h1, h2, h3, h4⟩ := R
  exact pe_callK h1 hr hg h2 h3 h4 pass0 ha hkw hall hks hdb he hpl
/-- only keywords -/
theorem pe_ck0 (_R : Rdy X.prog X.w X.K X.mg X.base k x ps sp) (hr : Room k X.A) (hg : Gl X x) (R : RdyK X.prog X.w X.K X.mg X.base k x ps ks gV sp) (hkw : PK X kws tk)
    (hall : (backToKw pos (keywordEach kws X.env)).all (·.1.isSome) = true := by rfl) (hks : (backToKw pos (keywordEach kws X.env)).filterMap (·.1) = ks := by rfl) (hdb : (x == ("__debug__" : Str)) = false := by decide)
    (hpl : ((backTo pos (starEach [] X.env)).any (·.1) || (backToKw pos (keywordEach kws X.env)).any (·.1.isNone)) = false := by rfl) :
    PE X (.Call (.Name x p) [] kws pos) (tCallK sp gV E0 tNil tk) := by
  obtain ⟨f, fd, g, h1, h2, h3, h4⟩ := R
  constructor
  intro pins s σ H Q I h
  apply wpAny_Call_Name_kw
  apply ld_glob I hg h2 _ hdb
  apply PySem.W.callWith_KW0 (h₀ := X.base) I.ok.mod.kin h3 hall _ hpl
  apply thn (hkw.run pos pins s σ H _ I h)
  rintro ws s2 ⟨zs, H2, I2, rz, q2⟩
  constructor
  · exact I2.kIn
  · rw [hks]
    exact run_fnk (us := []) (vs := []) h1 hr h4 pass0 I2 .nil rz q2
end
/-- the def st stands at the name x, with parameters ps -/
def Def (K : PySem.W.Frag) (mg : Str → Option Value) (x : Str) (st : Stmt) (f : Addr) (fd : FuncData) : Prop := Fun K x x st f fd ∧ mg x = some (.ref f)
theorem Def.rdy {P : Program} {w : World} {K : PySem.W.Frag} {mg : Str → Option Value} {base : Heap} {k : Nat} {x : Str} {st : Stmt} {f : Addr} {fd : FuncData} {ps : List Str} {sp : Sp} (D : Def K mg x st f fd)
    (b : ∀ (kV doc pm : Value) (an : Option Addr) (cdv ct : Value) (us : List Value), us.length = ps.length → bindArgs (PySem.W.fnOf x x (defArgs st) (defBody st) (defScope st) .none kV doc pm an cdv ct) ⟨us, []⟩ = pure (ps.zip us))
    (h : FnOk P w K mg base CX0 k f fd ps sp) : Rdy P w K mg base k x ps sp := ⟨f, fd, h, D.2, D.1.kp, D.1.binds b⟩
theorem Def.rdyK {P : Program} {w : World} {K : PySem.W.Frag} {mg : Str → Option Value} {base : Heap} {k : Nat} {x : Str} {st : Stmt} {f : Addr} {fd : FuncData} {ps : List Str} {sp : Sp} (D : Def K mg x st f fd) (ks : List Str) (g : {α : Type} → List α → List α → List α)
    (hrel : ∀ {vs zs : List V} {us ws : List Value}, Vals vs us → Vals zs ws → Vals (g vs zs) (g us ws))
    (b : ∀ (kV doc pm : Value) (an : Option Addr) (cdv ct : Value) (us ws : List Value), (g us ws).length = ps.length → bindArgs (PySem.W.fnOf x x (defArgs st) (defBody st) (defScope st) .none kV doc pm an cdv ct) ⟨us, ks.zip ws⟩ = pure (ps.zip (g us ws)))
    (h : FnOk P w K mg base CX0 k f fd ps sp) : RdyK P w K mg base k x ps ks (fun vs zs => g vs zs) sp := by
  obtain ⟨oc, od, kV, doc, pm, an, cdv, ct, osl, rfl, lk, hcd⟩ := D.1.ex
  exact ⟨f, _, fun us ws => g us ws, h, D.2, D.1.kp, ⟨fun s us ws _ hl => .of_eq (b kV doc pm an cdv ct us ws hl), hrel⟩⟩

theorem vals_app : ∀ {vs zs : List V} {us ws : List Value}, Vals vs us → Vals zs ws → Vals (vs ++ zs) (us ++ ws) := fun a b => a.append b
/-! ### built-ins that the module has not named otherwise -/
structure Blt (mg : Str → Option Value) : Prop where
  b_len : mg "len" = none
  b_range : mg "range" = none
  b_isinstance : mg "isinstance" = none
  b_max : mg "max" = none
  b_min : mg "min" = none
  b_list : mg "list" = none
  b_dict : mg "dict" = none
  b_int : mg "int" = none
  b_str : mg "str" = none
  b_bool : mg "bool" = none
  b_tuple : mg "tuple" = none
  b_sorted : mg "sorted" = none
  b_enumerate : mg "enumerate" = none
  b_repr : mg "repr" = none
  b_all : mg "all" = none
  b_any : mg "any" = none
  b_zip : mg "zip" = none
  b_set : mg "set" = none
  b_sum : mg "sum" = none

/-! ### text * number -/
theorem op_mul_str {X : Cx} : OpR X (binaryOp .Mult) (fun x y H Q => ∃ z n, x = .str z ∧ y = .int n ∧ MulOk z n ∧ Q (.str (Txt.mul z n)) H) := by
  intro pins s σ H x y v u Q I rx ry h
  obtain ⟨z, n, rfl, rfl, hk, q⟩ := h
  obtain ⟨t, rfl⟩ := rx
  obtain ⟨t2, rfl⟩ := ry
  exact SB.mul hk fun a b => ⟨.str (Txt.mul z n), H, I.tok _, ⟨_, rfl⟩, q⟩

/-! ### isinstance of a datum -/
inductive Ty where
  | bool | int | str | list | tuple | dict
def Ty.nm : Ty → String
  | .bool => "bool"
  | .int => "int"
  | .str => "str"
  | .list => "list"
  | .tuple => "tuple"
  | .dict => "dict"
def isT : Ty → PyData → Bool
  | .bool, .bool _ => true
  | .int, .bool _ => true
  | .int, .int _ => true
  | .str, .str _ => true
  | .list, .list _ => true
  | .tuple, .tuple _ => true
  | .dict, .dict _ => true
  | _, _ => false
def tyD : PyData → String
  | .none => "NoneType"
  | .bool _ => "bool"
  | .int _ => "int"
  | .str _ => "str"
  | .list _ => "list"
  | .tuple _ => "tuple"
  | .dict _ => "dict"
theorem Rp.ty {K : PySem.W.Frag} {H : Hp} {n : Nat} {v : V} : ∀ {d : PyData}, Rp H n v d → TyX K H v (.type (tyD d)) := by
  intro d h
  cases n with
  | zero => exact h.elim
  | succ n =>
    cases d with
    | none => cases h; exact .base .non
    | bool b => cases h; exact .base (.bl b)
    | int i => cases h; exact .base (.int i)
    | str x => cases h; exact .base (.str x)
    | list ds => obtain ⟨a, xs, rfl, h2, _⟩ := h; exact .base (.lst h2)
    | tuple ds => obtain ⟨a, xs, rfl, h2, _⟩ := h; exact .base (.tup h2)
    | dict ds =>
      obtain ⟨a, xs, rfl, h2 | ⟨od, h2⟩, _⟩ := h
      · exact .base (.dK h2)
      · exact .fDict h2
theorem kit_isT (T : Ty) (d : PyData) : kitB (tyD d) T.nm = some (isT T d) := by
  cases T <;> cases d <;> (show kitB _ _ = some _; simp only [tyD, isT, Ty.nm]; decide +kernel)
theorem isi1 {K : PySem.W.Frag} {H : Hp} {n : Nat} {v : V} {d : PyData} (T : Ty) {Q : VK} (h : Rp H n v d) (q : Q (.bl (isT T d)) H) : rIsi K [v, .ty T.nm] H Q :=
  ⟨v, .ty T.nm, _, _, isT T d, rfl, .ty T.nm, h.ty, kit_ty (kit_isT T d), q⟩
theorem isi2 {K : PySem.W.Frag} {H : Hp} {n : Nat} {v : V} {d : PyData} {p : Addr} (T U : Ty) {Q : VK} (h : Rp H n v d) (hp : H p = some (.tup [.ty T.nm, .ty U.nm])) (q : Q (.bl (isT T d || isT U d)) H) : rIsiT K [v, .ref p] H Q := by
  refine ⟨v, p, _, _, [.type T.nm, .type U.nm], isT T d || isT U d, rfl, hp, .cons (.ty _) (.cons (.ty _) .nil), h.ty, ?_, q⟩
  refine kitAny_cons (b := isT T d) (kit_ty (kit_isT T d)) (fun e => ?_) (fun e => by rw [e]; rfl)
  rw [e, Bool.false_or]
  exact kitAny_cons (b := isT U d) (kit_ty (kit_isT U d)) (fun e => by rw [e]; exact kitAny_nil) (fun e => e)
end SC

set_option Elab.async false
set_option linter.all false
set_option maxRecDepth 100000
set_option maxHeartbeats 4000000
/-! Schemacheck: loops and comprehensions, read once more. -/
namespace SC
open PySem L2

/-- a for whose walk has begun -/
def FoR (J : It) (g : TG) (tb : TS) (D : Ends) (σ : St) (H : Hp) : Prop := tFor (fun _ G R => R J G) g tb D σ H
theorem tFor_eq (wi : TI) (g : TG) (tb : TS) (D : Ends) (σ : St) (H : Hp) : tFor wi g tb D σ H = wi σ H fun J H1 => FoR J g tb D σ H1 := rfl
/-- a comprehension whose walk has begun -/
def LcR (J : It) (g : TG) (tt : TT) (te : TE) (vs : List Nat) (σ : St) (H : Hp) (Q : VK) : Prop := tLc (fun _ G R => R J G) g tt te vs σ H Q
theorem tLc_eq (wi : TI) (g : TG) (tt : TT) (te : TE) (vs : List Nat) (σ : St) (H : Hp) (Q : VK) : tLc wi g tt te vs σ H Q = wi σ H fun J H1 => LcR J g tt te vs σ H1 Q := rfl
def DcR (J : It) (g : TG) (tt : TT) (tk tv : TE) (vs : List Nat) (σ : St) (H : Hp) (Q : VK) : Prop := tDc (fun _ G R => R J G) g tt tk tv vs σ H Q
theorem tDc_eq (wi : TI) (g : TG) (tt : TT) (tk tv : TE) (vs : List Nat) (σ : St) (H : Hp) (Q : VK) : tDc wi g tt tk tv vs σ H Q = wi σ H fun J H1 => DcR J g tt tk tv vs σ H1 Q := rfl
section
variable {J : It} {n : Nat} {G : Hp → Prop} {Y : Nat → Hp → V → Hp → Prop}
theorem fo_it (w : Walk J n G Y) {g : TG} {tb : TS} {D : Ends} {σ : St} {H : Hp} (Pv : Nat → St → Hp → Prop) (h0 : Pv 0 σ H) (hG : ∀ i σ H, i ≤ n → Pv i σ H → G H)
    (hs : ∀ i x σ H H', i < n → Pv i σ H → Y i H x H' → g x σ H' fun σ2 H2 => tb { nx := Pv (i + 1), rt := D.rt, bk := D.nx, ct := Pv (i + 1) } σ2 H2) (hd : ∀ σ H, Pv n σ H → D.nx σ H) : FoR J g tb D σ H :=
  for_it w Pv h0 hG hs hd
theorem lc_itR (w : Walk J n G Y) {g : TG} {tt : TT} {te : TE} {vs : List Nat} {σ : St} {H1 : Hp} {Q : VK} (Pv : Addr → Nat → Hp → Prop) (h0 : ∀ D, H1 D = none → Pv D 0 (upd H1 D (.lst []))) (hG : ∀ D i H, H1 D = none → i ≤ n → Pv D i H → G H)
    (hs : ∀ D i x H H', H1 D = none → i < n → Pv D i H → Y i H x H' → g x (wipe σ vs) H' fun σ2 H2 => wipe σ2 vs = wipe σ vs ∧ tt σ2 H2 fun b H3 =>
      if b = true then te σ2 H3 fun y H4 => ∃ acc, H4 D = some (.lst acc) ∧ acc.length < sizeLine ∧ Pv D (i + 1) (upd H4 D (.lst (acc ++ [y]))) else Pv D (i + 1) H3)
    (hd : ∀ D H, H1 D = none → Pv D n H → Q (.ref D) H) : LcR J g tt te vs σ H1 Q := fun D hD =>
  lc_it w (Pv D) (h0 D hD) (fun i H => hG D i H hD) (fun i x H H' => hs D i x H H' hD) fun H => hd D H hD
theorem wipe1 {σ : St} {j : Nat} {x : Option V} : wipe ((wipe σ [j]).set j x) [j] = wipe σ [j] := by
  show ((σ.set j none).set j x).set j none = σ.set j none
  rw [List.set_set, List.set_set]
/-- [e for x in ..], each e a value known ahead, the heap only grows -/
theorem lcP_map (w : Walk J n G Y) (X : Nat → V → Prop) (hX : ∀ i H x H', Y i H x H' → H' = H ∧ X i x) {te : TE} {j : Nat} {σ : St} {H1 : Hp} {Q : VK} (hG : ∀ H', Same H1 H' → G H') (ys : List V) (hl : ys.length = n) (hz : n ≤ 100000)
    (step : ∀ i x y H' (N : VK), X i x → ys[i]? = some y → Same H1 H' → (∀ H4, Same H' H4 → N y H4) → te ((wipe σ [j]).set j (some x)) H' N)
    (done : ∀ D H', H1 D = none → Same H1 H' → H' D = some (.lst ys) → Q (.ref D) H') : LcR J (gName j) tYes te [j] σ H1 Q := by
  refine lc_itR w (fun D i H' => Same H1 H' ∧ H' D = some (.lst (ys.take i))) (fun D hD => ⟨same_new hD _, by rw [upd_same, List.take_zero]⟩) (fun D i H _ _ p => hG H p.1) ?_ (fun D H hD p => done D H hD p.1 (by rw [p.2, ← hl, List.take_length]))
  rintro D i x H H' hD hi ⟨s, e⟩ y
  obtain ⟨rfl, hx⟩ := hX _ _ _ _ y
  obtain ⟨z, hz'⟩ : ∃ z, ys[i]? = some z := ⟨ys[i]'(by omega), by rw [List.getElem?_eq_getElem]⟩
  refine ⟨wipe1, ?_⟩
  show te _ _ _
  refine step i x z _ _ hx hz' s fun H4 s4 => ⟨_, s4 _ _ e, ?_, same_mut (s.trans s4) hD, ?_⟩
  · rw [List.length_take]
    exact Nat.lt_of_le_of_lt (Nat.min_le_left _ _) (Nat.lt_of_lt_of_le (Nat.lt_of_lt_of_le hi hz) (by decide))
  · rw [upd_same, List.take_succ, hz']
    rfl
end
/-- a block cut behind its first statement: what holds there, and what follows it -/
theorem cutM {t u : TS} {D : Ends} {σ : St} {H : Hp} (M : St → Hp → Prop) (h1 : ∀ N : St → Hp → Prop, (∀ σ' H', M σ' H' → N σ' H') → t { D with nx := N } σ H) (h2 : ∀ σ' H', M σ' H' → u D σ' H') : tSeq t u D σ H := h1 (u D) h2
/-- the walks -/
theorem lcP_list {K : PySem.W.Frag} {a : Addr} {xs : List V} {te : TE} {j : Nat} {σ : St} {H1 : Hp} {Q : VK} (hS : SqL K H1 a xs) (ys : List V) (hl : ys.length = xs.length) (hz : xs.length ≤ 100000)
    (step : ∀ (i : Nat) x y H' (N : VK), xs[i]? = some x → ys[i]? = some y → Same H1 H' → (∀ H4, Same H' H4 → N y H4) → te ((wipe σ [j]).set j (some x)) H' N)
    (done : ∀ D H', H1 D = none → Same H1 H' → H' D = some (.lst ys) → Q (.ref D) H') : LcR (Itl K a) (gName j) tYes te [j] σ H1 Q :=
  lcP_map (walk_list (xs := xs)) (fun i x => xs[i]? = some x) (fun _ _ _ _ h => h) (fun _ s => s.seq hS) ys hl hz step done
theorem lcP_range {lo : Int} {n : Nat} {te : TE} {j : Nat} {σ : St} {H1 : Hp} {Q : VK} (ys : List V) (hl : ys.length = n) (hz : n ≤ 100000)
    (step : ∀ (i : Nat) x y H' (N : VK), x = V.int (lo + (i : Nat)) → ys[i]? = some y → Same H1 H' → (∀ H4, Same H' H4 → N y H4) → te ((wipe σ [j]).set j (some x)) H' N)
    (done : ∀ D H', H1 D = none → Same H1 H' → H' D = some (.lst ys) → Q (.ref D) H') : LcR (Itr lo n) (gName j) tYes te [j] σ H1 Q :=
  lcP_map walk_range (fun i x => x = V.int (lo + (i : Nat))) (fun _ _ _ _ h => h) (fun _ _ => trivial) ys hl hz step done
theorem lcP_keys {d : Addr} {o : Obj} {kvs : List (Key × V)} {te : TE} {j : Nat} {σ : St} {H1 : Hp} {Q : VK} (hd : H1 d = some (.frz o (.dK kvs))) (ys : List V) (hl : ys.length = kvs.length) (hz : kvs.length ≤ 100000)
    (step : ∀ (i : Nat) k v y H' (N : VK), kvs[i]? = some (k, v) → ys[i]? = some y → Same H1 H' → (∀ H4, Same H' H4 → N y H4) → te ((wipe σ [j]).set j (some (kV k))) H' N)
    (done : ∀ D H', H1 D = none → Same H1 H' → H' D = some (.lst ys) → Q (.ref D) H') : LcR (Itk d o kvs) (gName j) tYes te [j] σ H1 Q :=
  lcP_map walk_keys (fun i x => ∃ k v, kvs[i]? = some (k, v) ∧ x = kV k) (fun _ _ _ _ h => h) (fun _ s => s _ _ hd) ys hl hz (fun i x y H' N ⟨k, v, h1, h2⟩ hy s n => by subst h2; exact step i k v y H' N h1 hy s n) done
/-- under a lock: what was there is there, what the lock hid comes back -/
theorem same_lock {H H' : Hp} {d : Addr} {u : HO} {od : Obj} (hd : H d = some u) (s : Same (upd H d (.frz od u)) H') : Same H (upd H' d u) := fun b o e => by
  by_cases hb : b = d
  · subst hb
    rw [hd] at e
    cases e
    exact upd_same
  · rw [upd_ne hb]
    exact s b o (by rw [upd_ne hb]; exact e)
/-- a dict locked for a walk: it is locked here, or it was before (then some list p is locked in its place) -/
theorem lockE {t : TE} {σ : St} {H : Hp} {Q : VK} {a p : Addr} {kvs : List (Key × V)} {ps : List V} (ha : Rd H a (.dK kvs)) (hp : H p = some (.lst ps))
    (h : ∀ (H1 : Hp) (od : Obj), H1 a = some (.frz od (.dK kvs)) → (∀ b, H1 b = none → H b = none) → (∀ G : Hp, G p = none → Same G H → LSame G H1) →
      ∀ Q' : VK, (∀ v H', Same H1 H' → (∀ H2, Same H H2 → (∀ b, H b = none → H2 b = H' b) → Q v H2) → Q' v H') → t σ H1 Q') : tLockE t σ H Q := by
  have key : ∀ (c : Addr) (u : HO), H c = some u → ∀ (od : Obj) (v : V) (H' : Hp), Same (upd H c (.frz od u)) H' → (∀ H2, Same H H2 → (∀ b, H b = none → H2 b = H' b) → Q v H2) → H' c = some (.frz od u) ∧ Q v (upd H' c u) := by
    intro c u hc od v H' s q
    refine ⟨s _ _ upd_same, q _ (same_lock hc s) ?_⟩
    intro b hb
    rw [upd_ne (fun z => by rw [z, hc] at hb; cases hb)]
  have free : ∀ (c : Addr) (u : HO), H c = some u → ∀ od : Obj, ∀ b, upd H c (.frz od u) b = none → H b = none := by
    intro c u hc od b hb
    by_cases e : b = c
    · rw [e, upd_same] at hb; cases hb
    · rw [upd_ne e] at hb; exact hb
  rcases ha with ha | ⟨od, ha⟩
  · refine ⟨a, .dK kvs, ha, trivial, fun od => h _ od upd_same (free _ _ ha od) ?_ _ (key _ _ ha od)⟩
    intro G _ s b o e
    by_cases hb : b = a
    · subst hb
      have e2 := s _ _ e
      rw [ha] at e2
      cases e2
      exact .inr ⟨kvs, od, rfl, upd_same⟩
    · exact .inl (by rw [upd_ne hb]; exact s _ _ e)
  · have hap : a ≠ p := ne_of ha hp (by intro z; cases z)
    refine ⟨p, .lst ps, hp, trivial, fun od2 => h _ od (by rw [upd_ne hap]; exact ha) (free _ _ hp od2) ?_ _ (key _ _ hp od2)⟩
    intro G hG s b o e
    exact .inl (by rw [upd_ne (ne_of_none e hG)]; exact s _ _ e)
/-- [e for k in d] -/
theorem lcD_keys {a p : Addr} {kvs : List (Key × V)} {ps : List V} {te : TE} {i j : Nat} {σ : St} {H G : Hp} {Q : VK} (ha : Rd H a (.dK kvs)) (hp : H p = some (.lst ps)) (hi : σ[i]? = some (some (.ref a))) (hG : G p = none) (sG : Same G H)
    (ys : List V) (hl : ys.length = kvs.length) (hz : kvs.length ≤ 100000)
    (step : ∀ (i : Nat) k v y H' (N : VK), kvs[i]? = some (k, v) → ys[i]? = some y → LSame G H' → Rd H' a (.dK kvs) → (∀ H4, Same H' H4 → N y H4) → te ((wipe σ [j]).set j (some (kV k))) H' N)
    (done : ∀ D H', H D = none → Same H H' → H' D = some (.lst ys) → Q (.ref D) H') : tLockE (tLc (iKeys (tVar i)) (gName j) tYes te [j]) σ H Q := by
  refine lockE ha hp ?_
  intro H1 od e1 fr ls Q' hQ
  rw [tLc_eq]
  refine ⟨_, hi, a, od, rfl, .inl ⟨kvs, e1, lcP_keys e1 ys hl hz ?_ ?_⟩⟩
  · intro i k v y H' N hk hy s N'
    exact step i k v y H' N hk hy ((ls G hG sG).trans (.of s)) (.inr ⟨od, s _ _ e1⟩) N'
  · intro D H' nD s e
    refine hQ _ _ s ?_
    intro H2 s2 h2
    have hD : H D = none := fr D nD
    exact done D H2 hD s2 (by rw [h2 D hD]; exact e)
/-- a dict's value by its key -/
theorem valV_at {kvs : List (Key × V)} {i : Nat} {k : Key} {v : V} (hn : (kvs.map (·.1)).Nodup) (h : kvs[i]? = some (k, v)) : valV kvs k = some v := by
  induction kvs generalizing i with
  | nil => simp at h
  | cons p r ih =>
    cases i with
    | zero =>
      simp at h
      subst h
      simp [valV]
    | succ i =>
      simp at h
      have hm : (k, v) ∈ r := List.mem_of_getElem? h
      have hne : ¬ p.1 = k := by
        intro e
        simp only [List.map_cons, List.nodup_cons] at hn
        exact hn.1 (List.mem_map.mpr ⟨_, hm, e.symm⟩)
      have := ih (by simp only [List.map_cons, List.nodup_cons] at hn; exact hn.2) h
      simp only [valV, List.find?_cons, decide_eq_false hne] at this ⊢
      exact this
theorem cx_K {CX : CXT} {P : Program} {w : World} {K : PySem.W.Frag} {mg : Str → Option Value} {base : Heap} {N : List Str} {q : Str} {sc : Scope} {f : Addr} {cd : Value} {A : Around} {outer : List Env} {s : Shared} {H : Hp} {E : XK} : (cxOf CX P w K mg base N q sc f cd A outer s H E).K = K := rfl
/-- an item of a written list, whichever -/
theorem ix_any {K : PySem.W.Frag} {H : Hp} {p : Addr} {xs : List V} {i : Int} {Q : VK} (hp : H p = some (.lst xs)) (h0 : 0 ≤ i) (h1 : i < (xs.length : Int)) (q : ∀ v ∈ xs, Q v H) : rIxL K (.ref p) (.int i) H Q := by
  obtain ⟨j, rfl⟩ : ∃ j : Nat, i = j := ⟨i.toNat, by omega⟩
  have hl : j < xs.length := by omega
  exact ⟨p, xs, j, xs[j], rfl, rfl, SqL.of hp, atI_nat (List.getElem?_eq_getElem hl), q _ (List.getElem_mem hl)⟩
theorem mul_ok {x : Str} {n : Int} (hx : x.length = 1) (h0 : -1000 ≤ n) (h1 : n ≤ 1000) : MulOk x n := by
  refine ⟨?_, ?_, ?_⟩
  · rw [decide_eq_false (by omega), decide_eq_false (by omega)]; rfl
  · intro h2 _
    rw [hx]
    have : (2 ^ 63 - 1 : Int) / n ≥ 1 := Int.le_ediv_of_mul_le (by omega) (by omega)
    omega
  · intro h2 _
    rw [hx]
    have h3 : ∀ k : Fin 1001, PySem.Builtin.Str.tooLong (1 * k.1) = false := by decide +kernel
    exact h3 ⟨n.toNat, by omega⟩
theorem erase_map {A B : Type} (f : A → B) : ∀ (l : List A) (k : Nat), (l.map f).eraseIdx k = (l.eraseIdx k).map f
  | [], _ => rfl
  | _ :: _, 0 => rfl
  | x :: r, k + 1 => by simp [List.eraseIdx, erase_map f r k]
theorem erase_perm {A : Type} : ∀ (l : List A) (k : Nat) (x : A), l[k]? = some x → (x :: l.eraseIdx k).Perm l
  | [], _, _, h => by simp at h
  | y :: r, 0, x, h => by simp at h; subst h; exact .refl _
  | y :: r, k + 1, x, h => by
    simp at h
    exact (List.Perm.swap y x _).trans ((erase_perm r k x h).cons y)
theorem seqIx {j n : Nat} (h : j < n) : seqIndex? (j : Int) n = some j := by
  have h1 : ¬ (j : Int) < 0 := by omega
  unfold seqIndex?
  simp only [if_neg h1]
  rw [if_pos (by simp; omega)]
  simp
theorem valV_no {kvs : List (Key × V)} {k : Key} (h : k ∉ kvs.map (·.1)) : valV kvs k = none := by
  unfold valV
  rw [List.find?_eq_none.mpr]
  · rfl
  · intro p hp
    simp only [decide_eq_true_eq]
    intro e
    exact h (List.mem_map.mpr ⟨p, hp, e⟩)
theorem nd_take {A : Type} {xs : List A} {i : Nat} (h : xs.Nodup) (hi : i < xs.length) : xs[i] ∉ xs.take i := by
  intro hm
  rw [← List.take_append_drop i xs] at h
  exact (List.nodup_append.mp h).2.2 _ hm _ (List.mem_of_getElem (i := 0) (h := by rw [List.length_drop]; omega) (by simp)) rfl
theorem iteT' {c A B : Prop} [Decidable c] (hc : c) (h : A) : if c then A else B := by rw [if_pos hc]; exact h
theorem iteF' {c A B : Prop} [Decidable c] (hc : ¬ c) (h : B) : if c then A else B := by rw [if_neg hc]; exact h
theorem mod_in (n : Int) {m : Int} (h : 0 < m) : 0 ≤ n % m ∧ n % m < m := ⟨Int.emod_nonneg _ (by omega), Int.emod_lt_of_pos _ h⟩
theorem sz5 {n : Nat} (h : n ≤ 100000) : n ≤ sizeLine := Nat.le_trans h (by decide)
theorem sz5l {n : Nat} (h : n < 100000) : n < sizeLine := Nat.lt_of_lt_of_le h (by decide)
end SC

set_option Elab.async false
set_option linter.all false
set_option maxRecDepth 100000
set_option maxHeartbeats 4000000
/-! Schemacheck: defs that are called where no repr is under way; repr of data. -/
namespace SC
open PySem L2 PySem.Spec PyProof.Rows

/-- a def keeps its promise wherever nothing is being shown -/
structure FnG (P : Program) (w : World) (K : PySem.W.Frag) (mg : Str → Option Value) (base : Heap) (k : Nat) (f : Addr) (fd : FuncData) (ps : List Str) (sp : Sp) : Prop where
  len : ∀ vs H Q E, sp vs H Q E → vs.length = ps.length
  run : ∀ (A : Around) (outer : List Env) (s : Shared) (H : Hp) (args : Args) (us : List Value) (vs : List V) (Q : VK) (E : XK), A.guards = some [] → Room k A → Env0 P w K mg base A outer s H →
    BindsTo s fd args (ps.zip us) → Vals vs us → sp vs H Q E → codeAny (model P w) A (.call (.ref f) args) (CR CX0 outer P w H s Q E) s
section
variable {P : Program} {w : World} {K : PySem.W.Frag} {mg : Str → Option Value} {base : Heap} {k : Nat} {f : Addr} {fd : FuncData} {ps : List Str} {sp : Sp}
theorem FnG.of (F : FnOk P w K mg base CX0 k f fd ps sp) : FnG P w K mg base k f fd ps sp := ⟨F.len, fun A outer s H args us vs Q E _ => F.run A outer s H args us vs Q E⟩
theorem kinds_ok {N ps : List Str} {sc : Scope} (S : FnScope N ps sc) (us : List Value) : ((ps.zip us).all fun y => sc.names.lookup y.1 == some .local || sc.names.lookup y.1 == some .cell) = true := by
  rw [List.all_eq_true]
  rintro ⟨n, v⟩ hy
  have h1 := S.par n (List.of_mem_zip hy).1
  rcases h1 with q | q
  · simp [q]
  · simp [q]
/-- the rule for a def, as Fun.ok, with the guards known -/
theorem okG {x qual : Str} {st : Stmt} {N : List Str} (F : Fun K x qual st f fd) (S : FnScope N ps (defScope st)) (len : ∀ vs H Q E, sp vs H Q E → vs.length = ps.length)
    (hbody : ∀ (cdv : Value) (A : Around) (outer : List Env) (s : Shared) (H : Hp) (vs : List V) (Q : VK) (E : XK), A.guards = some [] → Room k (A.deeper (envOfC qual (defScope st) s.heap.objs.size f cdv)) → sp vs H Q E →
      ∃ t, PSs (cxOf CX0 P w K mg base N qual (defScope st) f cdv A outer s H E).nox (defBody st) t ∧ t { nx := fun _ H' => Q .non H', rt := Q } (start N vs) H) : FnG P w K mg base (k + 1) f fd ps sp := by
  obtain ⟨oc, od, kV, doc, pm, an, cdv, ct, osl, rfl, lk, hcd⟩ := F.ex
  constructor
  · exact len
  intro A outer s H args us vs Q E hg hr e0 hb r hsp
  obtain ⟨t, ht, hq⟩ := hbody cdv A outer s H vs Q E hg (hr.deeper _) hsp
  have KX : K.In s.heap := e0.mod.kin.keeps (fun b o e => (e0.bs b o e).1)
  have lim : s.heap.NoLimit := e0.mod.nolimit.keeps (fun b o e => (e0.bs b o e).1)
  refine Att.call_fn KX lim lk hcd hr.depth hb (kinds_ok S us) ?_ S.co S.gen S.kind
  intro s1 x
  have I : Inv (cxOf CX0 P w K mg base N qual (defScope st) f cdv A outer s H E) [] (start N vs) H s1 := inv_start S hr.hd e0 (len _ _ _ _ hsp) r x
  have done : ∀ {σ' : L2.St} {H' : Hp} {v : V} {u : Value} {s' : Shared}, Inv (cxOf CX0 P w K mg base N qual (defScope st) f cdv A outer s H E) [] σ' H' s' → RelV v u → Q v H' → CE outer P w H s Q u s' := by
    intro σ' H' v u s' J rv q
    exact ⟨v, H', J.os, J.bare, J.base, J.hok, rv, q⟩
  apply wpAny_mono (ht.nox.run [] s1 (start N vs) H _ I hq)
  · intro fl s' hs
    cases fl
    case ret u =>
      obtain ⟨v, σ', H', J, rv, q⟩ := hs
      exact done J rv q
    case next =>
      obtain ⟨σ', H', J, q⟩ := hs
      exact done (v := .non) (u := .none) J rfl q
    case brk =>
      obtain ⟨_, _, _, q⟩ := hs
      exact q.elim
    case cont =>
      obtain ⟨_, _, _, q⟩ := hs
      exact q.elim
  · intro e s' hs
    exact hs
end
/-! ### calls of such defs -/
def RdyG (P : Program) (w : World) (K : PySem.W.Frag) (mg : Str → Option Value) (base : Heap) (k : Nat) (x : Str) (ps : List Str) (sp : Sp) : Prop :=
  ∃ f fd, FnG P w K mg base k f fd ps sp ∧ mg x = some (.ref f) ∧ PySem.W.keepIn K (.ref f) = true ∧ Binds K fd ps []
theorem Def.rdyG {P : Program} {w : World} {K : PySem.W.Frag} {mg : Str → Option Value} {base : Heap} {k : Nat} {x : Str} {st : Stmt} {f : Addr} {fd : FuncData} {ps : List Str} {sp : Sp} (D : Def K mg x st f fd)
    (b : ∀ (kV doc pm : Value) (an : Option Addr) (cdv ct : Value) (us : List Value), us.length = ps.length → bindArgs (PySem.W.fnOf x x (defArgs st) (defBody st) (defScope st) .none kV doc pm an cdv ct) ⟨us, []⟩ = pure (ps.zip us))
    (h : FnG P w K mg base k f fd ps sp) : RdyG P w K mg base k x ps sp := ⟨f, fd, h, D.2, D.1.kp, D.1.binds b⟩
section
variable {X : Cx} {k : Nat} {x : Str} {ps ks : List Str} {sp : Sp} {p pos : Pos} {e : Expr} {es : List Expr} {t : TA}
theorem run_g {pins : List (Addr × Obj)} {σ : L2.St} {H : Hp} {s : Shared} {Q : VK} {f : Addr} {fd : FuncData} {us : List Value} {vs : List V} (F : FnG X.prog X.w X.K X.mg X.base k f fd ps sp) (hg : X.A.guards = some []) (hr : Room k X.A) (hb : Binds X.K fd ps [])
    (I : Inv X pins σ H s) (r : Vals vs us) (h : sp vs H Q E0) : wpAny (model X.prog X.w) X.A (call (.ref f) us) (EP X pins σ Q) X.xe s := by
  have hl : us.length = ps.length := by
    rw [← r.length]
    exact F.len _ _ _ _ h
  have hb' := hb s us I.kIn (by rw [List.append_nil]; exact hl)
  rw [List.append_nil] at hb'
  apply wpAny_call
  apply codeAny_mono (F.run X.A X.stack s H ⟨us, []⟩ us vs Q E0 hg hr I.env0 hb' r h)
  intro res s' hq
  cases res with
  | error e => exact False.elim hq
  | ok fl =>
    cases fl with
    | ret u => exact I.after hq
    | next => exact False.elim hq
    | brk => exact False.elim hq
    | cont => exact False.elim hq
theorem pe_cg (R : RdyG X.prog X.w X.K X.mg X.base k x ps sp) (hgd : X.A.guards = some []) (hr : Room k X.A) (hg : Gl X x) (ha : PA X (e :: es) t) (hdb : (x == ("__debug__" : Str)) = false := by decide)
    (he : starEach (e :: es) X.env = (false, eval e X.env) :: starEach es X.env := by rfl) (hpl : (backTo pos (starEach es X.env)).any (·.1) = false := by rfl) : PE X (.Call (.Name x p) (e :: es) [] pos) (tCall sp [] E0 t) := by
  obtain ⟨f, fd, h1, h2, h3, h4⟩ := R
  constructor
  intro pins s σ H Q I h
  apply wpAny_Call_Name_kw
  apply ld_glob I hg h2 _ hdb
  refine PySem.W.callWith_K (h₀ := X.base) I.ok.mod.kin h3 ?_ he hpl
  apply thn (ha.run pos pins s σ H _ I h)
  rintro us s1 ⟨vs, H1, I1, r, q⟩
  refine ⟨I1.kIn, run_g h1 hgd hr h4 I1 r ?_⟩
  rw [List.append_nil] at q
  exact q
theorem pe_cg0 (R : RdyG X.prog X.w X.K X.mg X.base k x ps sp) (hgd : X.A.guards = some []) (hr : Room k X.A) (hg : Gl X x) (hdb : (x == ("__debug__" : Str)) = false := by decide) : PE X (.Call (.Name x p) [] [] pos) (tCall sp [] E0 tNil) := by
  obtain ⟨f, fd, h1, h2, h3, h4⟩ := R
  constructor
  intro pins s σ H Q I h
  apply wpAny_Call_Name_kw
  apply ld_glob I hg h2 _ hdb
  exact PySem.W.callWith_K0 I.kIn h3 (run_g (us := []) (vs := []) h1 hgd hr h4 I .nil h)
end
/-! ### repr -/
theorem readsAll_of {h : Heap} {F : V → PyData → Prop} {G : Addr → Prop} (f : ∀ v d u, F v d → RelV v u → ∃ as, Reads h u d as ∧ ∀ b ∈ as, G b) : ∀ {xs : List V} {ds : List PyData} {us : List Value}, Paired F xs ds → Vals xs us → ∃ as, ReadsAll h us ds as ∧ ∀ b ∈ as, G b := by
  intro xs ds us hp
  induction hp generalizing us with
  | nil =>
    intro r
    cases r
    exact ⟨[], .nil, by simp⟩
  | cons q _ ih =>
    intro r
    cases r with
    | cons r1 r2 =>
      obtain ⟨as, h1, g1⟩ := f _ _ _ q r1
      obtain ⟨bs, h2, g2⟩ := ih r2
      refine ⟨_, .cons h1 h2, ?_⟩
      intro b hb
      rcases List.mem_append.mp hb with hb | hb
      · exact g1 b hb
      · exact g2 b hb
theorem reads_key {h : Heap} {k : Key} {v : Value} (hk : keyIs k v = true) : Reads h v (kD k) [] := by
  rcases keyIs_shape hk with ⟨i, t, rfl, rfl⟩ | ⟨x, t, rfl, rfl⟩
  · exact .int i t
  · exact .str x t
theorem readsKv_of {P : Program} {w : World} {h : Heap} {F : V → PyData → Prop} {G : Addr → Prop} (f : ∀ v d u, F v d → RelV v u → ∃ as, Reads h u d as ∧ ∀ b ∈ as, G b) : ∀ {kvs : List (Key × V)} {es : List (PyData × PyData)} {ws : List (Key × Value)} {ds : List DictEntry},
    Paired (fun (p : Key × V) (q : PyData × PyData) => q.1 = kD p.1 ∧ F p.2 q.2) kvs es → KV kvs ws → Pairs (mixKind P w) ds ws →
    (∃ as, ReadsAll h (ds.map (·.key)) (es.map (·.1)) as ∧ as = []) ∧ ∃ bs, ReadsAll h (ds.map (·.val)) (es.map (·.2)) bs ∧ ∀ b ∈ bs, G b := by
  intro kvs es ws ds hp
  induction hp generalizing ws ds with
  | nil =>
    intro r q
    cases r
    cases q
    exact ⟨⟨[], .nil, rfl⟩, [], .nil, by simp⟩
  | cons c _ ih =>
    intro r q
    cases r with
    | cons r1 r2 =>
      cases q with
      | cons q1 q2 q3 =>
        obtain ⟨⟨as, h1, e1⟩, bs, h2, g2⟩ := ih r2 q3
        subst e1
        obtain ⟨cs, h3, g3⟩ := f _ _ _ c.2 r1.2
        have k1 : Reads h _ (kD _) [] := reads_key q1
        rw [← r1.1, ← c.1] at k1
        rw [← q2] at h3
        refine ⟨⟨[] ++ [], ReadsAll.cons k1 h1, rfl⟩, cs ++ bs, ReadsAll.cons h3 h2, ?_⟩
        · intro b hb
          rcases List.mem_append.mp hb with hb | hb
          · exact g3 b hb
          · exact g2 b hb
theorem Rp.reads {P : Program} {w : World} {H : Hp} {h : Heap} (ok : HOk P w H h) : ∀ {n : Nat} {d : PyData} {v : V} {u : Value}, Rp H n v d → RelV v u → ∃ as, Reads h u d as ∧ ∀ b ∈ as, H b ≠ none
  | 0, _, _, _, h, _ => h.elim
  | n + 1, .none, _, _, e, r => by cases e; cases r; exact ⟨[], .none, by simp⟩
  | n + 1, .bool b, _, _, e, r => by cases e; cases r; exact ⟨[], .bool b, by simp⟩
  | n + 1, .int b, _, _, e, r => by cases e; obtain ⟨t, rfl⟩ := r; exact ⟨[], .int b t, by simp⟩
  | n + 1, .str b, _, _, e, r => by cases e; obtain ⟨t, rfl⟩ := r; exact ⟨[], .str b t, by simp⟩
  | n + 1, .list ds, _, _, ⟨a, xs, e, ha, _, hp⟩, r => by
    subst e
    cases r
    obtain ⟨_, its, m, rv, hg⟩ := ok a _ ha
    obtain ⟨as, h1, g1⟩ := readsAll_of (G := fun b => H b ≠ none) (fun v d u q r => Rp.reads ok q r) hp rv
    refine ⟨a :: as, .list hg rfl rfl (by simpa using h1), ?_⟩
    intro b hb
    rcases List.mem_cons.mp hb with rfl | hb
    · rw [ha]; simp
    · exact g1 b hb
  | n + 1, .tuple ds, _, _, ⟨a, xs, e, ha, _, hp⟩, r => by
    subst e
    cases r
    obtain ⟨_, its, rv, o, ho, hc, m, hd⟩ := ok a _ ha
    obtain ⟨as, h1, g1⟩ := readsAll_of (G := fun b => H b ≠ none) (fun v d u q r => Rp.reads ok q r) hp rv
    exact ⟨as, .tuple ho hc hd (by simpa using h1), g1⟩
  | n + 1, .dict es, _, _, ⟨a, kvs, e, ha, _, _, hp⟩, r => by
    subst e
    cases r
    obtain ⟨_, _, ws, rv, o, ds, ep, ho, hx, hd, _, hpr, _⟩ := ha.ok ok
    obtain ⟨⟨as, h1, e1⟩, bs, h2, g2⟩ := readsKv_of (G := fun b => H b ≠ none) (fun v d u q r => Rp.reads ok q r) hp rv hpr
    subst e1
    refine ⟨_, .dict ho hx.1 hd h1 h2, ?_⟩
    intro b hb
    simp only [List.append_nil, List.cons_append, List.nil_append, List.mem_cons] at hb
    rcases hb with rfl | hb
    · rcases ha with ha | ⟨_, ha⟩ <;> rw [ha] <;> simp
    · exact g2 b hb
theorem depthAll_le {n : Nat} : ∀ {ds : List PyData}, (∀ d ∈ ds, d.depth ≤ n) → PyData.depthAll ds ≤ n
  | [], _ => Nat.zero_le _
  | d :: r, h => by
    have h1 := h d (by simp)
    have h2 := depthAll_le (ds := r) fun e he => h e (by simp [he])
    show max _ _ ≤ n
    omega
theorem depthKv_le {n : Nat} : ∀ {es : List (PyData × PyData)}, (∀ e ∈ es, e.1.depth ≤ n ∧ e.2.depth ≤ n) → PyData.depthKv es ≤ n
  | [], _ => Nat.zero_le _
  | (a, b) :: r, h => by
    have h1 := h (a, b) (by simp)
    have h2 := depthKv_le (es := r) fun e he => h e (by simp [he])
    show max (max _ _) _ ≤ n
    simp at h1
    omega
theorem Rp.depth_le {H : Hp} : ∀ {n : Nat} {d : PyData} {v : V}, Rp H n v d → d.depth ≤ n
  | 0, _, _, h => h.elim
  | n + 1, .none, _, _ => Nat.zero_le _
  | n + 1, .bool _, _, _ => Nat.zero_le _
  | n + 1, .int _, _, _ => Nat.zero_le _
  | n + 1, .str _, _, _ => Nat.zero_le _
  | n + 1, .list ds, _, ⟨a, xs, e, ha, _, hp⟩ => by
    show PyData.depthAll ds + 1 ≤ n + 1
    have : PyData.depthAll ds ≤ n := depthAll_le fun d hd => by
      obtain ⟨x, _, r⟩ := pd_memR hp hd
      exact r.depth_le
    omega
  | n + 1, .tuple ds, _, ⟨a, xs, e, ha, _, hp⟩ => by
    show PyData.depthAll ds + 1 ≤ n + 1
    have : PyData.depthAll ds ≤ n := depthAll_le fun d hd => by
      obtain ⟨x, _, r⟩ := pd_memR hp hd
      exact r.depth_le
    omega
  | n + 1, .dict es, _, ⟨a, xs, e, ha, _, _, hp⟩ => by
    show PyData.depthKv es + 1 ≤ n + 1
    have : PyData.depthKv es ≤ n := depthKv_le fun q hq => by
      obtain ⟨x, _, r1, r2⟩ := pd_memR hp hq
      refine ⟨?_, r2.depth_le⟩
      rw [r1]
      cases x.1 <;> exact Nat.zero_le _
    omega
def rRepr : List V → Hp → VK → Prop := fun xs H Q => ∃ v n d, xs = [v] ∧ Rp H n v d ∧ n ≤ 90 ∧ d.showable = true ∧ d.shown.length ≤ sizeLine ∧ Q (.str d.shown) H
theorem call_repr {X : Cx} (hg : X.A.guards = some []) (hsys : ∃ o, X.base.get? sysModules = some o) (hu : X.A.units + 100 < cLine) : CallR X (.builtin "repr") rRepr := by
  intro pins s σ H xs us Q I r h
  obtain ⟨v, n, d, rfl, hd, hn, hs, hz, q⟩ := h
  obtain ⟨u, rfl, rv⟩ := vals1 r
  obtain ⟨o0, hs0⟩ := hsys
  have hsm : H sysModules = none := (I.bs _ _ hs0).2
  obtain ⟨as, rd, g⟩ := hd.reads I.hok rv
  have hdep := hd.depth_le
  have no : sysModules ∉ as := fun hm => g _ hm hsm
  cases rd with
  | none => exact PySem.P.repr_of_none ⟨.str _, H, I.tok _, ⟨_, rfl⟩, q⟩
  | bool b => exact PySem.P.repr_of_bool ⟨.str _, H, I.tok _, ⟨_, rfl⟩, q⟩
  | int i t =>
    have hi : i.natAbs.log2 < 1920 := of_decide_eq_true hs
    exact PySem.P.repr_of_int hi ⟨.str _, H, I.tok _, ⟨_, rfl⟩, q⟩
  | str x t => exact PySem.P.repr_of_str ⟨.str _, H, I.tok _, ⟨_, rfl⟩, q⟩ hz
  | list a1 a2 a3 a4 => exact repr_of_reads' (.list a1 a2 a3 a4) hs (fun _ => no) hg (by omega) (fun b o e => e) (fun h' t tk hk => ⟨.str _, H, I.un (Un.kept hk) (I.hok.kept hk), ⟨_, rfl⟩, q⟩) hz
  | tuple a1 a2 a3 a4 => exact repr_of_reads' (.tuple a1 a2 a3 a4) hs (fun _ => no) hg (by omega) (fun b o e => e) (fun h' t tk hk => ⟨.str _, H, I.un (Un.kept hk) (I.hok.kept hk), ⟨_, rfl⟩, q⟩) hz
  | dict a1 a2 a3 a4 a5 => exact repr_of_reads' (.dict a1 a2 a3 a4 a5) hs (fun _ => no) hg (by omega) (fun b o e => e) (fun h' t tk hk => ⟨.str _, H, I.un (Un.kept hk) (I.hok.kept hk), ⟨_, rfl⟩, q⟩) hz
/-! ### the law's own call -/
section
variable {P : Program} {w : World} {K : PySem.W.Frag} {mg mb : Str → Option Value} {k : Nat} {fa a : Addr} {fd : FuncData} {x : Str} {sp : Sp} {s1 : Shared} {vs : List Value} {ns : List Int}
/-- a dict of the state is not the script's place -/
theorem not_script {h : Heap} {b : Addr} {m : Str → Option Value} (n : h.Ns b m) (ha : h.get? a = some { cls := .type "list", data := .seq vs.toArray }) : b ≠ a := by
  rintro rfl
  obtain ⟨o, es, ep, e, d, _⟩ := n
  rw [ha] at e
  cases e
  cases d
theorem lawH {H : Hp} (KX : K.In s1.heap) (hns : s1.heap.Ns mainGlobals mg) (hb : s1.heap.Ns builtinsNs mb) (hbb : ∀ x : Str, x ≠ "__name__" → mb x = bootBuiltins x) (hlim : s1.heap.NoLimit) (hseer : s1.heap.NoSeer) (hg : s1.gens = #[])
    (ha : s1.heap.get? a = some { cls := .type "list", data := .seq vs.toArray }) (hr : Room k callerA) (hbind : ∀ (s : Shared) (u : Value), BindsTo s fd ⟨[u], []⟩ [(x, u)])
    (F : ∀ base : Heap, K.In base → base.Ns mainGlobals mg → (∃ o, base.get? sysModules = some o) → FnG P w K mg base k fa fd [x] sp)
    (hsp : sp [.ref a] H (fun v _ => v = .bl true) fun _ _ _ => False) (hO : Only H) (hok : HOk P w H s1.heap) (hA : ∀ b, b ≠ a → H b = none) (hK : ∀ o, K.lookup a = some o → H a = none) :
    codeAny (model P w) callerA (.call (.ref fa) ⟨[.ref a], []⟩) (fun r s' => r = .ok (.ret (.bool true)) ∧ OldK s1.heap s'.heap ∧ s'.os = s1.os ∧ AllBare s'.gens) s1 := by
  have toB : ∀ {b : Addr} {o : Obj}, s1.heap.get? b = some o → H b = none → (hidT s1.heap H).get? b = some o := fun e n => hidT_get e n
  have toN : ∀ {b : Addr} {m : Str → Option Value}, s1.heap.Ns b m → (hidT s1.heap H).Ns b m := by
    intro b m n
    have hne := not_script n ha
    obtain ⟨o, es, ep, e, r⟩ := n
    exact ⟨o, es, ep, toB e (hA b hne), r⟩
  have inB : K.In (hidT s1.heap H) := by
    intro b o e
    apply toB (KX b o e)
    by_cases hba : b = a
    · subst hba; exact hK o e
    · exact hA b hba
  have sysB : ∃ o, (hidT s1.heap H).get? sysModules = some o := by
    obtain ⟨mm, n, _⟩ := hseer.mods
    have hne := not_script n ha
    obtain ⟨o, es, ep, e, _⟩ := n
    exact ⟨o, toB e (hA _ hne)⟩
  have limB : (hidT s1.heap H).NoLimit := by
    obtain ⟨mc, h1, h2⟩ := hlim
    exact ⟨mc, toN h1, h2⟩
  have e0 : Env0 P w K mg (hidT s1.heap H) callerA [] s1 H := by
    refine ⟨rfl, ⟨inB, toN hns, ⟨mb, toN hb, hbb⟩, limB⟩, fun b o e => of_hidT e, Nat.le_of_eq (hidT_size _ _), trivial, ?_, hok, .of_eq hg⟩
    intro b hb
    exact absurd (show b ∈ ([] : List Addr) from hb) List.not_mem_nil
  have run := (F _ inB (toN hns) sysB).run callerA [] s1 H ⟨[.ref a], []⟩ [.ref a] [.ref a] _ _ rfl hr e0 (hbind s1 (.ref a)) (.cons rfl .nil) hsp
  refine codeAny_mono run ?_
  intro r s' h
  cases r with
  | error e => exact False.elim h
  | ok fl =>
    cases fl with
    | next => exact False.elim h
    | brk => exact False.elim h
    | cont => exact False.elim h
    | ret u =>
      obtain ⟨v, H', os, bare, un, hok', rv, hv⟩ := h
      obtain rfl : v = .bl true := hv
      obtain rfl : u = Value.bool true := rv
      refine ⟨rfl, OldK.of_keep ?_, os, bare⟩
      intro b o e
      rcases hO b with q | ⟨ob, xs, q⟩
      · exact un.keep b o e q (fun z => absurd (show b ∈ ([] : List Addr) from z) List.not_mem_nil) List.not_mem_nil
      · obtain ⟨e1, _⟩ := hok b _ q
        obtain ⟨e2, _⟩ := hok' b _ (un.frzs b ob _ q)
        rw [e] at e1
        cases e1
        exact e2
theorem lawG (KX : K.In s1.heap) (hns : s1.heap.Ns mainGlobals mg) (hb : s1.heap.Ns builtinsNs mb) (hbb : ∀ x : Str, x ≠ "__name__" → mb x = bootBuiltins x) (hlim : s1.heap.NoLimit) (hseer : s1.heap.NoSeer) (hg : s1.gens = #[])
    (ha : s1.heap.get? a = some { cls := .type "list", data := .seq vs.toArray }) (hi : IntsAre vs ns) (hl : ns.length ≤ sizeLine) (hr : Room k callerA) (hbind : ∀ (s : Shared) (u : Value), BindsTo s fd ⟨[u], []⟩ [(x, u)])
    (F : ∀ base : Heap, K.In base → base.Ns mainGlobals mg → (∃ o, base.get? sysModules = some o) → FnG P w K mg base k fa fd [x] sp)
    (hsp : ∀ H : Hp, Only H → SqL K H a (ns.map V.int) → sp [.ref a] H (fun v _ => v = .bl true) fun _ _ _ => False) :
    codeAny (model P w) callerA (.call (.ref fa) ⟨[.ref a], []⟩) (fun r s' => r = .ok (.ret (.bool true)) ∧ OldK s1.heap s'.heap ∧ s'.os = s1.os ∧ AllBare s'.gens) s1 := by
  have rv := vals_ints hi
  have lv : vs.length = ns.length := hi.length
  by_cases hk : ∃ o, K.lookup a = some o
  · obtain ⟨o, hk⟩ := hk
    have e := KX a o hk
    rw [ha] at e
    cases e
    have O0 : Only (fun _ => none) := fun _ => .inl rfl
    refine lawH KX hns hb hbb hlim hseer hg ha hr hbind F (hsp _ O0 ?_) O0 ?_ (fun _ _ => rfl) (fun _ _ => rfl)
    · refine .inr ⟨_, vs.toArray, _, hk, rfl, rfl, rfl, ?_, by simpa using rv⟩
      rw [List.size_toArray, lv]
      exact hl
    · intro b u z
      cases (show (none : Option HO) = some u from z)
  · let ob : Obj := { cls := .type "list", data := .seq vs.toArray }
    let H : Hp := fun b => if b = a then some (.frz ob (.lst (ns.map V.int))) else none
    have at_a : H a = some (.frz ob (.lst (ns.map V.int))) := if_pos rfl
    have off : ∀ b, b ≠ a → H b = none := fun b h => if_neg h
    have hO : Only H := by
      intro b
      by_cases hb : b = a
      · subst hb; exact .inr ⟨_, _, at_a⟩
      · exact .inl (off b hb)
    refine lawH KX hns hb hbb hlim hseer hg ha hr hbind F (hsp H hO (.inl (.inr ⟨ob, at_a⟩))) hO ?_ off (fun o e => absurd ⟨o, e⟩ hk)
    intro b u z
    by_cases hb : b = a
    · subst hb
      rw [at_a] at z
      cases z
      exact ⟨ha, by rw [List.length_map]; exact hl, vs, _, rv, ha⟩
    · rw [off b hb] at z
      cases z
end
/-- the end of a law row whose defs speak of FnG -/
theorem walkG {l : PySem.W.OpenLaw} {n k : Nat} {q : Program} {loose : List Str} {XP : (Str → Option Value) → Heap → Prop} {YP : World → Heap → Prop} {d : DefRec} {K : Params → PySem.W.Frag} {sp : PySem.W.Frag → Sp} {x : Str}
    (hn : l.most = some n) (hn2 : n ≤ sizeLine) (hdf : d.params.defaults = []) (hr : Room k callerA) (hq : importsNone q = true) (hY : ∀ (w : World) (h : Heap), YP w h → (K w.params).In h)
    (F : ∀ (w : World) (mg : Str → Option Value) (fa : Addr) (h : Heap), (K w.params).In h → h.Ns mainGlobals mg → mg d.name = some (.ref fa) →
      ∃ fd : FuncData, (∀ (s : Shared) (u : Value), BindsTo s fd ⟨[u], []⟩ [(x, u)]) ∧
        ∀ base : Heap, (K w.params).In base → base.Ns mainGlobals mg → (∃ o, base.get? sysModules = some o) → FnG l.prog w (K w.params) mg base k fa fd [x] (sp (K w.params)))
    (hsp : ∀ (K : PySem.W.Frag) (H : Hp) (a : Addr) (ns : List Int), ns.length ≤ n → Only H → SqL K H a (ns.map V.int) → sp K [.ref a] H (fun v _ => v = .bl true) fun _ _ _ => False) :
    PySem.W.WalkO q loose XP YP l.row.toRowW d [] (fun f vs => PySem.call f vs) := by
  apply Att.attach_call hn hdf
  intro w s0 s1 mg mb fa o pm cd doc a vs ns G Y ho hd hcd hmg hobj hints hlen hg
  have KX := hY w _ Y
  obtain ⟨fd, hb, hF⟩ := F w mg fa _ KX G.T.g hmg
  exact lawG KX G.T.g G.T.b G.T.builtins G.T.nolimit (G.T.seer hq) hg hobj hints (Nat.le_trans hlen hn2) hr hb hF fun H hO hS => hsp _ H a ns hlen hO hS
end SC

set_option Elab.async false
set_option linter.all false
set_option maxRecDepth 100000
set_option maxHeartbeats 4000000
/-! Schemacheck: documents, their number of parts, how long they are shown. -/
namespace SC
open PySem L2
def AsciiS (s : Str) : Prop := ∀ c ∈ s.cps.toList, c < 128
def leafD : PyData → Prop
  | .none => True
  | .bool _ => True
  | .int i => -10 ^ 30 ≤ i ∧ i ≤ 10 ^ 30
  | .str s => s.length ≤ 60 ∧ AsciiS s
  | _ => False
def LeafV (v : V) : Prop := ∃ d, leafD d ∧ ∀ G, Rp G 1 v d
theorem leaf_str (x : Str) (h : x.length ≤ 60) (h2 : ∀ c ∈ x.cps.toList, c < 128) : LeafV (.str x) := ⟨.str x, ⟨h, h2⟩, fun _ => rfl⟩
theorem leaf_int (i : Int) (h : -10 ^ 30 ≤ i ∧ i ≤ 10 ^ 30) : LeafV (.int i) := ⟨.int i, h, fun _ => rfl⟩
theorem leaf_bl (b : Bool) : LeafV (.bl b) := ⟨.bool b, trivial, fun _ => rfl⟩
theorem leaf_non : LeafV .non := ⟨.none, trivial, fun _ => rfl⟩
def NameOk (x : Str) : Prop := x.length ≤ 60 ∧ AsciiS x
def docD : Nat → PyData → Prop
  | 0, _ => False
  | n + 1, .list ds => ds.length ≤ 10 ∧ ∀ d ∈ ds, docD n d
  | n + 1, .dict es => es.length ≤ 10 ∧ ∀ e ∈ es, (∃ x, e.1 = .str x ∧ NameOk x) ∧ docD n e.2
  | _ + 1, d => leafD d
theorem docD.leaf {d : PyData} (h : leafD d) (n : Nat) : docD (n + 1) d := by
  cases d <;> first | exact h | exact h.elim
theorem docD.up1 : ∀ {n : Nat} {d : PyData}, docD n d → docD (n + 1) d
  | 0, _, h => h.elim
  | n + 1, .list ds, h => ⟨h.1, fun d hd => (h.2 d hd).up1⟩
  | n + 1, .dict es, h => ⟨h.1, fun e he => ⟨(h.2 e he).1, (h.2 e he).2.up1⟩⟩
  | n + 1, .none, h => h
  | n + 1, .bool _, h => h
  | n + 1, .int _, h => h
  | n + 1, .str _, h => h
  | n + 1, .tuple _, h => h.elim
theorem docD.up {n m : Nat} {d : PyData} (h : docD n d) (hl : n ≤ m) : docD m d := by
  induction hl with
  | refl => exact h
  | step _ ih => exact ih.up1
mutual
/-- the number of parts -/
def cnt : PyData → Nat
  | .list ds => 1 + cntAll ds
  | .tuple ds => 1 + cntAll ds
  | .dict es => 1 + cntKv es
  | .none => 1
  | .bool _ => 1
  | .int _ => 1
  | .str _ => 1
def cntAll : List PyData → Nat
  | [] => 0
  | d :: r => cnt d + cntAll r
def cntKv : List (PyData × PyData) → Nat
  | [] => 0
  | (_, d) :: r => cnt d + cntKv r
end
theorem cntAll_app (xs ys : List PyData) : cntAll (xs ++ ys) = cntAll xs + cntAll ys := by
  induction xs with
  | nil => simp [cntAll]
  | cons d r ih => simp [cntAll, ih]; omega
theorem cntKv_app (xs ys : List (PyData × PyData)) : cntKv (xs ++ ys) = cntKv xs + cntKv ys := by
  induction xs with
  | nil => simp [cntKv]
  | cons d r ih => obtain ⟨a, b⟩ := d; simp [cntKv, ih]; omega
theorem cnt_pos (d : PyData) : 1 ≤ cnt d := by
  cases d <;> simp [cnt] <;> omega
theorem leaf_cnt {d : PyData} (h : leafD d) : cnt d = 1 := by
  cases d <;> first | rfl | exact h.elim
theorem cntAll_mem {d : PyData} {ds : List PyData} (h : d ∈ ds) : cnt d ≤ cntAll ds := by
  induction ds with
  | nil => simp at h
  | cons e r ih =>
    simp only [cntAll]
    rcases List.mem_cons.mp h with rfl | h
    · omega
    · have := ih h; omega
theorem cntKv_mem {q : PyData × PyData} {es : List (PyData × PyData)} (h : q ∈ es) : cnt q.2 ≤ cntKv es := by
  induction es with
  | nil => simp at h
  | cons e r ih =>
    obtain ⟨a, b⟩ := e
    simp only [cntKv]
    rcases List.mem_cons.mp h with rfl | h
    · show cnt b ≤ _; omega
    · have := ih h; omega
theorem ascii_big {x : Str} (h : AsciiS x) : (x.cps.toList.all fun c => decide (c < 16 ^ 8)) = true := by
  rw [List.all_eq_true]
  intro c hc
  have := h c hc
  exact decide_eq_true (by omega)
theorem int30_len {i : Int} (h : -10 ^ 30 ≤ i ∧ i ≤ 10 ^ 30) : (PyData.shown (.int i)).length ≤ 40 := by
  have e := int_text_length_le10 (a := i) (k := 31) (by decide) (by omega)
  show (Str.ofString (toString i)).length ≤ 40
  rw [ofString_length]
  omega
theorem int30_log {i : Int} (h : -10 ^ 30 ≤ i ∧ i ≤ 10 ^ 30) : i.natAbs.log2 < 100 := by
  by_cases h0 : i.natAbs = 0
  · rw [h0]; decide
  · exact (Nat.log2_lt h0).mpr (by have : i.natAbs ≤ 10 ^ 30 := by omega
                                   exact Nat.lt_of_le_of_lt this (by decide))
theorem str60_weight {x : Str} (h : x.length ≤ 60) : PyData.weight (.str x) ≤ 60 := h
/-- a document can be shown, and not too long -/
def Fine (d : PyData) : Prop := d.showable = true ∧ d.leavesShort 40 = true ∧ d.weight + 64 ≤ 165 * cnt d
theorem fine_all {ds : List PyData} (h : ∀ d ∈ ds, Fine d) : PyData.showableAll ds = true ∧ PyData.leavesShortAll 40 ds = true ∧ PyData.weightAll ds ≤ 165 * cntAll ds := by
  induction ds with
  | nil => exact ⟨rfl, rfl, Nat.zero_le _⟩
  | cons d r ih =>
    obtain ⟨a1, a2, a3⟩ := h d (by simp)
    obtain ⟨b1, b2, b3⟩ := ih fun e he => h e (by simp [he])
    refine ⟨?_, ?_, ?_⟩
    · show (_ && _) = true; rw [a1, b1]; rfl
    · show (_ && _) = true; rw [a2, b2]; rfl
    · show PyData.weight d + 1 + PyData.weightAll r ≤ 165 * (cnt d + cntAll r); omega
theorem fine_kv {es : List (PyData × PyData)} (h : ∀ e ∈ es, (∃ x, e.1 = .str x ∧ NameOk x) ∧ Fine e.2) : PyData.showableKv es = true ∧ PyData.leavesShortKv 40 es = true ∧ PyData.weightKv es ≤ 165 * cntKv es := by
  induction es with
  | nil => exact ⟨rfl, rfl, Nat.zero_le _⟩
  | cons e r ih =>
    obtain ⟨k, d⟩ := e
    obtain ⟨⟨x, hx, hx1, hx2⟩, a1, a2, a3⟩ := h (k, d) (by simp)
    obtain ⟨b1, b2, b3⟩ := ih fun e he => h e (by simp [he])
    simp at hx
    subst hx
    have hw := str60_weight hx1
    refine ⟨?_, ?_, ?_⟩
    · show (PyData.showable (.str x) && PyData.showable d && _) = true; rw [a1, b1]; rfl
    · show (PyData.leavesShort 40 (.str x) && PyData.leavesShort 40 d && _) = true; rw [a2, b2]
      show ((x.cps.toList.all fun c => decide (c < 16 ^ 8)) && true && true) = true
      rw [ascii_big hx2]; rfl
    · show PyData.weight (.str x) + PyData.weight d + 2 + PyData.weightKv r ≤ 165 * (cnt d + cntKv r)
      have : PyData.weight d + 64 ≤ 165 * cnt d := a3
      omega
theorem Fine.list {ds : List PyData} (h : ∀ d ∈ ds, Fine d) : Fine (.list ds) := by
  obtain ⟨b1, b2, b3⟩ := fine_all h
  refine ⟨b1, b2, ?_⟩
  show PyData.weightAll ds + 64 ≤ 165 * (1 + cntAll ds)
  omega
theorem Fine.tuple {ds : List PyData} (h : ∀ d ∈ ds, Fine d) : Fine (.tuple ds) := by
  obtain ⟨b1, b2, b3⟩ := fine_all h
  refine ⟨b1, b2, ?_⟩
  show PyData.weightAll ds + 64 ≤ 165 * (1 + cntAll ds)
  omega
theorem Fine.dict {es : List (PyData × PyData)} (h : ∀ e ∈ es, (∃ x, e.1 = .str x ∧ NameOk x) ∧ Fine e.2) : Fine (.dict es) := by
  obtain ⟨b1, b2, b3⟩ := fine_kv h
  refine ⟨b1, b2, ?_⟩
  show PyData.weightKv es + 64 ≤ 165 * (1 + cntKv es)
  omega
theorem Fine.leaf {d : PyData} (h : leafD d) : Fine d := by
  cases d with
  | none => exact ⟨rfl, rfl, by decide⟩
  | bool b => exact ⟨rfl, rfl, by show 0 + 64 ≤ 165 * 1; decide⟩
  | int i =>
    have h1 := int30_len h
    have h2 := int30_log h
    refine ⟨decide_eq_true (show i.natAbs.log2 < 1920 by omega), decide_eq_true h1, ?_⟩
    show (if i == 0 then 0 else i.natAbs.log2 + 1) + 64 ≤ 165 * 1
    split <;> omega
  | str x =>
    have h1 := str60_weight h.1
    exact ⟨rfl, ascii_big h.2, by show PyData.weight (.str x) + 64 ≤ 165 * 1; omega⟩
  | list ds => exact h.elim
  | tuple ds => exact h.elim
  | dict ds => exact h.elim
theorem docD.fine : ∀ {n : Nat} {d : PyData}, docD n d → Fine d
  | 0, _, h => h.elim
  | n + 1, .list ds, h => Fine.list fun d hd => (h.2 d hd).fine
  | n + 1, .dict es, h => Fine.dict fun e he => ⟨(h.2 e he).1, (h.2 e he).2.fine⟩
  | n + 1, .none, h => Fine.leaf h
  | n + 1, .bool _, h => Fine.leaf h
  | n + 1, .int _, h => Fine.leaf h
  | n + 1, .str _, h => Fine.leaf h
  | n + 1, .tuple _, h => h.elim
theorem Fine.fits {d : PyData} (h : Fine d) (hc : cnt d ≤ 2000) : d.shown.length ≤ sizeLine := by
  have h1 := PyData.shown_le 40 (by decide) d h.2.1
  have h2 := h.2.2
  have e : sizeLine = 16777216 := by decide
  omega
/-- repr of a datum -/
theorem repr1 {H : Hp} {v : V} {n : Nat} {d : PyData} {Q : VK} (h : Rp H n v d) (hn : n ≤ 90) (hf : Fine d) (hc : cnt d ≤ 2000) (q : Q (.str d.shown) H) : rRepr [v] H Q := ⟨v, n, d, rfl, h, hn, hf.1, hf.fits hc, q⟩
end SC

set_option Elab.async false
set_option linter.all false
set_option maxRecDepth 100000
set_option maxHeartbeats 4000000
/-! Schemacheck: names in order, documents that are the same. -/
namespace SC
open PySem L2 PyProof.Rows

/-! ### texts in order -/
def leS (a b : Str) : Bool := !PySem.Spec.ltCps b.cps.toList a.cps.toList
theorem leS_iff (a b : Str) : leS a b = true ↔ a.cps.toList ≤ b.cps.toList := by
  unfold leS
  rw [ltCps_eq]
  simp
theorem leS_trans (a b c : Str) (h1 : leS a b = true) (h2 : leS b c = true) : leS a c = true := by
  rw [leS_iff] at *
  exact List.le_trans h1 h2
theorem leS_total (a b : Str) : (leS a b || leS b a) = true := by
  have := List.le_total a.cps.toList b.cps.toList
  rw [Bool.or_eq_true, leS_iff, leS_iff]
  exact this
theorem leS_anti (a b : Str) (h1 : leS a b = true) (h2 : leS b a = true) : a = b := by
  rw [leS_iff] at *
  have e := List.le_antisymm h1 h2
  have e2 : a.cps = b.cps := Array.toList_inj.mp e
  cases a; cases b; simp at e2; rw [e2]
def srt (xs : List Str) : List Str := xs.mergeSort leS
theorem srt_perm (xs : List Str) : (srt xs).Perm xs := List.mergeSort_perm _ _
theorem srt_pw (xs : List Str) : (srt xs).Pairwise (fun a b => leS a b = true) := List.pairwise_mergeSort leS_trans leS_total xs
theorem rising_pw : ∀ {r : List Str} {p : Str}, PyProof.Rows.risingS p r = true → (p :: r).Pairwise (fun a b => leS a b = true)
  | [], p, _ => by simp
  | x :: r, p, h => by
    have h' : (!PySem.Spec.ltCps x.cps.toList p.cps.toList && PyProof.Rows.risingS x r) = true := h
    rw [Bool.and_eq_true] at h'
    have ih := rising_pw h'.2
    refine List.pairwise_cons.mpr ⟨?_, ih⟩
    intro y hy
    rcases List.mem_cons.mp hy with rfl | hy
    · exact h'.1
    · exact leS_trans _ _ _ h'.1 ((List.pairwise_cons.mp ih).1 y hy)
theorem sorted_pw {ys : List Str} (h : PyProof.Rows.sortedS ys = true) : ys.Pairwise (fun a b => leS a b = true) := by
  cases ys with
  | nil => exact .nil
  | cons x r => exact rising_pw h
theorem srt_is {ys xs : List Str} (hp : ys.Perm xs) (hs : PyProof.Rows.sortedS ys = true) : ys = srt xs :=
  List.Perm.eq_of_pairwise (le := fun a b => leS a b = true) (fun a b _ _ h1 h2 => leS_anti a b h1 h2) (sorted_pw hs) (srt_pw xs) (hp.trans (srt_perm xs).symm)
theorem srt_congr {xs ys : List Str} (h : xs.Perm ys) : srt xs = srt ys :=
  List.Perm.eq_of_pairwise (le := fun a b => leS a b = true) (fun a b _ _ h1 h2 => leS_anti a b h1 h2) (srt_pw xs) (srt_pw ys) ((srt_perm xs).trans (h.trans (srt_perm ys).symm))
theorem perm_srt {xs ys : List Str} (h : srt xs = srt ys) : xs.Perm ys := (srt_perm xs).symm.trans (by rw [h]; exact srt_perm ys)
theorem srt_len (xs : List Str) : (srt xs).length = xs.length := (srt_perm xs).length_eq
theorem srt_nd {xs : List Str} (h : xs.Nodup) : (srt xs).Nodup := (srt_perm xs).nodup_iff.mpr h
theorem mem_srt {xs : List Str} {x : Str} : x ∈ srt xs ↔ x ∈ xs := (srt_perm xs).mem_iff

/-! ### dicts by their names -/
def strD : PyData → Str
  | .str x => x
  | _ => Str.empty
def keysD (es : List (PyData × PyData)) : List Str := es.map fun e => strD e.1
def StrKeys (es : List (PyData × PyData)) : Prop := ∀ e ∈ es, ∃ x, e.1 = .str x
def dget (es : List (PyData × PyData)) (x : Str) : Option PyData := (es.find? fun e => decide (strD e.1 = x)).map (·.2)
theorem docD.keys {n : Nat} {es : List (PyData × PyData)} (h : docD (n + 1) (.dict es)) : StrKeys es := fun e he => by
  obtain ⟨⟨x, hx, _⟩, _⟩ := h.2 e he
  exact ⟨x, hx⟩
abbrev KvR (F : V → PyData → Prop) : Key × V → PyData × PyData → Prop := fun p q => q.1 = kD p.1 ∧ F p.2 q.2
theorem keys_of {F : V → PyData → Prop} {kvs : List (Key × V)} {es : List (PyData × PyData)} (hp : Paired (KvR F) kvs es) (hs : StrKeys es) : kvs.map (·.1) = (keysD es).map Sum.inr := by
  induction hp with
  | nil => rfl
  | cons r _ ih =>
    obtain ⟨x, hx⟩ := hs _ (List.mem_cons_self)
    have h1 := ih fun e he => hs e (by simp [he])
    simp only [keysD, List.map_cons, List.map_map] at h1 ⊢
    rw [h1]
    congr 1
    have h2 := r.1
    rw [hx] at h2
    rw [hx]
    rename_i a _ _ _ _
    obtain ⟨k, v⟩ := a
    cases k with
    | inl i => cases h2
    | inr y => cases h2; rfl
theorem keysV_of {F : V → PyData → Prop} {kvs : List (Key × V)} {es : List (PyData × PyData)} (hp : Paired (KvR F) kvs es) (hs : StrKeys es) : (kvs.map fun kv => kV kv.1) = (keysD es).map V.str := by
  have h := congrArg (List.map kV) (keys_of hp hs)
  rw [List.map_map, List.map_map] at h
  exact h
theorem inr_nd {xs : List Str} (h : (xs.map (Sum.inr : Str → Key)).Nodup) : xs.Nodup := by
  induction xs with
  | nil => exact List.nodup_nil
  | cons x r ih =>
    rw [List.map_cons, List.nodup_cons] at h
    rw [List.nodup_cons]
    exact ⟨fun hm => h.1 (List.mem_map.mpr ⟨x, hm, rfl⟩), ih h.2⟩
theorem nd_inr {xs : List Str} (h : xs.Nodup) : (xs.map (Sum.inr : Str → Key)).Nodup := by
  induction xs with
  | nil => exact List.nodup_nil
  | cons x r ih =>
    rw [List.nodup_cons] at h
    rw [List.map_cons, List.nodup_cons]
    refine ⟨fun hm => ?_, ih h.2⟩
    obtain ⟨y, hy, e⟩ := List.mem_map.mp hm
    cases e
    exact h.1 hy
theorem keys_nd {F : V → PyData → Prop} {kvs : List (Key × V)} {es : List (PyData × PyData)} (hp : Paired (KvR F) kvs es) (hs : StrKeys es) (hn : (kvs.map (·.1)).Nodup) : (keysD es).Nodup := by
  rw [keys_of hp hs] at hn
  exact inr_nd hn
/-- what a name leads to, in the heap and in the datum -/
theorem get_of {F : V → PyData → Prop} {kvs : List (Key × V)} {es : List (PyData × PyData)} (hp : Paired (KvR F) kvs es) (hs : StrKeys es) (x : Str) :
    (valV kvs (Sum.inr x) = none ∧ dget es x = none) ∨ ∃ v d, valV kvs (Sum.inr x) = some v ∧ dget es x = some d ∧ F v d := by
  induction hp with
  | nil => exact .inl ⟨rfl, rfl⟩
  | cons r _ ih =>
    obtain ⟨y, hy⟩ := hs _ (List.mem_cons_self)
    have h1 := ih fun e he => hs e (by simp [he])
    rename_i a b l1 l2 _
    obtain ⟨k, v⟩ := a
    obtain ⟨b1, b2⟩ := b
    obtain ⟨r1, r2⟩ := r
    simp at hy r1 r2
    subst hy
    cases k with
    | inl i => cases r1
    | inr z =>
      cases r1
      by_cases hz : y = x
      · subst hz
        refine .inr ⟨v, b2, ?_, ?_, r2⟩
        · simp [valV]
        · simp [dget, strD]
      · have hz' : ¬ (Sum.inr y : Key) = Sum.inr x := fun e => hz (Sum.inr.inj e)
        have e1 : valV ((Sum.inr y, v) :: l1) (Sum.inr x) = valV l1 (Sum.inr x) := by
          simp only [valV, List.find?_cons, decide_eq_false hz']
        have e2 : dget ((PyData.str y, b2) :: l2) x = dget l2 x := by
          have : ¬ strD (.str y) = x := hz
          simp only [dget, List.find?_cons, decide_eq_false this]
        rw [e1, e2]
        exact h1
theorem dget_mem {es : List (PyData × PyData)} {x : Str} {d : PyData} (h : dget es x = some d) : ∃ e ∈ es, e.2 = d ∧ strD e.1 = x := by
  unfold dget at h
  cases e : es.find? fun e => decide (strD e.1 = x) with
  | none => rw [e] at h; cases h
  | some q =>
    rw [e] at h
    cases h
    exact ⟨q, List.mem_of_find?_eq_some e, rfl, by have := List.find?_some e; simpa using this⟩
theorem dget_none {es : List (PyData × PyData)} {x : Str} (h : dget es x = none) : x ∉ keysD es := by
  unfold dget at h
  intro hm
  obtain ⟨e, he, hx⟩ := List.mem_map.mp hm
  cases q : es.find? fun e => decide (strD e.1 = x) with
  | none =>
    have := List.find?_eq_none.mp q e he
    simp at this
    exact this hx
  | some z => rw [q] at h; cases h

/-! ### the same -/
def sameL : PyData → PyData → Bool
  | .none, .none => true
  | .bool a, .bool b => decide (a = b)
  | .int i, .int j => decide (i = j)
  | .str x, .str y => decide (x = y)
  | _, _ => false
def optB (o : Option PyData) (f : PyData → Bool) : Bool := match o with
  | some d => f d
  | none => false
def sameN : Nat → PyData → PyData → Bool
  | 0, _, _ => false
  | n + 1, .list xs, .list ys => decide (xs.length = ys.length) && (List.zipWith (sameN n) xs ys).all id
  | n + 1, .dict es, .dict fs => decide (srt (keysD es) = srt (keysD fs)) && (es.map fun e => optB (dget fs (strD e.1)) (sameN n e.2)).all id
  | _ + 1, d, e => sameL d e
theorem sameL_refl {d : PyData} (h : leafD d) : sameL d d = true := by
  cases d <;> first | exact h.elim | simp [sameL]
/-- names nowhere twice -/
def ndD : Nat → PyData → Prop
  | 0, _ => True
  | n + 1, .list ds => ∀ d ∈ ds, ndD n d
  | n + 1, .dict es => (keysD es).Nodup ∧ ∀ e ∈ es, ndD n e.2
  | _ + 1, _ => True
theorem Rp.nd {H : Hp} : ∀ {n m : Nat} {v : V} {d : PyData}, Rp H n v d → docD m d → ndD m d
  | 0, _, _, _, h, _ => h.elim
  | _, 0, _, _, _, _ => trivial
  | n + 1, m + 1, v, .none, _, _ => trivial
  | n + 1, m + 1, v, .bool _, _, _ => trivial
  | n + 1, m + 1, v, .int _, _, _ => trivial
  | n + 1, m + 1, v, .str _, _, _ => trivial
  | n + 1, m + 1, v, .tuple _, _, _ => trivial
  | n + 1, m + 1, v, .list ds, ⟨a, xs, _, _, _, hp⟩, hd => fun d hm => by
    obtain ⟨x, _, r⟩ := pd_memR hp hm
    exact r.nd (hd.2 d hm)
  | n + 1, m + 1, v, .dict es, ⟨a, kvs, _, _, _, hn, hp⟩, hd => ⟨keys_nd hp hd.keys hn, fun e hm => by
    obtain ⟨x, _, r⟩ := pd_memR hp hm
    exact r.2.nd (hd.2 e hm).2⟩

/-! ### rules that speak of the written part, by its name -/
section
variable {X : Cx} {K : PySem.W.Frag}
theorem ixLK (h : X.K = K) : IxR X (rIxL K) := by subst h; exact ix_list
theorem ixTK (h : X.K = K) : IxR X (rIxT K) := by subst h; exact ix_tup
theorem isiK (h : X.K = K) : CallR X (.builtin "isinstance") (rIsi K) := by subst h; exact call_isi
theorem isiTK (h : X.K = K) : CallR X (.builtin "isinstance") (rIsiT K) := by subst h; exact call_isiT
def rLenK (K : PySem.W.Frag) : List V → Hp → VK → Prop := fun xs H Q => ∃ x n, xs = [x] ∧ LenV K x H n ∧ Q (.int (n : Nat)) H
theorem lenK (h : X.K = K) : CallR X (.builtin "len") (rLenK K) := by subst h; exact call_len
theorem maxK (h : X.K = K) (hc : X.calm = true) : CallR X (.builtin "max") (rMax K) := by subst h; exact cr_max hc
theorem sumK (h : X.K = K) (hc : X.calm = true) : CallR X (.builtin "sum") (rSum K) := by subst h; exact cr_sum hc
theorem allK (h : X.K = K) (hc : X.calm = true) : CallR X (.builtin "all") (rAll K) := by subst h; exact cr_all hc
theorem anyK (h : X.K = K) (hc : X.calm = true) : CallR X (.builtin "any") (rAny K) := by subst h; exact cr_any hc
theorem sortedSK (h : X.K = K) : CallR X (.builtin "sorted") (rSortedS K) := by subst h; exact cr_sortedS
theorem inK (h : X.K = K) : OpR X (compareOp .In) (rIn K false) := by subst h; exact op_in_seq
theorem notInK (h : X.K = K) : OpR X (compareOp .NotIn) (rIn K true) := by subst h; exact op_notIn_seq
theorem eqDK (h : X.K = K) (hu : X.A.units + 64 < cLine) : OpR X (compareOp .Eq) (rEqD K) := by subst h; exact op_eqD hu
theorem neDK (h : X.K = K) (hu : X.A.units + 64 < cLine) : OpR X (compareOp .NotEq) (rNeD K) := by subst h; exact op_neD hu
theorem slLK (h : X.K = K) : SlR X (rSlL K) := by subst h; exact sl_list
theorem slTK (h : X.K = K) : SlR X (rSlT K) := by subst h; exact sl_tup
def rListK (K : PySem.W.Frag) : List V → Hp → VK → Prop := fun xs H Q => ∃ p ys, xs = [.ref p] ∧ (SqL K H p ys ∨ SqT K H p ys) ∧ ∀ l, H l = none → Q (.ref l) (upd H l (.lst ys))
theorem listK (h : X.K = K) : CallR X (.type "list") (rListK K) := by subst h; exact call_list_of
end

/-! ### kinds -/
def kindD : PyData → Str
  | .none => "null"
  | .bool _ => "boolean"
  | .int _ => "integer"
  | .str _ => "string"
  | .list _ => "array"
  | _ => "object"

theorem same_kind {n m : Nat} {d e : PyData} (hd : docD m d) (he : docD m e) (h : ¬ kindD d = kindD e) : sameN (n + 1) d e = false := by
  cases m with
  | zero => exact hd.elim
  | succ m => cases d <;> cases e <;> first | exact hd.elim | exact he.elim | rfl | exact absurd rfl h
theorem kind_inv {m : Nat} {d e : PyData} (hd : docD m d) (he : docD m e) (h : kindD d = kindD e) :
    (d = .none ∧ e = .none) ∨ (∃ a b, d = .bool a ∧ e = .bool b) ∨ (∃ a b, d = .int a ∧ e = .int b) ∨ (∃ a b, d = .str a ∧ e = .str b) ∨ (∃ a b, d = .list a ∧ e = .list b) ∨ ∃ a b, d = .dict a ∧ e = .dict b := by
  cases m with
  | zero => exact hd.elim
  | succ m =>
    cases d <;> cases e <;> first | exact hd.elim | exact he.elim | exact .inl ⟨rfl, rfl⟩ | exact .inr (.inl ⟨_, _, rfl, rfl⟩) | exact .inr (.inr (.inl ⟨_, _, rfl, rfl⟩)) | exact .inr (.inr (.inr (.inl ⟨_, _, rfl, rfl⟩))) | exact .inr (.inr (.inr (.inr (.inl ⟨_, _, rfl, rfl⟩)))) | exact .inr (.inr (.inr (.inr (.inr ⟨_, _, rfl, rfl⟩)))) | exact absurd h (by simp only [kindD]; decide +kernel)
theorem strOk_of {x : Str} (h : AsciiS x) : PyData.strOk x = true := by
  unfold PyData.strOk
  rw [Array.all_eq_true_iff_forall_mem]
  intro c hc
  have := h c (by simpa using hc)
  exact decide_eq_true (by omega)
theorem layAll_strs : ∀ {xs : List Str}, (∀ x ∈ xs, AsciiS x) → PyData.canLayAll0 (xs.map .str) = true
  | [], _ => rfl
  | x :: r, h => by
    show (PyData.strOk x && PyData.canLayAll0 (r.map .str)) = true
    rw [strOk_of (h x (by simp)), layAll_strs fun y hy => h y (by simp [hy])]
    rfl
theorem depth_strs : ∀ xs : List Str, PyData.depthAll (xs.map .str) = 0
  | [] => rfl
  | x :: r => by
    show max 0 (PyData.depthAll (r.map .str)) = 0
    rw [depth_strs r]
    rfl
theorem shaped_strs {xs : List Str} (h : ∀ x ∈ xs, AsciiS x) : SeqAt.shaped (.list (xs.map .str)) = true := by
  have h1 := layAll_strs h
  have h2 := depth_strs xs
  show (PyData.canLayAll0 (xs.map .str) && decide (PyData.depthAll (xs.map .str) + 1 ≤ 64)) = true
  rw [h1, h2]
  rfl
theorem eqv_strs : ∀ xs ys : List Str, PyData.eqv (.list (xs.map .str)) (.list (ys.map .str)) = decide (xs = ys) := by
  have h : ∀ xs ys : List Str, PyData.eqvAll (xs.map .str) (ys.map .str) = decide (xs = ys) := by
    intro xs
    induction xs with
    | nil =>
      intro ys
      cases ys with
      | nil => rfl
      | cons y r => rfl
    | cons x r ih =>
      intro ys
      cases ys with
      | nil => rfl
      | cons y q =>
        show ((x == y) && PyData.eqvAll (r.map .str) (q.map .str)) = _
        rw [ih q]
        by_cases hxy : x = y
        · subst hxy
          simp
        · simp [hxy]
  intro xs ys
  exact h xs ys
theorem Dp_strs {K : PySem.W.Frag} {H : Hp} {a : Addr} {xs : List Str} (h : H a = some (.lst (xs.map V.str))) : Dp K H (.ref a) (.list (xs.map .str)) := by
  refine .lst (SqL.of h) ?_
  induction xs generalizing H with
  | nil => exact .nil
  | cons x r ih =>
    have : ∀ l : List Str, DpAll K H (l.map V.str) (l.map PyData.str) := by
      intro l
      induction l with
      | nil => exact .nil
      | cons y q ih2 => exact .cons (.str y) ih2
    exact this _

/-! ### None, True, False are shown as nothing else is -/
theorem mem_list (ts : List Str) : 93 ∈ (listText ts).cps.toList := by
  unfold listText
  show 93 ∈ ((textFrom 0 "[" ts).cps ++ (Str.ofString "]").cps).toList
  rw [Array.toList_append]
  exact List.mem_append_right _ (by decide +kernel)
theorem mem_dict (ts : List Str) : 125 ∈ (dictText ts).cps.toList := by
  unfold dictText
  show 125 ∈ (_ ++ (Str.ofString "}").cps).toList
  rw [Array.toList_append]
  exact List.mem_append_right _ (by decide +kernel)
theorem mem_str (x : Str) : reprQuote x ∈ (reprText x).cps.toList := by
  unfold reprText
  simp
theorem quote_is (x : Str) : reprQuote x = 39 ∨ reprQuote x = 34 := by
  unfold reprQuote
  split <;> simp
def flatN : PyData → Bool
  | .none => true
  | .bool _ => true
  | _ => false
theorem flat_apart {d e : PyData} (hd : flatN d = true) (he : flatN e = false) (ht : ∀ ds, e ≠ .tuple ds) : d.shown ≠ e.shown := by
  intro h
  have h2 : ∀ c, c ∈ e.shown.cps.toList → c ∈ d.shown.cps.toList := fun c hc => by rw [h]; exact hc
  have h3 : ∀ c, c ∈ d.shown.cps.toList → c ∈ e.shown.cps.toList := fun c hc => by rw [← h]; exact hc
  have no : ∀ c ∈ [93, 125, 39, 34], c ∉ d.shown.cps.toList := by
    cases d with
    | none => decide +kernel
    | bool b => cases b <;> decide +kernel
    | _ => cases hd
  cases e with
  | none => cases he
  | bool b => cases he
  | tuple ds => exact ht ds rfl
  | list ds => exact no 93 (by simp) (h2 _ (mem_list _))
  | dict ds => exact no 125 (by simp) (h2 _ (mem_dict _))
  | str x =>
    rcases quote_is x with q | q
    · exact no 39 (by simp) (h2 _ (by rw [← q]; exact mem_str x))
    · exact no 34 (by simp) (h2 _ (by rw [← q]; exact mem_str x))
  | int i =>
    have hi : ∀ c ∈ [78, 84, 70], c ∉ (PyData.shown (.int i)).cps.toList := by
      intro c hc
      simp only [List.mem_cons, List.not_mem_nil, or_false] at hc
      rcases hc with rfl | rfl | rfl <;> exact PyProof.Rows.int_text_free' _ ⟨by decide, by decide⟩ i
    cases d with
    | none => exact hi 78 (by simp) (h3 78 (by decide +kernel))
    | bool b =>
      cases b
      · exact hi 70 (by simp) (h3 70 (by decide +kernel))
      · exact hi 84 (by simp) (h3 84 (by decide +kernel))
    | _ => cases hd
theorem flat_same {n m : Nat} {d e : PyData} (dd : docD m d) (de : docD m e) (h : flatN d = true ∨ flatN e = true) : decide (d.shown = e.shown) = sameN (n + 1) d e := by
  have nt : ∀ {x : PyData}, docD m x → ∀ ds, x ≠ .tuple ds := by
    intro x hx ds e
    subst e
    cases m with
    | zero => exact hx.elim
    | succ m => exact hx.elim
  by_cases hd : flatN d = true
  · by_cases he : flatN e = true
    · cases d <;> first | cases hd | skip
      all_goals cases e <;> first | cases he | skip
      · rfl
      · rename_i b; cases b <;> (show _ = sameL _ _; decide +kernel)
      · rename_i b; cases b <;> (show _ = sameL _ _; decide +kernel)
      · rename_i a b; cases a <;> cases b <;> (show _ = sameL _ _; decide +kernel)
    · have he' : flatN e = false := by simpa using he
      rw [decide_eq_false (flat_apart hd he' (nt de))]
      cases d <;> first | cases hd | skip
      all_goals cases e <;> first | exact absurd rfl he | rfl
  · have hd' : flatN d = false := by simpa using hd
    have he : flatN e = true := by rcases h with h | h; exact absurd h hd; exact h
    rw [decide_eq_false (fun z => flat_apart he hd' (nt dd) z.symm)]
    cases e <;> first | cases he | skip
    all_goals cases d <;> first | exact absurd rfl hd | rfl
theorem Room.u100 {k : Nat} {A : Around} (r : Room k A) : A.units + 100 < cLine := by have := r.un; omega
theorem flat_iff {H : Hp} {n : Nat} {v : V} {d : PyData} (h : Rp H n v d) : flatN d = true ↔ isT .bool d = true ∨ v = .non := by
  cases n with
  | zero => exact h.elim
  | succ n =>
    cases d with
    | none => cases h; simp [flatN]
    | bool b => cases h; simp [flatN, isT]
    | int b => cases h; simp [flatN, isT]
    | str b => cases h; simp [flatN, isT]
    | list b => obtain ⟨a, xs, rfl, _⟩ := h; simp [flatN, isT]
    | tuple b => obtain ⟨a, xs, rfl, _⟩ := h; simp [flatN, isT]
    | dict b => obtain ⟨a, xs, rfl, _⟩ := h; simp [flatN, isT]
theorem notin_false (bs : List Bool) : (!inV (.bl false) (bs.map V.bl)) = bs.all id := by
  unfold inV
  induction bs with
  | nil => rfl
  | cons b r ih =>
    simp only [List.map_cons, List.any_cons, Bool.not_or, List.all_cons]
    rw [ih]
    cases b <;> rfl
theorem flat_bls (bs : List Bool) : (bs.map V.bl).all flatV = true := by
  rw [List.all_eq_true]
  intro x hx
  obtain ⟨b, _, rfl⟩ := List.mem_map.mp hx
  rfl
/-- name = [.. for k in d], the dict locked -/
theorem tLock_asg (te : TE) (k : Nat) (D : Ends) (σ : L2.St) (H : Hp) : tLock (tAsg te (gName k)) D σ H = tLockE te σ H (fun v H' => D.nx (σ.set k (some v)) H') := rfl
end SC

set_option Elab.async false
set_option linter.all false
set_option maxRecDepth 100000
set_option maxHeartbeats 4000000
/-! Schemacheck: texts; parts of the heap. -/
namespace SC
open PySem L2

/-! ### the heap without some of it -/
def gone (S : List Addr) (H : Hp) : Hp := fun b => if b ∈ S then none else H b
theorem gone_sub (S : List Addr) (H : Hp) : Same (gone S H) H := fun b o e => by
  unfold gone at e
  split at e
  · cases e
  · exact e
theorem gone_at {S : List Addr} {H : Hp} {b : Addr} (h : b ∉ S) : gone S H b = H b := if_neg h
theorem gone_keep {S : List Addr} {H H' : Hp} (k : Keep S H H') : Same (gone S H) (gone S H') := fun b o e => by
  unfold gone at e ⊢
  split at e
  · cases e
  · rename_i h
    rw [if_neg h]
    exact k b o e h
theorem gone_same {S : List Addr} {H H' : Hp} (k : Same H H') : Same (gone S H) (gone S H') := gone_keep (.of k)
theorem gone_less {S T : List Addr} {H : Hp} (h : ∀ b ∈ S, b ∈ T) : Same (gone T H) (gone S H) := fun b o e => by
  unfold gone at e ⊢
  split at e
  · cases e
  · rename_i z
    rw [if_neg fun y => z (h b y)]
    exact e
/-- a new thing is none of the old -/
theorem gone_new {S : List Addr} {H : Hp} {D : Addr} {o : HO} (hD : H D = none) : Same (gone S H) (gone (D :: S) (upd H D o)) := fun b u e => by
  unfold gone at e ⊢
  split at e
  · cases e
  · rename_i z
    have hb : b ≠ D := ne_of_none e hD
    rw [if_neg (by simp [hb, z]), upd_ne hb]
    exact e
theorem gone_mut {S : List Addr} {H : Hp} {D : Addr} {o : HO} (hD : D ∈ S) : gone S (upd H D o) = gone S H := by
  funext b
  unfold gone
  split
  · rfl
  · rename_i z
    exact upd_ne fun e => z (e ▸ hD)
theorem gone_in {S : List Addr} {H H' : Hp} {D : Addr} (k : Same H H') (hD : H D = none) : Same (gone S H) (gone (D :: S) H') := fun b u e => by
  unfold gone at e ⊢
  split at e
  · cases e
  · rename_i z
    have hb : b ≠ D := ne_of_none e hD
    rw [if_neg (by simp [hb, z])]
    exact k _ _ e
theorem not_gone {S : List Addr} {H : Hp} {D : Addr} (hS : ∀ a ∈ S, H a ≠ none) (hD : H D = none) : D ∉ S := fun h => hS D h hD
theorem here_same {S : List Addr} {H H' : Hp} (hS : ∀ a ∈ S, H a ≠ none) (k : Same H H') : ∀ a ∈ S, H' a ≠ none := fun a ha e => by
  cases h : H a with
  | none => exact hS a ha h
  | some o => rw [k _ _ h] at e; cases e
theorem here_cons {S : List Addr} {H : Hp} {D : Addr} {o : HO} (hS : ∀ a ∈ S, H a ≠ none) (hD : H D = some o) : ∀ a ∈ D :: S, H a ≠ none := fun a ha e => by
  rcases List.mem_cons.mp ha with rfl | h
  · rw [hD] at e; cases e
  · exact hS a h e
theorem pd_rev {A B : Type} {F : A → B → Prop} {xs : List A} {ys : List B} (h : Paired F xs ys) : Paired F xs.reverse ys.reverse := by
  induction h with
  | nil => exact .nil
  | cons h1 _ ih => rw [List.reverse_cons, List.reverse_cons]; exact pd_app ih (.cons h1 .nil)
theorem pd_both {A B : Type} {F G K : A → B → Prop} {xs : List A} {ys : List B} (h : Paired F xs ys) (g : Paired G xs ys) (f : ∀ a b, F a b → G a b → K a b) : Paired K xs ys := by
  induction h with
  | nil => exact .nil
  | cons h1 _ ih => cases g with
    | cons g1 g2 => exact .cons (f _ _ h1 g1) (ih g2)
theorem news_gone {S : List Addr} {H H' : Hp} (hs : ∀ a ∈ S, H a ≠ none) : Same (news H H') (gone S H') := fun b o e => by
  unfold news at e
  split at e
  · cases e
  · rename_i h
    rw [gone_at fun z => hs b z h]
    exact e

/-! ### data no part of which is locked -/
def Re (H : Hp) : Nat → V → PyData → Prop
  | 0, _, _ => False
  | _ + 1, v, .none => v = .non
  | _ + 1, v, .bool b => v = .bl b
  | _ + 1, v, .int i => v = .int i
  | _ + 1, v, .str x => v = .str x
  | n + 1, v, .list ds => ∃ a xs, v = .ref a ∧ H a = some (.lst xs) ∧ xs.length ≤ 10000 ∧ Paired (Re H n) xs ds
  | n + 1, v, .tuple ds => ∃ a xs, v = .ref a ∧ H a = some (.tup xs) ∧ xs.length ≤ 10000 ∧ Paired (Re H n) xs ds
  | n + 1, v, .dict es => ∃ a kvs, v = .ref a ∧ H a = some (.dK kvs) ∧ kvs.length ≤ 10000 ∧ (kvs.map (·.1)).Nodup ∧ Paired (KvR (Re H n)) kvs es
theorem Re.imp {H H' : Hp} : ∀ {n : Nat} {v : V} {d : PyData}, Same H H' → Re H n v d → Re H' n v d
  | 0, _, _, _, h => h
  | n + 1, v, .none, _, h => h
  | n + 1, v, .bool _, _, h => h
  | n + 1, v, .int _, _, h => h
  | n + 1, v, .str _, _, h => h
  | n + 1, v, .list ds, e, ⟨a, xs, h1, h2, hb, h3⟩ => ⟨a, xs, h1, e _ _ h2, hb, pd_imp h3 fun _ _ _ _ q => Re.imp e q⟩
  | n + 1, v, .tuple ds, e, ⟨a, xs, h1, h2, hb, h3⟩ => ⟨a, xs, h1, e _ _ h2, hb, pd_imp h3 fun _ _ _ _ q => Re.imp e q⟩
  | n + 1, v, .dict es, e, ⟨a, xs, h1, h2, hb, hn, h3⟩ => ⟨a, xs, h1, e _ _ h2, hb, hn, pd_imp h3 fun _ _ _ _ q => ⟨q.1, Re.imp e q.2⟩⟩
theorem Re.rp {H : Hp} : ∀ {n : Nat} {v : V} {d : PyData}, Re H n v d → Rp H n v d
  | 0, _, _, h => h
  | n + 1, v, .none, h => h
  | n + 1, v, .bool _, h => h
  | n + 1, v, .int _, h => h
  | n + 1, v, .str _, h => h
  | n + 1, v, .list ds, ⟨a, xs, h1, h2, hb, h3⟩ => ⟨a, xs, h1, h2, hb, pd_imp h3 fun _ _ _ _ q => Re.rp q⟩
  | n + 1, v, .tuple ds, ⟨a, xs, h1, h2, hb, h3⟩ => ⟨a, xs, h1, h2, hb, pd_imp h3 fun _ _ _ _ q => Re.rp q⟩
  | n + 1, v, .dict es, ⟨a, xs, h1, h2, hb, hn, h3⟩ => ⟨a, xs, h1, .inl h2, hb, hn, pd_imp h3 fun _ _ _ _ q => ⟨q.1, Re.rp q.2⟩⟩
theorem Re.up1 {H : Hp} : ∀ {n : Nat} {v : V} {d : PyData}, Re H n v d → Re H (n + 1) v d
  | 0, _, _, h => h.elim
  | n + 1, v, .none, h => h
  | n + 1, v, .bool _, h => h
  | n + 1, v, .int _, h => h
  | n + 1, v, .str _, h => h
  | n + 1, v, .list ds, ⟨a, xs, h1, h2, hb, h3⟩ => ⟨a, xs, h1, h2, hb, pd_imp h3 fun _ _ _ _ q => Re.up1 q⟩
  | n + 1, v, .tuple ds, ⟨a, xs, h1, h2, hb, h3⟩ => ⟨a, xs, h1, h2, hb, pd_imp h3 fun _ _ _ _ q => Re.up1 q⟩
  | n + 1, v, .dict es, ⟨a, xs, h1, h2, hb, hn, h3⟩ => ⟨a, xs, h1, h2, hb, hn, pd_imp h3 fun _ _ _ _ q => ⟨q.1, Re.up1 q.2⟩⟩
theorem Re.up {H : Hp} {n m : Nat} {v : V} {d : PyData} (h : Re H n v d) (hl : n ≤ m) : Re H m v d := by
  induction hl with
  | refl => exact h
  | step _ ih => exact ih.up1
theorem Re.leaf {H : Hp} {n : Nat} {v : V} {d : PyData} (hd : leafD d) (h : Rp H n v d) : Re H n v d := by
  cases n with
  | zero => exact h.elim
  | succ n => cases d <;> first | exact h | exact hd.elim
/-- a part of an unlocked datum, in less of the heap -/
theorem Re.of {G H : Hp} (s : Same G H) : ∀ {n m : Nat} {v : V} {d : PyData}, Re H n v d → Rp G m v d → Re G m v d
  | 0, _, _, _, h, _ => h.elim
  | _, 0, _, _, _, h => h.elim
  | n + 1, m + 1, v, .none, h, _ => h
  | n + 1, m + 1, v, .bool _, h, _ => h
  | n + 1, m + 1, v, .int _, h, _ => h
  | n + 1, m + 1, v, .str _, h, _ => h
  | n + 1, m + 1, v, .list ds, ⟨a, xs, h1, h2, hb, h3⟩, ⟨a', xs', g1, g2, gb, g3⟩ => by
    rw [h1] at g1; cases g1
    have e := s _ _ g2
    rw [h2] at e; cases e
    exact ⟨a, xs, h1, g2, hb, pd_both h3 g3 fun _ _ q r => Re.of s q r⟩
  | n + 1, m + 1, v, .tuple ds, ⟨a, xs, h1, h2, hb, h3⟩, ⟨a', xs', g1, g2, gb, g3⟩ => by
    rw [h1] at g1; cases g1
    have e := s _ _ g2
    rw [h2] at e; cases e
    exact ⟨a, xs, h1, g2, hb, pd_both h3 g3 fun _ _ q r => Re.of s q r⟩
  | n + 1, m + 1, v, .dict es, ⟨a, xs, h1, h2, hb, hn, h3⟩, ⟨a', xs', g1, g2, gb, gn, g3⟩ => by
    rw [h1] at g1; cases g1
    rcases g2 with g2 | ⟨o, g2⟩
    · have e := s _ _ g2
      rw [h2] at e; cases e
      exact ⟨a, xs, h1, g2, hb, hn, pd_both h3 g3 fun _ _ q r => ⟨q.1, Re.of s q.2 r.2⟩⟩
    · have e := s _ _ g2
      rw [h2] at e; cases e

/-! ### rules with the given part named -/
section
variable {X : Cx} {K : PySem.W.Frag}
theorem pe_gstr {x z : Str} {t : Tok} {pos : Pos} (hg : Gl X x) (hm : X.mg x = some (.str z t)) (hd : (x == ("__debug__" : Str)) = false := by decide) : PE X (.Name x pos) (tC (.str z)) := pe_glob (v := .str z) hg hm ⟨t, rfl⟩ hd
theorem revLK {e : Expr} {te : TE} {k : Nat} {p1 p2 p3 pos : Pos} (h : X.K = K) (he : PE X e te) : PE X (.Subscript e (.Slice none none (some (.UnaryOp .USub (.Constant (.int 1) k p1) p2)) p3) pos) (tRevL K te) := by subst h; exact pe_revL he
def rJoin (K : PySem.W.Frag) : V → List V → Hp → VK → Prop := fun x xs H Q => ∃ a p, ∃ ys : List Str, x = .str a ∧ xs = [.ref p] ∧ (SqL K H p (ys.map V.str) ∨ SqT K H p (ys.map V.str)) ∧
      (ys.map (·.length)).sum + ys.length * a.length ≤ 16777216 ∧ Q (.str (Txt.join a ys)) H
theorem joinK {o e : Expr} {to te : TE} {apos pos : Pos} (h : X.K = K) (ho : PE X o to) (he : PE X e te) (hs : starEach [e] X.env = [(false, eval e X.env)] := by rfl) (hbase : attributeBase o "join" X.env (eval o X.env) = eval o X.env := by rfl) (hline : (apos.endLine == pos.line) = true := by rfl) :
    PE X (.Call (.Attribute o "join" apos) [e] [] pos) (tM1 (rJoin K) to te) := by subst h; exact pe_join ho he hs hbase hline
/-- len of a list, tuple, text or dict -/
def LenA (K : PySem.W.Frag) (x : V) (H : Hp) (n : Nat) : Prop := LenV K x H n ∨ ∃ a kvs, x = .ref a ∧ Rd H a (.dK kvs) ∧ n = kvs.length
theorem LenA.l {K : PySem.W.Frag} {H : Hp} {a : Addr} {xs : List V} (h : SqL K H a xs) : LenA K (.ref a) H xs.length := .inl (.inl ⟨xs, h, rfl⟩)
theorem LenA.d {K : PySem.W.Frag} {H : Hp} {a : Addr} {kvs : List (Key × V)} (h : Rd H a (.dK kvs)) : LenA K (.ref a) H kvs.length := .inr ⟨a, kvs, rfl, h, rfl⟩
def rLenA (K : PySem.W.Frag) : List V → Hp → VK → Prop := fun xs H Q => ∃ x n, xs = [x] ∧ LenA K x H n ∧ Q (.int (n : Nat)) H
theorem lenAK (h : X.K = K) : CallR X (.builtin "len") (rLenA K) := by
  subst h
  intro pins s σ H xs us Q I r h
  obtain ⟨x, n, rfl, e, q⟩ := h
  rcases e with e | ⟨a, kvs, rfl, e, rfl⟩
  · exact call_len pins s σ H _ us Q I r ⟨x, n, rfl, e, q⟩
  · cases r with
    | cons r rr =>
      cases rr
      cases r
      exact d_len I e fun t s' I' => ⟨.int kvs.length, H, I', ⟨t, rfl⟩, q⟩
def rTup (K : PySem.W.Frag) : List V → Hp → VK → Prop := fun xs H Q => ∃ p ys, xs = [.ref p] ∧ ((SqL K H p ys ∧ ∀ l, H l = none → Q (.ref l) (upd H l (.tup ys))) ∨ (SqT K H p ys ∧ Q (.ref p) H))
theorem tupleK (h : X.K = K) : CallR X (.type "tuple") (rTup K) := by subst h; exact call_tuple_of
end

/-! ### texts -/
theorem len_app (x y : Str) : (x ++ y).length = x.length + y.length := by
  show (x.cps ++ y.cps).size = _
  rw [Array.size_append]
  rfl
theorem int_len {i : Int} (h : -10 ^ 30 ≤ i ∧ i ≤ 10 ^ 30) : (Str.ofString (toString i)).length ≤ 40 := int30_len h
/-! ### signs of a text -/
theorem lcP_str {z : Str} {te : TE} {j : Nat} {σ : L2.St} {H1 : Hp} {Q : VK} (ys : List V) (hl : ys.length = z.length) (hz : z.length ≤ 100000)
    (step : ∀ (i : Nat) c y H' (N : VK), z.cps.toList[i]? = some c → ys[i]? = some y → Same H1 H' → (∀ H4, Same H' H4 → N y H4) → te ((wipe σ [j]).set j (some (.str ⟨#[c]⟩))) H' N)
    (done : ∀ D H', H1 D = none → Same H1 H' → H' D = some (.lst ys) → Q (.ref D) H') : LcR (Its z) (gName j) tYes te [j] σ H1 Q :=
  lcP_map walk_str (fun i x => ∃ c, z.cps[i]? = some c ∧ x = .str ⟨#[c]⟩) (fun _ _ _ _ h => h) (fun _ _ => trivial) ys hl hz (fun i x y H' N ⟨c, h1, h2⟩ hy s n => by subst h2; exact step i c y H' N (by rw [Array.getElem?_toList]; exact h1) hy s n) done
/-- [x for x in text if ..] -/
theorem lcF_str {z : Str} {tt : TT} {j : Nat} {σ : L2.St} {H1 : Hp} {Q : VK} (p : Nat → Bool) (hz : z.length ≤ 100000) (hj : j < σ.length)
    (step : ∀ c H' (N : Bool → Hp → Prop), c ∈ z.cps.toList → Same H1 H' → N (p c) H' → tt ((wipe σ [j]).set j (some (.str ⟨#[c]⟩))) H' N)
    (done : ∀ D H', H1 D = none → Same H1 H' → H' D = some (.lst (((z.cps.toList.filter p).map fun c => (⟨#[c]⟩ : Str)).map V.str)) → Q (.ref D) H') : LcR (Its z) (gName j) tt (tVar j) [j] σ H1 Q := by
  refine lc_itR walk_str (fun D i H' => Same H1 H' ∧ H' D = some (.lst ((((z.cps.toList.take i).filter p).map fun c => (⟨#[c]⟩ : Str)).map V.str))) (fun D hD => ⟨same_new hD _, by rw [upd_same]; rfl⟩) (fun _ _ _ _ _ _ => trivial) ?_ ?_
  · rintro D i x H H' hD hi ⟨s, e⟩ ⟨rfl, c, hc, rfl⟩
    have hc' : z.cps.toList[i]? = some c := by rw [Array.getElem?_toList]; exact hc
    refine ⟨wipe1, step c _ _ (List.mem_of_getElem? hc') s ?_⟩
    have ht : z.cps.toList.take (i + 1) = z.cps.toList.take i ++ [c] := by rw [List.take_succ, hc']; rfl
    split
    · rename_i hp
      refine ⟨.str ⟨#[c]⟩, ?_, _, e, ?_, same_mut s hD, ?_⟩
      · show (((σ.set j none).set j (some _)))[j]? = _
        rw [List.getElem?_set_self (by rw [List.length_set]; exact hj)]
      · rw [List.length_map, List.length_map]
        refine sz5l (Nat.lt_of_le_of_lt (List.length_filter_le _ _) ?_)
        rw [List.length_take]
        have : i < z.length := hi
        omega
      · rw [upd_same, ht, List.filter_append, List.filter_cons_of_pos hp]
        simp
    · rename_i hp
      refine ⟨s, ?_⟩
      rw [ht, List.filter_append, List.filter_cons_of_neg (by simpa using hp)]
      simpa using e
  · rintro D H' hD ⟨s, e⟩
    refine done D H' hD s ?_
    rw [List.take_of_length_le (by show z.cps.toList.length ≤ z.cps.size; simp)] at e
    exact e
theorem app_cps (x y : Str) : (x ++ y).cps.toList = x.cps.toList ++ y.cps.toList := by
  show (x.cps ++ y.cps).toList = _
  rw [Array.toList_append]
theorem str_nil {x : Str} (h : x.cps.toList = []) : x = "" := by
  obtain ⟨⟨l⟩⟩ := x
  cases h
  rfl
theorem str_one {c : Nat} (z : Nat) : (V.str ⟨#[c]⟩ = V.str ⟨#[z]⟩) ↔ c = z := by
  constructor
  · intro e; cases e; rfl
  · intro e; rw [e]
theorem emp_app (x : Str) : Str.empty ++ x = x := by
  obtain ⟨a⟩ := x
  show (⟨#[] ++ a⟩ : Str) = ⟨a⟩
  rw [Array.empty_append]
theorem of_len (x : String) : (Str.ofString x).length = x.length := PyProof.Rows.ofString_length x
theorem app_assoc (x y z : Str) : x ++ y ++ z = x ++ (y ++ z) := by
  show (⟨x.cps ++ y.cps ++ z.cps⟩ : Str) = ⟨x.cps ++ (y.cps ++ z.cps)⟩
  rw [Array.append_assoc]
theorem emp_len : Str.empty.length = 0 := rfl
theorem int_log {i : Int} (h : -10 ^ 30 ≤ i ∧ i ≤ 10 ^ 30) : i.natAbs.log2 < 1920 := Nat.lt_trans (int30_log h) (by decide)
/-! ### texts that can be laid -/
theorem ok_ofString (x : String) : PyData.strOk (Str.ofString x) = true := by
  unfold PyData.strOk
  rw [Str.ofString_eq_toList, Array.all_eq_true_iff_forall_mem]
  intro c hc
  obtain ⟨d, _, rfl⟩ := List.mem_map.mp (by simpa using hc : c ∈ x.toList.map Char.toNat)
  refine decide_eq_true ?_
  have := d.valid
  rcases this with h | ⟨_, h⟩
  · exact Nat.lt_trans h (by decide)
  · exact h
theorem ok_app {x y : Str} (hx : PyData.strOk x = true) (hy : PyData.strOk y = true) : PyData.strOk (x ++ y) = true := by
  unfold PyData.strOk at *
  show (x.cps ++ y.cps).all _ = true
  rw [Array.all_append, hx, hy]
  rfl
theorem layAll_strsK : ∀ {xs : List Str}, (∀ x ∈ xs, PyData.strOk x = true) → PyData.canLayAll0 (xs.map .str) = true
  | [], _ => rfl
  | x :: r, h => by
    show (PyData.strOk x && PyData.canLayAll0 (r.map .str)) = true
    rw [h x (by simp), layAll_strsK fun y hy => h y (by simp [hy])]
    rfl
theorem shaped_strsK {xs : List Str} (h : ∀ x ∈ xs, PyData.strOk x = true) : SeqAt.shaped (.list (xs.map .str)) = true := by
  have h1 := layAll_strsK h
  have h2 := depth_strs xs
  show (PyData.canLayAll0 (xs.map .str) && decide (PyData.depthAll (xs.map .str) + 1 ≤ 64)) = true
  rw [h1, h2]
  rfl
theorem app_emp (x : Str) : x ++ Str.ofString "" = x := by
  obtain ⟨a⟩ := x
  show (⟨a ++ (Str.ofString "").cps⟩ : Str) = ⟨a⟩
  rw [show (Str.ofString "").cps = #[] by decide +kernel, Array.append_empty]
theorem join_foldl : ∀ (ys : List Str) (a : Str), a ++ Txt.join (Str.ofString "") ys = ys.foldl (· ++ ·) a := by
  intro ys
  rw [TL.join_eq]
  induction ys with
  | nil => intro a; exact app_emp a
  | cons x r ih =>
    intro a
    cases r with
    | nil => rfl
    | cons y r =>
      show a ++ (x ++ Str.ofString "" ++ Str.join (Str.ofString "") (y :: r)) = _
      rw [app_emp, ← app_assoc, ih]
      rfl
theorem sum_len {A : Type} (f : A → Nat) (b : Nat) : ∀ xs : List A, (∀ x ∈ xs, f x ≤ b) → (xs.map f).sum ≤ b * xs.length
  | [], _ => by simp
  | x :: r, h => by
    have h1 := h x (by simp)
    have h2 := sum_len f b r fun y hy => h y (by simp [hy])
    simp only [List.map_cons, List.sum_cons, List.length_cons, Nat.mul_succ]
    omega
theorem ix_last {n : Nat} : ixN (n + 1) (-1) = some n := by
  unfold ixN
  simp
  try omega
theorem nd_rev {A : Type} {l : List A} (h : l.Nodup) : l.reverse.Nodup := (List.reverse_perm l).nodup_iff.mpr h
theorem dget_nd : ∀ {fs : List (PyData × PyData)} {e : PyData × PyData}, (keysD fs).Nodup → e ∈ fs → dget fs (strD e.1) = some e.2
  | [], _, _, h => by cases h
  | q :: r, e, hn, h => by
    have hn' : strD q.1 ∉ keysD r ∧ (keysD r).Nodup := List.nodup_cons.mp hn
    rcases List.mem_cons.mp h with rfl | h
    · simp [dget]
    · have hne : ¬ strD q.1 = strD e.1 := fun z => hn'.1 (by rw [z]; exact List.mem_map.mpr ⟨e, h, rfl⟩)
      have := dget_nd hn'.2 h
      unfold dget at this ⊢
      rw [List.find?_cons_of_neg (by simpa using hne)]
      exact this
theorem pd_take {A B : Type} {F : A → B → Prop} {xs : List A} {ys : List B} (h : Paired F xs ys) : ∀ j : Nat, Paired F (xs.take j) (ys.take j) := by
  induction h with
  | nil => intro j; simp only [List.take_nil]; exact .nil
  | cons h1 _ ih => intro j; cases j with
    | zero => exact .nil
    | succ j => exact .cons h1 (ih j)
theorem pd_drop {A B : Type} {F : A → B → Prop} {xs : List A} {ys : List B} (h : Paired F xs ys) : ∀ j : Nat, Paired F (xs.drop j) (ys.drop j) := by
  induction h with
  | nil => intro j; simp only [List.drop_nil]; exact .nil
  | cons h1 h2 ih => intro j; cases j with
    | zero => exact .cons h1 h2
    | succ j => exact ih j
theorem cut_take (xs : List V) (j : Nat) (h : j ≤ xs.length) : cutV xs none (some (j : Int)) = xs.take j := by
  unfold cutV
  rw [HT.sIx_none, HT.sIx_nat]
  simp [Nat.min_eq_left h]
theorem cut_drop (xs : List V) (j : Nat) (h : j ≤ xs.length) : cutV xs (some (j : Int)) none = xs.drop j := by
  unfold cutV
  rw [HT.sIx_none, HT.sIx_nat, Nat.min_eq_left h]
  exact List.take_of_length_le (by simp)
theorem cntAll_split : ∀ {ds : List PyData} {j : Nat} {d : PyData}, ds[j]? = some d → cntAll ds = cntAll (ds.take j) + cnt d + cntAll (ds.drop (j + 1))
  | [], _, _, h => by simp at h
  | e :: r, 0, d, h => by
    simp at h; subst h
    simp [cntAll]
  | e :: r, j + 1, d, h => by
    have := cntAll_split (ds := r) (j := j) (d := d) (by simpa using h)
    simp only [List.take_succ_cons, List.drop_succ_cons, cntAll]
    omega
/-! ### bools -/
theorem Dp_bls {K : PySem.W.Frag} {H : Hp} {a : Addr} {xs : List Bool} (h : H a = some (.lst (xs.map V.bl))) : Dp K H (.ref a) (.list (xs.map .bool)) := by
  refine .lst (SqL.of h) ?_
  have : ∀ l : List Bool, DpAll K H (l.map V.bl) (l.map PyData.bool) := by
    intro l
    induction l with
    | nil => exact .nil
    | cons y q ih2 => exact .cons (.bl y) ih2
  exact this _
theorem Rp_bls {H : Hp} {a : Addr} {xs : List Bool} (h : H a = some (.lst (xs.map V.bl))) (hl : xs.length ≤ 10000) : Rp H 2 (.ref a) (.list (xs.map .bool)) := by
  refine ⟨a, _, rfl, h, by simpa using hl, ?_⟩
  clear h
  induction xs with
  | nil => exact .nil
  | cons x r ih => exact .cons rfl (ih (by simp at hl; omega))
theorem doc_bls (xs : List Bool) (hl : xs.length ≤ 10) : docD 2 (.list (xs.map .bool)) := ⟨by simpa using hl, fun d hd => by
  obtain ⟨b, _, rfl⟩ := List.mem_map.mp hd
  trivial⟩
theorem cnt_bls : ∀ xs : List Bool, cntAll (xs.map .bool) = xs.length
  | [] => rfl
  | x :: r => by simp only [List.map_cons, cntAll, cnt, List.length_cons]; rw [cnt_bls r]; omega
/-- repr of a list of bools -/
theorem repr_bls {H : Hp} {a : Addr} {xs : List Bool} {Q : VK} (h : H a = some (.lst (xs.map V.bl))) (hl : xs.length ≤ 10) (q : Q (.str (PyData.shown (.list (xs.map .bool)))) H) : rRepr [.ref a] H Q :=
  repr1 (Rp_bls h (by omega)) (by omega) (doc_bls xs hl).fine (by simp only [cnt]; rw [cnt_bls]; omega) q
theorem sameN_up : ∀ {n m : Nat} {d e : PyData}, docD n d → docD m e → n ≤ m → ∀ k, sameN (n + k) d e = sameN n d e
  | 0, _, _, _, h, _, _, _ => h.elim
  | n + 1, m + 1, .list ds, .list es, h, g, hl, k => by
    rw [show n + 1 + k = (n + k) + 1 by omega]
    simp only [sameN]
    congr 2
    apply List.ext_getElem?
    intro i
    rw [List.getElem?_zipWith, List.getElem?_zipWith]
    cases h1 : ds[i]? <;> cases h2 : es[i]? <;> simp
    exact sameN_up (h.2 _ (List.mem_of_getElem? h1)) (g.2 _ (List.mem_of_getElem? h2)) (by omega) k
  | n + 1, m + 1, .dict ds, .dict es, h, g, hl, k => by
    rw [show n + 1 + k = (n + k) + 1 by omega]
    simp only [sameN]
    congr 2
    apply List.map_congr_left
    intro e he
    cases h2 : dget es (strD e.1) with
    | none => rfl
    | some d2 =>
      obtain ⟨e2, he2, rfl, _⟩ := dget_mem h2
      exact sameN_up (h.2 e he).2 (g.2 e2 he2).2 (by omega) k
  | n + 1, 0, _, _, _, _, hl, _ => by omega
  | n + 1, m + 1, .none, e, _, _, _, k => by rw [show n + 1 + k = (n + k) + 1 by omega]; cases e <;> rfl
  | n + 1, m + 1, .bool _, e, _, _, _, k => by rw [show n + 1 + k = (n + k) + 1 by omega]; cases e <;> rfl
  | n + 1, m + 1, .int _, e, _, _, _, k => by rw [show n + 1 + k = (n + k) + 1 by omega]; cases e <;> rfl
  | n + 1, m + 1, .str _, e, _, _, _, k => by rw [show n + 1 + k = (n + k) + 1 by omega]; cases e <;> rfl
  | n + 1, m + 1, .tuple _, _, h, _, _, _ => h.elim
  | n + 1, m + 1, .list _, .none, _, _, _, k => by rw [show n + 1 + k = (n + k) + 1 by omega]; rfl
  | n + 1, m + 1, .list _, .bool _, _, _, _, k => by rw [show n + 1 + k = (n + k) + 1 by omega]; rfl
  | n + 1, m + 1, .list _, .int _, _, _, _, k => by rw [show n + 1 + k = (n + k) + 1 by omega]; rfl
  | n + 1, m + 1, .list _, .str _, _, _, _, k => by rw [show n + 1 + k = (n + k) + 1 by omega]; rfl
  | n + 1, m + 1, .list _, .tuple _, _, _, _, k => by rw [show n + 1 + k = (n + k) + 1 by omega]; rfl
  | n + 1, m + 1, .list _, .dict _, _, _, _, k => by rw [show n + 1 + k = (n + k) + 1 by omega]; rfl
  | n + 1, m + 1, .dict _, .none, _, _, _, k => by rw [show n + 1 + k = (n + k) + 1 by omega]; rfl
  | n + 1, m + 1, .dict _, .bool _, _, _, _, k => by rw [show n + 1 + k = (n + k) + 1 by omega]; rfl
  | n + 1, m + 1, .dict _, .int _, _, _, _, k => by rw [show n + 1 + k = (n + k) + 1 by omega]; rfl
  | n + 1, m + 1, .dict _, .str _, _, _, _, k => by rw [show n + 1 + k = (n + k) + 1 by omega]; rfl
  | n + 1, m + 1, .dict _, .tuple _, _, _, _, k => by rw [show n + 1 + k = (n + k) + 1 by omega]; rfl
  | n + 1, m + 1, .dict _, .list _, _, _, _, k => by rw [show n + 1 + k = (n + k) + 1 by omega]; rfl
end SC

set_option Elab.async false
set_option linter.all false
set_option maxRecDepth 100000
set_option maxHeartbeats 4000000
/-! Schemacheck: for i, k in enumerate(d), d a dict. -/
namespace SC
open PySem L2 PySem.Spec PyProof.Rows
open Sem (wp)
section
variable {prog : Program} {w : World} {A : Around} {E : Value → Shared → Prop} {s : Shared}
theorem nextOf_key_item {it d : Addr} {i n ep : Nat} {od : Obj} {es : Array DictEntry} {en : DictEntry} {Q : Value → Shared → Prop} (hit : s.heap.IsKeyIter it d i n ep) (hod : s.heap.get? d = some od) (hdd : od.data = .dict es ep)
    (hsz : es.size = n) (hx : es[i]? = some en) (hQ : ∀ h', h'.IsKeyIter it d (i + 1) n ep → Heap.SameBut it s.heap h' → Q en.key { s with heap := h' }) : wpAny (model prog w) A (Builtin.SmallTypes.nextOf (.ref it)) Q E s := by
  obtain ⟨o, ho, hc, hd⟩ := id hit
  unfold Builtin.SmallTypes.nextOf
  refine wpAny_bind (wpAny_callSpecial?_slot (name := Str.ofString "__next__") hit.typeIs F.slot_dict_keyiterator_next
    (wpAny_call_entry F.slot_dict_keyiterator_next hit.typeIs F.entry_dict_keyiterator_next ?_ (F.args_dict_keyiterator_next_1 _)))
  refine wpAny_bind (wpAny_pure ?_)
  refine wpAny_bind ?_
  refine wpAny_bind ?_
  first | refine wpAny_bind (wpAny_typeNameOfWhole_keyiter hit.typeIs (wpAny_pure ?_)) | refine wpAny_bind (wpAny_typeNameOf_keyiter hit.typeIs (wpAny_pure ?_))
  refine wpAny_bind (wpAny_fieldsOf ho hd ?_)
  have hown : Builtin.Dict_items.ownsTuple "dict_keyiterator" = false := by decide
  simp only [hown, Bool.false_eq_true, if_false]
  show wpAny _ _ (if (Value.ref d == Value.none) = true then _ else _) _ _ s
  rw [if_neg (show ¬ ((Value.ref d == Value.none) = true) from Bool.false_ne_true)]
  refine wpAny_bind (wpAny_pure ?_)
  refine wpAny_bind (wpAny_dictEntries hod hdd ?_)
  rw [if_neg (by rw [hsz]; simp)]
  refine wpAny_bind (wpAny_pure ?_)
  refine wpAny_bind (wpAny_dictEpoch hod hdd ?_)
  rw [if_neg (by simp)]
  refine wpAny_pure ?_
  obtain ⟨hlt', hen⟩ := Array.getElem?_eq_some_iff.mp hx
  simp only [show ¬ ((i : Int) < 0) from by omega, if_false, Int.toNat_natCast, Array.getElem?_eq_getElem hlt']
  refine wpAny_bind ?_
  first | refine wpAny_bind (wpAny_typeNameOfWhole_keyiter hit.typeIs (wpAny_pure ?_)) | refine wpAny_bind (wpAny_typeNameOf_keyiter hit.typeIs (wpAny_pure ?_))
  refine wpAny_bind (wpAny_isOneOf_keyiter hit.typeIs ?_)
  show wpAny _ _ (setField (.ref it) 1 (rawInt ((i : Int) + 1)) >>= _) _ _ s
  refine wpAny_bind (wpAny_setField ho hd (by simp) ?_)
  have hit' : (s.heap.update it (Obj.mapFields (·.setIfInBounds 1 (rawInt ((i : Int) + 1))))).IsKeyIter it d (i + 1) n ep :=
    ⟨_, Heap.get?_update_self _ ho (Obj.isFreed_of_fields (Obj.data_mapFields hd _)), (Obj.cls_mapFields ..).trans hc, by rw [Obj.data_mapFields hd]; simp [rawInt]⟩
  refine wpAny_bind (wpAny_holding ?_)
  refine wpAny_bind (wpAny_isOneOf_keyiter (s := { s with heap := s.heap.update it (Obj.mapFields (·.setIfInBounds 1 (rawInt ((i : Int) + 1)))) }) hit'.typeIs ?_)
  show wpAny _ _ (pure es[i].key) _ _ _
  rw [hen]
  exact wpAny_pure (wpAny_pure ⟨_, rfl, wpAny_pure (hQ _ hit' (Heap.SameBut.update ..))⟩)
theorem nextOf_key_end {it d : Addr} {i n ep : Nat} {od : Obj} {es : Array DictEntry} {Q : Value → Shared → Prop} (hh : A.handled = none) (hit : s.heap.IsKeyIter it d i n ep) (hod : s.heap.get? d = some od) (hdd : od.data = .dict es ep)
    (hsz : es.size = n) (hge : n ≤ i) (hE : ∀ h' e, Heap.ExtBut it s.heap h' → (∃ o, h'.get? e = some o ∧ o.cls = .type "StopIteration") → E (.ref e) { s with heap := h' }) : wpAny (model prog w) A (Builtin.SmallTypes.nextOf (.ref it)) Q E s := by
  obtain ⟨o, ho, hc, hd⟩ := id hit
  unfold Builtin.SmallTypes.nextOf
  refine wpAny_bind (wpAny_callSpecial?_slot (name := Str.ofString "__next__") hit.typeIs F.slot_dict_keyiterator_next
    (wpAny_call_entry F.slot_dict_keyiterator_next hit.typeIs F.entry_dict_keyiterator_next ?_ (F.args_dict_keyiterator_next_1 _)))
  refine wpAny_bind (wpAny_pure ?_)
  refine wpAny_bind ?_
  refine wpAny_bind ?_
  first | refine wpAny_bind (wpAny_typeNameOfWhole_keyiter hit.typeIs (wpAny_pure ?_)) | refine wpAny_bind (wpAny_typeNameOf_keyiter hit.typeIs (wpAny_pure ?_))
  refine wpAny_bind (wpAny_fieldsOf ho hd ?_)
  have hown : Builtin.Dict_items.ownsTuple "dict_keyiterator" = false := by decide
  simp only [hown, Bool.false_eq_true, if_false]
  show wpAny _ _ (if (Value.ref d == Value.none) = true then _ else _) _ _ s
  rw [if_neg (show ¬ ((Value.ref d == Value.none) = true) from Bool.false_ne_true)]
  refine wpAny_bind (wpAny_pure ?_)
  refine wpAny_bind (wpAny_dictEntries hod hdd ?_)
  rw [if_neg (by rw [hsz]; simp)]
  refine wpAny_bind (wpAny_pure ?_)
  refine wpAny_bind (wpAny_dictEpoch hod hdd ?_)
  rw [if_neg (by simp)]
  refine wpAny_pure ?_
  have hge' : es.size ≤ i := by rw [hsz]; exact hge
  simp only [show ¬ ((i : Int) < 0) from by omega, if_false, Int.toNat_natCast, Array.getElem?_eq_none hge']
  refine wpAny_bind ?_
  first | refine wpAny_bind (wpAny_typeNameOfWhole_keyiter hit.typeIs (wpAny_pure ?_)) | refine wpAny_bind (wpAny_typeNameOf_keyiter hit.typeIs (wpAny_pure ?_))
  show wpAny _ _ (setField (.ref it) 0 .none >>= _) _ _ s
  refine wpAny_bind (wpAny_setField ho hd (by simp) ?_)
  show wpAny _ _ (newExc (.type "StopIteration") [] >>= _) _ _ _
  refine wpAny_bind ?_
  simp only [newExc, newTuple]
  refine wpAny_bind (wpAny_newObj_type ?_ (by size_fits))
  refine wpAny_bind (m := firstArgMember _ _) (wpAny_of_eq (a := Value.none) (by first | rfl | (simp only [firstArgMember]; rfl)) ?_)
  refine wpAny_newObj_type ?_ (by size_fits)
  simp only [raiseNew]
  refine wpAny_bind (wpAny_handled ?_)
  first | rw [show A.in1.handled = none from hh] | rw [hh]
  refine wpAny_bind (wpAny_pure (wpAny_throw ?_))
  exact hE _ _ (((Heap.SameBut.update ..).extBut.push _).push _) ⟨_, Heap.get?_push_size _ rfl, rfl⟩
end
/-- what a dict's key iterator draws -/
theorem draws_keys {prog : Program} {w : World} {A : Around} (hh : A.handled = none) (it d : Addr) (hne : d ≠ it) (o : Obj) (es : Array DictEntry) (ep : Nat) (hdt : o.data = .dict es ep) :
    Draws prog w A it [it, d] es.size (fun i v => ∃ en, es[i]? = some en ∧ en.key = v) (fun i h => h.IsKeyIter it d i es.size ep ∧ h.get? d = some o) where
  live := fun _ _ st => let ⟨o, ho, _⟩ := st.1; ⟨o, ho⟩
  frame := fun _ _ _ st hk => ⟨st.1.at fun o e => hk it (by simp) o e, hk d (by simp) o st.2⟩
  item := fun i s Q E hi st hQ => by
    refine nextOf_key_item (en := es[i]) st.1 st.2 hdt rfl (by simp [hi]) fun h' hit' hs' => ?_
    exact hQ _ h' s.toks ⟨_, by simp [hi], rfl⟩ ⟨hit', hs'.extBut _ _ hne st.2⟩ hs'
  done := fun s Q E st hE => nextOf_key_end hh st.1 st.2 hdt rfl (Nat.le_refl _) hE
theorem begins_keys (d : Addr) (o : Obj) (es : Array DictEntry) (ep : Nat) (hd : (d == sysModules) = false) (hx : o.ExactDict) (hdt : o.data = .dict es ep) :
    Begins (.ref d) { cls := .type "dict_keyiterator", data := .fields #[.ref d, .int 0 0, .int es.size 0, .int ep 0] } fun h => h.get? d = some o where
  iter := fun prog w A E s Q hl h => iter_keys hd hl hx hdt h
  keeps := fun h h' x hk => hk d o x
  free := rfl
set_option maxHeartbeats 1000000 in
theorem meets_enumerate_new1 {v : Value} {o : Obj} {H : Heap → Prop} (B : Begins v o H) :
    Meets (Builtin.«enumerate.__new__» ⟨[.type "enumerate", v], []⟩) (fun _ R s => H s.heap ∧
      R (.ok (.ret (.ref (s.heap.push o).objs.size))) { s with heap := (s.heap.push o).push { cls := .type "enumerate", data := .fields #[.none, .bool false, .ref s.heap.objs.size, rawInt 0, .none, .none] } }) :=
  .of_wp fun prog w A R s h => by
    obtain ⟨hp, g, d, tk, os⟩ := s; obtain ⟨h1, h⟩ := h
    have hsub := sub_enumerate
    have q1 : ∀ {A' : Around} {E : Value → Shared → Prop} {Q : Value → Shared → Prop}, Q (.ref hp.objs.size) ⟨hp.push o, g, d, tk, os⟩ → wpAny (model prog w) A' (pyIter v) Q E ⟨hp, g, d, tk, os⟩ :=
      fun q => B.iter prog w _ _ ⟨hp, g, d, tk, os⟩ _ h1 q
    wp_walk using q1
    refine wpAny_stack_any fun st => wpAny_pure ?_
    split
    · rename_i c _ _ _ _ _
      cases (c == Value.type "enumerate")
      · wp_walk using q1
        exact ⟨_, rfl, h⟩
      · wp_walk using q1
        exact ⟨_, rfl, h⟩
    · wp_walk using q1
      exact ⟨_, rfl, h⟩
section
variable {prog : Program} {w : World} {A : Around} {E : Value → Shared → Prop} {s : Shared}
theorem enum_begins1 {v : Value} {o : Obj} {H : Heap → Prop} {Q : Value → Shared → Prop} (B : Begins v o H) (h1 : H s.heap)
    (h : ∀ h', IsEnum h' (s.heap.objs.size + 1) s.heap.objs.size 0 .none → h'.get? s.heap.objs.size = some o → h'.objs.size = s.heap.objs.size + 2 →
      (∀ b o, s.heap.get? b = some o → h'.get? b = some o) → Q (.ref (s.heap.objs.size + 1)) { s with heap := h' }) :
    wpAny (model prog w) A (call (.type "enumerate") [v]) Q E s := by
  refine callType_new F.called_enumerate (by decide) (F.typeCall_enumerate_1 _) (F.newCall_enumerate_1 _) (fun obj => F.args_object_init_2 obj _) F.entry_enumerate_new
    (meets_enumerate_new1 B) ⟨h1, ?_⟩
  have hz : (s.heap.push o).objs.size = s.heap.objs.size + 1 := Heap.size_push ..
  show _ ∧ _
  rw [hz]
  have he : IsEnum ((s.heap.push o).push { cls := .type "enumerate", data := .fields #[.none, .bool false, .ref s.heap.objs.size, rawInt 0, .none, .none] }) (s.heap.objs.size + 1) s.heap.objs.size 0 .none := by
    have := Heap.get?_push_size (s.heap.push o) (o := { cls := .type "enumerate", data := .fields #[.none, .bool false, .ref s.heap.objs.size, rawInt 0, .none, .none] }) rfl
    rw [hz] at this; exact this
  refine ⟨⟨_, he, rfl⟩, h _ he (Heap.get?_push_of_some _ (Heap.get?_push_size _ B.free)) (by rw [Heap.size_push, hz]) fun b o x => Heap.get?_push_of_some _ (Heap.get?_push_of_some _ x)⟩
end
theorem next_enumK_end {prog : Program} {w : World} {A : Around} {E : Value → Shared → Prop} {s : Shared} {e it d : Addr} {i n ep : Nat} {c : Int} {old : Value} {od : Obj} {es : Array DictEntry} {Q : Option Value → Shared → Prop} (hh : A.in1.handled = none)
    (he : IsEnum s.heap e it c old) (hit : s.heap.IsKeyIter it d i n ep) (hod : s.heap.get? d = some od) (hdd : od.data = .dict es ep) (hsz : es.size = n) (hge : n ≤ i)
    (hQ : ∀ h', Heap.ExtBut it s.heap h' → Q none { s with heap := h' }) : wpAny (model prog w) A (pyNext (.ref e)) Q E s := by
  have hT : s.TypeIs (.ref e) "enumerate" := ⟨_, he, rfl⟩
  unfold pyNext
  refine wpAny_bind (wpAny_attempt (wpAny_callSpecial?_slot (name := Str.ofString "__next__") hT F.slot_enumerate_next
    (wpAny_call_entry F.slot_enumerate_next hT F.entry_enumerate_next ?_ (F.args_enumerate_next_1 _))))
  show wpAny _ _ (field (.ref e) 2 >>= _) _ _ _
  refine wpAny_bind (wpAny_field he rfl (x := .ref it) rfl ?_)
  refine wpAny_bind (nextOf_key_end hh hit hod hdd hsz hge fun h' x he' hx' => ?_)
  obtain ⟨o, ho, hc⟩ := hx'
  refine wpAny_bind (wpAny_isInstance (T := "StopIteration") (b := true) ⟨o, ho, hc⟩ isSubtype_stop ?_)
  exact wpAny_pure (hQ _ he')
/-- the keys of the locked dict at d, each in a new pair -/
def Itke (d : Addr) (o : Obj) (kvs : List (Key × V)) : It :=
  ⟨fun i H => H d = some (.frz o (.dK kvs)) ∧ i < kvs.length, fun i H v H' => ∃ T k x, kvs[i]? = some (k, x) ∧ v = .ref T ∧ H T = none ∧ H' = upd H T (.tup [.int (i : Nat), kV k]), fun i H => H d = some (.frz o (.dK kvs)) ∧ kvs.length ≤ i⟩
theorem turn_enumK {P : Program} {w : World} {K : PySem.W.Frag} {elts : List Expr} {kk : Nat} {tpos : Pos} {d : Addr} {o : Obj} {es : Array DictEntry} {ep : Nat} {kvs : List (Key × V)} (e it : Addr) (hod : o.data = .dict es ep) (hsz : es.size = kvs.length) (hde : d ≠ e) (hdi : d ≠ it) :
    Turn P w K (.Tuple elts kk tpos) (Itke d o kvs) [e, it] e (fun i h => (∃ old, IsEnum h e it ((i : Nat) : Int) old) ∧ h.IsKeyIter it d i es.size ep ∧ e ≠ it) where
  mem := by simp
  obj := fun i h st b hb => by
    obtain ⟨⟨old, he⟩, ⟨o, ho, hc, hd⟩, _⟩ := st
    have e' : b = e ∨ b = it := by simpa using hb
    rcases e' with z | z
    · rw [z]; exact ⟨_, he, fun v q => nomatch q⟩
    · rw [z]; exact ⟨o, ho, fun v q => by rw [hd] at q; cases q⟩
  keep := fun i h h' st k => let ⟨⟨old, he⟩, hi, hne⟩ := st; ⟨⟨old, k e (by simp) _ he⟩, hi.at fun o q => k it (by simp) o q, hne⟩
  item := by
    intro X hP hw hK hc i pins s σ H E I hf st hg
    subst hP hw hK
    obtain ⟨⟨old, he⟩, hit, hne⟩ := st
    obtain ⟨hd, hi⟩ := hg
    obtain ⟨hs, hgd, hx, es', ep', vs, hdt, hsz', kv, hm⟩ := I.frzK hd
    obtain ⟨rfl, rfl⟩ := dict_ep hod hdt
    obtain ⟨⟨k, v⟩, hkv⟩ : ∃ p, kvs[i]? = some p := ⟨kvs[i], List.getElem?_eq_getElem hi⟩
    obtain ⟨u, hu, ru⟩ := kv_get kv hkv
    obtain ⟨od, es2, hod2, hcd, hdd, hk2, hp2, hn2⟩ := id hm
    have e3 : od = o := by rw [hgd] at hod2; exact (Option.some.inj hod2).symm
    subst e3
    obtain ⟨rfl, _⟩ := dict_ep hdt hdd
    have hel : e < s.heap.objs.size := Heap.lt_size he
    have hil : it < s.heap.objs.size := by obtain ⟨_, q, _⟩ := hit; exact Heap.lt_size q
    have hh : X.A.in1.handled = none := I.ok.hd hc
    refine wpAny_pyNext_enum_itemD (draws_keys hh it d hdi od es2 ep' hdt) he ⟨hit, hgd⟩ (by omega) hne (by simp [hne, hde.symm]) fun x h' tk ⟨en, hen, hkx⟩ ho st' hT hsz2 hk => ?_
    refine ⟨_, rfl, wpAny_letOwnedTupleGo_enum (s := { s with heap := h', toks := tk + 1 }) ho fun h'' he' sb => ?_⟩
    have hkey : keyIs k x = true := by rw [← hkx]; exact (hp2.get? (e := en) (by simpa using hen) hu).1
    have hT2 : h''.get? s.heap.objs.size = some { cls := .type "tuple", data := .seq #[.int i tk, x] } := (sb.2 _ (Nat.ne_of_gt hel)).trans hT
    have new : ObjOk X.prog X.w (upd H s.heap.objs.size (.tup [.int (i : Nat), kV k])) h'' s.heap.objs.size (.tup [.int (i : Nat), kV k]) :=
      ⟨by show 2 ≤ sizeLine; decide, [.int i tk, x], .cons ⟨_, rfl⟩ (.cons (relV_key hkey) .nil), ⟨_, hT2, rfl, _, rfl⟩⟩
    have I1 : Inv X pins σ (upd H s.heap.objs.size (.tup [.int (i : Nat), kV k])) { s with heap := h'', toks := tk + 1 } :=
      I.turnedNew (ch := [e, it]) (fun b ob hb q => (sb.2 b (fun z => hb (by simp [z]))).trans (hk b ob (fun z => hb (by simp [z])) (fun z => hb (by simp [z])) q)) hf (Nat.le_refl _) new
    refine ⟨.ref s.heap.objs.size, _, I1, rfl, ⟨_, k, v, hkv, rfl, I.hok.fresh (Nat.le_refl _), rfl⟩, ⟨⟨x, ?_⟩, st'.1.at fun o q => (sb.2 it (Ne.symm hne)).trans q, hne⟩, fun b hb => ?_⟩
    · have e1 : ((i + 1 : Nat) : Int) = (i : Int) + 1 := by omega
      rw [e1]; exact he'
    · have hb' : b < s.heap.objs.size := by
        have e' : b = e ∨ b = it := by simpa using hb
        rcases e' with z | z
        · rw [z]; exact hel
        · rw [z]; exact hil
      rw [upd_ne (Nat.ne_of_lt hb')]
      exact (hf b hb).1
  done := by
    intro X hP hw hK hc i pins s σ H E I hf st hg
    subst hP hw hK
    obtain ⟨⟨old, he⟩, hit, hne⟩ := st
    obtain ⟨hd, hi⟩ := hg
    obtain ⟨hs, hgd, hx, es', ep', vs, hdt, hsz', kv, hm⟩ := I.frzK hd
    obtain ⟨rfl, rfl⟩ := dict_ep hod hdt
    obtain ⟨f0, f1, f2, f3, f4, f5⟩ := hf it (by simp)
    have hh : X.A.in1.handled = none := I.ok.hd hc
    exact next_enumK_end hh he hit hgd hdt rfl (by omega) fun h' eb => ⟨rfl, I.turned (t' := s.toks) (fun b o hb q => eb b o hb q) f0 f1 f3 f4 f5⟩
  self := fun A i s Q E st h => let ⟨⟨_, he⟩, _⟩ := st; wpAny_pyIter_enum he h
def iEnumK (ta : TA) : TI := fun σ H R => ta σ H fun vs H1 => ∃ d o kvs, vs = [.ref d] ∧ H1 d = some (.frz o (.dK kvs)) ∧ R (Itke d o kvs) H1
theorem pi_enumK {X : Cx} {e : Expr} {ta : TA} {p pos tpos : Pos} {elts : List Expr} {kk : Nat} (hg : Gl X "enumerate") (hm : X.mg "enumerate" = none) (ha : PA X [e] ta) (hs : starEach [e] X.env = [(false, eval e X.env)] := by rfl) :
    PI X (.Tuple elts kk tpos) (.Call (.Name "enumerate" p) [e] [] pos) (iEnumK ta) := by
  refine ⟨fun pins s σ H R I h => ?_⟩
  refine Call_ (ld_blt I hg hm boot_enumerate (PyProof.Rows.callWith_type1 (thn (ha.run pos pins s σ H _ I h) fun us s1 ⟨vs, H1, I1, r1, q1⟩ => ?_) hs rfl))
  obtain ⟨d, o, kvs, ex, hd, q⟩ := q1
  subst ex
  cases r1 with
  | cons r rr =>
    cases rr
    cases r
    obtain ⟨hs', hgd, hx, es, ep, vs, hdt, hsz, kv, hm'⟩ := I1.frzK hd
    refine enum_begins1 (begins_keys d o es ep hs' hx hdt) hgd fun h' he hit hsz2 hk => wpAny_pyIter_enum he ?_
    have I2 : Inv X pins σ H1 { s1 with heap := h' } := I1.kept (t' := s1.toks) hk
    have hdl : d < s1.heap.objs.size := Heap.lt_size hgd
    refine ⟨s1.heap.objs.size + 1, [s1.heap.objs.size + 1, s1.heap.objs.size], _, _, H1, rfl, I2, turn_enumK (s1.heap.objs.size + 1) s1.heap.objs.size hdt hsz (Nat.ne_of_lt (Nat.lt_succ_of_lt hdl)) (Nat.ne_of_lt hdl), ⟨⟨.none, he⟩, ⟨_, hit, rfl, rfl⟩, Nat.succ_ne_self _⟩, fun b hb => ?_, q⟩
    have e' : b = s1.heap.objs.size + 1 ∨ b = s1.heap.objs.size := by simpa using hb
    have hle : s1.heap.objs.size ≤ b := by
      rcases e' with z | z
      · rw [z]; exact Nat.le_add_right _ _
      · rw [z]; exact Nat.le_refl _
    exact I1.fpOk hle (I1.hok.fresh hle)
theorem walk_enumK {d : Addr} {o : Obj} {kvs : List (Key × V)} : Walk (Itke d o kvs) kvs.length (fun H => H d = some (.frz o (.dK kvs))) (YPair (fun i => some (.int (i : Nat))) (fun i => kvs[i]?.map fun kv => kV kv.1)) := by
  refine ⟨fun _ _ hi q => ⟨q, hi⟩, fun _ q => ⟨q, Nat.le_refl _⟩, fun i H x H' _ _ y => ?_⟩
  obtain ⟨T, k, v, h1, h2, h3, h4⟩ := y
  exact ⟨T, .int (i : Nat), kV k, h2, h3, h4, rfl, by simp [h1]⟩
end SC

set_option Elab.async false
set_option linter.all false
set_option maxRecDepth 100000
set_option maxHeartbeats 4000000
/-! Schemacheck: list(enumerate(xs)). -/
namespace SC
open PySem L2 PySem.Spec PyProof.Rows
open Sem (wp)
theorem enum_no_len : typeLookup (.type "enumerate") "__len__" = pure none := by rw [typeLookup_type, builtinLookup_eq_fast]; kernel_rfl
theorem enum_no_hint : typeLookup (.type "enumerate") "__length_hint__" = pure none := by rw [typeLookup_type, builtinLookup_eq_fast]; kernel_rfl
/-- an enumerate at its i-th turn, whose pairs are kept -/
structure EnSt (e it l S : Addr) (i : Nat) (h : Heap) : Prop where
  li : h.IsListIter it l i
  ne : e ≠ it
  st : (∃ old, IsEnum h e it ((i : Nat) : Int) old) ∨ ∃ old T f oT, IsEnumHeld h e it ((i : Nat) : Int) old T f ∧ h.get? T = some oT ∧ T ≠ e ∧ T ≠ it ∧ T ≠ S
/-- the pairs so far -/
def EnRows (H1 H : Hp) (S : Addr) (xs : List V) (ts : List Addr) : Prop := Keep [S] H1 H ∧ H S = some (.lst (ts.map V.ref)) ∧ ∀ (j : Nat) (T : Addr), ts[j]? = some T → ∃ x, xs[j]? = some x ∧ H T = some (.tup [.int (j : Nat), x]) ∧ H1 T = none
theorem sql_ne {K : PySem.W.Frag} {H : Hp} {l S : Addr} {o : HO} {xs : List V} (h : SqL K H l xs) (hn : l ≠ S) : SqL K (upd H S o) l xs := by
  rcases h with (h | ⟨u, h⟩) | h
  · exact .inl (.inl (by rw [upd_ne hn]; exact h))
  · exact .inl (.inr ⟨u, by rw [upd_ne hn]; exact h⟩)
  · exact .inr h
theorem sql_new {K : PySem.W.Frag} {H : Hp} {l S : Addr} {o : HO} {xs : List V} (h : SqL K H l xs) (hn : H S = none) : SqL K (upd H S o) l xs := (same_new hn o).seq h
theorem lst_there {X : Cx} {pins : List (Addr × Obj)} {σ : L2.St} {H : Hp} {s : Shared} {S : Addr} {xs : List V} (I : Inv X pins σ H s) (h : H S = some (.lst xs)) : s.heap.get? S = some (lstObj ((I.hok S _ h).2.choose).toArray ((I.hok S _ h).2.choose_spec.choose)) := (I.hok S _ h).2.choose_spec.choose_spec.2
section
variable {X : Cx} {pins : List (Addr × Obj)} {σ : L2.St} {A : Around} {R : Result → Shared → Prop} {res : Value} {e it l S : Addr} {xs : List V} {H1 : Hp}
theorem enum_loop (hh : A.in1.handled = none) (hel : l ≠ e) (hil : l ≠ it) (hSe : S ≠ e) (hSi : S ≠ it) (hlS : l ≠ S) (hsz : xs.length < sizeLine) (hl1 : SqL X.K H1 l xs) (hS1 : H1 S = some (.lst []))
    (hend : ∀ s' H' ts, Inv X pins σ H' s' → EnRows H1 H' S xs ts → ts.length = xs.length → R (.ok (.ret res)) s') :
    ∀ (k i : Nat) (s : Shared) (H : Hp) (ts : List Addr), xs.length - i = k → i ≤ xs.length → Inv X pins σ H s → EnRows H1 H S xs ts → ts.length = i → SqL X.K H l xs → EnSt e it l S i s.heap → (∀ b ∈ [e, it], FpOk X pins H b) →
      codeAny (model X.prog X.w) A (.builtin "list.extend.loop" ⟨[.ref S, .ref e, res], []⟩) R s := by
  intro k
  induction k with
  | zero =>
    intro i s H ts hk hi I hrow hlen hq st hf
    have hin : i = xs.length := by omega
    refine codeAny_builtin F.entry_extend_loop ?_
    rw [Around.under_plainId F.plain_extend_loop _]
    show wpAny _ A.in1 (pyNext (.ref e) >>= _) _ _ s
    obtain ⟨its, rv, p, hz⟩ := I.list hq
    have hx : its.toArray[i]? = none := by
      have := rv.length
      simp
      omega
    have fin : ∀ h', Heap.ExtBut it s.heap h' → R (.ok (.ret res)) { s with heap := h' } := fun h' eb => by
      obtain ⟨f0, f1, f2, f3, f4, f5⟩ := hf it (by simp)
      exact hend _ H ts (I.turned (t' := s.toks) (fun b o hb q => eb b o hb q) f0 f1 f3 f4 f5) hrow (by omega)
    rcases st.st with ⟨old, he⟩ | ⟨old, T, f, oT, he, hT, r1, r2, r3⟩
    · exact wpAny_bind (wpAny_pyNext_enum_end hh he st.li p.isList hx fun h' eb => wpAny_pure (fin h' eb))
    · exact wpAny_bind (wpAny_pyNext_enum_end_held hh he st.li p.isList hx fun h' eb => wpAny_pure (fin h' eb))
  | succ k ih =>
    intro i s H ts hk hi I hrow hlen hq st hf
    have hlt : i < xs.length := by omega
    refine codeAny_builtin F.entry_extend_loop ?_
    rw [Around.under_plainId F.plain_extend_loop _]
    show wpAny _ A.in1 (pyNext (.ref e) >>= _) _ _ s
    obtain ⟨its, rv, p, hz⟩ := I.list hq
    have hx : xs[i]? = some xs[i] := List.getElem?_eq_getElem hlt
    obtain ⟨u, hu, ru⟩ := rv.get hx
    have hu' : its.toArray[i]? = some u := by simpa using hu
    have hil' : it < s.heap.objs.size := by obtain ⟨_, q, _⟩ := st.li; exact Heap.lt_size q
    -- one turn
    have go : ∀ (h' : Heap) (old : Value) (T : Addr) (f : Bool) (oT : Obj), IsEnumHeld h' e it (((i + 1 : Nat)) : Int) old T f → h'.get? T = some oT → T ≠ e → T ≠ it → T ≠ S → h'.IsListIter it l (i + 1) →
        h'.get? s.heap.objs.size = some { cls := .type "tuple", data := .seq #[.int i s.toks, u] } → (∀ b o, b ≠ e → b ≠ it → s.heap.get? b = some o → h'.get? b = some o) →
        wpAny (model X.prog X.w) A.in1 (updateSeq S (·.push (.ref s.heap.objs.size)) >>= fun _ => again (.builtin "list.extend.loop" ⟨[.ref S, .ref e, res], []⟩))
          (fun fin s' => match fin with | .done f => R (.ok f) s' | .again c' => c'.quiet = true ∧ codeAny (model X.prog X.w) A c' R s') (fun e s' => R (.error e) s') { s with heap := h', toks := s.toks + 1 } := by
      intro h' old T f oT ho hT r1 r2 r3 hit' hT2 hkp
      have hel' : e < s.heap.objs.size := by
        rcases st.st with ⟨_, he⟩ | ⟨_, _, _, _, he, _⟩ <;> exact Heap.lt_size he
      have new : ObjOk X.prog X.w (upd H s.heap.objs.size (.tup [.int (i : Nat), xs[i]])) h' s.heap.objs.size (.tup [.int (i : Nat), xs[i]]) :=
        ⟨by show 2 ≤ sizeLine; decide, [.int i s.toks, u], .cons ⟨_, rfl⟩ (.cons ru .nil), ⟨_, hT2, rfl, _, rfl⟩⟩
      have I1 : Inv X pins σ (upd H s.heap.objs.size (.tup [.int (i : Nat), xs[i]])) { s with heap := h', toks := s.toks + 1 } :=
        I.turnedNew (ch := [e, it]) (fun b ob hb q => hkp b ob (fun z => hb (by simp [z])) (fun z => hb (by simp [z])) q) hf (Nat.le_refl _) new
      have hfr : H s.heap.objs.size = none := I.hok.fresh (Nat.le_refl _)
      have hSz : S ≠ s.heap.objs.size := ne_of_none hrow.2.1 hfr
      have hS2 : upd H s.heap.objs.size (.tup [.int (i : Nat), xs[i]]) S = some (.lst (ts.map V.ref)) := by rw [upd_ne hSz]; exact hrow.2.1
      obtain ⟨hl3, acc, c, r3', hS3⟩ := I1.hok S _ hS2
      have hal : acc.length = i := by rw [← r3'.length, List.length_map, hlen]
      have hlH : SqL X.K (upd H s.heap.objs.size (.tup [.int (i : Nat), xs[i]])) l xs := sql_new hq hfr
      have hupd : ∀ b o, b ≠ S → h'.get? b = some o → (h'.update S (Obj.mapSeq (·.push (.ref s.heap.objs.size)))).get? b = some o := fun b o hb q => (Heap.get?_update_other _ _ (Ne.symm hb)).trans q
      have hself := Heap.get?_update_self (Obj.mapSeq (·.push (Value.ref s.heap.objs.size))) hS3 rfl
      have I2 : Inv X pins σ (upd (upd H s.heap.objs.size (.tup [.int (i : Nat), xs[i]])) S (.lst ((ts ++ [s.heap.objs.size]).map V.ref))) { s with heap := h'.update S (Obj.mapSeq (·.push (.ref s.heap.objs.size))), toks := s.toks + 1 } := by
        have := I1.lset (its' := acc ++ [.ref s.heap.objs.size]) hS2 hS3 (f := (·.push (.ref s.heap.objs.size))) (t' := s.toks + 1) (by simp) (ys := ts.map V.ref ++ [V.ref s.heap.objs.size]) (r3'.append (Paired.cons (show RelV (V.ref s.heap.objs.size) (Value.ref s.heap.objs.size) from rfl) .nil)) (by simp; omega)
        rw [List.map_append]
        exact this
      refine wpAny_bind (wpAny_updateSeq hS3 rfl (wpAny_pure ⟨plainId_quiet F.plain_extend_loop _, ih (i + 1) _ _ (ts ++ [s.heap.objs.size]) (by omega) hlt I2 ⟨(hrow.1.new hfr).mut (by simp), upd_same, ?_⟩ (by simp [hlen]) (sql_ne hlH hlS) ⟨hit'.at fun o q => hupd _ _ hSi.symm q, st.ne, .inr ⟨old, T, f, oT, hupd _ _ hSe.symm ho, hupd _ _ r3 hT, r1, r2, r3⟩⟩ fun b hb => ?_⟩) (by simp; omega) (by simp; omega))
      · intro j T' hj
        by_cases hji : j < ts.length
        · rw [List.getElem?_append_left hji] at hj
          obtain ⟨x, h1, h2, h3⟩ := hrow.2.2 j T' hj
          refine ⟨x, h1, ?_, h3⟩
          rw [upd_ne (ne_of h2 hrow.2.1 (by intro z; cases z)), upd_ne (ne_of_none h2 hfr)]
          exact h2
        · have hj2 : j = i := by
            have := (List.getElem?_eq_some_iff.mp hj).1
            simp at this
            omega
          subst hj2
          rw [← hlen, List.getElem?_append_right (Nat.le_refl _)] at hj
          simp at hj
          subst hj
          exact ⟨xs[j], hx, by rw [upd_ne (Ne.symm hSz), upd_same], hrow.1.free hfr (by simp [Ne.symm hSz])⟩
      · have hb2 : b < s.heap.objs.size ∧ b ≠ S := by
          have e' : b = e ∨ b = it := by simpa using hb
          rcases e' with z | z
          · rw [z]; exact ⟨hel', hSe.symm⟩
          · rw [z]; exact ⟨hil', hSi.symm⟩
        obtain ⟨f0, f1⟩ := hf b hb
        refine ⟨?_, f1⟩
        rw [upd_ne hb2.2, upd_ne (Nat.ne_of_lt hb2.1)]
        exact f0
    rcases st.st with ⟨old, he⟩ | ⟨old, T, f, oT, he, hT, r1, r2, r3⟩
    · refine wpAny_bind (wpAny_pyNext_enum_item he st.li p.isList hu' st.ne fun h' ho hit' hT hs2 hkp => ?_)
      have hel' : e < s.heap.objs.size := Heap.lt_size he
      have hSl : S < s.heap.objs.size := Heap.lt_size (lst_there I hrow.2.1)
      exact go h' _ s.heap.objs.size false _ (by rw [show ((i + 1 : Nat) : Int) = (i : Int) + 1 by omega]; exact ho) hT (Nat.ne_of_gt hel') (Nat.ne_of_gt hil') (Nat.ne_of_gt hSl) hit' hT hkp
    · refine wpAny_bind (wpAny_pyNext_enum_item_held he hT r1 r2 st.li p.isList hu' st.ne fun h' ho hit' hT' hs2 hkp => ?_)
      exact go h' old T true oT (by rw [show ((i + 1 : Nat) : Int) = (i : Int) + 1 by omega]; exact ho) (hkp _ _ r1 r2 hT) r1 r2 r3 hit' hT' hkp
end
/-- list(enumerate(xs)) -/
def tListEn (K : PySem.W.Frag) (te : TE) : TE := fun σ H Q => te σ H fun x H1 => ∃ a xs, x = .ref a ∧ SqL K H1 a xs ∧ xs.length < sizeLine ∧
  ∀ (S : Addr) (ts : List Addr) (H2 : Hp), H1 S = none → Same H1 H2 → H2 S = some (.lst (ts.map V.ref)) → ts.length = xs.length → (∀ (j : Nat) (T : Addr), ts[j]? = some T → ∃ x, xs[j]? = some x ∧ H2 T = some (.tup [.int (j : Nat), x]) ∧ H1 T = none) → Q (.ref S) H2
theorem pe_listEn {X : Cx} {e : Expr} {te : TE} {p p2 pos pos2 : Pos} {K : PySem.W.Frag} (hK : X.K = K) (hc : X.calm = true) (he : PE X e te) (hg1 : Gl X "list") (hm1 : X.mg "list" = none) (hg : Gl X "enumerate") (hm : X.mg "enumerate" = none)
    (hs1 : starEach [.Call (.Name "enumerate" p2) [e] [] pos2] X.env = (false, eval (.Call (.Name "enumerate" p2) [e] [] pos2) X.env) :: starEach [] X.env := by rfl) (hs : starEach [e] X.env = (false, eval e X.env) :: starEach [] X.env := by rfl) :
    PE X (.Call (.Name "list" p) [.Call (.Name "enumerate" p2) [e] [] pos2] [] pos) (tListEn K te) := by
  subst hK
  refine ⟨fun pins s σ H Q I h => ?_⟩
  refine wpAny_Call_Name_kw (ld_blt (u := .type "list") I hg1 hm1 (by decide +kernel) ?_)
  refine PyProof.Rows.callWith_type1 ?_ hs1 rfl
  rw [hs1]
  show wpAny _ _ (spliced ((false, eval (.Call (.Name "enumerate" p2) [e] [] pos2) X.env) :: backTo pos (starEach [] X.env))) _ _ s
  refine Calls.spliced_cons ?_
  refine wpAny_Call_Name_kw (ld_blt I hg hm boot_enumerate ?_)
  refine PyProof.Rows.callWith_type1 ?_ hs rfl
  rw [hs]
  show wpAny _ _ (spliced ((false, eval e X.env) :: backTo pos2 (starEach [] X.env))) _ _ s
  refine Calls.spliced_cons (thn (he.run pins s σ H _ I h) fun u s1 ⟨x, H1, I1, r1, q1⟩ => ?_)
  refine Calls.spliced_nil ?_
  obtain ⟨l, xs, rfl, hq, hz, q⟩ := q1
  cases r1
  obtain ⟨its, rv, p', hz'⟩ := I1.list hq
  refine call_enumerate_list p'.isList fun h2 hen hit hsz hk => ?_
  refine Calls.spliced_nil ?_
  have I2 : Inv X pins σ H1 { s1 with heap := h2 } := I1.kept (t' := s1.toks) hk
  have hll : l < s1.heap.objs.size := by obtain ⟨_, q, _⟩ := p'.isList; exact Heap.lt_size q
  have hh : X.A.handled = none := I1.ok.hd hc
  obtain ⟨z, ez⟩ : ∃ z, z = s1.heap.objs.size := ⟨_, rfl⟩
  rw [← ez] at hen hit hsz hll
  have hS0 : h2.objs.size = z + 2 := hsz
  refine callType_codes (Q₁ := fun obj s₁ => obj = .ref h2.objs.size ∧ s₁ = { s1 with heap := h2.push { cls := .type "list", data := .seq #[] } }) F.called_list (F.typeCall_list_1 _) F.entry_list_init
    (code_list_new _ ⟨rfl, rfl⟩) fun obj s₁ h₁ => ?_
  obtain ⟨rfl, rfl⟩ := h₁
  have hS : (h2.push { cls := .type "list", data := .seq #[] }).get? h2.objs.size = some { cls := .type "list", data := .seq #[] } := Heap.get?_push_size _ rfl
  refine ⟨⟨_, hS, rfl⟩, F.args_list_init_2 _ _, ?_⟩
  rw [← ez]
  show wpAny _ X.A.in1.in1 (do let old ← Builtin.List.listItems (.ref h2.objs.size); Builtin.List.listUpdate (.ref h2.objs.size) (fun _ => #[]); letGo old.toList.reverse; Builtin.List.listExtendWith (.ref h2.objs.size) (.ref (z + 1)) .none) _ _ _
  refine wpAny_bind ?_
  unfold Builtin.List.listItems
  refine wpAny_bind (wpAny_seqItems hS rfl (wpAny_pure ?_))
  show wpAny _ X.A.in1.in1 (updateSeq h2.objs.size (fun _ => #[]) >>= fun _ => letGo (#[] : Array Value).toList.reverse >>= fun _ => Builtin.List.listExtendWith (.ref h2.objs.size) (.ref (z + 1)) .none) _ _ _
  refine wpAny_bind (wpAny_updateSeq hS rfl ?_)
  have hS2 := Heap.get?_update_self (Obj.mapSeq (fun _ => (#[] : Array Value))) hS rfl
  refine wpAny_bind (wpAny_letGo ?_)
  unfold Builtin.List.listExtendWith
  have up : ∀ (h : Heap) (f : Obj → Obj), (∀ b o, h2.get? b = some o → h.get? b = some o) → ∀ b o, h2.get? b = some o → (h.update h2.objs.size f).get? b = some o := fun h f q b o e =>
    (Heap.get?_update_other _ _ (Ne.symm (Nat.ne_of_lt (Heap.lt_size e)))).trans (q b o e)
  have k1 : ∀ b o, h2.get? b = some o → (h2.push { cls := .type "list", data := .seq #[] }).get? b = some o := fun b o e => Heap.get?_push_of_some _ e
  have k2 := up _ (Obj.mapSeq (fun _ => (#[] : Array Value))) k1
  have ty : ∀ {h : Heap} {tk : Nat}, (∀ b o, h2.get? b = some o → h.get? b = some o) → ({ s1 with heap := h, toks := tk } : Shared).TypeIs (.ref (z + 1)) "enumerate" := fun {h tk} q => ⟨_, q _ _ hen, rfl⟩
  have hSa : h2.objs.size ≠ z + 1 := by rw [hS0]; exact Nat.succ_ne_self _
  refine wpAny_bind (wpAny_typeOf (ty k2) ?_)
  have h1 : Builtin.List.listSameRef (.ref h2.objs.size) (.ref (z + 1)) = false := by simp [Builtin.List.listSameRef, hSa]
  have h2' : (Value.type "enumerate" == Value.type "list") = false := by decide
  have h3 : (Value.type "enumerate" == Value.type "tuple") = false := by decide
  simp only [h1, h2', h3, Bool.or_false, Bool.false_eq_true, if_false]
  refine wpAny_bind (wpAny_pyIter_enum (k2 _ _ hen) ?_)
  refine wpAny_bind (wpAny_holding ?_)
  unfold Builtin.List.listLengthHint
  refine wpAny_bind (wpAny_specialOf (ty k2) enum_no_len ?_)
  show wpAny _ X.A.in1.in1 (specialOf (Value.ref (z + 1)) (Str.ofString "__length_hint__") >>= _) _ _ _
  refine wpAny_bind (wpAny_specialOf (ty k2) enum_no_hint ?_)
  refine wpAny_pure ?_
  show wpAny _ X.A.in1.in1 (rule "list.extend.makes-room" >>= fun _ => Builtin.List.listTouch (.ref h2.objs.size) >>= fun _ =>
    again (.builtin "list.extend.loop" ⟨[.ref h2.objs.size, .ref (z + 1), .none], []⟩)) _ _ _
  refine wpAny_bind (wpAny_rule ?_)
  refine wpAny_bind ?_
  show wpAny _ X.A.in1.in1 (updateSeq h2.objs.size (·.push .none) >>= fun _ => updateSeq h2.objs.size (·.pop)) _ _ _
  refine wpAny_bind (wpAny_updateSeq hS2 rfl ?_)
  have hS3 := Heap.get?_update_self (Obj.mapSeq (·.push Value.none)) hS2 rfl
  refine wpAny_updateSeq (hz := by seq_fits) hS3 rfl ?_
  have hS4 := Heap.get?_update_self (Obj.mapSeq (·.pop)) hS3 rfl
  have k4 := up _ (Obj.mapSeq (·.pop)) (up _ (Obj.mapSeq (·.push Value.none)) k2)
  refine wpAny_pure ⟨plainId_quiet F.plain_extend_loop _, ?_⟩
  have hn1 : H1 h2.objs.size = none := I2.hok.fresh (Nat.le_refl _)
  have I4 : Inv X pins σ (upd H1 h2.objs.size (.lst [])) { s1 with heap := _ } := I2.laid (t' := s1.toks) k4 (Nat.le_refl _) ⟨Nat.zero_le _, [], _, .nil, hS4⟩
  have hsq : SqL X.K (upd H1 h2.objs.size (.lst [])) l xs := sql_new hq hn1
  have n0 : ∀ b, z ≤ b → b < h2.objs.size → upd H1 h2.objs.size (.lst []) b = none := fun b h1 h2 => by
    rw [upd_ne (Nat.ne_of_lt h2)]
    exact I1.hok.fresh (by rw [← ez]; exact h1)
  have hzS : z < h2.objs.size := by rw [hS0]; exact Nat.lt_add_of_pos_right (by decide)
  have a1 : l ≠ z + 1 := Nat.ne_of_lt (Nat.lt_succ_of_lt hll)
  have a2 : l ≠ z := Nat.ne_of_lt hll
  have a3 : h2.objs.size ≠ z := Nat.ne_of_gt hzS
  have a4 : l ≠ h2.objs.size := Nat.ne_of_lt (Nat.lt_trans hll hzS)
  have hfp : ∀ b ∈ [z + 1, z], FpOk X pins (upd H1 h2.objs.size (.lst [])) b := fun b hb => by
    have e' : b = z + 1 ∨ b = z := by simpa using hb
    rcases e' with rfl | rfl
    · exact I1.fpOk (by rw [← ez]; exact Nat.le_succ _) (n0 _ (Nat.le_succ _) (by rw [hS0]; exact Nat.lt_succ_self _))
    · exact I1.fpOk (by rw [← ez]; exact Nat.le_refl _) (n0 _ (Nat.le_refl _) hzS)
  refine enum_loop (A := X.A.in1) (X := X) (pins := pins) (σ := σ) (H1 := upd H1 h2.objs.size (.lst [])) (l := l) (it := z) (xs := xs) hh a1 a2 hSa a3 a4 hz hsq upd_same (fun s' H' ts I' hrow hlen => ?_)
    xs.length 0 _ _ [] (Nat.sub_zero _) (Nat.zero_le _) I4 ⟨Keep.refl _ _, upd_same, by simp⟩ rfl hsq ⟨hit.at fun o q => k4 _ _ q, Nat.succ_ne_self _, .inl ⟨_, k4 _ _ hen⟩⟩ hfp
  refine ⟨rfl, .ref h2.objs.size, H', I', rfl, ?_⟩
  refine q _ ts H' hn1 (fun b o eb => hrow.1 b o (by rw [upd_ne (ne_of_none eb hn1)]; exact eb) (by simp [ne_of_none eb hn1])) hrow.2.1 hlen fun j T hj => ?_
  obtain ⟨x, b1, b2, b3⟩ := hrow.2.2 j T hj
  refine ⟨x, b1, b2, ?_⟩
  rw [upd_ne fun y => by rw [y, upd_same] at b3; cases b3] at b3
  exact b3
/-- [e for k in d], d not locked -/
theorem lcU_keys {a : Addr} {kvs : List (Key × V)} {te : TE} {i j : Nat} {σ : L2.St} {H : Hp} {Q : VK} (ha : H a = some (.dK kvs)) (hi : σ[i]? = some (some (.ref a)))
    (ys : List V) (hl : ys.length = kvs.length) (hz : kvs.length ≤ 100000)
    (step : ∀ (i : Nat) k v y H' (N : VK), kvs[i]? = some (k, v) → ys[i]? = some y → LSame H H' → Rd H' a (.dK kvs) → (∀ H4, Same H' H4 → N y H4) → te ((wipe σ [j]).set j (some (kV k))) H' N)
    (done : ∀ D H', H D = none → Same H H' → H' D = some (.lst ys) → Q (.ref D) H') : tLockE (tLc (iKeys (tVar i)) (gName j) tYes te [j]) σ H Q := by
  refine ⟨a, .dK kvs, ha, trivial, fun od => ?_⟩
  have e1 : upd H a (.frz od (.dK kvs)) a = some (.frz od (.dK kvs)) := upd_same
  have ls : LSame H (upd H a (.frz od (.dK kvs))) := fun b o e => by
    by_cases hb : b = a
    · subst hb
      rw [ha] at e
      cases e
      exact .inr ⟨kvs, od, rfl, upd_same⟩
    · exact .inl (by rw [upd_ne hb]; exact e)
  rw [tLc_eq]
  refine ⟨_, hi, a, od, rfl, .inl ⟨kvs, e1, lcP_keys e1 ys hl hz ?_ ?_⟩⟩
  · intro i k v y H' N hk hy s N'
    exact step i k v y H' N hk hy (ls.trans (.of s)) (.inr ⟨od, s _ _ e1⟩) N'
  · intro D H' nD s e
    have hDa : D ≠ a := fun z => by rw [z, upd_same] at nD; cases nD
    have nD' : H D = none := by rw [upd_ne hDa] at nD; exact nD
    exact ⟨s _ _ e1, done D _ nD' (same_lock ha s) (by rw [upd_ne hDa]; exact e)⟩
theorem ps_never {X : Cx} {st : Stmt} : PS X st (fun _ _ _ => False) := ⟨fun _ _ _ _ _ _ h => h.elim⟩
theorem pe_gint {X : Cx} {x : Str} {z : Int} {t : Tok} {pos : Pos} (hg : Gl X x) (hm : X.mg x = some (.int z t)) (hd : (x == ("__debug__" : Str)) = false := by decide) : PE X (.Name x pos) (tC (.int z)) := pe_glob (v := .int z) hg hm ⟨t, rfl⟩ hd
/-! ### the first wrong place of a datum -/
/-- no text is longer than this -/
def smallD : Nat → PyData → Prop
  | 0, _ => True
  | n + 1, .list ds => ∀ d ∈ ds, smallD n d
  | n + 1, .tuple ds => ∀ d ∈ ds, smallD n d
  | n + 1, .dict es => es.length ≤ 60 ∧ ∀ e ∈ es, (∀ x, e.1 = .str x → x.length ≤ 1000 ∧ AsciiS x) ∧ smallD n e.2
  | _ + 1, .str x => x.length ≤ 1000
  | _ + 1, _ => True
def isTextD : PyData → Bool
  | .str x => decide (x.length ≤ 60)
  | _ => false
def isIntD : PyData → Bool
  | .int _ => true
  | _ => false
def fstR (f : PyData → Option (List Key)) : List (Key × PyData) → Option (List Key)
  | [] => none
  | (k, d) :: r => match f d with
    | some p => some (k :: p)
    | none => fstR f r
def rowsL (ds : List PyData) : List (Key × PyData) := ds.zipIdx.map fun p => (.inl (p.2 : Int), p.1)
def rowsD (es : List (PyData × PyData)) : List (Key × PyData) := (srt (keysD es)).map fun x => (.inr x, (dget es x).getD .none)
def fwN : Nat → PyData → Option (List Key)
  | 0, _ => none
  | n + 1, .list ds => fstR (fwN n) (rowsL ds)
  | n + 1, .dict es => if es.all (fun e => isTextD e.1) then fstR (fwN n) (rowsD es) else some []
  | _ + 1, .none => none
  | _ + 1, .bool _ => none
  | _ + 1, .str x => if x.length ≤ 60 then none else some []
  | _ + 1, .int i => if -10 ^ 30 ≤ i ∧ i ≤ 10 ^ 30 then none else some []
  | _ + 1, .tuple _ => some []
theorem fstR_at {f : PyData → Option (List Key)} : ∀ {rs : List (Key × PyData)} {i : Nat} {k : Key} {d : PyData} {p : List Key}, (∀ j < i, ∀ q, rs[j]? = some q → f q.2 = none) → rs[i]? = some (k, d) → f d = some p → fstR f rs = some (k :: p)
  | [], _, _, _, _, _, h, _ => by simp at h
  | q :: r, 0, k, d, p, _, h, g => by
    simp at h; subst h
    simp [fstR, g]
  | q :: r, i + 1, k, d, p, h0, h, g => by
    obtain ⟨k0, d0⟩ := q
    have h1 := h0 0 (by omega) (k0, d0) rfl
    simp only at h1
    simp only [fstR, h1]
    exact fstR_at (i := i) (fun j hj q hq => h0 (j + 1) (by omega) q (by simpa using hq)) (by simpa using h) g
theorem fstR_none {f : PyData → Option (List Key)} : ∀ {rs : List (Key × PyData)}, (∀ q ∈ rs, f q.2 = none) → fstR f rs = none
  | [], _ => rfl
  | (k, d) :: r, h => by
    have h1 := h (k, d) (by simp)
    simp only at h1
    simp only [fstR, h1]
    exact fstR_none fun q hq => h q (by simp [hq])
theorem fstR_congr {f g : PyData → Option (List Key)} : ∀ {rs : List (Key × PyData)}, (∀ q ∈ rs, f q.2 = g q.2) → fstR f rs = fstR g rs
  | [], _ => rfl
  | (k, d) :: r, h => by
    have h1 := h (k, d) (by simp)
    simp only at h1
    simp only [fstR, h1]
    cases g d with
    | some p => rfl
    | none => exact fstR_congr fun q hq => h q (by simp [hq])
theorem fstR_inv {f : PyData → Option (List Key)} : ∀ {rs : List (Key × PyData)} {p : List Key}, fstR f rs = some p → ∃ k d q, (k, d) ∈ rs ∧ f d = some q ∧ p = k :: q
  | [], _, h => by cases h
  | (k, d) :: r, p, h => by
    cases hf : f d with
    | some q =>
      simp only [fstR, hf] at h
      cases h
      exact ⟨k, d, q, by simp, hf, rfl⟩
    | none =>
      simp only [fstR, hf] at h
      obtain ⟨k2, d2, q, h1, h2, h3⟩ := fstR_inv h
      exact ⟨k2, d2, q, by simp [h1], h2, h3⟩
theorem fwN_len : ∀ {n : Nat} {d : PyData} {p : List Key}, fwN n d = some p → p.length ≤ n
  | 0, _, _, h => by cases h
  | n + 1, .list ds, p, h => by
    obtain ⟨k, d, q, _, h2, rfl⟩ := fstR_inv h
    have := fwN_len h2
    simp; omega
  | n + 1, .dict es, p, h => by
    simp only [fwN] at h
    split at h
    · obtain ⟨k, d, q, _, h2, rfl⟩ := fstR_inv h
      have := fwN_len h2
      simp; omega
    · cases h; simp
  | n + 1, .none, p, h => by cases h
  | n + 1, .bool _, p, h => by cases h
  | n + 1, .str x, p, h => by simp only [fwN] at h; split at h <;> cases h; simp
  | n + 1, .int x, p, h => by simp only [fwN] at h; split at h <;> cases h; simp
  | n + 1, .tuple _, p, h => by cases h; simp
theorem small_up {G : Hp} : ∀ {n : Nat} {v : V} {d : PyData}, smallD n d → Re G n v d → smallD (n + 1) d
  | 0, _, _, _, r => r.elim
  | n + 1, v, .list ds, h, ⟨a, xs, _, _, _, hp⟩ => fun d hd => by
    obtain ⟨x, _, hx⟩ := pd_memR hp hd
    exact small_up (h d hd) hx
  | n + 1, v, .tuple ds, h, ⟨a, xs, _, _, _, hp⟩ => fun d hd => by
    obtain ⟨x, _, hx⟩ := pd_memR hp hd
    exact small_up (h d hd) hx
  | n + 1, v, .dict es, h, ⟨a, xs, _, _, _, _, hp⟩ => ⟨h.1, fun e he => by
    obtain ⟨x, _, hx⟩ := pd_memR hp he
    exact ⟨(h.2 e he).1, small_up (h.2 e he).2 hx.2⟩⟩
  | n + 1, v, .none, _, _ => trivial
  | n + 1, v, .bool _, _, _ => trivial
  | n + 1, v, .int _, _, _ => trivial
  | n + 1, v, .str _, h, _ => h
/-! paths -/
/-- what it hands back -/
def pathV (r : Option (List Key)) (H : Hp) (v : V) : Prop := match r with
  | none => v = .non
  | some p => ∃ t, v = .ref t ∧ H t = some (.tup (p.map kV))
theorem pathV.imp {r : Option (List Key)} {H H' : Hp} {v : V} (h : pathV r H v) (s : Same H H') : pathV r H' v := by
  cases r with
  | none => exact h
  | some p => obtain ⟨t, h1, h2⟩ := h; exact ⟨t, h1, s _ _ h2⟩
theorem fwN_ok {G : Hp} : ∀ {n : Nat} {v : V} {d : PyData} {p : List Key}, Re G n v d → smallD n d → fwN n d = some p → ∀ k ∈ p, leafD (kD k)
  | 0, _, _, _, r, _, _ => r.elim
  | n + 1, v, .list ds, p, ⟨a, xs, _, _, hb, hp⟩, sm, h => by
    obtain ⟨k, d, q, hm, h2, rfl⟩ := fstR_inv h
    obtain ⟨⟨d', i⟩, hz, he⟩ := List.mem_map.mp hm
    cases he
    have hi := List.mem_zipIdx' hz
    have hd : d' ∈ ds := by rw [hi.2]; exact List.getElem_mem _
    obtain ⟨x, _, hx⟩ := pd_memR hp hd
    intro k hk
    rcases List.mem_cons.mp hk with rfl | hk
    · have := hi.1
      have hl := pd_len hp
      exact ⟨by omega, by omega⟩
    · exact fwN_ok hx (sm d' hd) h2 k hk
  | n + 1, v, .dict es, p, ⟨a, xs, _, _, hb, hn, hp⟩, sm, h => by
    simp only [fwN] at h
    split at h
    · rename_i hall
      obtain ⟨k, d, q, hm, h2, rfl⟩ := fstR_inv h
      obtain ⟨x, hx, he⟩ := List.mem_map.mp hm
      cases he
      obtain ⟨e, he, hxe⟩ := List.mem_map.mp (mem_srt.mp hx)
      have ht := List.all_eq_true.mp hall e he
      obtain ⟨y, hy⟩ : ∃ y, e.1 = .str y := by
        cases h : e.1 with
        | str y => exact ⟨y, rfl⟩
        | _ => rw [h] at ht; cases ht
      rw [hy] at ht hxe
      have hxe : y = x := hxe
      subst hxe
      cases hg : dget es y with
      | none => exact absurd (mem_srt.mp hx) (dget_none hg)
      | some d2 =>
        rw [hg] at h2
        obtain ⟨e2, he2, rfl, _⟩ := dget_mem hg
        obtain ⟨z, _, hz⟩ := pd_memR hp he2
        intro k hk
        rcases List.mem_cons.mp hk with rfl | hk
        · exact ⟨of_decide_eq_true ht, ((sm.2 e he).1 y hy).2⟩
        · exact fwN_ok hz.2 (sm.2 e2 he2).2 h2 k hk
    · cases h; intro k hk; cases hk
  | n + 1, v, .none, p, _, _, h => by cases h
  | n + 1, v, .bool _, p, _, _, h => by cases h
  | n + 1, v, .str x, p, _, _, h => by
    simp only [fwN] at h
    split at h <;> cases h
    intro k hk; cases hk
  | n + 1, v, .int x, p, _, _, h => by
    simp only [fwN] at h
    split at h <;> cases h
    intro k hk; cases hk
  | n + 1, v, .tuple _, p, _, _, h => by cases h; intro k hk; cases hk
theorem fine_path {p : List Key} (h : ∀ k ∈ p, leafD (kD k)) : Fine (.tuple (p.map kD)) := Fine.tuple fun d hd => by
  obtain ⟨k, hk, rfl⟩ := List.mem_map.mp hd
  exact Fine.leaf (h k hk)
theorem cnt_keys : ∀ p : List Key, cntAll (p.map kD) = p.length
  | [] => rfl
  | k :: r => by
    simp only [List.map_cons, cntAll, List.length_cons]
    rw [cnt_keys r]
    cases k <;> simp [kD, cnt] <;> omega
theorem Rp_path {H : Hp} {t : Addr} {p : List Key} (h : H t = some (.tup (p.map kV))) (hl : p.length ≤ 1000) : Rp H 2 (.ref t) (.tuple (p.map kD)) := by
  refine ⟨t, _, rfl, h, by simp; omega, ?_⟩
  clear h
  induction p with
  | nil => exact .nil
  | cons k r ih => exact .cons (by cases k <;> rfl) (ih (by simp at hl; omega))
/-- a path, shown -/
def showP : Option (List Key) → Str
  | none => PyData.shown .none
  | some p => PyData.shown (.tuple (p.map kD))
theorem repr_path {H : Hp} {v : V} {r : Option (List Key)} {Q : VK} (h : pathV r H v) (hk : ∀ p, r = some p → p.length ≤ 1000 ∧ ∀ k ∈ p, leafD (kD k)) (q : Q (.str (showP r)) H) : rRepr [v] H Q := by
  cases r with
  | none =>
    cases h
    exact repr1 (n := 1) (d := .none) rfl (by omega) (Fine.leaf trivial) (by simp [cnt]) q
  | some p =>
    obtain ⟨t, rfl, ht⟩ := h
    obtain ⟨h1, h2⟩ := hk p rfl
    exact repr1 (Rp_path ht h1) (by omega) (fine_path h2) (by simp only [cnt]; rw [cnt_keys]; omega) q
/-! fuel -/
theorem fw_up {G : Hp} : ∀ {n : Nat} {v : V} {d : PyData}, Re G n v d → fwN (n + 1) d = fwN n d
  | 0, _, _, r => r.elim
  | n + 1, v, .list ds, ⟨a, xs, _, _, hb, hp⟩ => by
    simp only [fwN]
    exact fstR_congr fun q hq => by
      obtain ⟨⟨d', i⟩, hz, he⟩ := List.mem_map.mp hq
      cases he
      have hi := List.mem_zipIdx' hz
      have hd : d' ∈ ds := by rw [hi.2]; exact List.getElem_mem _
      obtain ⟨x, _, hx⟩ := pd_memR hp hd
      exact fw_up hx
  | n + 1, v, .dict es, ⟨a, xs, _, _, hb, hn, hp⟩ => by
    simp only [fwN]
    split
    · exact fstR_congr fun q hq => by
        obtain ⟨x, hx, he⟩ := List.mem_map.mp hq
        cases he
        cases hg : dget es x with
        | none => exact absurd (mem_srt.mp hx) (dget_none hg)
        | some d2 =>
          obtain ⟨e2, he2, rfl, _⟩ := dget_mem hg
          obtain ⟨z, _, hz⟩ := pd_memR hp he2
          exact fw_up hz.2
    · rfl
  | n + 1, v, .none, _ => rfl
  | n + 1, v, .bool _, _ => rfl
  | n + 1, v, .str x, _ => rfl
  | n + 1, v, .int x, _ => rfl
  | n + 1, v, .tuple _, _ => rfl
/-- xs[::2], xs of five -/
theorem pick2 (u0 u1 u2 u3 u4 : Value) : slicePick [u0, u1, u2, u3, u4].toArray none none (some 2) = [u0, u2, u4].toArray := by
  have e : sliceRange 0 5 2 = [0, 2, 4] := by decide +kernel
  show ((sliceRange 0 5 2).filterMap ([u0, u1, u2, u3, u4].toArray[·]?)).toArray = _
  rw [e]
  rfl
def tTwo5 (K : PySem.W.Frag) (te : TE) : TE := fun σ H Q => te σ H fun x H1 => ∃ a y0 y1 y2 y3 y4, x = .ref a ∧ SqL K H1 a [y0, y1, y2, y3, y4] ∧ ∀ p, H1 p = none → Q (.ref p) (upd H1 p (.lst [y0, y2, y4]))
theorem pe_two5 {X : Cx} {K : PySem.W.Frag} {e : Expr} {te : TE} {k : Nat} {p1 p3 pos : Pos} (hK : X.K = K) (he : PE X e te) : PE X (.Subscript e (.Slice none none (some (.Constant (.int 2) k p1)) p3) pos) (tTwo5 K te) := by
  subst hK
  refine ⟨fun pins s σ H Q I h => ?_⟩
  refine Subscript_ (thn (he.run pins s σ H _ I h) fun v s1 ⟨x, H1, I1, r1, q1⟩ => ?_)
  obtain ⟨a, y0, y1, y2, y3, y4, ex, hx, q⟩ := q1
  subst ex
  cases r1
  have hst : PO X (some (.Constant (.int 2) k p1)) (tPart (tC (.int 2))) := po_some pe_int
  refine wpAny_Slice (thn (po_none.run pins s1 σ H1 (fun o H2 => o = none ∧ H2 = H1) I1 ⟨rfl, rfl⟩) fun vl s2 ⟨l, H2, I2, pl, el, e2⟩ => ?_)
  subst el e2
  refine thn (po_none.run pins s2 σ H2 (fun o H3 => o = none ∧ H3 = H2) I2 ⟨rfl, rfl⟩) fun vu s3 ⟨u, H3, I3, pu, eu, e3⟩ => ?_
  subst eu e3
  refine thn (hst.run pins s3 σ H3 (fun o H4 => o = some 2 ∧ H4 = H3) I3 ⟨2, rfl, rfl, rfl⟩) fun vs s4 ⟨o, H4, I4, ps, eo, e4⟩ => ?_
  subst eo e4
  have I5 : Inv X pins σ H4 { s4 with heap := s4.heap.push { cls := .type "slice", data := .fields #[vl, vu, vs] } } := I4.kept (t' := s4.toks) fun b ob q => Heap.get?_push_of_some _ q
  obtain ⟨its, r, ht, hz⟩ := I5.list hx
  have hlen := r.length
  show wpAny (model X.prog X.w) X.A (subscriptTail e (.Slice none none (some (.Constant (.int 2) k p1)) p3) (.ref a) (.ref s4.heap.objs.size)) (EP X pins σ Q) X.xe { s4 with heap := s4.heap.push { cls := .type "slice", data := .fields #[vl, vu, vs] } }
  refine tail_any (ops := [.ref a, .ref s4.heap.objs.size]) ht.isList.typeIs (PySem.slot_list_getitem.lookup) ?_ (by with_unfolding_all rfl)
  refine wpAny_getItem_list_slice ht.isList (Heap.IsSliceOf.new _ vl vu vs) pl pu ps (by decide) ?_ (by rw [List.size_toArray]; omega)
  cases r with
  | cons a0 r => cases r with
    | cons a1 r => cases r with
      | cons a2 r => cases r with
        | cons a3 r => cases r with
          | cons a4 r =>
            cases r
            rw [pick2]
            refine ⟨.ref _, _, I5.laid (t' := s4.toks) (o := .lst [y0, y2, y4]) (fun b ob q => Heap.get?_push_of_some _ q) (Nat.le_refl _) ?_, rfl, q _ (I5.hok.fresh (Nat.le_refl _))⟩
            exact ⟨sz5 (by simp), _, 0, .cons a0 (.cons a2 (.cons a4 .nil)), Heap.get?_push_size _ rfl⟩
theorem op_catAK {X : Cx} {K : PySem.W.Frag} (h : X.K = K) : OpR X (binaryOp .Add) (rCatA K) := by subst h; exact op_catA
end SC

set_option Elab.async false
set_option linter.all false
set_option maxRecDepth 100000
set_option maxHeartbeats 4000000
/-! data of its own: no part of it is shared -/
namespace SC
open PySem L2
/-- the part of a heap with the colour i -/
def sel (G : Hp) (c : Addr → Nat) (i : Nat) : Hp := fun b => if c b = i then G b else none
theorem sel_sub {G : Hp} {c : Addr → Nat} {i : Nat} : Same (sel G c i) G := fun b o e => by
  unfold sel at e
  split at e
  · exact e
  · cases e
theorem sel_at {G : Hp} {c : Addr → Nat} {i : Nat} {b : Addr} {o : HO} (e : sel G c i b = some o) : c b = i ∧ G b = some o := by
  unfold sel at e
  split at e
  · exact ⟨‹_›, e⟩
  · cases e
theorem sel_of {G : Hp} {c : Addr → Nat} {i : Nat} {b : Addr} {o : HO} (h : c b = i) (e : G b = some o) : sel G c i b = some o := by
  unfold sel
  rw [if_pos h]; exact e
theorem sel_mono {G G' : Hp} {c : Addr → Nat} {i : Nat} (s : Same G G') : Same (sel G c i) (sel G' c i) := fun b o e => by
  obtain ⟨h, e⟩ := sel_at e
  exact sel_of h (s _ _ e)
/-- rows whose parts have colours of their own -/
def OwP {A B : Type} (F : Hp → A → B → Prop) (G : Hp) (c : Addr → Nat) (xs : List A) (ds : List B) : Prop := xs.length = ds.length ∧ ∀ i x d, xs[i]? = some x → ds[i]? = some d → F (sel G c i) x d
theorem OwP.imp {A B : Type} {F F' : Hp → A → B → Prop} {G G' : Hp} {c c' : Addr → Nat} {xs : List A} {ds : List B} (h : OwP F G c xs ds) (s : ∀ i < xs.length, Same (sel G c i) (sel G' c' i)) (f : ∀ g g' x d, x ∈ xs → d ∈ ds → Same g g' → F g x d → F' g' x d) : OwP F' G' c' xs ds :=
  ⟨h.1, fun i x d hx hd => f _ _ x d (List.mem_of_getElem? hx) (List.mem_of_getElem? hd) (s i (List.getElem?_eq_some_iff.mp hx).1) (h.2 i x d hx hd)⟩
theorem pd_of {A B : Type} {F : A → B → Prop} : ∀ {xs : List A} {ds : List B}, xs.length = ds.length → (∀ (i : Nat) (x : A) (d : B), xs[i]? = some x → ds[i]? = some d → F x d) → Paired F xs ds
  | [], [], _, _ => .nil
  | [], _ :: _, h, _ => by simp at h
  | _ :: _, [], h, _ => by simp at h
  | x :: xs, d :: ds, h, f => .cons (f 0 x d rfl rfl) (pd_of (by simpa using h) fun i y e hy he => f (i + 1) y e (by simpa using hy) (by simpa using he))
/-- data in G, each list and dict in one place only -/
def Ow : Nat → Hp → V → PyData → Prop
  | 0, _, _, _ => False
  | _ + 1, _, v, .none => v = .non
  | _ + 1, _, v, .bool b => v = .bl b
  | _ + 1, _, v, .int i => v = .int i
  | _ + 1, _, v, .str x => v = .str x
  | n + 1, G, v, .list ds => ∃ a xs c, v = .ref a ∧ G a = some (.lst xs) ∧ xs.length ≤ 10000 ∧ xs.length ≤ c a ∧ OwP (Ow n) G c xs ds
  | n + 1, G, v, .dict es => ∃ a kvs c, v = .ref a ∧ G a = some (.dK kvs) ∧ kvs.length ≤ 10000 ∧ (kvs.map (·.1)).Nodup ∧ kvs.length ≤ c a ∧ OwP (fun g => KvR (Ow n g)) G c kvs es
  | _ + 1, _, _, .tuple _ => False
theorem Ow.imp : ∀ {n : Nat} {G G' : Hp} {v : V} {d : PyData}, Same G G' → Ow n G v d → Ow n G' v d
  | 0, _, _, _, _, _, h => h
  | n + 1, _, _, v, .none, _, h => h
  | n + 1, _, _, v, .bool _, _, h => h
  | n + 1, _, _, v, .int _, _, h => h
  | n + 1, _, _, v, .str _, _, h => h
  | n + 1, _, _, v, .tuple _, _, h => h
  | n + 1, _, _, v, .list ds, s, ⟨a, xs, c, h1, h2, hb, hc, h3⟩ => ⟨a, xs, c, h1, s _ _ h2, hb, hc, h3.imp (fun _ _ => sel_mono s) fun _ _ _ _ _ _ s' q => Ow.imp s' q⟩
  | n + 1, _, _, v, .dict es, s, ⟨a, xs, c, h1, h2, hb, hn, hc, h3⟩ => ⟨a, xs, c, h1, s _ _ h2, hb, hn, hc, h3.imp (fun _ _ => sel_mono s) fun _ _ _ _ _ _ s' q => ⟨q.1, Ow.imp s' q.2⟩⟩
theorem Ow.re : ∀ {n : Nat} {G : Hp} {v : V} {d : PyData}, Ow n G v d → Re G n v d
  | 0, _, _, _, h => h
  | n + 1, _, v, .none, h => h
  | n + 1, _, v, .bool _, h => h
  | n + 1, _, v, .int _, h => h
  | n + 1, _, v, .str _, h => h
  | n + 1, _, v, .tuple _, h => h.elim
  | n + 1, G, v, .list ds, ⟨a, xs, c, h1, h2, hb, hc, h3⟩ => ⟨a, xs, h1, h2, hb, pd_of h3.1 fun i x d hx hd => (h3.2 i x d hx hd).re.imp sel_sub⟩
  | n + 1, G, v, .dict es, ⟨a, xs, c, h1, h2, hb, hn, hc, h3⟩ => ⟨a, xs, h1, h2, hb, hn, pd_of h3.1 fun i x d hx hd => ⟨(h3.2 i x d hx hd).1, (h3.2 i x d hx hd).2.re.imp sel_sub⟩⟩
theorem Ow.up1 : ∀ {n : Nat} {G : Hp} {v : V} {d : PyData}, Ow n G v d → Ow (n + 1) G v d
  | 0, _, _, _, h => h.elim
  | n + 1, _, v, .none, h => h
  | n + 1, _, v, .bool _, h => h
  | n + 1, _, v, .int _, h => h
  | n + 1, _, v, .str _, h => h
  | n + 1, _, v, .tuple _, h => h.elim
  | n + 1, G, v, .list ds, ⟨a, xs, c, h1, h2, hb, hc, h3⟩ => ⟨a, xs, c, h1, h2, hb, hc, h3.1, fun i x d hx hd => (h3.2 i x d hx hd).up1⟩
  | n + 1, G, v, .dict es, ⟨a, xs, c, h1, h2, hb, hn, hc, h3⟩ => ⟨a, xs, c, h1, h2, hb, hn, hc, h3.1, fun i x d hx hd => ⟨(h3.2 i x d hx hd).1, (h3.2 i x d hx hd).2.up1⟩⟩
theorem Ow.up {n m : Nat} {G : Hp} {v : V} {d : PyData} (h : Ow n G v d) (hl : n ≤ m) : Ow m G v d := by
  induction hl with
  | refl => exact h
  | step _ ih => exact ih.up1
theorem Ow.leaf {G : Hp} {n : Nat} {v : V} {d : PyData} (hd : leafD d) (h : Rp G n v d) : Ow n G v d := by
  cases n with
  | zero => exact h.elim
  | succ n => cases d <;> first | exact h | exact hd.elim
theorem OwP.nil {A B : Type} {F : Hp → A → B → Prop} {G : Hp} {c : Addr → Nat} : OwP F G c ([] : List A) ([] : List B) := ⟨rfl, fun i x d h => by simp at h⟩
/-- one row more, made anew -/
theorem OwP.snoc {A B : Type} {F : Hp → A → B → Prop} (hF : ∀ g g' x d, Same g g' → F g x d → F g' x d) {S : List Addr} {Hx H1 H4 : Hp} {D : Addr} {o : HO} {c : Addr → Nat} {xs : List A} {ds : List B} {x : A} {d : B}
    (k1 : Keep S Hx H1) (k2 : Keep S H1 H4) (hx : ∀ a ∈ S, Hx a ≠ none) (h1 : ∀ a ∈ S, H1 a ≠ none) (hD : D ∈ S) (h : OwP F (news Hx H1) c xs ds) (hv : F (news H1 H4) x d) : ∃ c', OwP F (news Hx (upd H4 D o)) c' (xs ++ [x]) (ds ++ [d]) := by
  have g := grow (o := o) k1 k2 hx h1 hD
  refine ⟨fun b => match H1 b with | none => xs.length | some _ => c b, by simp [h.1], fun i y e hy he => ?_⟩
  by_cases hi : i < xs.length
  · rw [List.getElem?_append_left hi] at hy
    rw [List.getElem?_append_left (by rw [← h.1]; exact hi)] at he
    refine hF _ _ y e (fun b u q => ?_) (h.2 i y e hy he)
    obtain ⟨hc, q⟩ := sel_at q
    have e1 := news_sub _ _ _ _ q
    exact sel_of (by simp only [e1]; exact hc) (g.1 _ _ q)
  · have hl : i = xs.length := by
      have := (List.getElem?_eq_some_iff.mp hy).1
      simp at this
      omega
    subst hl
    rw [List.getElem?_append_right (Nat.le_refl _), Nat.sub_self] at hy
    rw [h.1, List.getElem?_append_right (Nat.le_refl _), Nat.sub_self] at he
    cases hy
    cases he
    refine hF _ _ x d (fun b u q => ?_) hv
    have e1 : H1 b = none := by
      cases e : H1 b with
      | none => rfl
      | some z => rw [news_no e] at q; cases q
    exact sel_of (by simp only [e1]) (g.2 _ _ q)
theorem OwP.more {A B : Type} {F : Hp → A → B → Prop} (hF : ∀ g g' x d, Same g g' → F g x d → F g' x d) {Hx H H' : Hp} {D : Addr} {c : Addr → Nat} {xs : List A} {ds : List B} (hDx : Hx D ≠ none) (hn : Same (news Hx H') (news H H')) (h : OwP F (news Hx H') c xs ds) :
    ∃ c', xs.length ≤ c' D ∧ OwP F (news H H') c' xs ds := by
  refine ⟨fun b => if b = D then xs.length else c b, by simp, h.1, fun i x d hx hd => hF _ _ x d (fun b u q => ?_) (h.2 i x d hx hd)⟩
  obtain ⟨hc, q⟩ := sel_at q
  have hb : b ≠ D := fun z => by
    rw [z] at q
    cases e : Hx D with
    | none => exact hDx e
    | some w => rw [news_no e] at q; cases q
  exact sel_of (by rw [if_neg hb]; exact hc) (hn _ _ q)
theorem Ow.mkL {n : Nat} {Hx H H' : Hp} {D : Addr} {c : Addr → Nat} {vs : List V} {ds : List PyData} (hDH : H D = none) (hDx : Hx D ≠ none) (hn : Same (news Hx H') (news H H')) (e : H' D = some (.lst vs)) (hl : vs.length ≤ 10000) (h : OwP (Ow n) (news Hx H') c vs ds) :
    Ow (n + 1) (news H H') (.ref D) (.list ds) := by
  obtain ⟨c', h1, h2⟩ := OwP.more (F := Ow n) (fun _ _ _ _ s q => Ow.imp s q) hDx hn h
  exact ⟨D, vs, c', rfl, by rw [news_at hDH]; exact e, hl, h1, h2⟩
theorem Ow.mkD {n : Nat} {Hx H H' : Hp} {D : Addr} {c : Addr → Nat} {kvs : List (Key × V)} {es : List (PyData × PyData)} (hDH : H D = none) (hDx : Hx D ≠ none) (hn : Same (news Hx H') (news H H')) (e : H' D = some (.dK kvs)) (hl : kvs.length ≤ 10000) (hk : (kvs.map (·.1)).Nodup) (h : OwP (fun g => KvR (Ow n g)) (news Hx H') c kvs es) :
    Ow (n + 1) (news H H') (.ref D) (.dict es) := by
  obtain ⟨c', h1, h2⟩ := OwP.more (F := fun g => KvR (Ow n g)) (fun _ _ _ _ s q => ⟨q.1, Ow.imp s q.2⟩) hDx hn h
  exact ⟨D, kvs, c', rfl, by rw [news_at hDH]; exact e, hl, hk, h1, h2⟩
theorem news_upd {Hx H' : Hp} {p : Addr} {o : HO} (h : Hx p ≠ none) : news Hx (upd H' p o) = news Hx H' := by
  funext b
  by_cases hb : b = p
  · subst hb
    cases e : Hx b with
    | none => exact absurd e h
    | some z => rw [news_no e, news_no e]
  · cases e : Hx b with
    | none => rw [news_at e, news_at e, upd_ne hb]
    | some z => rw [news_no e, news_no e]
/-- a part of an unlocked datum stands beside its whole -/
theorem Re.part {H : Hp} {a : Addr} {m n : Nat} {v : V} {d D : PyData} (hD : Re H m (.ref a) D) (hs : sizeOf d < sizeOf D) (h : Re H n v d) : Re (SC.del H a) n v d := Re.of (del_sub H a) h (Rp.del hD.rp hs h.rp)
/-- either of two readings -/
theorem pe_or {X : Cx} {e : Expr} {t u : TE} (h : PE X e t) (g : PE X e u) : PE X e (fun σ H Q => t σ H Q ∨ u σ H Q) :=
  ⟨fun pins s σ H Q I z => z.elim (h.run pins s σ H Q I) (g.run pins s σ H Q I)⟩
/-- isinstance(xs, T), xs a list -/
theorem isiL {K : PySem.W.Frag} {H : Hp} {a : Addr} {xs : List V} (T : Ty) {Q : VK} (h : H a = some (.lst xs)) (q : Q (.bl (isT T (.list []))) H) : rIsi K [.ref a, .ty T.nm] H Q :=
  ⟨.ref a, .ty T.nm, _, _, isT T (.list []), rfl, .ty T.nm, .base (.lst h), kit_ty (kit_isT T (.list [])), q⟩
theorem sameN_refl : ∀ {n : Nat} {d : PyData}, docD n d → ndD n d → sameN n d d = true
  | 0, _, h, _ => h.elim
  | n + 1, .list ds, h, g => by
    simp only [sameN, List.zipWith_self, Bool.and_eq_true, decide_true, List.all_eq_true, List.mem_map, true_and]
    rintro _ ⟨d, hd, rfl⟩
    exact sameN_refl (h.2 d hd) (g d hd)
  | n + 1, .dict es, h, g => by
    simp only [sameN, Bool.and_eq_true, decide_true, List.all_eq_true, List.mem_map, true_and]
    rintro _ ⟨e, he, rfl⟩
    rw [dget_nd g.1 he]
    exact sameN_refl (h.2 e he).2 (g.2 e he)
  | n + 1, .none, h, _ => sameL_refl h
  | n + 1, .bool _, h, _ => sameL_refl h
  | n + 1, .int i, h, _ => sameL_refl h
  | n + 1, .str x, h, _ => sameL_refl h
  | n + 1, .tuple _, h, _ => h.elim
theorem news_inv {H H' : Hp} {b : Addr} {o : HO} (e : news H H' b = some o) : H b = none ∧ H' b = some o := by
  cases h : H b with
  | none => exact ⟨rfl, news_sub _ _ _ _ e⟩
  | some z => rw [news_no h] at e; cases e
theorem same_none {H H' : Hp} {b : Addr} (s : Same H H') (h : H' b = none) : H b = none := by
  cases e : H b with
  | none => rfl
  | some z => rw [s _ _ e] at h; cases h
/-- one step of a path -/
def stepN : PyData → Key → Option PyData
  | .list ds, .inl i => if 0 ≤ i then ds[i.toNat]? else none
  | .dict es, .inr x => dget es x
  | _, _ => none
def walkD : PyData → List Key → Option PyData
  | d, [] => some d
  | d, k :: r => (stepN d k).bind fun e => walkD e r
theorem walk_app : ∀ (p r : List Key) (d : PyData), walkD d (p ++ r) = (walkD d p).bind fun e => walkD e r
  | [], r, d => rfl
  | k :: p, r, d => by
    simp only [List.cons_append, walkD]
    cases stepN d k with
    | none => rfl
    | some e => exact walk_app p r e
section
variable {J : It} {n : Nat} {G : Hp → Prop} {Y : Nat → Hp → V → Hp → Prop}
/-- {k: v for ..} -/
theorem dc_itR (w : Walk J n G Y) {g : TG} {tt : TT} {tk tv : TE} {vs : List Nat} {σ : L2.St} {H1 : Hp} {Q : VK} (Pv : Addr → Nat → Hp → Prop) (h0 : ∀ D, H1 D = none → Pv D 0 (upd H1 D (.dK []))) (hG : ∀ D i H, H1 D = none → i ≤ n → Pv D i H → G H)
    (hs : ∀ D i x H H', H1 D = none → i < n → Pv D i H → Y i H x H' → g x (wipe σ vs) H' fun σ2 H2 => wipe σ2 vs = wipe σ vs ∧ tt σ2 H2 fun b H3 =>
      if b = true then tk σ2 H3 fun y H4 => tv σ2 H4 fun z H5 => ∃ kvs k, y = kV k ∧ H5 D = some (.dK kvs) ∧ kvs.length < sizeLine ∧ Pv D (i + 1) (upd H5 D (.dK (putK kvs k z))) else Pv D (i + 1) H3)
    (hd : ∀ D H, H1 D = none → Pv D n H → Q (.ref D) H) : DcR J g tt tk tv vs σ H1 Q := fun D hD => by
  refine ⟨fun i m H => m = n - i ∧ i ≤ n ∧ Pv D i H, ⟨n, by simp, Nat.zero_le _, h0 D hD⟩, ?_⟩
  rintro i m H ⟨rfl, hi, p⟩
  have q := hG D i H hD hi p
  by_cases hlt : i < n
  · refine .inr ⟨w.goes i H hlt q, Pv D (i + 1), fun H' p' => ⟨n - (i + 1), by omega, rfl, hlt, p'⟩, fun x H' y => hs D i x H H' hD hlt p (w.yields i H x H' hlt q y)⟩
  · have e : i = n := by omega
    subst e
    exact .inl ⟨w.stops H q, hd D H hD p⟩
end
end SC

set_option Elab.async false
set_option linter.all false
set_option maxRecDepth 100000
set_option maxHeartbeats 4000000
namespace SC
open PySem L2
local macro_rules | `(tactic| walk_at "rd") => `(tactic| simp only [tLock_asg, tListEn, tTwo5, iZip, tM1, tM0, tFmt, tJs, tRevL, tPar3, tSeq, tNext, tIfS, tB, tTest, tCB, tCons, tC, tNil, tVar, tRet, tRetN, tAsg, gName, tOp, tUn, tAnd, tOr, tNot, tAndV, tOrV, tNotV, tIf, tDrop, tCall, tCallK, rI, rI0, rU, rEq, rNe, tPar, tAug, ipI, tLst, tTup, tDNewK, tDGet, tDIn, tDNotIn, sDPut, tBM, tBM0, gSub, rSetL, tChain, gTup, gCons, gNil, tYes, tBreak, tCont, tDisp, tPairs, rLenK, rLenA, rListK, L2.start, L2.wipe, cx_K, tFor_eq, tLc_eq, tDc_eq, tSl, tPart, tNoPart, iList, iTup, iRng1, iRng2, iKeys, iStr, iEnum, iEnumK, List.map_cons, List.map_nil, List.length_cons, List.length_nil, Nat.reduceAdd, Nat.reduceSub, List.reduceReplicate, List.replicate_zero, List.append_nil, List.nil_append, List.cons_append, List.getElem?_cons_zero, List.getElem?_cons_succ, Option.some.injEq, exists_eq_left', exists_eq_left, exists_eq', exists_eq, exists_and_left, V.int.injEq, V.ref.injEq, V.str.injEq, V.bl.injEq, List.cons.injEq, and_true, true_and, and_assoc, Bool.false_eq_true, ↓reduceIte, List.set_cons_zero, List.set_cons_succ, decide_eq_true_eq, Bool.not_eq_true', decide_eq_false_iff_not, Nat.zero_add, Nat.zero_sub, Nat.sub_self, Nat.sub_zero])

def top (i : Nat) : Stmt := PySem.Challenge.pw_schemacheck_k08_copies.main.body.getD i (.Pass ⟨0, 0, 0, 0⟩)
/-! ### _law_cell -/
def sp_cell (K : PySem.W.Frag) : Sp := fun vs H Q _ => ∃ c sp ns k, vs = [.ref c, .ref sp] ∧ Scr K H c ns ∧ ns.length ≤ 63 ∧ H sp = some (.lst [.int k]) ∧ 0 ≤ k ∧ k < 2 ^ 60 ∧
  ∀ n : Int, 0 ≤ n → n < 306783379 → Q (.int n) (upd H sp (.lst [.int (k + 1)]))
abbrev s_law_cell : Stmt := top 9
theorem sc_law_cell : FnScope ["_law_cells", "_law_spot", "_law_k", "_law_base", "_law_at", "_law_turn", "_law_rest", "_law_j"] ["_law_cells", "_law_spot"] (defScope s_law_cell) := ⟨rfl, rfl, rfl, by decide +kernel, rfl, by decide +kernel, by decide +kernel⟩
theorem cell_end (b : Int) : 0 ≤ (b % 2147483647) ^ Int.toNat 5 % 2147483647 / 7 ∧ (b % 2147483647) ^ Int.toNat 5 % 2147483647 / 7 < 306783379 := by
  have h1 := Int.emod_nonneg ((b % 2147483647) ^ Int.toNat 5) (show (2147483647 : Int) ≠ 0 by decide)
  have h2 := Int.emod_lt_of_pos ((b % 2147483647) ^ Int.toNat 5) (show (0 : Int) < 2147483647 by decide)
  omega
theorem cell_pow (b : Int) : CPow (b % 2147483647) 5 := by
  have h1 := Int.emod_nonneg b (show (2147483647 : Int) ≠ 0 by decide)
  have h2 := Int.emod_lt_of_pos b (show (0 : Int) < 2147483647 by decide)
  refine ⟨by decide, by decide, ?_⟩
  omega
theorem at_ints {ns : List Int} {i : Int} (h0 : 0 ≤ i) (h1 : i < ((ns.map V.int).length : Int)) : ∃ x : Int, atI (ns.map V.int) i = some (.int x) := by
  obtain ⟨j, rfl⟩ : ∃ j : Nat, i = j := ⟨i.toNat, by omega⟩
  have hl : j < ns.length := by rw [List.length_map] at h1; omega
  exact ⟨ns[j], atI_nat (by rw [List.getElem?_map, List.getElem?_eq_getElem hl]; rfl)⟩
section
variable {P : Program} {w : World} {K : PySem.W.Frag} {mg : Str → Option Value} {base : Heap} {f : Addr} {fd : FuncData}
theorem ok_cell (D : Def K mg "_law_cell" s_law_cell f fd) (B : Blt mg) : FnOk P w K mg base CX0 1 f fd ["_law_cells", "_law_spot"] (sp_cell K) := by
  refine D.1.ok sc_law_cell (fun vs H Q E h => ?_) (fun cdv A outer s H vs Q E hr h => ?_)
  · obtain ⟨c, sp, ns, k, rfl, _⟩ := h
    rfl
  obtain ⟨c, sp, ns, k, rfl, hs, h63, hp, h0, h1, q⟩ := h
  refine ⟨_, (pss_cons (ps_set (i := 2) sc_law_cell.nd rfl (by first | exact Or.inl rfl | exact Or.inr rfl) (pe_ix (ixLK (K := K) rfl) (pv 1) pe_int (fun _ _ => rfl)))
  (pss_cons (ps_asg (pe_op op_add (pv 2) pe_int) (pg_sub (pv 1) pe_int set_list))
  (pss_cons (ps_set (i := 3) sc_law_cell.nd rfl (by first | exact Or.inl rfl | exact Or.inr rfl) (pe_op op_add (pe_op op_mul (pe_op op_mul pe_int (pv 2)) (pv 2)) (pe_op op_mul pe_int (pv 2))))
  (pss_cons (ps_if (pt_cmpR op_gt (pe_callB (lenK (K := K) rfl) (by rfl) B.b_len (by decide +kernel) (pa_cons (pv 0) pa_nil)) pe_int (nomark _))
   (pss_cons (ps_par (i := 4) (j := 5) (by rfl) sc_law_cell.nd rfl rfl (by decide) rfl rfl (pa_cons (pe_op op_mod (pv 2) (pe_callB (lenK (K := K) rfl) (by rfl) B.b_len (by decide +kernel) (pa_cons (pv 0) pa_nil))) (pa_cons (pe_op op_fdiv (pv 2) (pe_callB (lenK (K := K) rfl) (by rfl) B.b_len (by decide +kernel) (pa_cons (pv 0) pa_nil))) pa_nil)) (by rfl))
  (pss_cons (ps_if (PW.pt (pw_and (pt_cmpR op_ge (pe_ix (ixLK (K := K) rfl) (pv 0) (pv 4) (fun _ _ => rfl)) (pe_op op_pow pe_int pe_int) (nomark _)) (pw_and1 (pt_cmpR op_lt (pv 5) pe_int (nomark _)))))
   (pss_cons (ps_set (i := 6) sc_law_cell.nd rfl (by first | exact Or.inl rfl | exact Or.inr rfl) (pe_ix (ixLK (K := K) rfl) (pv 0) (pv 4) (fun _ _ => rfl)))
  (pss_cons (ps_for PassesOwn.never rfl (pi_range1 (by rfl) B.b_range (pa_cons (pv 5) pa_nil)) (pg_name (i := 7) sc_law_cell.nd rfl (by first | exact Or.inl rfl | exact Or.inr rfl))
   (pss_one (ps_set (i := 6) sc_law_cell.nd rfl (by first | exact Or.inl rfl | exact Or.inr rfl) (pe_op op_fdiv (pv 6) pe_int))))
  (pss_one (ps_if (pt_cmpR op_gt (pv 6) pe_int (nomark _))
   (pss_one (ps_ret (pe_op op_mod (pv 6) pe_int)))
   pss_nil))))
   pss_nil)
  (pss_one (ps_set (i := 3) sc_law_cell.nd rfl (by first | exact Or.inl rfl | exact Or.inr rfl) (pe_op op_add (pv 3) (pe_op op_mul (pe_op op_mod (pe_ix (ixLK (K := K) rfl) (pv 0) (pv 4) (fun _ _ => rfl)) pe_int) (pe_op op_add pe_int (pv 5))))))))
   pss_nil)
  (pss_one (ps_ret (pe_op op_fdiv (pe_op op_mod (pe_op op_pow (pe_op op_mod (pv 3) pe_int) pe_int) pe_int) pe_int))))))), ?_⟩
  walk_at "rd"
  have hs1 : Scr K (upd H sp (.lst [.int (k + 1)])) c ns := hs.put hp
  refine ⟨sp, _, 0, _, rfl, rfl, SqL.of hp, rfl, ?_⟩
  walk_at "rd"
  refine ⟨_, hp, 0, rfl, .inl (by omega), .inr (by omega), .inl (by decide), _, .inl ⟨_, hs1.sq, rfl⟩, ?_⟩
  split
  · rename_i hl
    have hL : ((ns.map V.int).length : Int) < 64 := by rw [List.length_map]; omega
    have hm0 := Int.emod_nonneg k (show ((ns.map V.int).length : Int) ≠ 0 by omega)
    have hm1 := Int.emod_lt_of_pos k hl
    obtain ⟨x, hx⟩ := at_ints hm0 hm1
    have hd0 : 0 ≤ k / ((ns.map V.int).length : Int) := Int.ediv_nonneg h0 (by omega)
    have hd1 : k / ((ns.map V.int).length : Int) ≤ k := Int.ediv_le_self _ h0
    refine ⟨_, .inl ⟨_, hs1.sq, rfl⟩, hl, _, .inl ⟨_, hs1.sq, rfl⟩, ⟨hl, by omega⟩, ?_⟩
    have last : ∀ b : Int, CMul (x % 2147483629) (1 + k / ((ns.map V.int).length : Int)) ∧ (0 : Int) < 2147483647 ∧ CPow (b % 2147483647) 5 ∧ (0 : Int) < 2147483647 ∧ CDiv ((b % 2147483647) ^ Int.toNat 5 % 2147483647) 7 ∧ Q (V.int ((b % 2147483647) ^ Int.toNat 5 % 2147483647 / 7)) (upd H sp (HO.lst [V.int (k + 1)])) := fun b => by
      have a1 := Int.emod_nonneg x (show (2147483629 : Int) ≠ 0 by decide)
      have a2 := Int.emod_lt_of_pos x (show (0 : Int) < 2147483629 by decide)
      exact ⟨.inl (by omega), by decide, cell_pow _, by decide, ⟨by decide, by decide⟩, q _ (cell_end _).1 (cell_end _).2⟩
    refine ⟨c, _, _, _, rfl, rfl, hs1.sq, hx, ⟨by decide, by decide, by decide⟩, ?_⟩
    walk_at "rd"
    split
    · split
      · refine ⟨c, _, _, _, rfl, rfl, hs1.sq, hx, by omega, by omega, ?_⟩
        refine fo_it walk_range (fun i σ' H' => H' = upd H sp (.lst [.int (k + 1)]) ∧ ∃ (r : Int) (j : Option V), σ' = [some (V.ref c), some (V.ref sp), some (V.int k), some (V.int (31 * k * k + 7919 * k)), some (V.int (k % ((ns.map V.int).length : Int))), some (V.int (k / ((ns.map V.int).length : Int))), some (V.int r), j]) ⟨rfl, x, none, rfl⟩ (fun _ _ _ _ _ => trivial) ?_ ?_
        · rintro i y σ' H' H'' hi ⟨rfl, r, j, rfl⟩ ⟨rfl, rfl⟩
          walk_at "rd"
          exact ⟨by decide, by decide⟩
        · rintro σ' H' ⟨rfl, r, j, rfl⟩
          walk_at "rd"
          split
          · refine ⟨by decide, q _ (Int.emod_nonneg _ (by decide)) (Int.emod_lt_of_pos _ (by decide))⟩
          · refine ⟨c, _, _, _, rfl, rfl, hs1.sq, hx, ?_⟩
            walk_at "rd"
            exact ⟨by decide, last _⟩
      · refine ⟨c, _, _, _, rfl, rfl, hs1.sq, hx, ?_⟩
        walk_at "rd"
        exact ⟨by decide, last _⟩
    · refine ⟨c, _, _, _, rfl, rfl, hs1.sq, hx, ?_⟩
      walk_at "rd"
      exact ⟨by decide, last _⟩
  · exact ⟨by decide, cell_pow _, by decide, ⟨by decide, by decide⟩, q _ (cell_end _).1 (cell_end _).2⟩
end

/-! ### _law_leaf -/
def sp_leaf : Sp := fun vs H Q _ => ∃ n : Int, vs = [.int n] ∧ 0 ≤ n ∧ n < 2 ^ 60 ∧ ∀ v H', LeafV v → Same H H' → Q v H'
abbrev s_law_leaf : Stmt := top 10
theorem sc_law_leaf : FnScope ["_law_n", "_law_m"] ["_law_n"] (defScope s_law_leaf) := ⟨rfl, rfl, rfl, by decide +kernel, rfl, by decide +kernel, by decide +kernel⟩
theorem tilde_ok (n : Int) : MulOk (Str.ofString "~") (n % 61) := by
  have h := mod_in n (m := 61) (by decide)
  exact mul_ok (by decide +kernel) (by omega) (by omega)
theorem tilde_leaf (n : Int) : LeafV (.str (Txt.mul (Str.ofString "~") (n % 61))) := by
  have h := mod_in n (m := 61) (by decide)
  refine ⟨.str (Txt.mul (Str.ofString "~") (n % 61)), ?_, fun _ => rfl⟩
  have h2 : ∀ k : Fin 61, (Txt.mul (Str.ofString "~") ((k.1 : Nat) : Int)).length ≤ 60 ∧ ∀ c ∈ (Txt.mul (Str.ofString "~") ((k.1 : Nat) : Int)).cps.toList, c < 128 := by decide +kernel
  have h3 := h2 ⟨(n % 61).toNat, by omega⟩
  have e : (((n % 61).toNat : Nat) : Int) = n % 61 := by omega
  simp only [e] at h3
  exact h3
section
variable {P : Program} {w : World} {K : PySem.W.Frag} {mg : Str → Option Value} {base : Heap} {f : Addr} {fd : FuncData}
theorem ok_leaf (D : Def K mg "_law_leaf" s_law_leaf f fd) (B : Blt mg) : FnOk P w K mg base CX0 1 f fd ["_law_n"] sp_leaf := by
  refine D.1.ok sc_law_leaf (fun vs H Q E h => ?_) (fun cdv A outer s H vs Q E hr h => ?_)
  · obtain ⟨n, rfl, _⟩ := h
    rfl
  obtain ⟨n, rfl, h0, h1, q⟩ := h
  refine ⟨_, (pss_cons (ps_set (i := 1) sc_law_leaf.nd rfl (by first | exact Or.inl rfl | exact Or.inr rfl) (pe_op op_fdiv (pv 0) pe_int))
  (pss_cons (ps_if (pt_cmpR op_eq (pe_op op_mod (pv 0) pe_int) pe_int (nomark _))
   (pss_one (ps_ret (pe_ix (ixLK (K := K) rfl) (pe_lst (pa_cons pe_int (pa_cons pe_int (pa_cons (pe_op op_mod (pv 1) pe_int) (pa_cons (pe_un un_neg (pv 1)) (pa_cons (pe_op op_sub (pe_op op_pow pe_int pe_int) (pe_op op_mod (pv 1) pe_int)) (pa_cons (pe_un un_neg (pe_op op_pow pe_int pe_int)) pa_nil))))))) (pe_op op_mod (pv 1) pe_int) (fun _ _ => rfl))))
   pss_nil)
  (pss_cons (ps_if (pt_cmpR op_eq (pe_op op_mod (pv 0) pe_int) pe_int (nomark _))
   (pss_one (ps_ret (pe_ix (ixLK (K := K) rfl) (pe_lst (pa_cons pe_str (pa_cons pe_str (pa_cons pe_str (pa_cons pe_str (pa_cons pe_str (pa_cons (pe_op op_mul_str pe_str (pe_op op_mod (pv 1) pe_int)) pa_nil))))))) (pe_op op_mod (pv 1) pe_int) (fun _ _ => rfl))))
   pss_nil)
  (pss_one (ps_ret (pe_ix (ixLK (K := K) rfl) (pe_lst (pa_cons pe_non (pa_cons pe_bl (pa_cons pe_bl pa_nil)))) (pe_op op_mod (pv 0) pe_int) (fun _ _ => rfl))))))), ?_⟩
  walk_at "rd"
  have m5 := mod_in n (m := 5) (by decide)
  have m6 := mod_in (n / 5) (m := 6) (by decide)
  have m10 := mod_in (n / 5) (m := 10) (by decide)
  have m9 := mod_in (n / 5) (m := 9) (by decide)
  refine ⟨⟨by decide, by decide⟩, by decide, rfl, ?_⟩
  split
  · refine ⟨by decide, ⟨by decide, by decide, by decide⟩, by decide, ⟨by decide, by decide, by decide⟩, by decide, fun p np => ⟨by decide, ?_⟩⟩
    refine ix_any upd_same m6.1 m6.2 fun v hv => q v _ ?_ (same_new np _)
    simp only [List.mem_cons, List.not_mem_nil, or_false] at hv
    have e30 : (10 : Int) ^ Int.toNat 30 = 10 ^ 30 := by decide
    rcases hv with rfl | rfl | rfl | rfl | rfl | rfl <;> refine leaf_int _ ?_ <;> first | decide | omega | (rw [e30]; omega)
  · refine ⟨by decide, rfl, ?_⟩
    split
    · refine ⟨by decide, tilde_ok _, by decide, fun p np => ⟨by decide, ?_⟩⟩
      refine ix_any upd_same m6.1 m6.2 fun v hv => q v _ ?_ (same_new np _)
      simp only [List.mem_cons, List.not_mem_nil, or_false] at hv
      rcases hv with rfl | rfl | rfl | rfl | rfl | rfl
      · exact leaf_str _ (by decide +kernel) (by decide +kernel)
      · exact leaf_str _ (by decide +kernel) (by decide +kernel)
      · exact leaf_str _ (by decide +kernel) (by decide +kernel)
      · exact leaf_str _ (by decide +kernel) (by decide +kernel)
      · exact leaf_str _ (by decide +kernel) (by decide +kernel)
      · exact tilde_leaf _
    · refine ⟨by decide, fun p np => ⟨by decide, ?_⟩⟩
      refine ix_any upd_same m5.1 (by simp; omega) fun v hv => q v _ ?_ (same_new np _)
      simp only [List.mem_cons, List.not_mem_nil, or_false] at hv
      rcases hv with rfl | rfl | rfl
      · exact leaf_non
      · exact leaf_bl _
      · exact leaf_bl _
end

/-! ### _law_names -/
def stock9 : List Str := ["a", "b", "c", "x y", "1a", "_", "A_1", "", Txt.mul "q" 60]
theorem stock9_nd : stock9.Nodup := by decide +kernel
theorem stock9_ok : ∀ x ∈ stock9, NameOk x := by
  have h : ∀ x ∈ stock9, x.length ≤ 60 ∧ ∀ c ∈ x.cps.toList, c < 128 := by decide +kernel
  exact h
def sp_names : Sp := fun vs H Q _ => ∃ n : Int, vs = [.int n] ∧ 0 ≤ n ∧ ∀ (r : Addr) (H' : Hp) (xs : List Str), H r = none → Same H H' → H' r = some (.lst (xs.map V.str)) → xs.Nodup → xs.length ≤ 4 → (∀ x ∈ xs, NameOk x) → Q (.ref r) H'
abbrev s_law_names : Stmt := top 11
theorem sc_law_names : FnScope ["_law_n", "_law_stock", "_law_found", "_law_k"] ["_law_n"] (defScope s_law_names) := ⟨rfl, rfl, rfl, by decide +kernel, rfl, by decide +kernel, by decide +kernel⟩
section
variable {P : Program} {w : World} {K : PySem.W.Frag} {mg : Str → Option Value} {base : Heap} {f : Addr} {fd : FuncData}
theorem ok_names (D : Def K mg "_law_names" s_law_names f fd) (B : Blt mg) : FnOk P w K mg base CX0 1 f fd ["_law_n"] sp_names := by
  refine D.1.ok sc_law_names (fun vs H Q E h => ?_) (fun cdv A outer s H vs Q E hr h => ?_)
  · obtain ⟨n, rfl, _⟩ := h
    rfl
  obtain ⟨n, rfl, h0, q⟩ := h
  refine ⟨_, (pss_cons (ps_par (i := 1) (j := 2) (by rfl) sc_law_names.nd rfl rfl (by decide) rfl rfl (pa_cons (pe_lst (pa_cons pe_str (pa_cons pe_str (pa_cons pe_str (pa_cons pe_str (pa_cons pe_str (pa_cons pe_str (pa_cons pe_str (pa_cons pe_str (pa_cons (pe_op op_mul_str pe_str pe_int) pa_nil)))))))))) (pa_cons (pe_lst pa_nil) pa_nil)) (by rfl))
  (pss_cons (ps_for PassesOwn.never rfl (pi_range1 (by rfl) B.b_range (pa_cons (pe_op op_mod (pv 0) pe_int) pa_nil)) (pg_name (i := 3) sc_law_names.nd rfl (by first | exact Or.inl rfl | exact Or.inr rfl))
   (pss_cons (ps_set (i := 0) sc_law_names.nd rfl (by first | exact Or.inl rfl | exact Or.inr rfl) (pe_op op_add (pe_op op_add (pe_op op_fdiv (pv 0) pe_int) (pe_op op_mul pe_int (pv 0))) (pv 3)))
  (pss_one (ps_expr (pe_bm PySem.F.plainAttrs_list PySem.F.slot_list_append PySem.F.type_list_append mt_append (pv 2) (pa_cons (pe_bm PySem.F.plainAttrs_list PySem.F.slot_list_pop PySem.F.type_list_pop mt_popAt (pv 1) (pa_cons (pe_op op_mod (pv 0) (pe_callB (lenK (K := K) rfl) (by rfl) B.b_len (by decide +kernel) (pa_cons (pv 1) pa_nil))) pa_nil)) pa_nil))))))
  (pss_one (ps_ret (pv 2))))), ?_⟩
  walk_at "rd"
  have m5 := mod_in n (m := 5) (by decide)
  refine ⟨mul_ok (by decide +kernel) (by decide) (by decide), by decide, fun p np => ⟨by decide, fun r nr => ⟨by decide, by omega, by omega, ?_⟩⟩⟩
  have npr : p ≠ r := fun z => by subst z; rw [upd_same] at nr; cases nr
  have nr0 : H r = none := by rw [upd_ne npr.symm] at nr; exact nr
  refine fo_it walk_range (fun i σ' H' => Same H H' ∧ ∃ (m : Int) (st fo : List Str) (kv : Option V), 0 ≤ m ∧ σ' = [some (.int m), some (.ref p), some (.ref r), kv] ∧ H' p = some (.lst (st.map V.str)) ∧ H' r = some (.lst (fo.map V.str)) ∧ (fo ++ st).Perm stock9 ∧ fo.length = i)
    ⟨(same_new np _).trans (same_new nr _), n, stock9, [], none, h0, rfl, by rw [upd_ne npr, upd_same]; rfl, by rw [upd_same]; rfl, .refl _, rfl⟩ (fun _ _ _ _ _ => trivial) ?_ ?_
  · rintro i y σ' H1 H2 hi ⟨s1, m, st, fo, kv, hm, rfl, e1, e2, hpm, hf⟩ ⟨rfl, rfl⟩
    have hlen := hpm.length_eq
    rw [List.length_append, show stock9.length = 9 from rfl] at hlen
    walk_at "rd"
    refine ⟨⟨by decide, by decide⟩, .inl (by decide), .inl ⟨rfl, _, SqL.of e2⟩, .inl ⟨rfl, _, SqL.of e1⟩, _, .inl ⟨_, SqL.of e1, rfl⟩, by simp; omega, ?_⟩
    have hx := mod_in (m / 3 + 7 * m + (0 + (i : Int))) (m := ((st.map V.str).length : Int)) (by simp; omega)
    have hy : 0 ≤ m / 3 + 7 * m + (0 + (i : Int)) := by omega
    generalize (m / 3 + 7 * m + (0 + (i : Int))) % ((st.map V.str).length : Int) = u at hx ⊢
    obtain ⟨j, rfl⟩ : ∃ j : Nat, u = j := ⟨u.toNat, by omega⟩
    have hj : j < st.length := by have := hx.2; simp at this; exact this
    refine ⟨p, _, _, j, .str st[j], rfl, rfl, e1, by omega, by omega, seqIx (by simpa using hj), by rw [List.getElem?_map, List.getElem?_eq_getElem hj]; rfl, ?_⟩
    refine ⟨r, _, _, rfl, rfl, (by rw [upd_ne npr.symm]; exact e2), sz5l (by simp; omega), ?_⟩
    refine ⟨same_mut (same_mut s1 np) nr0, _, hy, rfl, st.eraseIdx j, by rw [upd_ne npr, upd_same, erase_map], fo ++ [st[j]], by rw [upd_same]; simp, ?_, by simp [hf]⟩
    have hp1 := erase_perm st j st[j] (List.getElem?_eq_getElem hj)
    rw [List.append_assoc]
    exact (hp1.append_left fo).trans hpm
  · rintro σ' H1 ⟨s1, m, st, fo, kv, hm, rfl, e1, e2, hpm, hf⟩
    walk_at "rd"
    have hnd := hpm.nodup_iff.mpr stock9_nd
    exact q r H1 fo nr0 s1 e2 (List.nodup_append.mp hnd).1 (by omega) fun x hx => stock9_ok x (hpm.mem_iff.mp (List.mem_append_left _ hx))
end

/-! ### _law_tree -/
def sp_tree (K : PySem.W.Frag) (n : Nat) : Sp := fun vs H Q _ => ∃ c sp lf ns k z deep, vs = [.ref c, .ref sp, .int deep, .ref lf] ∧ Scr K H c ns ∧ ns.length ≤ 63 ∧ H sp = some (.lst [.int k]) ∧ 0 ≤ k ∧ k + 5 ^ n < 2 ^ 60 ∧ H lf = some (.lst [.int z]) ∧ sp ≠ lf ∧ deep ≤ (n : Int) ∧ 1 ≤ n ∧
  ∀ v d H' k' z', Keep [sp, lf] H H' → H' sp = some (.lst [.int k']) → k ≤ k' → k' ≤ k + 5 ^ n → H' lf = some (.lst [.int z']) → (cnt d : Int) = z - z' → (z' = z - 1 ∨ -4 * (n : Int) ≤ z') → Ow n (news H H') v d → docD n d → Q v H'
/-- between two turns: the counters, all else as it was in Hx but at D -/
structure TrI (sp lf D : Addr) (Hx : Hp) (k P z : Int) (n i c : Nat) (H' : Hp) : Prop where
  kp : Keep [sp, lf, D] Hx H'
  ct : ∃ k' z', H' sp = some (.lst [.int k']) ∧ k ≤ k' ∧ k' ≤ k + i * P ∧ H' lf = some (.lst [.int z']) ∧ (c : Int) = z - z' ∧ -4 * (n : Int) - i ≤ z'
structure TrL (sp lf D : Addr) (Hx : Hp) (k P z : Int) (n i : Nat) (H' : Hp) : Prop where
  li : ∃ vs ds, TrI sp lf D Hx k P z n i (cntAll ds) H' ∧ H' D = some (.lst vs) ∧ vs.length = i ∧ (∃ cc, OwP (Ow n) (news Hx H') cc vs ds) ∧ ∀ d ∈ ds, docD n d
structure TrD (sp lf D : Addr) (Hx : Hp) (k P z : Int) (n i : Nat) (xs : List Str) (H' : Hp) : Prop where
  li : ∃ kvs es, TrI sp lf D Hx k P z n i (cntKv es) H' ∧ H' D = some (.dK kvs) ∧ kvs.map (·.1) = (xs.take i).map Sum.inr ∧ (∃ cc, OwP (fun g => KvR (Ow n g)) (news Hx H') cc kvs es) ∧ ∀ e ∈ es, (∃ x, e.1 = .str x ∧ NameOk x) ∧ docD n e.2
abbrev s_law_tree : Stmt := top 12
theorem sc_law_tree : FnScope ["_law_cells", "_law_spot", "_law_deep", "_law_left", "_law_n", "_law_found", "_law_label", "_law_k"] ["_law_cells", "_law_spot", "_law_deep", "_law_left"] (defScope s_law_tree) := ⟨rfl, rfl, rfl, by decide +kernel, rfl, by decide +kernel, by decide +kernel⟩
section
variable {P : Program} {w : World} {K : PySem.W.Frag} {mg : Str → Option Value} {base : Heap} {f : Addr} {fd : FuncData}
theorem ok_tree {n : Nat} (D : Def K mg "_law_tree" s_law_tree f fd) (B : Blt mg) (R_law_cell : Rdy P w K mg base 1 "_law_cell" ["_law_cells", "_law_spot"] (sp_cell K)) (R_law_leaf : Rdy P w K mg base 1 "_law_leaf" ["_law_n"] sp_leaf) (R_law_names : Rdy P w K mg base 1 "_law_names" ["_law_n"] sp_names)
    (R_law_tree : Rdy P w K mg base (n + 1) "_law_tree" ["_law_cells", "_law_spot", "_law_deep", "_law_left"] (sp_tree K n)) : FnOk P w K mg base CX0 (n + 2) f fd ["_law_cells", "_law_spot", "_law_deep", "_law_left"] (sp_tree K (n + 1)) := by
  refine D.1.ok sc_law_tree (fun vs H Q E h => ?_) (fun cdv A outer s H vs Q E hr h => ?_)
  · obtain ⟨c, sp, lf, ns, k, z, deep, rfl, _⟩ := h
    rfl
  obtain ⟨c, sp, lf, ns, k, z, deep, rfl, hs, h63, hp, h0, h1, hl, hne, hdp, _, q⟩ := h
  have hu := hu_of hr
  have hr1 : Room 1 _ := hr.mono (by omega)
  refine ⟨_, (pss_cons (ps_set (i := 4) sc_law_tree.nd rfl (by first | exact Or.inl rfl | exact Or.inr rfl) (pe_c R_law_cell hr1 rfl (pa_cons (pv 0) (pa_cons (pv 1) pa_nil))))
  (pss_cons (ps_asg (pe_op op_sub (pe_ix (ixLK (K := K) rfl) (pv 3) pe_int (fun _ _ => rfl)) pe_int) (pg_sub (pv 3) pe_int set_list))
  (pss_cons (ps_if (PW.pt (pw_or (pt_cmpR op_lt (pv 2) pe_int (nomark _)) (pw_or (pt_cmpR op_lt (pe_ix (ixLK (K := K) rfl) (pv 3) pe_int (fun _ _ => rfl)) pe_int (nomark _)) (pw_or1 (pt_cmpR op_lt (pe_op op_mod (pv 4) pe_int) pe_int (nomark _))))))
   (pss_one (ps_ret (pe_c R_law_leaf hr1 rfl (pa_cons (pe_op op_fdiv (pv 4) pe_int) pa_nil))))
   pss_nil)
  (pss_cons (ps_if (pt_cmpR op_lt (pe_op op_mod (pv 4) pe_int) pe_int (nomark _))
   (pss_one (ps_ret (pe_lc (own := [("_law_k", 7)]) (by rfl) sc_law_tree.nd (pi_range1 (by rfl) B.b_range (pa_cons (pe_op op_mod (pe_op op_fdiv (pv 4) pe_int) pe_int) pa_nil)) (blkOk_by (own := [("_law_k", 7)]) (N := ["_law_cells", "_law_spot", "_law_deep", "_law_left", "_law_n", "_law_found", "_law_label", "_law_k"]) (sc := defScope s_law_tree) (by decide +kernel)) (fun _ _ _ _ _ => (pg_name (i := 7) sc_law_tree.nd rfl (by first | exact Or.inl rfl | exact Or.inr rfl))) (fun _ _ _ _ _ => pts_nil) (fun _ _ _ _ _ => (pe_c R_law_tree hr rfl (pa_cons (pv 0) (pa_cons (pv 1) (pa_cons (pe_op op_sub (pv 2) pe_int) (pa_cons (pv 3) pa_nil)))))))))
   pss_nil)
  (pss_cons (ps_set (i := 5) sc_law_tree.nd rfl (by first | exact Or.inl rfl | exact Or.inr rfl) pe_dnewK)
  (pss_cons (ps_for PassesOwn.never rfl (pi_list (pe_c R_law_names hr1 rfl (pa_cons (pe_op op_fdiv (pv 4) pe_int) pa_nil))) (pg_name (i := 6) sc_law_tree.nd rfl (by first | exact Or.inl rfl | exact Or.inr rfl))
   (pss_one (ps_dput hu (pv 5) (pv 6) (pe_c R_law_tree hr rfl (pa_cons (pv 0) (pa_cons (pv 1) (pa_cons (pe_op op_sub (pv 2) pe_int) (pa_cons (pv 3) pa_nil))))) rfl)))
  (pss_one (ps_ret (pv 5))))))))), ?_⟩
  walk_at "rd"
  have h5 : (5 : Int) ^ (n + 1) = 5 ^ n * 5 := Int.pow_succ _ _
  have hP : (1 : Int) ≤ 5 ^ n := Int.pow_pos (by decide)
  refine ⟨c, sp, ns, k, rfl, hs, h63, hp, h0, by omega, fun m m0 m1 => ?_⟩
  have hl1 : (upd H sp (.lst [.int (k + 1)])) lf = some (.lst [.int z]) := by rw [upd_ne hne.symm]; exact hl
  refine ⟨lf, _, 0, _, rfl, rfl, SqL.of hl1, rfl, ?_⟩
  walk_at "rd"
  refine ⟨_, hl1, 0, rfl, ?_⟩
  walk_at "rd"
  obtain ⟨H2, eH2⟩ : ∃ H2, H2 = upd (upd H sp (.lst [.int (k + 1)])) lf (.lst [.int (z - 1)]) := ⟨_, rfl⟩
  rw [← eH2]
  have K2 : Keep [sp, lf] H H2 := by rw [eH2]; exact ((Keep.refl _ H).mut (by simp)).mut (by simp)
  have esp : H2 sp = some (.lst [.int (k + 1)]) := by rw [eH2, upd_ne hne, upd_same]
  have elf : H2 lf = some (.lst [.int (z - 1)]) := by rw [eH2, upd_same]
  have hs2 : Scr K H2 c ns := by rw [eH2]; exact (hs.put hp).put hl1
  clear eH2
  have leaf : sp_leaf [V.int (m / 9)] H2 Q E0 := ⟨m / 9, rfl, by omega, by omega, fun v H' ⟨d, hd, hv⟩ s => q v d H' (k + 1) (z - 1) (K2.trans (.of s)) (s _ _ esp) (by omega) (by omega) (s _ _ elf) (by rw [leaf_cnt hd]; omega) (.inl rfl) ((Ow.leaf hd (hv _)).up (by omega)) (docD.leaf hd n)⟩
  have inS : ∀ b ∈ [sp, lf], ∃ xs, H2 b = some (.lst xs) := fun b hb => by
    simp only [List.mem_cons, List.not_mem_nil, or_false] at hb
    rcases hb with rfl | rfl
    · exact ⟨_, esp⟩
    · exact ⟨_, elf⟩
  split
  · exact ⟨⟨by decide, by decide⟩, leaf⟩
  rename_i hdeep
  refine ⟨lf, _, 0, _, rfl, rfl, SqL.of elf, rfl, ?_⟩
  walk_at "rd"
  split
  · exact ⟨⟨by decide, by decide⟩, leaf⟩
  rename_i hleft
  refine ⟨by decide, ?_⟩
  split
  · exact ⟨⟨by decide, by decide⟩, leaf⟩
  refine ⟨by decide, ?_⟩
  split
  · -- a list
    have m4 := mod_in (m / 9) (m := 4) (by decide)
    refine ⟨⟨by decide, by decide⟩, by decide, by omega, by omega, ?_⟩
    have hr4 : (m / 9 % 4).toNat ≤ 4 := by omega
    generalize (m / 9 % 4).toNat = r at hr4 ⊢
    refine lc_itR walk_range (fun D i H' => TrL sp lf D (upd H2 D (.lst [])) (k + 1) (5 ^ n) (z - 1) n i H')
      (fun D hD => ⟨[], [], ⟨Keep.refl _ _, k + 1, z - 1, by rw [upd_ne (ne_of_none esp hD)]; exact esp, by omega, by omega, by rw [upd_ne (ne_of_none elf hD)]; exact elf, by simp [cntAll], by omega⟩, upd_same, rfl, ⟨fun _ => 0, OwP.nil⟩, by simp⟩) (fun _ _ _ _ _ _ => trivial) ?_ ?_
    · rintro D i x H0 H' hD hi ⟨vs, ds, ⟨K', k', z', e1, l1, l2, e2, c1, c2⟩, e3, hlen, ⟨cc, hpd⟩, hdd⟩ ⟨rfl, rfl⟩
      have hiP : (i : Int) * 5 ^ n ≤ 3 * 5 ^ n := Int.mul_le_mul_of_nonneg_right (by omega) (by omega)
      have hi1 : ((i + 1 : Nat) : Int) * 5 ^ n = i * 5 ^ n + 5 ^ n := by rw [Int.natCast_add, Int.add_mul]; simp
      have nsp : D ≠ sp := fun z => by rw [z, esp] at hD; cases hD
      have nlf : D ≠ lf := fun z => by rw [z, elf] at hD; cases hD
      have hx : ∀ a ∈ [sp, lf, D], (upd H2 D (.lst [])) a ≠ none := by simp [upd_same, upd_ne nsp.symm, upd_ne nlf.symm, esp, elf]
      have hx' : ∀ a ∈ [sp, lf, D], H' a ≠ none := by simp [e1, e2, e3]
      walk_at "rd"
      refine ⟨c, sp, lf, ns, k', z', deep - 1, rfl, (hs2.same (same_new hD _)).keep K' (by simp [upd_same, upd_ne nsp.symm, upd_ne nlf.symm, esp, elf]), h63, e1, by omega, by omega, e2, hne, by omega, by omega, fun v d H4 k4 z4 K4 s4 a4 b4 f4 g4 h4 r4 d4 => ?_⟩
      have K4' : Keep [sp, lf, D] H' H4 := K4.sub (by simp)
      refine ⟨vs, K4 _ _ e3 (by simp [nsp, nlf]), sz5l (by omega), ?_⟩
      refine ⟨vs ++ [v], ds ++ [d], ⟨(K'.trans K4').mut (by simp), k4, z4, by rw [upd_ne nsp.symm]; exact s4, by omega, by omega, by rw [upd_ne nlf.symm]; exact f4, by simp [cntAll_app, cntAll]; omega, by omega⟩, upd_same, by simp [hlen], OwP.snoc (F := Ow n) (fun _ _ _ _ s q => Ow.imp s q) K' K4' hx hx' (by simp) hpd r4, ?_⟩
      intro e he
      rcases List.mem_append.mp he with he | he
      · exact hdd e he
      · simp at he; subst he; exact d4
    · rintro D H' hD ⟨vs, ds, ⟨K', k', z', e1, l1, l2, e2, c1, c2⟩, e3, hlen, ⟨cc, hpd⟩, hdd⟩
      have hiP : (r : Int) * 5 ^ n ≤ 4 * 5 ^ n := Int.mul_le_mul_of_nonneg_right (by omega) (by omega)
      have nsp : D ≠ sp := fun z => by rw [z, esp] at hD; cases hD
      have nlf : D ≠ lf := fun z => by rw [z, elf] at hD; cases hD
      have hDH : H D = none := K2.free hD (by simp [nsp, nlf])
      have hnew : Same (news (upd H2 D (.lst [])) H') (news H H') := news_more (K2.new hD) (by simp [upd_ne nsp.symm, upd_ne nlf.symm, esp, elf])
      refine q (.ref D) (.list ds) H' k' z' (fun b o e hb => ?_) e1 (by omega) (by omega) e2 (by simp only [cnt]; omega) (.inr (by omega)) (Ow.mkL hDH (by simp [upd_same]) hnew e3 (by omega) hpd) ⟨by rw [← hpd.1]; omega, hdd⟩
      have hbD : b ≠ D := ne_of_none e hDH
      simp only [List.mem_cons, List.not_mem_nil, or_false, not_or] at hb
      refine K' b o ?_ (by simp [hb, hbD])
      rw [upd_ne hbD]
      exact K2 b o e (by simp [hb])
  · -- a dict
    intro p hp2
    refine ⟨⟨by decide, by decide⟩, m / 9, rfl, by omega, fun a Hx xs na sx ea hnd hl4 hnm => ⟨a, rfl, ⟨_, SqL.of ea⟩, ?_⟩⟩
    have nsp : p ≠ sp := fun z => by rw [z, esp] at hp2; cases hp2
    have nlf : p ≠ lf := fun z => by rw [z, elf] at hp2; cases hp2
    have hpH : H p = none := K2.free hp2 (by simp [nsp, nlf])
    have s2 : Same H2 Hx := (same_new hp2 _).trans sx
    have exp : Hx p = some (.dK []) := sx _ _ upd_same
    have exs := s2 _ _ esp
    have exl := s2 _ _ elf
    have hx : ∀ a ∈ [sp, lf, p], Hx a ≠ none := by simp [exp, exs, exl]
    have nap : a ∉ [sp, lf, p] := by
      have h1 : a ≠ sp := fun z => by subst z; rw [upd_ne nsp.symm, esp] at na; cases na
      have h2 : a ≠ lf := fun z => by subst z; rw [upd_ne nlf.symm, elf] at na; cases na
      have h3 : a ≠ p := fun z => by subst z; rw [upd_same] at na; cases na
      simp [h1, h2, h3]
    refine fo_it walk_list (fun i σ' H' => TrD sp lf p Hx (k + 1) (5 ^ n) (z - 1) n i xs H' ∧ ∃ lv, σ' = [some (V.ref c), some (V.ref sp), some (V.int deep), some (V.ref lf), some (V.int m), some (V.ref p), lv, none])
      ⟨⟨[], [], ⟨Keep.refl _ _, k + 1, z - 1, exs, by omega, by omega, exl, by simp [cntKv], by omega⟩, exp, by simp, ⟨fun _ => 0, OwP.nil⟩, by simp⟩, none, rfl⟩ (fun i σ' H' _ ⟨⟨_, _, h, _⟩, _⟩ => SqL.of (h.kp _ _ ea nap)) ?_ ?_
    · rintro i x σ' H0 H' hi ⟨⟨kvs, es, ⟨K', k', z', e1, l1, l2, e2, c1, c2⟩, e3, hkeys, ⟨cc, hpd⟩, hdd⟩, lv, rfl⟩ ⟨rfl, hxi⟩
      rw [List.length_map] at hi
      rw [List.getElem?_map, List.getElem?_eq_getElem hi] at hxi
      cases hxi
      have hiP : (i : Int) * 5 ^ n ≤ 3 * 5 ^ n := Int.mul_le_mul_of_nonneg_right (by omega) (by omega)
      have hi1 : ((i + 1 : Nat) : Int) * 5 ^ n = i * 5 ^ n + 5 ^ n := by rw [Int.natCast_add, Int.add_mul]; simp
      have hx' : ∀ a ∈ [sp, lf, p], H' a ≠ none := by simp [e1, e2, e3]
      have hkl : kvs.length = i := by
        have := congrArg List.length hkeys
        simp at this
        omega
      walk_at "rd"
      refine ⟨c, sp, lf, ns, k', z', deep - 1, rfl, (hs2.same s2).keep K' (by simp [exp, exs, exl]), h63, e1, by omega, by omega, e2, hne, by omega, by omega, fun v d H4 k4 z4 K4 s4 a4 b4 f4 g4 h4 r4 d4 => ?_⟩
      have K4' : Keep [sp, lf, p] H' H4 := K4.sub (by simp)
      have hnew : (Sum.inr xs[i] : Key) ∉ kvs.map (·.1) := by
        rw [hkeys]
        intro hm
        obtain ⟨y, hy, e⟩ := List.mem_map.mp hm
        cases e
        exact nd_take hnd hi hy
      refine ⟨_, DPut.k (k := Sum.inr xs[i]) (K4 _ _ e3 (by simp [nsp, nlf])) (sz5l (by omega)), ?_⟩
      rw [putK_new v (valV_no hnew)]
      refine ⟨kvs ++ [(Sum.inr xs[i], v)], es ++ [(.str xs[i], d)], ⟨(K'.trans K4').mut (by simp), k4, z4, by rw [upd_ne nsp.symm]; exact s4, by omega, by omega, by rw [upd_ne nlf.symm]; exact f4, by simp [cntKv_app, cntKv]; omega, by omega⟩, upd_same, ?_, OwP.snoc (F := fun g => KvR (Ow n g)) (fun _ _ _ _ s q => ⟨q.1, Ow.imp s q.2⟩) K' K4' hx hx' (by simp) hpd ⟨rfl, r4⟩, ?_⟩
      · rw [List.map_append, hkeys, List.take_succ, List.getElem?_eq_getElem hi, List.map_append]
        rfl
      · intro e he
        rcases List.mem_append.mp he with he | he
        · exact hdd e he
        · simp at he; subst he; exact ⟨⟨_, rfl, hnm _ (List.getElem_mem hi)⟩, d4⟩
    · rintro σ' H' ⟨⟨kvs, es, ⟨K', k', z', e1, l1, l2, e2, c1, c2⟩, e3, hkeys, ⟨cc, hpd⟩, hdd⟩, lv, rfl⟩
      walk_at "rd"
      have hkl : kvs.length = xs.length := by
        have := congrArg List.length hkeys
        simp at this
        omega
      rw [List.length_map] at l2 hkeys c2
      rw [List.take_length] at hkeys
      have hiP : (xs.length : Int) * 5 ^ n ≤ 4 * 5 ^ n := Int.mul_le_mul_of_nonneg_right (by omega) (by omega)
      have hnew : Same (news Hx H') (news H H') := news_more (K2.trans (.of s2)) (by simp [exs, exl])
      refine q (.ref p) (.dict es) H' k' z' (fun b o e hb => ?_) e1 (by omega) (by omega) e2 (by simp only [cnt]; omega) (.inr (by omega)) (Ow.mkD hpH (by simp [exp]) hnew e3 (by omega) ?_ hpd) ⟨by rw [← hpd.1]; omega, hdd⟩
      · have hbp : b ≠ p := ne_of_none e hpH
        simp only [List.mem_cons, List.not_mem_nil, or_false, not_or] at hb
        exact K' b o (s2 _ _ (K2 b o e (by simp [hb]))) (by simp [hb, hbp])
      · rw [hkeys]
        exact nd_inr hnd
/-- with no turn left nothing can be asked -/
theorem tree0 : FnOk P w K mg base CX0 1 f fd ["_law_cells", "_law_spot", "_law_deep", "_law_left"] (sp_tree K 0) := by
  have no : ∀ vs H Q E, ¬ sp_tree K 0 vs H Q E := by
    rintro vs H Q E ⟨c, sp, lf, ns, k, z, deep, _, _, _, _, _, _, _, _, _, h, _⟩
    omega
  exact ⟨fun vs H Q E h => absurd h (no vs H Q E), fun A outer s H args us vs Q E _ _ _ _ h => absurd h (no vs H Q E)⟩
theorem ok_trees (D : Def K mg "_law_tree" s_law_tree f fd) (B : Blt mg) (R_law_cell : Rdy P w K mg base 1 "_law_cell" ["_law_cells", "_law_spot"] (sp_cell K)) (R_law_leaf : Rdy P w K mg base 1 "_law_leaf" ["_law_n"] sp_leaf) (R_law_names : Rdy P w K mg base 1 "_law_names" ["_law_n"] sp_names) :
    ∀ n : Nat, FnOk P w K mg base CX0 (n + 1) f fd ["_law_cells", "_law_spot", "_law_deep", "_law_left"] (sp_tree K n)
  | 0 => tree0
  | n + 1 => ok_tree D B R_law_cell R_law_leaf R_law_names (D.rdy (fun _ _ _ _ _ _ us hl => match us, hl with | [_, _, _, _], _ => rfl) (ok_trees D B R_law_cell R_law_leaf R_law_names n))
end

/-! ### is_integer -/
def sp_isint : Sp := fun vs H Q _ => ∃ n v d, vs = [v] ∧ Rp H n v d ∧ Q (.bl (isIntD d)) H
abbrev s_is_integer : Stmt := top 4
theorem sc_is_integer : FnScope ["value"] ["value"] (defScope s_is_integer) := ⟨rfl, rfl, rfl, by decide +kernel, rfl, by decide +kernel, by decide +kernel⟩
section
variable {P : Program} {w : World} {K : PySem.W.Frag} {mg : Str → Option Value} {base : Heap} {f : Addr} {fd : FuncData}
theorem ok_isint (D : Def K mg "is_integer" s_is_integer f fd) (B : Blt mg) : FnOk P w K mg base CX0 1 f fd ["value"] sp_isint := by
  refine D.1.ok sc_is_integer (fun vs H Q E h => ?_) (fun cdv A outer s H vs Q E hr h => ?_)
  · obtain ⟨n, v, d, rfl, _⟩ := h
    rfl
  obtain ⟨n, v, d, rfl, hd, q⟩ := h
  refine ⟨_, (pss_one (ps_ret (pe_and (pe_callB (isiK (K := K) rfl) (by rfl) B.b_isinstance (by decide +kernel) (pa_cons (pv 0) (pa_cons (pe_bltn (v := .ty "int") (by rfl) B.b_int (by decide +kernel) rfl) pa_nil))) (pe_one (pe_not (pe_callB (isiK (K := K) rfl) (by rfl) B.b_isinstance (by decide +kernel) (pa_cons (pv 0) (pa_cons (pe_bltn (v := .ty "bool") (by rfl) B.b_bool (by decide +kernel) rfl) pa_nil)))))))), ?_⟩
  walk_at "rd"
  refine isi1 .int hd ⟨_, rfl, ite2 (fun h1 => isi1 .bool hd ⟨_, rfl, ?_⟩) fun h1 => ?_⟩
  · cases d <;> first | exact q | cases h1
  · cases d <;> first | exact q | exact absurd rfl h1
end

/-! ### copied -/
def sp_copied (n : Nat) : Sp := fun vs H Q _ => ∃ v d, vs = [v] ∧ Re H n v d ∧ docD n d ∧ ∀ v' H', Same H H' → Ow n (news H H') v' d → Q v' H'
structure CoL (H : Hp) (D : Addr) (a : List PyData) (n i : Nat) (H' : Hp) : Prop where
  li : ∃ vs' c, Keep [D] (upd H D (.lst [])) H' ∧ H' D = some (.lst vs') ∧ vs'.length = i ∧ OwP (Ow n) (news (upd H D (.lst [])) H') c vs' (a.take i)
structure CoD (H : Hp) (D : Addr) (xs : List (Key × V)) (a : List (PyData × PyData)) (n i : Nat) (H' : Hp) : Prop where
  li : ∃ kvs' c, Keep [D] (upd H D (.dK [])) H' ∧ H' D = some (.dK kvs') ∧ kvs'.map (·.1) = (xs.take i).map (·.1) ∧ OwP (fun g => KvR (Ow n g)) (news (upd H D (.dK [])) H') c kvs' (a.take i)
abbrev s_copied : Stmt := top 6
theorem sc_copied : FnScope ["document", "part", "name"] ["document"] (defScope s_copied) := ⟨rfl, rfl, rfl, by decide +kernel, rfl, by decide +kernel, by decide +kernel⟩
section
variable {P : Program} {w : World} {K : PySem.W.Frag} {mg : Str → Option Value} {base : Heap} {f : Addr} {fd : FuncData}
theorem ok_copied {n : Nat} (D : Def K mg "copied" s_copied f fd) (B : Blt mg) (R_copied : Rdy P w K mg base (n + 1) "copied" ["document"] (sp_copied n)) : FnOk P w K mg base CX0 (n + 2) f fd ["document"] (sp_copied (n + 1)) := by
  refine D.1.ok sc_copied (fun vs H Q E h => ?_) (fun cdv A outer s H vs Q E hr h => ?_)
  · obtain ⟨v, d, rfl, _⟩ := h
    rfl
  obtain ⟨v, d, rfl, hd, dd, q⟩ := h
  have hu := hu_of hr
  refine ⟨_, (pss_cons (ps_if (pt_val (pe_callB (isiK (K := K) rfl) (by rfl) B.b_isinstance (by decide +kernel) (pa_cons (pv 0) (pa_cons (pe_bltn (v := .ty "list") (by rfl) B.b_list (by decide +kernel) rfl) pa_nil))))
   (pss_one (ps_ret (pe_lc (own := [("part", 1)]) (by rfl) sc_copied.nd (pi_list (pv 0)) (blkOk_by (own := [("part", 1)]) (N := ["document", "part", "name"]) (sc := defScope s_copied) (by decide +kernel)) (fun _ _ _ _ _ => (pg_name (i := 1) sc_copied.nd rfl (by first | exact Or.inl rfl | exact Or.inr rfl))) (fun _ _ _ _ _ => pts_nil) (fun _ _ _ _ _ => (pe_c R_copied hr rfl (pa_cons (pv 1) pa_nil))))))
   pss_nil)
  (pss_cons (ps_if (pt_val (pe_callB (isiK (K := K) rfl) (by rfl) B.b_isinstance (by decide +kernel) (pa_cons (pv 0) (pa_cons (pe_bltn (v := .ty "dict") (by rfl) B.b_dict (by decide +kernel) rfl) pa_nil))))
   (pss_one (ps_ret (pe_lock (pe_dc (own := [("name", 2)]) (by rfl) sc_copied.nd (pi_keys (pv 0)) (blkOk_by (own := [("name", 2)]) (N := ["document", "part", "name"]) (sc := defScope s_copied) (by decide +kernel)) (fun _ _ _ _ _ => (pg_name (i := 2) sc_copied.nd rfl (by first | exact Or.inl rfl | exact Or.inr rfl))) (fun _ _ _ _ _ => pts_nil) (fun _ _ _ _ _ => (pv 2)) (fun _ _ _ _ _ => (pe_c R_copied hr rfl (pa_cons (pe_dget hu (pv 0) (pv 2) (fun _ _ => rfl)) pa_nil)))))))
   pss_nil)
  (pss_one (ps_ret (pv 0))))), ?_⟩
  walk_at "rd"
  refine isi1 .list hd.rp ⟨_, rfl, ite2 (fun h1 => ?_) fun h1 => isi1 .dict hd.rp ⟨_, rfl, ite2 (fun h2 => ?_) fun h2 => ?_⟩⟩
  · obtain ⟨a, rfl⟩ : ∃ a, d = .list a := by cases d <;> first | exact ⟨_, rfl⟩ | cases h1
    obtain ⟨p1, xs, rfl, ha, hb, hp⟩ := id hd
    have hla : a.length ≤ 10 := dd.1
    refine ⟨p1, rfl, ⟨_, SqL.of ha⟩, ?_⟩
    refine lc_itR walk_list (fun D i H' => CoL H D a n i H')
      (fun D hD => ⟨⟨[], fun _ => 0, Keep.refl _ _, upd_same, rfl, OwP.nil⟩⟩) (fun D i H' hD _ ⟨⟨_, _, s, _⟩⟩ => SqL.of (s _ _ ((same_new hD _) _ _ ha) (by simp [ne_of_none ha hD]))) ?_ ?_
    · rintro D i x H1 H2 hD hi ⟨⟨vs', c, k2, e, hl, hpd⟩⟩ ⟨rfl, hx⟩
      obtain ⟨di, hdi, hr'⟩ := pd_get hp hx
      have sH : Same H H2 := fun b o eb => k2 b o ((same_new hD _) _ _ eb) (by simp [ne_of_none eb hD])
      have hil : i < a.length := (List.getElem?_eq_some_iff.mp hdi).1
      walk_at "rd"
      refine ⟨x, di, rfl, hr'.imp sH, dd.2 _ (List.mem_of_getElem? hdi), fun v' H4 s4 r4 => ?_⟩
      refine ⟨vs', s4 _ _ e, sz5l (by omega), ?_⟩
      obtain ⟨c', hc'⟩ := OwP.snoc (F := Ow n) (D := D) (o := .lst (vs' ++ [v'])) (S := [D]) (fun _ _ _ _ s q => Ow.imp s q) k2 (.of s4) (by simp [upd_same]) (by simp [e]) (by simp) hpd r4
      refine ⟨⟨_, c', (k2.trans (.of s4)).mut (by simp), upd_same, by simp [hl], ?_⟩⟩
      rw [List.take_succ, hdi]
      exact hc'
    · rintro D H' hD ⟨⟨vs', c, k2, e, hl, hpd⟩⟩
      have sH : Same H H' := fun b o eb => k2 b o ((same_new hD _) _ _ eb) (by simp [ne_of_none eb hD])
      rw [List.take_of_length_le (by rw [← pd_len hp]; exact Nat.le_refl _)] at hpd
      exact q (.ref D) H' sH (Ow.mkL hD (by simp [upd_same]) (news_more (S := []) (Keep.of (same_new hD _)) (by simp)) e (by omega) hpd)
  · obtain ⟨a, rfl⟩ : ∃ a, d = .dict a := by cases d <;> first | exact ⟨_, rfl⟩ | cases h2
    obtain ⟨p1, xs, rfl, ha, hb, hn, hp⟩ := id hd
    have hla : a.length ≤ 10 := dd.1
    have hxa := pd_len hp
    refine ⟨p1, .dK xs, ha, trivial, fun od => ?_⟩
    rw [tDc_eq]
    obtain ⟨HL, eHL⟩ : ∃ HL, HL = upd H p1 (.frz od (.dK xs)) := ⟨_, rfl⟩
    rw [← eHL]
    have e1 : HL p1 = some (.frz od (.dK xs)) := by rw [eHL, upd_same]
    have sdel : Same (SC.del H p1) HL := fun b o e => by
      have hb : b ≠ p1 := fun z => by rw [z, SC.del_at] at e; cases e
      rw [eHL, upd_ne hb]
      exact del_sub _ _ _ _ e
    refine ⟨_, rfl, p1, od, rfl, .inl ⟨xs, e1, ?_⟩⟩
    refine dc_itR walk_keys (fun D i H' => CoD HL D xs a n i H') (fun D hD => ⟨⟨[], fun _ => 0, Keep.refl _ _, upd_same, by simp, OwP.nil⟩⟩) (fun D i H' hD _ ⟨⟨_, _, s, _⟩⟩ => s _ _ ((same_new hD _) _ _ e1) (by simp [ne_of_none e1 hD])) ?_ ?_
    · rintro D i x H1 H2 hD hi ⟨⟨kvs', c, k2, e, hk2, hpd⟩⟩ ⟨rfl, k, u, hku, rfl⟩
      obtain ⟨ei, hei, hkv, hru⟩ := pd_get hp hku
      have sH : Same HL H2 := fun b o eb => k2 b o ((same_new hD _) _ _ eb) (by simp [ne_of_none eb hD])
      have hil : i < xs.length := hi
      have hm : ei ∈ a := List.mem_of_getElem? hei
      have hkl : kvs'.length = i := by
        have := congrArg List.length hk2
        simp at this
        omega
      walk_at "rd"
      refine ⟨u, .inl ⟨xs, k, .inr ⟨od, sH _ _ e1⟩, rfl, (valV_at hn hku).symm⟩, u, ei.2, rfl, (Re.part hd (size_kv hm) hru).imp (sdel.trans sH), (dd.2 _ hm).2, fun v' H4 s4 r4 => ?_⟩
      have hnew : k ∉ kvs'.map (·.1) := by
        rw [hk2]
        intro hmm
        rw [List.map_take] at hmm
        have := nd_take hn (by simpa using hil)
        rw [List.getElem_map, (List.getElem?_eq_some_iff.mp hku).2] at this
        exact this hmm
      refine ⟨kvs', k, rfl, s4 _ _ e, sz5l (by omega), ?_⟩
      rw [putK_new v' (valV_no hnew)]
      obtain ⟨c', hc'⟩ := OwP.snoc (F := fun g => KvR (Ow n g)) (D := D) (o := .dK (kvs' ++ [(k, v')])) (S := [D]) (x := (k, v')) (d := ei) (fun _ _ _ _ s q => ⟨q.1, Ow.imp s q.2⟩) k2 (.of s4) (by simp [upd_same]) (by simp [e]) (by simp) hpd ⟨hkv, r4⟩
      refine ⟨⟨_, c', (k2.trans (.of s4)).mut (by simp), upd_same, ?_, ?_⟩⟩
      · rw [List.map_append, hk2, List.take_succ, hku, List.map_append]
        rfl
      · rw [List.take_succ, hei]
        exact hc'
    · rintro D H' hD ⟨⟨kvs', c, k2, e, hk2, hpd⟩⟩
      have sH : Same HL H' := fun b o eb => k2 b o ((same_new hD _) _ _ eb) (by simp [ne_of_none eb hD])
      have hDp : D ≠ p1 := fun z => by rw [z, e1] at hD; cases hD
      have hDH : H D = none := by rw [eHL, upd_ne hDp] at hD; exact hD
      have hkl : kvs'.length = xs.length := by
        have := congrArg List.length hk2
        simp at this
        omega
      refine ⟨sH _ _ e1, q (.ref D) _ (same_lock ha (by rw [eHL] at sH; exact sH)) ?_⟩
      rw [List.take_of_length_le (by omega)] at hpd
      rw [List.take_of_length_le (Nat.le_refl _)] at hk2
      have hx1 : upd HL D (.dK []) p1 ≠ none := by rw [upd_ne hDp.symm, e1]; simp
      rw [← news_upd (o := .dK xs) hx1] at hpd
      refine Ow.mkD hDH (by simp [upd_same]) (fun b o eb => ?_) (by rw [upd_ne hDp]; exact e) (by omega) (by rw [hk2]; exact hn) hpd
      have hb : upd HL D (.dK []) b = none := by
        cases e9 : upd HL D (.dK []) b with
        | none => rfl
        | some z => rw [news_no e9] at eb; cases eb
      rw [news_at hb] at eb
      have hbD : b ≠ D := fun z => by rw [z, upd_same] at hb; cases hb
      rw [upd_ne hbD] at hb
      have hbp : b ≠ p1 := fun z => by rw [z, e1] at hb; cases hb
      rw [eHL, upd_ne hbp] at hb
      rw [news_at hb]
      exact eb
  · have hl : leafD d := by cases d <;> first | exact dd | cases h1 rfl | cases h2 rfl
    exact q v H (Same.refl _) (Ow.leaf hl (by cases d <;> first | exact hd | exact hl.elim))
end

/-! ### _law_clone -/
structure CoX (Hx : Hp) (D : Addr) (xs : List (Key × V)) (a : List (PyData × PyData)) (n i : Nat) (H' : Hp) : Prop where
  li : ∃ kvs' c, Keep [D] Hx H' ∧ H' D = some (.dK kvs') ∧ kvs'.map (·.1) = (xs.take i).map (·.1) ∧ OwP (fun g => KvR (Ow n g)) (news Hx H') c kvs' (a.take i)
structure FiI (Hl G : Hp) (c : Addr → Nat) (p1 : Addr) (i : Nat) (H' : Hp) : Prop where
  li : ∀ b o, Hl b = some o → (G b = none ∨ b = p1 ∨ i ≤ c b) → H' b = some o
abbrev s_law_clone : Stmt := top 14
theorem sc_law_clone : FnScope ["_law_tree_here", "_law_found", "_law_label", "_law_part"] ["_law_tree_here"] (defScope s_law_clone) := ⟨rfl, rfl, rfl, by decide +kernel, rfl, by decide +kernel, by decide +kernel⟩
abbrev s_law_filled : Stmt := top 15
theorem sc_law_filled : FnScope ["_law_tree_here", "_law_part", "_law_label"] ["_law_tree_here"] (defScope s_law_filled) := ⟨rfl, rfl, rfl, by decide +kernel, rfl, by decide +kernel, by decide +kernel⟩
abbrev s_law_routes : Stmt := top 16
theorem sc_law_routes : FnScope ["_law_tree_here", "_law_found", "_law_rows", "_law_key", "_law_part", "_law_label", "_law_route"] ["_law_tree_here"] (defScope s_law_routes) := ⟨rfl, rfl, rfl, by decide +kernel, rfl, by decide +kernel, by decide +kernel⟩
abbrev s_has_step : Stmt := top 5
theorem sc_has_step : FnScope ["document", "step"] ["document", "step"] (defScope s_has_step) := ⟨rfl, rfl, rfl, by decide +kernel, rfl, by decide +kernel, by decide +kernel⟩
abbrev s_part_at : Stmt := top 7
theorem sc_part_at : FnScope ["document", "path", "part", "step"] ["document", "path"] (defScope s_part_at) := ⟨rfl, rfl, rfl, by decide +kernel, rfl, by decide +kernel, by decide +kernel⟩
abbrev s_law : Stmt := top 17
theorem sc_law : FnScope ["_law_script", "_law_spot", "_law_turn", "_law_n", "_law_m", "_law_tree_here", "_law_kept", "_law_routes_here", "_law_twin", "_law_other", "_law_part", "_law_again", "_law_own"] ["_law_script"] (defScope s_law) := ⟨rfl, rfl, rfl, by decide +kernel, rfl, by decide +kernel, by decide +kernel⟩
section
variable {P : Program} {w : World} {K : PySem.W.Frag} {mg : Str → Option Value} {base : Heap} {f : Addr} {fd : FuncData}
theorem ok_clone {n : Nat} (D : Def K mg "_law_clone" s_law_clone f fd) (B : Blt mg) (R_law_clone : Rdy P w K mg base (n + 1) "_law_clone" ["_law_tree_here"] (sp_copied n)) : FnOk P w K mg base CX0 (n + 2) f fd ["_law_tree_here"] (sp_copied (n + 1)) := by
  refine D.1.ok sc_law_clone (fun vs H Q E h => ?_) (fun cdv A outer s H vs Q E hr h => ?_)
  · obtain ⟨v, d, rfl, _⟩ := h
    rfl
  obtain ⟨v, d, rfl, hd, dd, q⟩ := h
  have hu := hu_of hr
  refine ⟨_, (pss_cons (ps_if (pt_val (pe_callB (isiK (K := K) rfl) (by rfl) B.b_isinstance (by decide +kernel) (pa_cons (pv 0) (pa_cons (pe_bltn (v := .ty "list") (by rfl) B.b_list (by decide +kernel) rfl) pa_nil))))
   (pss_one (ps_ret (pe_lc (own := [("_law_part", 3)]) (by rfl) sc_law_clone.nd (pi_list (pv 0)) (blkOk_by (own := [("_law_part", 3)]) (N := ["_law_tree_here", "_law_found", "_law_label", "_law_part"]) (sc := defScope s_law_clone) (by decide +kernel)) (fun _ _ _ _ _ => (pg_name (i := 3) sc_law_clone.nd rfl (by first | exact Or.inl rfl | exact Or.inr rfl))) (fun _ _ _ _ _ => pts_nil) (fun _ _ _ _ _ => (pe_c R_law_clone hr rfl (pa_cons (pv 3) pa_nil))))))
   pss_nil)
  (pss_cons (ps_if (pt_val (pe_callB (isiK (K := K) rfl) (by rfl) B.b_isinstance (by decide +kernel) (pa_cons (pv 0) (pa_cons (pe_bltn (v := .ty "dict") (by rfl) B.b_dict (by decide +kernel) rfl) pa_nil))))
   (pss_cons (ps_set (i := 1) sc_law_clone.nd rfl (by first | exact Or.inl rfl | exact Or.inr rfl) pe_dnewK)
  (pss_cons (ps_lock (ps_for PassesOwn.never rfl (pi_keys (pv 0)) (pg_name (i := 2) sc_law_clone.nd rfl (by first | exact Or.inl rfl | exact Or.inr rfl))
   (pss_one (ps_dput hu (pv 1) (pv 2) (pe_c R_law_clone hr rfl (pa_cons (pe_dget hu (pv 0) (pv 2) (fun _ _ => rfl)) pa_nil)) rfl))))
  (pss_one (ps_ret (pv 1)))))
   pss_nil)
  (pss_one (ps_ret (pv 0))))), ?_⟩
  walk_at "rd"
  refine isi1 .list hd.rp ⟨_, rfl, ite2 (fun h1 => ?_) fun h1 => isi1 .dict hd.rp ⟨_, rfl, ite2 (fun h2 => ?_) fun h2 => ?_⟩⟩
  · obtain ⟨a, rfl⟩ : ∃ a, d = .list a := by cases d <;> first | exact ⟨_, rfl⟩ | cases h1
    obtain ⟨p1, xs, rfl, ha, hb, hp⟩ := id hd
    have hla : a.length ≤ 10 := dd.1
    refine ⟨p1, rfl, ⟨_, SqL.of ha⟩, ?_⟩
    refine lc_itR walk_list (fun D i H' => CoL H D a n i H') (fun D hD => ⟨⟨[], fun _ => 0, Keep.refl _ _, upd_same, rfl, OwP.nil⟩⟩) (fun D i H' hD _ ⟨⟨_, _, s, _⟩⟩ => SqL.of (s _ _ ((same_new hD _) _ _ ha) (by simp [ne_of_none ha hD]))) ?_ ?_
    · rintro D i x H1 H2 hD hi ⟨⟨vs', c, k2, e, hl, hpd⟩⟩ ⟨rfl, hx⟩
      obtain ⟨di, hdi, hr'⟩ := pd_get hp hx
      have sH : Same H H2 := fun b o eb => k2 b o ((same_new hD _) _ _ eb) (by simp [ne_of_none eb hD])
      have hil : i < a.length := (List.getElem?_eq_some_iff.mp hdi).1
      walk_at "rd"
      refine ⟨x, di, rfl, hr'.imp sH, dd.2 _ (List.mem_of_getElem? hdi), fun v' H4 s4 r4 => ?_⟩
      refine ⟨vs', s4 _ _ e, sz5l (by omega), ?_⟩
      obtain ⟨c', hc'⟩ := OwP.snoc (F := Ow n) (D := D) (o := .lst (vs' ++ [v'])) (S := [D]) (fun _ _ _ _ s q => Ow.imp s q) k2 (.of s4) (by simp [upd_same]) (by simp [e]) (by simp) hpd r4
      refine ⟨⟨_, c', (k2.trans (.of s4)).mut (by simp), upd_same, by simp [hl], ?_⟩⟩
      rw [List.take_succ, hdi]
      exact hc'
    · rintro D H' hD ⟨⟨vs', c, k2, e, hl, hpd⟩⟩
      have sH : Same H H' := fun b o eb => k2 b o ((same_new hD _) _ _ eb) (by simp [ne_of_none eb hD])
      rw [List.take_of_length_le (by rw [← pd_len hp]; exact Nat.le_refl _)] at hpd
      exact q (.ref D) H' sH (Ow.mkL hD (by simp [upd_same]) (news_more (S := []) (Keep.of (same_new hD _)) (by simp)) e (by omega) hpd)
  · obtain ⟨a, rfl⟩ : ∃ a, d = .dict a := by cases d <;> first | exact ⟨_, rfl⟩ | cases h2
    obtain ⟨p1, xs, rfl, ha, hb, hn, hp⟩ := id hd
    have hla : a.length ≤ 10 := dd.1
    have hxa := pd_len hp
    intro D hD
    have hDp : D ≠ p1 := fun z => by rw [z, ha] at hD; cases hD
    have ha1 : upd H D (.dK []) p1 = some (.dK xs) := by rw [upd_ne hDp.symm]; exact ha
    refine ⟨p1, .dK xs, ha1, trivial, fun od => ?_⟩
    obtain ⟨HL, eHL⟩ : ∃ HL, HL = upd (upd H D (.dK [])) p1 (.frz od (.dK xs)) := ⟨_, rfl⟩
    rw [← eHL]
    have e1 : HL p1 = some (.frz od (.dK xs)) := by rw [eHL, upd_same]
    have eD : HL D = some (.dK []) := by rw [eHL, upd_ne hDp, upd_same]
    have sdel : Same (SC.del H p1) HL := fun b o e => by
      have hb : b ≠ p1 := fun z => by rw [z, SC.del_at] at e; cases e
      have e2 := del_sub _ _ _ _ e
      rw [eHL, upd_ne hb, upd_ne (ne_of_none e2 hD)]
      exact e2
    rw [tFor_eq]
    refine ⟨_, rfl, p1, od, rfl, .inl ⟨xs, e1, ?_⟩⟩
    refine fo_it walk_keys (fun i σ' H' => CoX HL D xs a n i H' ∧ ∃ z, σ' = [some (V.ref p1), some (V.ref D), z, none]) ⟨⟨[], fun _ => 0, Keep.refl _ _, eD, by simp, OwP.nil⟩, _, rfl⟩ (fun i σ' H' _ ⟨⟨_, _, s, _⟩, _⟩ => s _ _ e1 (by simp [hDp.symm])) ?_ ?_
    · rintro i x σ' H1 H2 hi ⟨⟨kvs', c, k2, e, hk2, hpd⟩, z, rfl⟩ ⟨rfl, k, u, hku, rfl⟩
      obtain ⟨ei, hei, hkv, hru⟩ := pd_get hp hku
      have e12 : H2 p1 = some (.frz od (.dK xs)) := k2 _ _ e1 (by simp [hDp.symm])
      have hil : i < xs.length := hi
      have hm : ei ∈ a := List.mem_of_getElem? hei
      have hkl : kvs'.length = i := by
        have := congrArg List.length hk2
        simp at this
        omega
      have s2 : Same (SC.del H p1) H2 := fun b o eb => k2 b o (sdel _ _ eb) (by simp [ne_of_none (del_sub _ _ _ _ eb) hD])
      walk_at "rd"
      refine ⟨u, .inl ⟨xs, k, .inr ⟨od, e12⟩, rfl, (valV_at hn hku).symm⟩, u, ei.2, rfl, (Re.part hd (size_kv hm) hru).imp s2, (dd.2 _ hm).2, fun v' H4 s4 r4 => ?_⟩
      have hnew : k ∉ kvs'.map (·.1) := by
        rw [hk2]
        intro hmm
        rw [List.map_take] at hmm
        have := nd_take hn (by simpa using hil)
        rw [List.getElem_map, (List.getElem?_eq_some_iff.mp hku).2] at this
        exact this hmm
      refine ⟨_, DPut.k (k := k) (s4 _ _ e) (sz5l (by omega)), ?_⟩
      rw [putK_new v' (valV_no hnew)]
      obtain ⟨c', hc'⟩ := OwP.snoc (F := fun g => KvR (Ow n g)) (D := D) (o := .dK (kvs' ++ [(k, v')])) (S := [D]) (x := (k, v')) (d := ei) (fun _ _ _ _ s q => ⟨q.1, Ow.imp s q.2⟩) k2 (.of s4) (by simp [eD]) (by simp [e]) (by simp) hpd ⟨hkv, r4⟩
      refine ⟨_, c', (k2.trans (.of s4)).mut (by simp), upd_same, ?_, ?_⟩
      · rw [List.map_append, hk2, List.take_succ, hku, List.map_append]
        rfl
      · rw [List.take_succ, hei]
        exact hc'
    · rintro σ' H' ⟨⟨kvs', c, k2, e, hk2, hpd⟩, z, rfl⟩
      have e12 : H' p1 = some (.frz od (.dK xs)) := k2 _ _ e1 (by simp [hDp.symm])
      have hkl : kvs'.length = xs.length := by
        have := congrArg List.length hk2
        simp at this
        omega
      refine ⟨e12, ?_⟩
      walk_at "rd"
      rw [List.take_of_length_le (by omega)] at hpd
      rw [List.take_of_length_le (Nat.le_refl _)] at hk2
      rw [← news_upd (p := p1) (o := .dK xs) (by rw [e1]; simp)] at hpd
      refine q (.ref D) _ (fun b o eb => ?_) (Ow.mkD hD (by rw [eD]; simp) (fun b o eb => ?_) (by rw [upd_ne hDp]; exact e) (by omega) (by rw [hk2]; exact hn) hpd)
      · by_cases hb : b = p1
        · subst hb
          rw [ha] at eb
          cases eb
          exact upd_same
        · rw [upd_ne hb]
          have hbD : b ≠ D := ne_of_none eb hD
          exact k2 b o (by rw [eHL, upd_ne hb, upd_ne hbD]; exact eb) (by simp [hbD])
      · have hb : HL b = none := by
          cases e9 : HL b with
          | none => rfl
          | some z => rw [news_no e9] at eb; cases eb
        rw [news_at hb] at eb
        have hbD : b ≠ D := fun z => by rw [z, eD] at hb; cases hb
        have hbp : b ≠ p1 := fun z => by rw [z, e1] at hb; cases hb
        rw [eHL, upd_ne hbp, upd_ne hbD] at hb
        rw [news_at hb]
        exact eb
  · have hl : leafD d := by cases d <;> first | exact dd | cases h1 rfl | cases h2 rfl
    exact q v H (Same.refl _) (Ow.leaf hl (by cases d <;> first | exact hd | exact hl.elim))
/-! ### _law_filled -/
def sp_filled (n : Nat) : Sp := fun vs H Q _ => ∃ v G d, vs = [v] ∧ Ow n G v d ∧ Same G H ∧ docD n d ∧ ∀ H', (∀ b o, H b = some o → G b = none → H' b = some o) → Q .non H'
theorem ok_filled {n : Nat} (D : Def K mg "_law_filled" s_law_filled f fd) (B : Blt mg) (R_law_filled : Rdy P w K mg base (n + 1) "_law_filled" ["_law_tree_here"] (sp_filled n)) : FnOk P w K mg base CX0 (n + 2) f fd ["_law_tree_here"] (sp_filled (n + 1)) := by
  refine D.1.ok sc_law_filled (fun vs H Q E h => ?_) (fun cdv A outer s H vs Q E hr h => ?_)
  · obtain ⟨v, G, d, rfl, _⟩ := h
    rfl
  obtain ⟨v, G, d, rfl, hd, sG, dd, q⟩ := h
  have hu := hu_of hr
  have hdH : Rp H (n + 1) v d := (hd.re.imp sG).rp
  refine ⟨_, (pss_cons (ps_if (pt_val (pe_callB (isiK (K := K) rfl) (by rfl) B.b_isinstance (by decide +kernel) (pa_cons (pv 0) (pa_cons (pe_bltn (v := .ty "list") (by rfl) B.b_list (by decide +kernel) rfl) pa_nil))))
   (pss_cons (ps_for PassesOwn.never rfl (pi_list (pe_or (pe_callTy (listK (K := K) rfl) (by rfl) B.b_list (by decide +kernel) (pa_cons (pv 0) pa_nil)) (pe_callTy (call_listD rfl) (by rfl) B.b_list (by decide +kernel) (pa_cons (pv 0) pa_nil)))) (pg_name (i := 1) sc_law_filled.nd rfl (by first | exact Or.inl rfl | exact Or.inr rfl))
   (pss_one (ps_expr (pe_c R_law_filled hr rfl (pa_cons (pv 1) pa_nil)))))
  (pss_one (ps_expr (pe_bm PySem.F.plainAttrs_list PySem.F.slot_list_append PySem.F.type_list_append mt_append (pv 0) (pa_cons pe_str pa_nil)))))
   pss_nil)
  (pss_one (ps_if (pt_val (pe_callB (isiK (K := K) rfl) (by rfl) B.b_isinstance (by decide +kernel) (pa_cons (pv 0) (pa_cons (pe_bltn (v := .ty "dict") (by rfl) B.b_dict (by decide +kernel) rfl) pa_nil))))
   (pss_cons (ps_for PassesOwn.never rfl (pi_list (pe_or (pe_callTy (listK (K := K) rfl) (by rfl) B.b_list (by decide +kernel) (pa_cons (pv 0) pa_nil)) (pe_callTy (call_listD rfl) (by rfl) B.b_list (by decide +kernel) (pa_cons (pv 0) pa_nil)))) (pg_name (i := 2) sc_law_filled.nd rfl (by first | exact Or.inl rfl | exact Or.inr rfl))
   (pss_one (ps_expr (pe_c R_law_filled hr rfl (pa_cons (pe_dget hu (pv 0) (pv 2) (fun _ _ => rfl)) pa_nil)))))
  (pss_one (ps_dput hu (pv 0) pe_str pe_str rfl)))
   pss_nil))), ?_⟩
  walk_at "rd"
  refine isi1 .list hdH ⟨_, rfl, ite2 (fun h1 => ?_) fun h1 => isi1 .dict hdH ⟨_, rfl, ite2 (fun h2 => ?_) fun h2 => ?_⟩⟩
  · obtain ⟨a, rfl⟩ : ∃ a, d = .list a := by cases d <;> first | exact ⟨_, rfl⟩ | cases h1
    obtain ⟨p1, xs, c, rfl, ha, hb, hc, hp⟩ := id hd
    have haH := sG _ _ ha
    refine .inl ⟨p1, rfl, xs, .inl (SqL.of haH), fun l nl => ⟨⟨_, SqL.of upd_same⟩, ?_⟩⟩
    have Gl : G l = none := by
      cases e : G l with
      | none => rfl
      | some o => rw [sG _ _ e] at nl; cases nl
    have nlp : p1 ≠ l := ne_of_none haH nl
    refine fo_it (walk_list (xs := xs)) (fun i σ' H' => FiI (upd H l (.lst xs)) G c p1 i H' ∧ ∃ z, σ' = [some (V.ref p1), z, none]) ⟨⟨fun b o e _ => e⟩, _, rfl⟩ (fun i σ' H' _ ⟨⟨h⟩, _⟩ => SqL.of (h _ _ upd_same (.inl Gl))) ?_ ?_
    · rintro i x σ' H1 H2 hi ⟨⟨h⟩, z, rfl⟩ ⟨rfl, hx⟩
      have hia : i < a.length := by rw [← hp.1]; exact hi
      have hdi : a[i]? = some a[i] := List.getElem?_eq_getElem hia
      walk_at "rd"
      refine ⟨x, sel G c i, a[i], rfl, hp.2 i x _ hx hdi, fun b o e => ?_, dd.2 _ (List.getElem_mem hia), fun H3 k3 => ⟨fun b o e hb => k3 b o (h b o e ?_) ?_⟩⟩
      · obtain ⟨h1, h2⟩ := sel_at e
        have e2 := sG _ _ h2
        exact h b o (by rw [upd_ne (ne_of_none e2 nl)]; exact e2) (.inr (.inr (by omega)))
      · rcases hb with hb | hb | hb
        · exact .inl hb
        · exact .inr (.inl hb)
        · exact .inr (.inr (by omega))
      · cases e3 : sel G c i b with
        | none => rfl
        | some o3 =>
          obtain ⟨h1, h2⟩ := sel_at e3
          rcases hb with hb | hb | hb
          · rw [hb] at h2; cases h2
          · subst hb; omega
          · omega
    · rintro σ' H1 ⟨⟨h⟩, z, rfl⟩
      have hl1 : H1 p1 = some (.lst xs) := h _ _ (by rw [upd_ne nlp]; exact haH) (.inr (.inl rfl))
      walk_at "rd"
      refine ⟨.inl ⟨rfl, _, SqL.of hl1⟩, p1, _, _, rfl, rfl, hl1, sz5l (by omega), ?_⟩
      refine isiL .dict upd_same ⟨_, rfl, iteF' (by simp [isT]) (q _ fun b o e hb => ?_)⟩
      have hbp : b ≠ p1 := fun z => by rw [z, ha] at hb; cases hb
      rw [upd_ne hbp]
      exact h b o (by rw [upd_ne (ne_of_none e nl)]; exact e) (.inl hb)
  · obtain ⟨a, rfl⟩ : ∃ a, d = .dict a := by cases d <;> first | exact ⟨_, rfl⟩ | cases h2
    obtain ⟨p1, xs, c, rfl, ha, hb, hn, hc, hp⟩ := id hd
    have haH := sG _ _ ha
    refine .inr ⟨p1, rfl, xs, .inl haH, fun l nl => ⟨⟨_, SqL.of upd_same⟩, ?_⟩⟩
    have Gl : G l = none := by
      cases e : G l with
      | none => rfl
      | some o => rw [sG _ _ e] at nl; cases nl
    have nlp : p1 ≠ l := ne_of_none haH nl
    have hla : a.length ≤ 10 := dd.1
    refine fo_it (walk_list (xs := xs.map fun kv => kV kv.1)) (fun i σ' H' => FiI (upd H l (.lst (xs.map fun kv => kV kv.1))) G c p1 i H' ∧ ∃ z, σ' = [some (V.ref p1), none, z]) ⟨⟨fun b o e _ => e⟩, _, rfl⟩ (fun i σ' H' _ ⟨⟨h⟩, _⟩ => SqL.of (h _ _ upd_same (.inl Gl))) ?_ ?_
    · rintro i x σ' H1 H2 hi ⟨⟨h⟩, z, rfl⟩ ⟨rfl, hx⟩
      rw [List.getElem?_map, Option.map_eq_some_iff] at hx
      obtain ⟨⟨k, u⟩, hku, rfl⟩ := hx
      have hix : i < xs.length := by simpa using hi
      have hia : i < a.length := by rw [← hp.1]; exact hix
      have hdi : a[i]? = some a[i] := List.getElem?_eq_getElem hia
      have hl1 : H2 p1 = some (.dK xs) := h _ _ (by rw [upd_ne nlp]; exact haH) (.inr (.inl rfl))
      walk_at "rd"
      refine ⟨u, .inl ⟨xs, k, .inl hl1, rfl, (valV_at hn hku).symm⟩, u, sel G c i, a[i].2, rfl, (hp.2 i _ _ hku hdi).2, fun b o e => ?_, (dd.2 _ (List.getElem_mem hia)).2, fun H3 k3 => ⟨fun b o e hb => k3 b o (h b o e ?_) ?_⟩⟩
      · obtain ⟨h1, h2⟩ := sel_at e
        have e2 := sG _ _ h2
        exact h b o (by rw [upd_ne (ne_of_none e2 nl)]; exact e2) (.inr (.inr (by omega)))
      · rcases hb with hb | hb | hb
        · exact .inl hb
        · exact .inr (.inl hb)
        · exact .inr (.inr (by omega))
      · cases e3 : sel G c i b with
        | none => rfl
        | some o3 =>
          obtain ⟨h1, h2⟩ := sel_at e3
          rcases hb with hb | hb | hb
          · rw [hb] at h2; cases h2
          · subst hb; omega
          · omega
    · rintro σ' H1 ⟨⟨h⟩, z, rfl⟩
      have hl1 : H1 p1 = some (.dK xs) := h _ _ (by rw [upd_ne nlp]; exact haH) (.inr (.inl rfl))
      have hxa := hp.1
      walk_at "rd"
      refine ⟨_, DPut.k (k := Sum.inr (Str.ofString "more")) hl1 (sz5l (by omega)), q _ fun b o e hb => ?_⟩
      have hbp : b ≠ p1 := fun z => by rw [z, ha] at hb; cases hb
      rw [upd_ne hbp]
      exact h b o (by rw [upd_ne (ne_of_none e nl)]; exact e) (.inl hb)
  · exact q H fun b o e _ => e
theorem pd_getR {A B : Type} {F : A → B → Prop} {xs : List A} {ys : List B} (h : Paired F xs ys) {i : Nat} {y : B} (hy : ys[i]? = some y) : ∃ x, xs[i]? = some x ∧ F x y := by
  have hi := (List.getElem?_eq_some_iff.mp hy).1
  have hx : xs[i]? = some (xs[i]'(by rw [pd_len h]; exact hi)) := List.getElem?_eq_getElem _
  obtain ⟨y', e, r⟩ := pd_get h hx
  rw [hy] at e
  cases e
  exact ⟨_, hx, r⟩
/-! ### has_step, part_at -/
def sp_hstep : Sp := fun vs H Q _ => ∃ n v d k, vs = [v, kV k] ∧ Re H n v d ∧ docD n d ∧ Q (.bl (stepN d k).isSome) H
theorem ok_hstep (D : Def K mg "has_step" s_has_step f fd) (B : Blt mg) (R_is_integer : Rdy P w K mg base 1 "is_integer" ["value"] sp_isint) : FnOk P w K mg base CX0 2 f fd ["document", "step"] sp_hstep := by
  refine D.1.ok sc_has_step (fun vs H Q E h => ?_) (fun cdv A outer s H vs Q E hr h => ?_)
  · obtain ⟨n, v, d, k, rfl, _⟩ := h
    rfl
  obtain ⟨n, v, d, k, rfl, hd, dd, q⟩ := h
  have hu := hu_of hr
  refine ⟨_, (pss_cons (ps_if (pt_val (pe_callB (isiK (K := K) rfl) (by rfl) B.b_isinstance (by decide +kernel) (pa_cons (pv 0) (pa_cons (pe_bltn (v := .ty "list") (by rfl) B.b_list (by decide +kernel) rfl) pa_nil))))
   (pss_one (ps_ret (pe_and (pe_c R_is_integer hr rfl (pa_cons (pv 1) pa_nil)) (pe_one (pe_chain op_le op_lt pe_int (pv 1) (pe_callB (lenAK (K := K) rfl) (by rfl) B.b_len (by decide +kernel) (pa_cons (pv 0) pa_nil)))))))
   pss_nil)
  (pss_one (ps_ret (pe_and (pe_callB (isiK (K := K) rfl) (by rfl) B.b_isinstance (by decide +kernel) (pa_cons (pv 0) (pa_cons (pe_bltn (v := .ty "dict") (by rfl) B.b_dict (by decide +kernel) rfl) pa_nil))) (pe_and (pe_callB (isiK (K := K) rfl) (by rfl) B.b_isinstance (by decide +kernel) (pa_cons (pv 1) (pa_cons (pe_bltn (v := .ty "str") (by rfl) B.b_str (by decide +kernel) rfl) pa_nil))) (pe_one (pe_cmp (pc_din hu (pv 1) (pv 0)) rfl))))))), ?_⟩
  walk_at "rd"
  refine isi1 .list hd.rp ⟨_, rfl, ite2 (fun h1 => ?_) fun h1 => isi1 .dict hd.rp ⟨_, rfl, ite2 (fun h2 => ?_) fun h2 => ?_⟩⟩
  · obtain ⟨a, rfl⟩ : ∃ a, d = .list a := by cases d <;> first | exact ⟨_, rfl⟩ | cases h1
    cases n with
    | zero => exact hd.elim
    | succ n =>
    obtain ⟨p1, xs, rfl, ha, hb, hp⟩ := id hd
    cases k with
    | inr x => exact ⟨1, _, .str x, rfl, rfl, _, rfl, iteF' (by simp [isIntD]) q⟩
    | inl i =>
      refine ⟨1, _, .int i, rfl, rfl, _, rfl, iteT' rfl ⟨i, rfl, ?_⟩⟩
      split
      · rename_i h0
        refine ⟨_, LenA.l (SqL.of ha), i, rfl, ?_⟩
        have : (stepN (.list a) (.inl i)).isSome = decide (i < (xs.length : Int)) := by
          simp only [stepN, if_pos h0]
          rw [pd_len hp, Bool.eq_iff_iff]
          simp
          omega
        rw [← this]
        exact q
      · rename_i h0
        simp only [stepN, if_neg h0] at q
        exact q
  · obtain ⟨a, rfl⟩ : ∃ a, d = .dict a := by cases d <;> first | exact ⟨_, rfl⟩ | cases h2
    cases n with
    | zero => exact hd.elim
    | succ n =>
    obtain ⟨p1, xs, rfl, ha, hb, hn, hp⟩ := id hd
    cases k with
    | inl i => exact isi1 .str (n := 1) (d := .int i) rfl ⟨_, rfl, iteF' (by simp [isT]) q⟩
    | inr x =>
      refine isi1 .str (n := 1) (d := .str x) rfl ⟨_, rfl, iteT' rfl ⟨p1, rfl, valV xs (.inr x), .inl ⟨xs, .inr x, .inl ha, rfl, rfl⟩, ?_⟩⟩
      rcases get_of hp dd.keys x with ⟨g1, g2⟩ | ⟨u, e, g1, g2, _⟩
      · rw [g1]; simp only [stepN, g2] at q; exact q
      · rw [g1]; simp only [stepN, g2] at q; exact q
  · have e : stepN d k = none := by cases d <;> cases k <;> first | rfl | exact absurd rfl h1 | exact absurd rfl h2
    rw [e] at q
    exact q
def sp_pat (n : Nat) : Sp := fun vs H Q _ => ∃ v t d p d', vs = [v, .ref t] ∧ Re H n v d ∧ docD n d ∧ H t = some (.tup (p.map kV)) ∧ p.length ≤ 1000 ∧ walkD d p = some d' ∧ ∀ v' H', Same H H' → Ow n (news H H') v' d' → docD n d' → Q v' H'
theorem ok_pat {n : Nat} (D : Def K mg "part_at" s_part_at f fd) (B : Blt mg) (R_has_step : Rdy P w K mg base 2 "has_step" ["document", "step"] sp_hstep) (R_copied : Rdy P w K mg base (n + 1) "copied" ["document"] (sp_copied n)) : FnOk P w K mg base CX0 (n + 3) f fd ["document", "path"] (sp_pat n) := by
  refine D.1.ok sc_part_at (fun vs H Q E h => ?_) (fun cdv A outer s H vs Q E hr h => ?_)
  · obtain ⟨v, t, d, p, d', rfl, _⟩ := h
    rfl
  obtain ⟨v, t, d, p, d', rfl, hd, dd, ht, hl, hw, q⟩ := h
  have hu := hu_of hr
  have hr2 : Room 2 _ := hr.mono (by omega)
  have hr3 : Room (n + 1) _ := hr.mono (by omega)
  refine ⟨_, (pss_cons (ps_if (pt_not (pt_val (pe_callB (isiK (K := K) rfl) (by rfl) B.b_isinstance (by decide +kernel) (pa_cons (pv 1) (pa_cons (pe_bltn (v := .ty "tuple") (by rfl) B.b_tuple (by decide +kernel) rfl) pa_nil)))))
   (pss_one ps_never)
   pss_nil)
  (pss_cons (ps_set (i := 2) sc_part_at.nd rfl (by first | exact Or.inl rfl | exact Or.inr rfl) (pv 0))
  (pss_cons (ps_for PassesOwn.never rfl (pi_tup (pv 1)) (pg_name (i := 3) sc_part_at.nd rfl (by first | exact Or.inl rfl | exact Or.inr rfl))
   (pss_cons (ps_if (pt_not (pt_val (pe_c R_has_step hr2 rfl (pa_cons (pv 2) (pa_cons (pv 3) pa_nil)))))
   (pss_one ps_never)
   pss_nil)
  (pss_one (ps_set (i := 2) sc_part_at.nd rfl (by first | exact Or.inl rfl | exact Or.inr rfl) (pe_or (pe_ix (ixLK (K := K) rfl) (pv 2) (pv 3) (fun _ _ => rfl)) (pe_dget hu (pv 2) (pv 3) (fun _ _ => rfl)))))))
  (pss_one (ps_ret (pe_c R_copied hr3 rfl (pa_cons (pv 2) pa_nil))))))), ?_⟩
  walk_at "rd"
  refine isi1 .tuple (n := 2) (d := .tuple (p.map kD)) (Rp_path ht hl) ⟨_, rfl, iteF' (by simp [isT]) ⟨⟨_, SqT.of ht⟩, ?_⟩⟩
  refine fo_it (walk_tup (xs := p.map kV)) (fun i σ' H' => H' = H ∧ ∃ z wv dw, σ' = [some v, some (V.ref t), some wv, z] ∧ Re H n wv dw ∧ docD n dw ∧ walkD d (p.take i) = some dw) ⟨rfl, none, v, d, rfl, hd, dd, rfl⟩ (fun i σ' H' _ ⟨h, _⟩ => by rw [h]; exact SqT.of ht) ?_ ?_
  · rintro i x σ' H1 H2 hi ⟨rfl, z, wv, dw, rfl, rw', ddw, hwi⟩ ⟨rfl, hx⟩
    rw [List.getElem?_map, Option.map_eq_some_iff] at hx
    obtain ⟨k, hk, rfl⟩ := hx
    obtain ⟨e, he, hwe⟩ : ∃ e, stepN dw k = some e ∧ walkD d (p.take (i + 1)) = some e := by
      have h1 : p = p.take i ++ (k :: p.drop (i + 1)) := by
        have hi' := (List.getElem?_eq_some_iff.mp hk)
        obtain ⟨hlt, he⟩ := hi'
        rw [← he, List.getElem_cons_drop, List.take_append_drop]
      rw [h1, walk_app, hwi] at hw
      simp only [Option.bind_some, walkD] at hw
      cases hs : stepN dw k with
      | none => rw [hs] at hw; cases hw
      | some e =>
        refine ⟨e, rfl, ?_⟩
        rw [List.take_succ, hk, walk_app, hwi]
        simp only [Option.bind_some, Option.toList_some, walkD, hs]
    walk_at "rd"
    refine ⟨n, wv, dw, k, rfl, rw', ddw, ?_⟩
    rw [he]
    refine ⟨true, rfl, iteF' (by simp) ?_⟩
    cases n with
    | zero => exact rw'.elim
    | succ n =>
    cases dw <;> cases k <;> first | cases he; done | skip
    · rename_i ds ix
      simp only [stepN] at he
      split at he
      · rename_i h0
        obtain ⟨p1, xs, rfl, ha, hb, hp⟩ := id rw'
        obtain ⟨u, hu', hru⟩ := pd_getR hp he
        refine .inl ⟨p1, xs, _, u, rfl, rfl, SqL.of ha, ?_, ?_⟩
        · rw [show ix = ((ix.toNat : Nat) : Int) by omega]; exact atI_nat hu'
        · exact ⟨rfl, _, hru.up1, (ddw.2 _ (List.mem_of_getElem? he)).up1, hwe⟩
      · cases he
    · rename_i es x
      simp only [stepN] at he
      obtain ⟨p1, xs, rfl, ha, hb, hn, hp⟩ := id rw'
      rcases get_of hp ddw.keys x with ⟨g1, g2⟩ | ⟨u, e', g1, g2, hr⟩
      · rw [g2] at he; cases he
      · rw [g2] at he; cases he
        obtain ⟨e2, he2, rfl, _⟩ := dget_mem g2
        exact .inr ⟨p1, rfl, u, .inl ⟨xs, .inr x, .inl ha, rfl, g1.symm⟩, rfl, _, hr.up1, (ddw.2 _ he2).2.up1, hwe⟩
  · rintro σ' H1 ⟨rfl, z, wv, dw, rfl, rw', ddw, hwi⟩
    rw [List.length_map, List.take_length, hw] at hwi
    cases hwi
    walk_at "rd"
    exact ⟨wv, d', rfl, rw', ddw, fun v' H' s' o' => q v' H' s' o' ddw⟩
end

/-! ### _law_routes -/
def PathAt (H : Hp) (t : Addr) (p : List Key) : Prop := H t = some (.tup (p.map kV))
def RowAt (H : Hp) (n : Nat) (T : Addr) (q : Key × PyData) : Prop := ∃ x, H T = some (.tup [kV q.1, x]) ∧ Re H n x q.2
def rowsOf : PyData → List (Key × PyData)
  | .list ds => rowsL ds
  | .dict es => es.map fun e => (.inr (strD e.1), e.2)
  | _ => []
def sumC (rws : List (Key × PyData)) : Nat := (rws.map fun q => cnt q.2).sum
def sp_routes (n : Nat) : Sp := fun vs H Q _ => ∃ v d, vs = [v] ∧ Re H n v d ∧ docD n d ∧ cnt d ≤ 1000 ∧ n ≤ 100 ∧
  ∀ r ts ps H', Same H H' → H' r = some (.lst (ts.map V.ref)) → Paired (PathAt H') ts ps → (∀ p ∈ ps, p.length ≤ n ∧ ∃ e, walkD d p = some e) → ps.length = cnt d → Q (.ref r) H'
structure RoR (H0 : Hp) (v : V) (n : Nat) (r0 t0 : Addr) (rws : List (Key × PyData)) (σ' : L2.St) (H' : Hp) : Prop where
  li : ∃ l Ts, σ' = [some v, some (V.ref r0), some (V.ref l), none, none, none, none] ∧ Same H0 H' ∧ H' r0 = some (.lst [V.ref t0]) ∧ H' t0 = some (.tup []) ∧ H' l = some (.lst (Ts.map V.ref)) ∧ Paired (RowAt H' n) Ts rws
structure RoI (H2 : Hp) (d : PyData) (n c : Nat) (r : Addr) (H' : Hp) : Prop where
  li : ∃ ts ps, Same H2 H' ∧ H' r = some (.lst (ts.map V.ref)) ∧ Paired (PathAt H') ts ps ∧ (∀ p ∈ ps, p.length ≤ n + 1 ∧ ∃ e, walkD d p = some e) ∧ ps.length = c
structure RoC (H3 : Hp) (k : Key) (ps1 : List (List Key)) (j : Nat) (D : Addr) (H' : Hp) : Prop where
  li : ∃ ts', Same H3 H' ∧ H' D = some (.lst (ts'.map V.ref)) ∧ Paired (PathAt H') ts' ((ps1.take j).map (k :: ·))
theorem PathAt.imp {H H' : Hp} {t : Addr} {p : List Key} (h : PathAt H t p) (s : Same H H') : PathAt H' t p := s _ _ h
theorem PathAt.mut {H : Hp} {t D : Addr} {p : List Key} {l : List V} {o : HO} (h : PathAt H t p) (e : H D = some (.lst l)) : PathAt (upd H D o) t p := by
  have hne : t ≠ D := fun z => by
    rw [z] at h
    have h' : H D = some (.tup (p.map kV)) := h
    rw [e] at h'
    cases h'
  show upd H D o t = _
  rw [upd_ne hne]
  exact h
theorem sumC_mem : ∀ {rws : List (Key × PyData)} {q : Key × PyData}, q ∈ rws → cnt q.2 ≤ sumC rws
  | [], q, h => by cases h
  | x :: r, q, h => by
    have e : sumC (x :: r) = cnt x.2 + sumC r := rfl
    rcases List.mem_cons.mp h with rfl | h
    · omega
    · have := sumC_mem h
      omega
structure RoK (HL : Hp) (xs : List (Key × V)) (i : Nat) (D : Addr) (H' : Hp) : Prop where
  li : ∃ Ts : List Addr, Same HL H' ∧ H' D = some (.lst (Ts.map V.ref)) ∧ Ts.length = i ∧ ∀ (j : Nat) (T : Addr), Ts[j]? = some T → ∃ k u, xs[j]? = some (k, u) ∧ H' T = some (.tup [kV k, u])
theorem cntAll_sum : ∀ ds : List PyData, cntAll ds = (ds.map cnt).sum
  | [] => rfl
  | d :: r => by simp only [cntAll, List.map_cons, List.sum_cons, cntAll_sum r]
theorem cntKv_sum : ∀ es : List (PyData × PyData), cntKv es = (es.map fun e => cnt e.2).sum
  | [] => rfl
  | (a, d) :: r => by simp only [cntKv, List.map_cons, List.sum_cons, cntKv_sum r]
theorem rows_sum {n : Nat} {d : PyData} (dd : docD (n + 1) d) : cnt d = 1 + sumC (rowsOf d) := by
  cases d with
  | list ds =>
    simp only [cnt, rowsOf, sumC, rowsL, List.map_map, cntAll_sum]
    congr 2
    conv => lhs; rw [← List.zipIdx_map_fst 0 ds]
    rw [List.map_map]
    rfl
  | dict es => simp only [cnt, rowsOf, sumC, List.map_map, cntKv_sum]; rfl
  | tuple ds => exact dd.elim
  | none => rfl
  | bool _ => rfl
  | int _ => rfl
  | str _ => rfl
theorem rows_ok {n : Nat} {d : PyData} (dd : docD (n + 1) d) (nd : ndD (n + 1) d) : ∀ q ∈ rowsOf d, stepN d q.1 = some q.2 ∧ docD n q.2 := by
  intro q hq
  cases d with
  | list ds =>
    obtain ⟨⟨d', i⟩, hz, rfl⟩ := List.mem_map.mp hq
    have hi := List.mem_zipIdx' hz
    have hd : ds[i]? = some d' := by rw [hi.2]; exact List.getElem?_eq_getElem _
    exact ⟨by simp only [stepN]; rw [if_pos (by omega)]; simpa using hd, dd.2 _ (List.mem_of_getElem? hd)⟩
  | dict es =>
    obtain ⟨e, he, rfl⟩ := List.mem_map.mp hq
    exact ⟨dget_nd nd.1 he, (dd.2 e he).2⟩
  | _ => cases hq
section
variable {P : Program} {w : World} {K : PySem.W.Frag} {mg : Str → Option Value} {base : Heap} {f : Addr} {fd : FuncData}
theorem ok_routes {n : Nat} (D : Def K mg "_law_routes" s_law_routes f fd) (B : Blt mg) (R_law_routes : Rdy P w K mg base (n + 1) "_law_routes" ["_law_tree_here"] (sp_routes n)) : FnOk P w K mg base CX0 (n + 2) f fd ["_law_tree_here"] (sp_routes (n + 1)) := by
  refine D.1.ok sc_law_routes (fun vs H Q E h => ?_) (fun cdv A outer s H vs Q E hr h => ?_)
  · obtain ⟨v, d, rfl, _⟩ := h
    rfl
  obtain ⟨v, d, rfl, hd, dd, hc, hn100, q⟩ := h
  have hu := hu_of hr
  refine ⟨_, (pss_cons (ps_par (i := 1) (j := 2) (by rfl) sc_law_routes.nd rfl rfl (by decide) rfl rfl (pa_cons (pe_lst (pa_cons (pe_tup pa_nil) pa_nil)) (pa_cons (pe_lst pa_nil) pa_nil)) (by rfl))
  (pss_cons (ps_if (pt_val (pe_callB (isiK (K := K) rfl) (by rfl) B.b_isinstance (by decide +kernel) (pa_cons (pv 0) (pa_cons (pe_bltn (v := .ty "list") (by rfl) B.b_list (by decide +kernel) rfl) pa_nil))))
   (pss_one (ps_set (i := 2) sc_law_routes.nd rfl (by first | exact Or.inl rfl | exact Or.inr rfl) (pe_listEn (K := K) rfl rfl (pv 0) (by rfl) B.b_list (by rfl) B.b_enumerate)))
   pss_nil)
  (pss_cons (ps_if (pt_val (pe_callB (isiK (K := K) rfl) (by rfl) B.b_isinstance (by decide +kernel) (pa_cons (pv 0) (pa_cons (pe_bltn (v := .ty "dict") (by rfl) B.b_dict (by decide +kernel) rfl) pa_nil))))
   (pss_one (ps_lock (ps_setLc (i := 2) (own := [("_law_label", 5)]) (by rfl) sc_law_routes.nd rfl rfl (sw_true rfl rfl rfl (by decide +kernel)) (pi_keys (pv 0)) (blkOk_by (own := [("_law_label", 5)]) (N := ["_law_tree_here", "_law_found", "_law_rows", "_law_key", "_law_part", "_law_label", "_law_route"]) (sc := defScope s_law_routes) (by decide +kernel)) (fun _ _ _ _ _ => (pg_name (i := 5) sc_law_routes.nd rfl (by first | exact Or.inl rfl | exact Or.inr rfl))) (fun _ _ _ _ _ => pts_nil) (fun _ _ _ _ _ => (pe_tup (pa_cons (pv 5) (pa_cons (pe_dget hu (pv 0) (pv 5) (fun _ _ => rfl)) pa_nil)))))))
   pss_nil)
  (pss_cons (ps_for PassesOwn.never rfl (pi_list (pv 2)) (pg_tup (by rfl) (pgs_cons (pg_name (i := 3) sc_law_routes.nd rfl (by first | exact Or.inl rfl | exact Or.inr rfl)) (pgs_cons (pg_name (i := 4) sc_law_routes.nd rfl (by first | exact Or.inl rfl | exact Or.inr rfl)) pgs_nil)))
   (pss_one (ps_set (i := 1) sc_law_routes.nd rfl (by first | exact Or.inl rfl | exact Or.inr rfl) (pe_op op_cat (pv 1) (pe_lc (own := [("_law_route", 6)]) (by rfl) sc_law_routes.nd (pi_list (pe_c R_law_routes hr rfl (pa_cons (pv 4) pa_nil))) (blkOk_by (own := [("_law_route", 6)]) (N := ["_law_tree_here", "_law_found", "_law_rows", "_law_key", "_law_part", "_law_label", "_law_route"]) (sc := defScope s_law_routes) (by decide +kernel)) (fun _ _ _ _ _ => (pg_name (i := 6) sc_law_routes.nd rfl (by first | exact Or.inl rfl | exact Or.inr rfl))) (fun _ _ _ _ _ => pts_nil) (fun _ _ _ _ _ => (pe_op (op_catAK (K := K) rfl) (pe_tup (pa_cons (pv 3) pa_nil)) (pv 6))))))))
  (pss_one (ps_ret (pv 1))))))), ?_⟩
  have nd : ndD (n + 1) d := hd.rp.nd dd
  have rok := rows_ok dd nd
  have rsum := rows_sum dd
  refine cutM (fun σ' H' => ∃ r0 t0, RoR H v n r0 t0 [] σ' H') (fun N hN => ?_) ?_
  · walk_at "rd"
    refine ⟨sz5 (by omega), ?_⟩
    intro t0 n_t0
    have s_t0 : Same H (upd H t0 (.tup [])) := same_new n_t0 _
    have e_t0 : upd H t0 (.tup []) t0 = some (.tup []) := upd_same
    generalize upd H t0 (.tup []) = H1 at s_t0 e_t0 ⊢
    refine ⟨sz5 (by omega), ?_⟩
    intro r0 n_r0
    have s_r0 : Same H1 (upd H1 r0 (.lst [V.ref t0])) := same_new n_r0 _
    have e_r0 : upd H1 r0 (.lst [V.ref t0]) r0 = some (.lst [V.ref t0]) := upd_same
    generalize upd H1 r0 (.lst [V.ref t0]) = H2 at s_r0 e_r0 ⊢
    refine ⟨sz5 (by omega), ?_⟩
    intro l0 n_l0
    have s_l0 : Same H2 (upd H2 l0 (.lst [])) := same_new n_l0 _
    have e_l0 : upd H2 l0 (.lst []) l0 = some (.lst []) := upd_same
    generalize upd H2 l0 (.lst []) = H3 at s_l0 e_l0 ⊢
    exact hN _ _ ⟨r0, t0, ⟨l0, [], rfl, (s_t0.trans s_r0).trans s_l0, s_l0 _ _ e_r0, s_l0 _ _ (s_r0 _ _ e_t0), e_l0, .nil⟩⟩
  rintro σ' H1 ⟨r0, t0, ⟨l0, Ts0, rfl, s1, er0, et0, el0, hT0⟩⟩
  cases hT0
  refine cutM (fun σ' H' => ∃ rws, RoR H v n r0 t0 rws σ' H' ∧ ((∃ ds, d = .list ds ∧ rws = rowsL ds) ∨ ((∀ ds, d ≠ .list ds) ∧ rws = []))) (fun N hN => ?_) ?_
  · walk_at "rd"
    refine isi1 .list (hd.imp s1).rp ⟨_, rfl, ite2 (fun h1 => ?_) fun h1 => ?_⟩
    · obtain ⟨a, rfl⟩ : ∃ a, d = .list a := by cases d <;> first | exact ⟨_, rfl⟩ | cases h1
      obtain ⟨p1, xs, rfl, ha, hb, hp⟩ := id (hd.imp s1)
      refine ⟨p1, rfl, xs, SqL.of ha, sz5l (by omega), fun S ts H2 nS s2 eS hl hts => hN _ _ ⟨rowsL a, ⟨S, ts, rfl, s1.trans s2, s2 _ _ er0, s2 _ _ et0, eS, ?_⟩, .inl ⟨a, rfl, rfl⟩⟩⟩
      have hxa := pd_len hp
      refine pd_of (by simp [rowsL]; omega) fun j T q0 hT hq0 => ?_
      obtain ⟨u, hu', hT', _⟩ := hts j T hT
      obtain ⟨dj, hdj, hru⟩ := pd_get hp hu'
      have e0 : q0 = (.inl (j : Int), dj) := by
        simp [rowsL, List.getElem?_zipIdx, hdj] at hq0
        exact hq0.symm
      subst e0
      exact ⟨u, hT', hru.imp s2⟩
    · exact hN _ _ ⟨[], ⟨l0, [], rfl, s1, er0, et0, el0, .nil⟩, .inr ⟨fun ds e => by subst e; exact h1 rfl, rfl⟩⟩
  rintro σ' H2 ⟨rws, ⟨l1, Ts1, rfl, s2, er2, et2, el2, hrw⟩, hcase⟩
  refine cutM (fun σ' H' => RoR H v n r0 t0 (rowsOf d) σ' H') (fun N hN => ?_) ?_
  · walk_at "rd"
    refine isi1 .dict (hd.imp s2).rp ⟨_, rfl, ite2 (fun h1 => ?_) fun h1 => ?_⟩
    · obtain ⟨a, rfl⟩ : ∃ a, d = .dict a := by cases d <;> first | exact ⟨_, rfl⟩ | cases h1
      obtain ⟨p1, xs, rfl, ha, hb, hn, hp⟩ := id (hd.imp s2)
      have hxa := pd_len hp
      have hla : a.length ≤ 10 := dd.1
      refine ⟨p1, .dK xs, ha, trivial, fun od => ?_⟩
      rw [tLc_eq]
      obtain ⟨HL, eHL⟩ : ∃ HL, HL = upd H2 p1 (.frz od (.dK xs)) := ⟨_, rfl⟩
      rw [← eHL]
      have e1 : HL p1 = some (.frz od (.dK xs)) := by rw [eHL, upd_same]
      refine ⟨_, rfl, p1, od, rfl, .inl ⟨xs, e1, ?_⟩⟩
      refine lc_itR walk_keys (fun D i H' => RoK HL xs i D H') (fun D hD => ⟨⟨[], same_new hD _, upd_same, rfl, by simp⟩⟩) (fun D i H' _ _ ⟨⟨_, s, _⟩⟩ => s _ _ e1) ?_ ?_
      · rintro D i x H3 H4 hD hi ⟨⟨Ts, s4, eD, hTl, hT⟩⟩ ⟨rfl, k, u, hku, rfl⟩
        have hil : i < xs.length := hi
        walk_at "rd"
        refine ⟨u, .inl ⟨xs, k, .inr ⟨od, s4 _ _ e1⟩, rfl, (valV_at hn hku).symm⟩, sz5 (by omega), fun q1 nq1 => ?_⟩
        have s5 := same_new nq1 (.tup [kV k, u])
        refine ⟨Ts.map V.ref, s5 _ _ eD, sz5l (by simp; omega), ⟨⟨Ts ++ [q1], same_mut (s4.trans s5) hD, by rw [upd_same]; simp, by simp [hTl], fun j T hj => ?_⟩⟩⟩
        have hne : ∀ {T' : Addr} {w1 w2 : V}, upd H4 q1 (.tup [kV k, u]) T' = some (.tup [w1, w2]) → T' ≠ D := fun {T' w1 w2} h z => by rw [z, s5 _ _ eD] at h; cases h
        by_cases hj' : j < Ts.length
        · rw [List.getElem?_append_left hj'] at hj
          obtain ⟨k', u', h1, h2⟩ := hT j T hj
          exact ⟨k', u', h1, by rw [upd_ne (hne (s5 _ _ h2))]; exact s5 _ _ h2⟩
        · have : j = Ts.length := by
            have := (List.getElem?_eq_some_iff.mp hj).1
            simp at this
            omega
          subst this
          rw [List.getElem?_append_right (Nat.le_refl _), Nat.sub_self] at hj
          cases hj
          exact ⟨k, u, by rw [hTl]; exact hku, by rw [upd_ne (hne upd_same)]; exact upd_same⟩
      · rintro D H' hD ⟨⟨Ts, s4, eD, hTl, hT⟩⟩
        have sF := same_lock ha (by rw [eHL] at s4; exact s4)
        have hDp : D ≠ p1 := fun z => by rw [z, e1] at hD; cases hD
        refine ⟨s4 _ _ e1, hN _ _ ⟨D, Ts, rfl, s2.trans sF, sF _ _ er2, sF _ _ et2, by rw [upd_ne hDp]; exact eD, ?_⟩⟩
        refine pd_of (by simp [rowsOf]; omega) fun j T q0 hT' hq0 => ?_
        obtain ⟨k, u, hku, hTu⟩ := hT j T hT'
        obtain ⟨ej, hej, hkv, hru⟩ := pd_get hp hku
        have hne : T ≠ p1 := fun z => by rw [z, s4 _ _ e1] at hTu; cases hTu
        obtain ⟨y, hy⟩ := dd.keys ej (List.mem_of_getElem? hej)
        have e0 : q0 = (.inr (strD ej.1), ej.2) := by
          simp [rowsOf, hej] at hq0
          exact hq0.symm
        subst e0
        have ek : k = .inr (strD ej.1) := by
          cases k with
          | inl z => rw [hy] at hkv; cases hkv
          | inr z => rw [hy] at hkv ⊢; cases hkv; rfl
        refine ⟨u, ?_, hru.imp sF⟩
        rw [upd_ne hne, hTu, ek]
    · refine hN _ _ ⟨l1, Ts1, rfl, s2, er2, et2, el2, ?_⟩
      rcases hcase with ⟨ds, rfl, rfl⟩ | ⟨hno, rfl⟩
      · exact hrw
      · have e : rowsOf d = [] := by cases d <;> first | rfl | exact absurd rfl (hno _) | exact absurd rfl h1
        rw [e]
        exact hrw
  clear hcase hrw el2 er2 et2 s2
  rintro σ' H2 ⟨l1, Ts1, rfl, s2, er2, et2, el2, hrw⟩
  walk_at "rd"
  refine ⟨⟨_, SqL.of el2⟩, ?_⟩
  refine fo_it (walk_list (xs := Ts1.map V.ref)) (fun i σ' H' => ∃ r z3 z4, σ' = [some v, some (V.ref r), some (V.ref l1), z3, z4, none, none] ∧ RoI H2 d n (1 + sumC ((rowsOf d).take i)) r H') ⟨r0, none, none, rfl, ⟨[t0], [[]], Same.refl _, er2, .cons et2 .nil, by simp [walkD], by simp [sumC]⟩⟩ (fun i σ' H' _ ⟨_, _, _, _, ⟨_, _, s, _⟩⟩ => SqL.of (s _ _ el2)) ?_ ?_
  · rintro i x σ' H3 H4 hi ⟨r, z3, z4, rfl, ⟨ts, ps, s4, er, hpa, hpv, hpl⟩⟩ ⟨rfl, hx⟩
    rw [List.getElem?_map, Option.map_eq_some_iff] at hx
    obtain ⟨T, hT, rfl⟩ := hx
    obtain ⟨⟨k, dj⟩, hq, x, hx, hrx⟩ := pd_get hrw hT
    simp only [gTup, gCons, gNil, gName]
    refine ⟨T, _, rfl, SqT.of (s4 _ _ hx), rfl, _, _, rfl, _, _, rfl, rfl, ?_⟩
    walk_at "rd"
    have hm := List.mem_of_getElem? hq
    have hstep := (rok _ hm).1
    have hcj := sumC_mem hm
    simp only at hstep hcj
    refine ⟨x, dj, rfl, hrx.imp s4, (rok _ hm).2, by omega, by omega, fun r1 ts1 ps1 H5 s5 er1 hpa1 hpv1 hpl1 => ⟨r1, rfl, ⟨_, SqL.of er1⟩, ?_⟩⟩
    have esum : sumC ((rowsOf d).take (i + 1)) = sumC ((rowsOf d).take i) + cnt dj := by
      rw [List.take_succ, hq]
      simp only [sumC, Option.toList_some, List.map_append, List.sum_append, List.map_cons, List.map_nil, List.sum_cons, List.sum_nil, Nat.add_zero]
    have etot : sumC ((rowsOf d).take (i + 1)) ≤ sumC (rowsOf d) := by
      have h1 : rowsOf d = (rowsOf d).take (i + 1) ++ (rowsOf d).drop (i + 1) := (List.take_append_drop _ _).symm
      have h2 : sumC (rowsOf d) = sumC ((rowsOf d).take (i + 1)) + sumC ((rowsOf d).drop (i + 1)) := by
        conv => lhs; rw [h1]
        simp only [sumC, List.map_append, List.sum_append]
      omega
    have hl1 := pd_len hpa1
    have hl0 := pd_len hpa
    refine lc_itR (walk_list (xs := ts1.map V.ref)) (fun D j H' => RoC H5 k ps1 j D H') (fun D hD => ⟨⟨[], same_new hD _, upd_same, .nil⟩⟩) (fun D j H' _ _ ⟨⟨_, s, _⟩⟩ => SqL.of (s _ _ er1)) ?_ ?_
    · rintro D j y H6 H7 hD hj ⟨⟨ts', s7, eD, hpa'⟩⟩ ⟨rfl, hy⟩
      rw [List.getElem?_map, Option.map_eq_some_iff] at hy
      obtain ⟨t, ht, rfl⟩ := hy
      obtain ⟨pj, hpj, hat⟩ := pd_get hpa1 ht
      have hpl := (hpv1 pj (List.mem_of_getElem? hpj)).1
      have htl := pd_len hpa'
      simp only [List.length_map, List.length_take] at htl
      have ejm : (ps1.take (j + 1)).map (k :: ·) = (ps1.take j).map (k :: ·) ++ [k :: pj] := by rw [List.take_succ, hpj]; simp
      walk_at "rd"
      refine ⟨sz5 (by omega), fun q1 nq1 => ?_⟩
      have s8 := same_new nq1 (.tup [kV k])
      refine ⟨q1, t, _, _, rfl, rfl, SqT.of upd_same, SqT.of ((s7.trans s8) _ _ hat), sz5 (by simp; omega), (fun h => by cases h), fun _ hp0 => ?_, fun _ hp0 l nl => ?_⟩
      · refine ⟨ts'.map V.ref, s8 _ _ eD, sz5l (by simp; omega), ⟨⟨ts' ++ [q1], same_mut (s7.trans s8) hD, by rw [upd_same]; simp, ?_⟩⟩⟩
        rw [ejm]
        refine pd_app (pd_imp hpa' fun _ _ _ _ h => (h.imp s8).mut (s8 _ _ eD)) (.cons (PathAt.mut (l := ts'.map V.ref) ?_ (s8 _ _ eD)) .nil)
        have e0 : pj = [] := List.map_eq_nil_iff.mp hp0
        subst e0
        exact upd_same
      · have s9 := s8.trans (same_new nl (.tup ([kV k] ++ pj.map kV)))
        refine ⟨ts'.map V.ref, s9 _ _ eD, sz5l (by simp; omega), ⟨⟨ts' ++ [l], same_mut (s7.trans s9) hD, by rw [upd_same]; simp, ?_⟩⟩⟩
        rw [ejm]
        exact pd_app (pd_imp hpa' fun _ _ _ _ h => (h.imp s9).mut (s9 _ _ eD)) (.cons (PathAt.mut (l := ts'.map V.ref) upd_same (s9 _ _ eD)) .nil)
    · rintro D H' hD ⟨⟨ts', s', eD, hpa'⟩⟩
      rw [List.length_map, List.take_of_length_le (by omega)] at hpa'
      have htl := pd_len hpa'
      simp only [List.length_map] at htl
      refine ⟨r, D, _, _, rfl, rfl, (s5.trans s') _ _ er, eD, sz5 (by simp; omega), fun r2 nr2 => ⟨r2, rfl, ⟨⟨ts ++ ts', ps ++ ps1.map (k :: ·), ((s4.trans s5).trans s').trans (same_new nr2 _), by rw [upd_same]; simp, ?_, ?_, by simp; omega⟩⟩⟩⟩
      · exact pd_app (pd_imp hpa fun _ _ _ _ h => h.imp ((s5.trans s').trans (same_new nr2 _))) (pd_imp hpa' fun _ _ _ _ h => h.imp (same_new nr2 _))
      · intro p hp
        rcases List.mem_append.mp hp with hp | hp
        · exact hpv p hp
        · obtain ⟨p', hp', rfl⟩ := List.mem_map.mp hp
          obtain ⟨h1, e, h2⟩ := hpv1 p' hp'
          exact ⟨by simp; omega, e, by simp only [walkD, hstep, Option.bind_some]; exact h2⟩
  · rintro σ' H3 ⟨r, z3, z4, rfl, ⟨ts, ps, s3, er, hpa, hpv, hpl⟩⟩
    walk_at "rd"
    rw [List.length_map, List.take_of_length_le (by rw [pd_len hrw]; exact Nat.le_refl _)] at hpl
    exact q r ts ps H3 (s2.trans s3) er hpa (fun p hp => ⟨(hpv p hp).1, (hpv p hp).2⟩) (by omega)
end

/-! ### _law_is_same -/
def sp_isame (n : Nat) : Sp := fun vs H Q _ => ∃ v u d e, vs = [v, u] ∧ Rp H n v d ∧ Rp H n u e ∧ docD n d ∧ docD n e ∧ n ≤ 90 ∧ cnt d ≤ 2000 ∧ cnt e ≤ 2000 ∧ ∀ H', Same H H' → Q (.bl (sameN n d e)) H'
abbrev s_law_is_same : Stmt := top 13
theorem sc_law_is_same : FnScope ["_law_near", "_law_far", "_law_told", "_law_box", "_law_k", "_law_label"] ["_law_near", "_law_far"] (defScope s_law_is_same) := ⟨rfl, rfl, rfl, by decide +kernel, rfl, by decide +kernel, by decide +kernel⟩
theorem leaf_two {m : Nat} {d : PyData} (h : docD m d) (f : flatN d = false) (b : (isT .list d || isT .dict d) = false) : (∃ i, d = .int i) ∨ ∃ x, d = .str x := by
  cases m with
  | zero => exact h.elim
  | succ m => cases d <;> first | exact .inl ⟨_, rfl⟩ | exact .inr ⟨_, rfl⟩ | exact h.elim | (simp [flatN] at f; done) | (simp [isT] at b; done)
theorem same_box {n : Nat} {d e : PyData} (fl : (isT .list d && isT .list e) = false) (fk : (isT .dict d && isT .dict e) = false) (h : (isT .list d || isT .dict d) = true ∨ (isT .list e || isT .dict e) = true) : sameN (n + 1) d e = false := by
  cases d <;> cases e <;> simp_all [isT, sameN, sameL]
section
variable {P : Program} {w : World} {K : PySem.W.Frag} {mg : Str → Option Value} {base : Heap} {f : Addr} {fd : FuncData}
theorem ok_isame {n : Nat} (D : Def K mg "_law_is_same" s_law_is_same f fd) (B : Blt mg) (hsys : ∃ o, base.get? sysModules = some o) (R_law_is_same : RdyG P w K mg base (n + 1) "_law_is_same" ["_law_near", "_law_far"] (sp_isame n)) : FnG P w K mg base (n + 2) f fd ["_law_near", "_law_far"] (sp_isame (n + 1)) := by
  refine okG D.1 sc_law_is_same (fun vs H Q E h => ?_) (fun cdv A outer s H vs Q E hgd hr h => ?_)
  · obtain ⟨v, u, d, e, rfl, _⟩ := h
    rfl
  obtain ⟨v, u, d, e, rfl, hd, he, dd, de, h90, c1, c2, q⟩ := h
  have hu := hu_of hr
  refine ⟨_, (pss_cons (ps_if (PW.pt (pw_or (pt_val (pe_callB (isiK (K := K) rfl) (by rfl) B.b_isinstance (by decide +kernel) (pa_cons (pv 0) (pa_cons (pe_bltn (v := .ty "bool") (by rfl) B.b_bool (by decide +kernel) rfl) pa_nil)))) (pw_or (pt_val (pe_callB (isiK (K := K) rfl) (by rfl) B.b_isinstance (by decide +kernel) (pa_cons (pv 1) (pa_cons (pe_bltn (v := .ty "bool") (by rfl) B.b_bool (by decide +kernel) rfl) pa_nil)))) (pw_or (pt_cmpR op_isN (pv 0) pe_non (nomark _)) (pw_or1 (pt_cmpR op_isN (pv 1) pe_non (nomark _)))))))
   (pss_one (ps_ret (pe_cmpR op_eq (pe_callB (call_repr hgd hsys (Room.u100 hr)) (by rfl) B.b_repr (by decide +kernel) (pa_cons (pv 0) pa_nil)) (pe_callB (call_repr hgd hsys (Room.u100 hr)) (by rfl) B.b_repr (by decide +kernel) (pa_cons (pv 1) pa_nil)) (nomark _))))
   pss_nil)
  (pss_cons (ps_if (PW.pt (pw_and (pt_val (pe_callB (isiK (K := K) rfl) (by rfl) B.b_isinstance (by decide +kernel) (pa_cons (pv 0) (pa_cons (pe_bltn (v := .ty "list") (by rfl) B.b_list (by decide +kernel) rfl) pa_nil)))) (pw_and1 (pt_val (pe_callB (isiK (K := K) rfl) (by rfl) B.b_isinstance (by decide +kernel) (pa_cons (pv 1) (pa_cons (pe_bltn (v := .ty "list") (by rfl) B.b_list (by decide +kernel) rfl) pa_nil)))))))
   (pss_cons (ps_if (pt_cmpR op_ne (pe_callB (lenK (K := K) rfl) (by rfl) B.b_len (by decide +kernel) (pa_cons (pv 0) pa_nil)) (pe_callB (lenK (K := K) rfl) (by rfl) B.b_len (by decide +kernel) (pa_cons (pv 1) pa_nil)) (nomark _))
   (pss_one (ps_ret pe_bl))
   pss_nil)
  (pss_cons (ps_setLc (i := 2) (own := [("_law_k", 4)]) (by rfl) sc_law_is_same.nd rfl rfl (sw_true rfl rfl rfl (by decide +kernel)) (pi_range1 (by rfl) B.b_range (pa_cons (pe_callB (lenK (K := K) rfl) (by rfl) B.b_len (by decide +kernel) (pa_cons (pv 0) pa_nil)) pa_nil)) (blkOk_by (own := [("_law_k", 4)]) (N := ["_law_near", "_law_far", "_law_told", "_law_box", "_law_k", "_law_label"]) (sc := defScope s_law_is_same) (by decide +kernel)) (fun _ _ _ _ _ => (pg_name (i := 4) sc_law_is_same.nd rfl (by first | exact Or.inl rfl | exact Or.inr rfl))) (fun _ _ _ _ _ => pts_nil) (fun _ _ _ _ _ => (pe_cg R_law_is_same hgd hr rfl (pa_cons (pe_ix (ixLK (K := K) rfl) (pv 0) (pv 4) (fun _ _ => rfl)) (pa_cons (pe_ix (ixLK (K := K) rfl) (pv 1) (pv 4) (fun _ _ => rfl)) pa_nil)))))
  (pss_one (ps_ret (pe_cmpR (notInK (K := K) rfl) pe_bl (pv 2) rfl)))))
   pss_nil)
  (pss_cons (ps_if (PW.pt (pw_and (pt_val (pe_callB (isiK (K := K) rfl) (by rfl) B.b_isinstance (by decide +kernel) (pa_cons (pv 0) (pa_cons (pe_bltn (v := .ty "dict") (by rfl) B.b_dict (by decide +kernel) rfl) pa_nil)))) (pw_and1 (pt_val (pe_callB (isiK (K := K) rfl) (by rfl) B.b_isinstance (by decide +kernel) (pa_cons (pv 1) (pa_cons (pe_bltn (v := .ty "dict") (by rfl) B.b_dict (by decide +kernel) rfl) pa_nil)))))))
   (pss_cons (ps_if (pt_cmpR (neDK (K := K) rfl hr.units) (pe_callB (sortedSK (K := K) rfl) (by rfl) B.b_sorted (by decide +kernel) (pa_cons (pe_callTy (call_listD rfl) (by rfl) B.b_list (by decide +kernel) (pa_cons (pv 0) pa_nil)) pa_nil)) (pe_callB (sortedSK (K := K) rfl) (by rfl) B.b_sorted (by decide +kernel) (pa_cons (pe_callTy (call_listD rfl) (by rfl) B.b_list (by decide +kernel) (pa_cons (pv 1) pa_nil)) pa_nil)) (nomark _))
   (pss_one (ps_ret pe_bl))
   pss_nil)
  (pss_cons (ps_lock (ps_setLc (i := 2) (own := [("_law_label", 5)]) (by rfl) sc_law_is_same.nd rfl rfl (sw_true rfl rfl rfl (by decide +kernel)) (pi_keys (pv 0)) (blkOk_by (own := [("_law_label", 5)]) (N := ["_law_near", "_law_far", "_law_told", "_law_box", "_law_k", "_law_label"]) (sc := defScope s_law_is_same) (by decide +kernel)) (fun _ _ _ _ _ => (pg_name (i := 5) sc_law_is_same.nd rfl (by first | exact Or.inl rfl | exact Or.inr rfl))) (fun _ _ _ _ _ => pts_nil) (fun _ _ _ _ _ => (pe_cg R_law_is_same hgd hr rfl (pa_cons (pe_dget hu (pv 0) (pv 5) (fun _ _ => rfl)) (pa_cons (pe_dget hu (pv 1) (pv 5) (fun _ _ => rfl)) pa_nil))))))
  (pss_one (ps_ret (pe_cmpR (notInK (K := K) rfl) pe_bl (pv 2) rfl)))))
   pss_nil)
  (pss_cons (ps_for PassesOwn.never rfl (pi_tup (pe_tup (pa_cons (pv 0) (pa_cons (pv 1) pa_nil)))) (pg_name (i := 3) sc_law_is_same.nd rfl (by first | exact Or.inl rfl | exact Or.inr rfl))
   (pss_one (ps_if (pt_val (pe_callB (isiTK (K := K) rfl) (by rfl) B.b_isinstance (by decide +kernel) (pa_cons (pv 3) (pa_cons (pe_tup (pa_cons (pe_bltn (v := .ty "list") (by rfl) B.b_list (by decide +kernel) rfl) (pa_cons (pe_bltn (v := .ty "dict") (by rfl) B.b_dict (by decide +kernel) rfl) pa_nil))) pa_nil))))
   (pss_one (ps_ret pe_bl))
   pss_nil)))
  (pss_one (ps_ret (pe_and (pe_cmpR op_eq (pe_callB (isiK (K := K) rfl) (by rfl) B.b_isinstance (by decide +kernel) (pa_cons (pv 0) (pa_cons (pe_bltn (v := .ty "str") (by rfl) B.b_str (by decide +kernel) rfl) pa_nil))) (pe_callB (isiK (K := K) rfl) (by rfl) B.b_isinstance (by decide +kernel) (pa_cons (pv 1) (pa_cons (pe_bltn (v := .ty "str") (by rfl) B.b_str (by decide +kernel) rfl) pa_nil))) (nomark _)) (pe_one (pe_cmpR op_eq (pv 0) (pv 1) (nomark _)))))))))), ?_⟩
  -- None, True, False
  refine cutM (fun σ' H' => σ' = [some v, some u, none, none, none, none] ∧ H' = H ∧ flatN d = false ∧ flatN e = false) (fun N hN => ?_) ?_
  · walk_at "rd"
    have hrep : (flatN d = true ∨ flatN e = true) → (rRepr [v] H fun x H1 => rRepr [u] H1 fun y H2 => scal x y = true ∧ Q (V.bl (decide (x = y))) H2) := fun hf => by
      refine repr1 hd h90 dd.fine c1 (repr1 he h90 de.fine c2 ⟨rfl, ?_⟩)
      have h1 := q _ (Same.refl _)
      rw [← flat_same dd de hf] at h1
      simpa using h1
    have f1 := flat_iff hd
    have f2 := flat_iff he
    refine isi1 .bool hd ⟨_, rfl, ite2 (fun h => hrep (.inl (f1.mpr (.inl h)))) fun h1 => ?_⟩
    refine isi1 .bool he ⟨_, rfl, ite2 (fun h => hrep (.inr (f2.mpr (.inl h)))) fun h2 => ?_⟩
    refine ite2 (fun h => hrep (.inl (f1.mpr (.inr h)))) fun h3 => ?_
    refine ite2 (fun h => hrep (.inr (f2.mpr (.inr h)))) fun h4 => ?_
    refine hN _ _ ⟨rfl, rfl, ?_, ?_⟩
    · rw [← Bool.not_eq_true, f1]; simp [h1, h3]
    · rw [← Bool.not_eq_true, f2]; simp [h2, h4]
  rintro σ' H' ⟨rfl, rfl, fd, fe⟩
  -- two lists
  refine cutM (fun σ' H'' => σ' = [some v, some u, none, none, none, none] ∧ H'' = H' ∧ (isT .list d && isT .list e) = false) (fun N hN => ?_) ?_
  · walk_at "rd"
    refine isi1 .list hd ⟨_, rfl, ite2 (fun h1 => ?_) fun h1 => ?_⟩
    · refine isi1 .list he ⟨_, rfl, ite2 (fun h2 => ?_) fun h2 => hN _ _ ⟨rfl, rfl, by simp [h2]⟩⟩
      obtain ⟨a, rfl⟩ : ∃ a, d = .list a := by cases d <;> first | exact ⟨_, rfl⟩ | cases h1
      obtain ⟨b, rfl⟩ : ∃ a, e = .list a := by cases e <;> first | exact ⟨_, rfl⟩ | cases h2
      obtain ⟨p1, xs, rfl, ha, hb, hp⟩ := id hd
      obtain ⟨p2, ys, rfl, ha2, hb2, hp2⟩ := id he
      refine ⟨_, .inl ⟨_, SqL.of ha, rfl⟩, _, .inl ⟨_, SqL.of ha2, rfl⟩, rfl, ?_⟩
      by_cases hl : xs.length = ys.length
      · refine iteF' (by rw [hl]; simp) ⟨_, .inl ⟨_, SqL.of ha, rfl⟩, by omega, by omega, ?_⟩
        have hla : a.length = b.length := by rw [← pd_len hp, ← pd_len hp2, hl]
        refine lcP_range ((List.zipWith (sameN n) a b).map V.bl) (by simp [← pd_len hp, ← pd_len hp2, hl]) (by omega) ?_ ?_
        · rintro i x y H2 N rfl hy s N'
          simp only [List.getElem?_map, Option.map_eq_some_iff] at hy
          obtain ⟨z, hz, rfl⟩ := hy
          obtain ⟨da, db, h1, h2, rfl⟩ := List.getElem?_zipWith_eq_some.mp hz
          have hi : i < a.length := (List.getElem?_eq_some_iff.mp h1).1
          have hx1 : ∃ w, xs[i]? = some w := ⟨xs[i]'(by rw [pd_len hp]; exact hi), by rw [List.getElem?_eq_getElem]⟩
          have hx2 : ∃ w, ys[i]? = some w := ⟨ys[i]'(by rw [pd_len hp2, ← hla]; exact hi), by rw [List.getElem?_eq_getElem]⟩
          obtain ⟨w1, hw1⟩ := hx1
          obtain ⟨w2, hw2⟩ := hx2
          obtain ⟨da', e1, r1⟩ := pd_get hp hw1
          obtain ⟨db', e2, r2⟩ := pd_get hp2 hw2
          rw [h1] at e1; cases e1
          rw [h2] at e2; cases e2
          have m1 := List.mem_of_getElem? h1
          have m2 := List.mem_of_getElem? h2
          have q1 := cntAll_mem m1
          have q2 := cntAll_mem m2
          simp only [cnt] at c1 c2
          walk_at "rd"
          refine ⟨p1, xs, _, w1, rfl, rfl, SqL.of (s _ _ ha), by rw [Int.zero_add]; exact atI_nat hw1, p2, ys, _, w2, rfl, rfl, SqL.of (s _ _ ha2), by rw [Int.zero_add]; exact atI_nat hw2, ?_⟩
          exact ⟨w1, w2, da, db, rfl, r1.imp s, r2.imp s, dd.2 _ m1, de.2 _ m2, by omega, by omega, by omega, fun H4 s4 => N' H4 s4⟩
        · intro D' H2 nD s e
          refine ⟨D', _, rfl, .inl (SqL.of e), rfl, flat_bls _, ?_⟩
          have := q _ s
          simp only [if_true]
          rw [notin_false]
          simpa [sameN, hla] using this
      · have hla : ¬ a.length = b.length := by rw [← pd_len hp, ← pd_len hp2]; exact hl
        refine iteT' (by omega) ?_
        have := q _ (Same.refl _)
        simpa [sameN, hla] using this
    · exact hN _ _ ⟨rfl, rfl, by simp [h1]⟩
  rintro σ' H'' ⟨rfl, rfl, fl⟩
  -- two dicts
  refine cutM (fun σ' H2 => σ' = [some v, some u, none, none, none, none] ∧ H2 = H'' ∧ (isT .dict d && isT .dict e) = false) (fun N hN => ?_) ?_
  · walk_at "rd"
    refine isi1 .dict hd ⟨_, rfl, ite2 (fun h1 => ?_) fun h1 => ?_⟩
    · refine isi1 .dict he ⟨_, rfl, ite2 (fun h2 => ?_) fun h2 => hN _ _ ⟨rfl, rfl, by simp [h2]⟩⟩
      obtain ⟨a, rfl⟩ : ∃ a, d = .dict a := by cases d <;> first | exact ⟨_, rfl⟩ | cases h1
      obtain ⟨b, rfl⟩ : ∃ a, e = .dict a := by cases e <;> first | exact ⟨_, rfl⟩ | cases h2
      obtain ⟨p1, xs, rfl, ha, hb, hn, hp⟩ := id hd
      obtain ⟨p2, ys, rfl, ha2, hb2, hn2, hp2⟩ := id he
      have k1 := dd.keys
      have k2 := de.keys
      have hla : a.length ≤ 10 := dd.1
      have hlb : b.length ≤ 10 := de.1
      refine ⟨_, rfl, _, ha, fun r1 nr1 => ?_⟩
      rw [keysV_of hp k1]
      refine ⟨r1, keysD a, rfl, SqL.of upd_same, by simp [keysD]; omega, fun z1 r2 pz1 sz1 nr2 => ?_⟩
      obtain rfl : z1 = srt (keysD a) := srt_is pz1 sz1
      have s1 := (same_new nr1 (.lst ((keysD a).map V.str))).trans (same_new nr2 (.lst ((srt (keysD a)).map V.str)))
      refine ⟨_, rfl, _, rd_same s1 ha2, fun r3 nr3 => ?_⟩
      rw [keysV_of hp2 k2]
      refine ⟨r3, keysD b, rfl, SqL.of upd_same, by simp [keysD]; omega, fun z2 r4 pz2 sz2 nr4 => ?_⟩
      obtain rfl : z2 = srt (keysD b) := srt_is pz2 sz2
      have s2 := (s1.trans (same_new nr3 (.lst ((keysD b).map V.str)))).trans (same_new nr4 (.lst ((srt (keysD b)).map V.str)))
      have e2 := ((same_new nr3 (.lst ((keysD b).map V.str))).trans (same_new nr4 (.lst ((srt (keysD b)).map V.str)))) _ _ upd_same
      have a1 : ∀ x ∈ srt (keysD a), AsciiS x := fun x hx => by
        obtain ⟨q', hq, rfl⟩ := List.mem_map.mp (pz1.mem_iff.mp hx)
        obtain ⟨⟨y, hy, hy2⟩, _⟩ := dd.2 q' hq
        rw [hy]; exact hy2.2
      have a2 : ∀ x ∈ srt (keysD b), AsciiS x := fun x hx => by
        obtain ⟨q', hq, rfl⟩ := List.mem_map.mp (pz2.mem_iff.mp hx)
        obtain ⟨⟨y, hy, hy2⟩, _⟩ := de.2 q' hq
        rw [hy]; exact hy2.2
      refine ⟨_, _, Dp_strs e2, Dp_strs upd_same, shaped_strs a1, shaped_strs a2, _, rfl, ?_⟩
      rw [eqv_strs]
      by_cases hs : srt (keysD a) = srt (keysD b)
      · rw [decide_eq_true hs]
        have hr4 : H'' r4 = none := (s1.trans (same_new nr3 _)).free nr4
        refine iteF ?_
        refine lcD_keys (rd_same s2 ha) upd_same rfl hr4 s2 ((a.map fun e => optB (dget b (strD e.1)) (sameN n e.2)).map V.bl) (by simp [pd_len hp]) (by omega) ?_ ?_
        · intro i k v y H' N hk hy ls ha' N'
          obtain ⟨e, he, hk', hr'⟩ := pd_get hp hk
          have hm := List.mem_of_getElem? he
          obtain ⟨x, hx⟩ := k1 e hm
          obtain ⟨e1, e2⟩ := e
          simp at hx hk' hr'
          subst hx
          cases k with
          | inl i => cases hk'
          | inr z =>
            cases hk'
            have hin : x ∈ keysD b := mem_srt.mp (by rw [← hs]; exact mem_srt.mpr (List.mem_map.mpr ⟨_, hm, rfl⟩))
            rcases get_of hp2 k2 x with ⟨_, hnone⟩ | ⟨v2, d2, hv2, hd2, hr2⟩
            · exact absurd hin (dget_none hnone)
            · walk_at "rd"
              refine ⟨v, .inl ⟨xs, .inr x, ha', rfl, (valV_at hn hk).symm⟩, v2, .inl ⟨ys, .inr x, ls.rdk ha2, rfl, hv2.symm⟩, ?_⟩
              obtain ⟨q', hq', rfl, _⟩ := dget_mem hd2
              have q1 := cntKv_mem hm; simp only at q1
              have q2 := cntKv_mem hq'
              simp only [cnt] at c1 c2
              refine ⟨v, v2, e2, _, rfl, hr'.lk ls, hr2.lk ls, (dd.2 _ hm).2, (de.2 _ hq').2, by omega, by omega, by omega, fun H4 s4 => ?_⟩
              simp [he, strD, hd2, optB] at hy
              subst hy
              exact N' H4 s4
        · intro D' H' nD s e
          refine ⟨D', _, rfl, .inl (SqL.of e), rfl, flat_bls _, ?_⟩
          have := q _ (s2.trans s)
          simp only [if_true]
          rw [notin_false]
          simpa [sameN, hs] using this
      · rw [decide_eq_false hs]
        refine iteT ?_
        have := q _ s2
        simpa [sameN, hs] using this
    · exact hN _ _ ⟨rfl, rfl, by simp [h1]⟩
  rintro σ' H2 ⟨rfl, rfl, fk⟩
  walk_at "rd"
  refine ⟨sz5 (by omega), fun p np => ⟨⟨_, SqT.of upd_same⟩, ?_⟩⟩
  have s0 : Same H2 (upd H2 p (.tup [v, u])) := same_new np _
  refine fo_it (walk_tup (xs := [v, u])) (fun i σ' H' => (∃ z, σ' = [some v, some u, none, z, none, none]) ∧ Same H2 H' ∧ H' p = some (.tup [v, u]) ∧ (0 < i → (isT .list d || isT .dict d) = false) ∧ (1 < i → (isT .list e || isT .dict e) = false)) ⟨⟨_, rfl⟩, s0, upd_same, by omega, by omega⟩ (fun i σ' H' _ h => SqT.of h.2.2.1) ?_ ?_
  · rintro i x σ' H' H3 hi ⟨⟨z, rfl⟩, s1, t1, b1, b2⟩ ⟨rfl, hx⟩
    simp only [List.length_cons, List.length_nil] at hi
    have hi2 : i = 0 ∨ i = 1 := by omega
    walk_at "rd"
    rcases hi2 with rfl | rfl
    · simp at hx
      subst hx
      refine ⟨sz5 (by omega), fun p2 np2 => ?_⟩
      have s2 := same_new np2 (.tup [.ty "list", .ty "dict"])
      refine isi2 .list .dict (hd.imp (s1.trans s2)) upd_same ?_
      refine ⟨_, rfl, ite2 (fun h => ?_) fun h => ?_⟩
      · have := q _ (s1.trans s2)
        rwa [same_box fl fk (.inl h)] at this
      · exact ⟨s1.trans s2, s2 _ _ t1, fun _ => by simpa using h, by omega⟩
    · simp at hx
      subst hx
      refine ⟨sz5 (by omega), fun p2 np2 => ?_⟩
      have s2 := same_new np2 (.tup [.ty "list", .ty "dict"])
      refine isi2 .list .dict (he.imp (s1.trans s2)) upd_same ?_
      refine ⟨_, rfl, ite2 (fun h => ?_) fun h => ?_⟩
      · have := q _ (s1.trans s2)
        rwa [same_box fl fk (.inr h)] at this
      · exact ⟨s1.trans s2, s2 _ _ t1, fun _ => b1 (by omega), fun _ => by simpa using h⟩
  · rintro σ' H' ⟨⟨z, rfl⟩, s1, t1, b1, b2⟩
    walk_at "rd"
    have b1 := b1 (by simp)
    have b2 := b2 (by simp)
    refine isi1 .str (hd.imp s1) (isi1 .str (he.imp s1) ⟨rfl, ?_⟩)
    have hq := q _ s1
    rcases leaf_two dd fd b1 with ⟨i, rfl⟩ | ⟨x, rfl⟩ <;> rcases leaf_two de fe b2 with ⟨j, rfl⟩ | ⟨y, rfl⟩ <;> cases hd <;> cases he
    · refine iteT' rfl ⟨rfl, ?_⟩
      simpa [sameN, sameL] using hq
    · exact iteF' (by simp [isT]) hq
    · exact iteF' (by simp [isT]) hq
    · refine iteT' rfl ⟨rfl, ?_⟩
      simpa [sameN, sameL] using hq
end

/-! ### law -/
def sp_law (K : PySem.W.Frag) : Sp := fun vs H Q _ => ∃ a ns, vs = [.ref a] ∧ Scr K H a ns ∧ ns.length ≤ 63 ∧ ∀ H', Q (.bl true) H'
section
variable {P : Program} {w : World} {K : PySem.W.Frag} {mg : Str → Option Value} {base : Heap} {f : Addr} {fd : FuncData}
theorem ok_law (D : Def K mg "law" s_law f fd) (B : Blt mg) (hsys : ∃ o, base.get? sysModules = some o) (R_law_cell : Rdy P w K mg base 1 "_law_cell" ["_law_cells", "_law_spot"] (sp_cell K)) (R_law_tree : Rdy P w K mg base 9 "_law_tree" ["_law_cells", "_law_spot", "_law_deep", "_law_left"] (sp_tree K 8))
    (R_law_routes : Rdy P w K mg base 9 "_law_routes" ["_law_tree_here"] (sp_routes 8)) (R_copied : Rdy P w K mg base 9 "copied" ["document"] (sp_copied 8)) (RK_copied : RdyK P w K mg base 9 "copied" ["document"] ["document"] (fun vs zs => vs ++ zs) (sp_copied 8)) (R_law_clone : Rdy P w K mg base 9 "_law_clone" ["_law_tree_here"] (sp_copied 8))
    (R_law_is_same : RdyG P w K mg base 9 "_law_is_same" ["_law_near", "_law_far"] (sp_isame 8)) (R_part_at : Rdy P w K mg base 11 "part_at" ["document", "path"] (sp_pat 8)) (R_law_filled : Rdy P w K mg base 9 "_law_filled" ["_law_tree_here"] (sp_filled 8)) : FnG P w K mg base 12 f fd ["_law_script"] (sp_law K) := by
  refine okG D.1 sc_law (fun vs H Q E h => ?_) (fun cdv A outer s H vs Q E hgd hr h => ?_)
  · obtain ⟨a, ns, rfl, _⟩ := h
    rfl
  obtain ⟨a, ns, rfl, hs, h63, q⟩ := h
  have hu := hu_of hr
  have hr1 : Room 1 _ := hr.mono (by omega)
  have hr9 : Room 9 _ := hr.mono (by omega)
  have hr11 : Room 11 _ := hr.mono (by omega)
  refine ⟨_, (pss_cons (ps_set (i := 1) sc_law.nd rfl (by first | exact Or.inl rfl | exact Or.inr rfl) (pe_lst (pa_cons pe_int pa_nil)))
  (pss_cons (ps_for PassesOwn.never rfl (pi_range1 (by rfl) B.b_range (pa_cons (pe_op op_add pe_int (pe_callB (call_min2 rfl) (by rfl) B.b_min (by decide +kernel) (pa_cons pe_int (pa_cons (pe_callB (lenK (K := K) rfl) (by rfl) B.b_len (by decide +kernel) (pa_cons (pv 0) pa_nil)) pa_nil)))) pa_nil)) (pg_name (i := 2) sc_law.nd rfl (by first | exact Or.inl rfl | exact Or.inr rfl))
   (pss_cons (ps_par (i := 3) (j := 4) (by rfl) sc_law.nd rfl rfl (by decide) rfl rfl (pa_cons (pe_c R_law_cell hr1 rfl (pa_cons (pv 0) (pa_cons (pv 1) pa_nil))) (pa_cons (pe_c R_law_cell hr1 rfl (pa_cons (pv 0) (pa_cons (pv 1) pa_nil))) pa_nil)) (by rfl))
  (pss_cons (ps_set (i := 5) sc_law.nd rfl (by first | exact Or.inl rfl | exact Or.inr rfl) (pe_c R_law_tree hr9 rfl (pa_cons (pv 0) (pa_cons (pv 1) (pa_cons (pe_op op_add pe_int (pe_op op_mod (pv 3) pe_int)) (pa_cons (pe_lst (pa_cons pe_int pa_nil)) pa_nil))))))
  (pss_cons (ps_par (i := 6) (j := 7) (by rfl) sc_law.nd rfl rfl (by decide) rfl rfl (pa_cons (pe_callB (call_repr hgd hsys (Room.u100 hr)) (by rfl) B.b_repr (by decide +kernel) (pa_cons (pv 5) pa_nil)) (pa_cons (pe_c R_law_routes hr9 rfl (pa_cons (pv 5) pa_nil)) pa_nil)) (by rfl))
  (pss_cons (ps_par (i := 8) (j := 9) (by rfl) sc_law.nd rfl rfl (by decide) rfl rfl (pa_cons (pe_c R_copied hr9 rfl (pa_cons (pv 5) pa_nil)) (pa_cons (pe_ck0 R_copied hr9 rfl RK_copied (pk_cons (pv 5) pk_nil)) pa_nil)) (by rfl))
  (pss_cons (ps_if (PW.pt (pw_or (pt_not (pt_val (pe_cg R_law_is_same hgd hr9 rfl (pa_cons (pv 8) (pa_cons (pv 5) pa_nil))))) (pw_or1 (pt_not (pt_val (pe_cg R_law_is_same hgd hr9 rfl (pa_cons (pv 5) (pa_cons (pv 9) pa_nil))))))))
   (pss_one (ps_ret pe_bl))
   pss_nil)
  (pss_cons (ps_set (i := 10) sc_law.nd rfl (by first | exact Or.inl rfl | exact Or.inr rfl) (pe_c R_part_at hr11 rfl (pa_cons (pv 5) (pa_cons (pe_ix (ixLK (K := K) rfl) (pv 7) (pe_op op_mod (pv 4) (pe_callB (lenK (K := K) rfl) (by rfl) B.b_len (by decide +kernel) (pa_cons (pv 7) pa_nil))) (fun _ _ => rfl)) pa_nil))))
  (pss_cons (ps_expr (pe_c R_law_filled hr9 rfl (pa_cons (pv 10) pa_nil)))
  (pss_cons (ps_expr (pe_c R_law_filled hr9 rfl (pa_cons (pv 8) pa_nil)))
  (pss_cons (ps_if (PW.pt (pw_or (pt_cmpR op_ne (pe_callB (call_repr hgd hsys (Room.u100 hr)) (by rfl) B.b_repr (by decide +kernel) (pa_cons (pv 5) pa_nil)) (pv 6) (nomark _)) (pw_or1 (pt_not (pt_val (pe_cg R_law_is_same hgd hr9 rfl (pa_cons (pv 9) (pa_cons (pv 5) pa_nil))))))))
   (pss_one (ps_ret pe_bl))
   pss_nil)
  (pss_cons (ps_par (i := 11) (j := 12) (by rfl) sc_law.nd rfl rfl (by decide) rfl rfl (pa_cons (pe_c R_copied hr9 rfl (pa_cons (pv 5) pa_nil)) (pa_cons (pe_c R_law_clone hr9 rfl (pa_cons (pv 5) pa_nil)) pa_nil)) (by rfl))
  (pss_cons (ps_expr (pe_c R_law_filled hr9 rfl (pa_cons (pv 5) pa_nil)))
  (pss_one (ps_if (PW.pt (pw_or (pt_not (pt_val (pe_cg R_law_is_same hgd hr9 rfl (pa_cons (pv 11) (pa_cons (pv 12) pa_nil))))) (pw_or1 (pt_not (pt_val (pe_cg R_law_is_same hgd hr9 rfl (pa_cons (pv 9) (pa_cons (pv 12) pa_nil))))))))
   (pss_one (ps_ret pe_bl))
   pss_nil))))))))))))))
  (pss_one (ps_ret pe_bl)))), ?_⟩
  walk_at "rd"
  have hs0 : ∀ (p : Addr), H p = none → Scr K (upd H p (HO.lst [V.int 0])) a ns := fun p np => hs.same (same_new np _)
  refine ⟨sz5 (by omega), fun p np => ⟨_, .inl ⟨_, (hs0 p np).sq, rfl⟩, ?_⟩⟩
  rw [List.length_map]
  have hmin : (0 : Int) ≤ (if (ns.length : Int) < 10 then (ns.length : Int) else 10) ∧ (if (ns.length : Int) < 10 then (ns.length : Int) else 10) ≤ 10 := by split <;> omega
  generalize (if (ns.length : Int) < 10 then (ns.length : Int) else 10) = mm at hmin ⊢
  refine ⟨by omega, by omega, ?_⟩
  obtain ⟨t, ht⟩ : ∃ t : Nat, (3 + mm).toNat = t := ⟨_, rfl⟩
  rw [ht]
  have ht2 : t ≤ 13 := by omega
  refine fo_it walk_range (fun i σ' H' => ∃ (k : Int) (v2 v3 v4 v5 v6 v7 v8 v9 v10 v11 v12 : Option V), σ' = [some (V.ref a), some (V.ref p), v2, v3, v4, v5, v6, v7, v8, v9, v10, v11, v12] ∧ Scr K H' a ns ∧ H' p = some (.lst [.int k]) ∧ 0 ≤ k ∧ k ≤ 1000000 * i)
    ⟨0, none, none, none, none, none, none, none, none, none, none, none, rfl, hs0 p np, upd_same, by omega, by omega⟩ (fun _ _ _ _ _ => trivial) ?_ ?_
  · rintro i y σ' H1 H2 hi ⟨k, v2, v3, v4, v5, v6, v7, v8, v9, v10, v11, v12, rfl, hs1, hp, k0, k1⟩ ⟨rfl, rfl⟩
    -- two cells
    refine cutM (fun σ' H' => ∃ n m : Int, 0 ≤ n ∧ 0 ≤ m ∧ σ' = [some (V.ref a), some (V.ref p), some (.int (0 + i)), some (.int n), some (.int m), v5, v6, v7, v8, v9, v10, v11, v12] ∧ Scr K H' a ns ∧ H' p = some (.lst [.int (k + 2)])) (fun N hN => ?_) ?_
    · walk_at "rd"
      refine ⟨a, p, ns, k, rfl, hs1, h63, hp, k0, by omega, fun n n0 n1 => ?_⟩
      refine ⟨a, p, ns, k + 1, rfl, hs1.put hp, h63, upd_same, by omega, by omega, fun m m0 m1 => ?_⟩
      exact hN _ _ ⟨n, m, n0, m0, rfl, (hs1.put hp).put upd_same, by rw [upd_same]; congr 4; omega⟩
    rintro σ' H3 ⟨n, m, n0, m0, rfl, hs3, hp3⟩
    have m8 := mod_in n (m := 8) (by decide)
    -- the document
    refine cutM (fun σ' H' => ∃ v d k' G, σ' = [some (V.ref a), some (V.ref p), some (.int (0 + i)), some (.int n), some (.int m), some v, v6, v7, v8, v9, v10, v11, v12] ∧ Scr K H' a ns ∧ H' p = some (.lst [.int k']) ∧ 0 ≤ k' ∧ k' ≤ 1000000 * i + 400000 ∧ Ow 8 G v d ∧ Same G H' ∧ (∀ b, H3 b ≠ none → G b = none) ∧ docD 8 d ∧ cnt d ≤ 1000) (fun N hN => ?_) ?_
    · walk_at "rd"
      refine ⟨by decide, sz5 (by omega), fun lf nlf => ?_⟩
      have npl : p ≠ lf := ne_of_none hp3 nlf
      have hp4 : upd H3 lf (.lst [.int 30]) p = some (.lst [.int (k + 2)]) := by rw [upd_ne npl]; exact hp3
      refine ⟨a, p, lf, ns, k + 2, 30, 1 + n % 8, rfl, hs3.same (same_new nlf _), h63, hp4, by omega, by omega, upd_same, npl, by omega, by omega, fun v d H4 k4 z4 K4 e1 l1 l2 e2 c1 c2 r4 d4 => ?_⟩
      refine hN _ _ ⟨v, d, k4, _, rfl, (hs3.same (same_new nlf _)).keep K4 (by simp [hp4, upd_same]), e1, by omega, by omega, r4, news_sub _ _, fun b hb => ?_, d4, by omega⟩
      cases e : H3 b with
      | none => exact absurd e hb
      | some o => exact news_no ((same_new nlf _) _ _ e)
    rintro σ' H4 ⟨v, d, k4, G, rfl, hs4, hp4, k40, k41, ow, sG, hG, dv, cv⟩
    have hGa : ∀ ob, H4 a = some (.frz ob (.lst (ns.map V.int))) → (∃ ob', H3 a = some (.frz ob' (.lst (ns.map V.int)))) → G a = none := fun ob _ ⟨ob', h⟩ => hG a (by rw [h]; simp)
    have hGp : G p = none := hG p (by rw [hp3]; simp)
    walk_at "rd"
    have hR4 : Re H4 8 v d := ow.re.imp sG
    have hfine := dv.fine
    have nd : ndD 8 d := hR4.rp.nd dv
    have esame : sameN 8 d d = true := sameN_refl dv nd
    have hsF : ∀ H', (∀ b o, H4 b = some o → G b = none → H' b = some o) → Scr K H' a ns := fun H' kk => by
      rcases hs3 with ⟨ob, h3⟩ | h3
      · rcases hs4 with ⟨ob4, h4⟩ | h4
        · exact .inl ⟨ob4, kk _ _ h4 (hG a (by rw [h3]; simp))⟩
        · exact .inr h4
      · exact .inr h3
    refine repr1 hR4.rp (by omega) hfine (by omega) ?_
    refine ⟨v, d, rfl, hR4, dv, cv, by omega, fun r ts ps H5 s5 er hpa hpv hpl => ?_⟩
    refine ⟨v, d, rfl, hR4.imp s5, dv, fun v8 H6 s6 o8 => ?_⟩
    refine ⟨v, d, rfl, hR4.imp (s5.trans s6), dv, fun v9 H7 s7 o9 => ?_⟩
    have r8 := (o8.re.imp (news_sub _ _)).imp s7
    have r9 := o9.re.imp (news_sub _ _)
    have rv7 := hR4.imp ((s5.trans s6).trans s7)
    refine ⟨v8, v, d, d, rfl, r8.rp, rv7.rp, dv, dv, by omega, by omega, by omega, fun H8 s8 => ⟨_, rfl, iteF' (by rw [esame]; simp) ?_⟩⟩
    refine ⟨v, v9, d, d, rfl, (rv7.imp s8).rp, (r9.imp s8).rp, dv, dv, by omega, by omega, by omega, fun H9 s9 => ⟨_, rfl, iteF' (by rw [esame]; simp) ?_⟩⟩
    have s59 := ((s6.trans s7).trans s8).trans s9
    have hl := pd_len hpa
    have hpos : 0 < ps.length := by rw [hpl]; exact cnt_pos d
    refine ⟨_, .inl ⟨_, SqL.of (s59 _ _ er), rfl⟩, by simp; omega, ?_⟩
    have hmod := mod_in m (m := ((ts.map V.ref).length : Int)) (by simp; omega)
    obtain ⟨j, hj⟩ : ∃ j : Nat, m % ((ts.map V.ref).length : Int) = (j : Int) := ⟨(m % ((ts.map V.ref).length : Int)).toNat, by omega⟩
    rw [hj] at hmod ⊢
    have hjt : j < ts.length := by simp at hmod; omega
    obtain ⟨pj, hpj, hat⟩ := pd_get hpa (List.getElem?_eq_getElem hjt)
    obtain ⟨hpjl, e, he⟩ := hpv pj (List.mem_of_getElem? hpj)
    refine ⟨r, _, _, .ref ts[j], rfl, rfl, SqL.of (s59 _ _ er), atI_nat (by simp [List.getElem?_eq_getElem hjt]), ?_⟩
    refine ⟨v, ts[j], d, pj, e, rfl, (rv7.imp s8).imp s9, dv, s59 _ _ hat, by omega, he, fun v10 H10 s10 o10 dd' => ?_⟩
    refine ⟨v10, _, e, rfl, o10, news_sub _ _, dd', fun H11 k11 => ?_⟩
    have s911 : Same H9 H11 := fun b o eb => k11 b o (s10 _ _ eb) (news_no eb)
    have s611 := ((s7.trans s8).trans s9).trans s911
    refine ⟨v8, _, d, rfl, o8, (news_sub _ _).trans s611, dv, fun H12 k12 => ?_⟩
    have s512 : Same H5 H12 := fun b o eb => k12 b o (s611 _ _ (s6 _ _ eb)) (news_no eb)
    have s912 : Same (news H6 H7) H12 := fun b o eb => by
      obtain ⟨h6, h7⟩ := news_inv eb
      exact k12 b o (((s8.trans s9).trans s911) _ _ h7) (by rw [news_at (same_none s6 h6)]; exact h6)
    have rv12 := hR4.imp (s5.trans s512)
    refine repr1 rv12.rp (by omega) hfine (by omega) ⟨rfl, iteF' (by simp) ?_⟩
    refine ⟨v9, v, d, d, rfl, (o9.re.imp s912).rp, rv12.rp, dv, dv, by omega, by omega, by omega, fun H13 s13 => ⟨_, rfl, iteF' (by rw [esame]; simp) ?_⟩⟩
    refine ⟨v, d, rfl, rv12.imp s13, dv, fun v11 H14 s14 o11 => ?_⟩
    refine ⟨v, d, rfl, rv12.imp (s13.trans s14), dv, fun v12 H15 s15 o12 => ?_⟩
    have s1215 := (s13.trans s14).trans s15
    have sG13 := sG.trans ((s5.trans s512).trans s13)
    refine ⟨v, G, d, rfl, ow, sG.trans ((s5.trans s512).trans s1215), dv, fun H16 k16 => ?_⟩
    have r11 : Re H16 8 v11 d := o11.re.imp fun b o eb => by
      obtain ⟨h1, h2⟩ := news_inv eb
      exact k16 b o (s15 _ _ h2) (same_none sG13 h1)
    have r12 : Re H16 8 v12 d := o12.re.imp fun b o eb => by
      obtain ⟨h1, h2⟩ := news_inv eb
      exact k16 b o h2 (same_none (sG13.trans s14) h1)
    have r9' : Re H16 8 v9 d := o9.re.imp fun b o eb => by
      obtain ⟨h1, h2⟩ := news_inv eb
      exact k16 b o (s1215 _ _ (s912 _ _ eb)) (same_none (sG.trans (s5.trans s6)) h1)
    refine ⟨v11, v12, d, d, rfl, r11.rp, r12.rp, dv, dv, by omega, by omega, by omega, fun H17 s17 => ⟨_, rfl, iteF' (by rw [esame]; simp) ?_⟩⟩
    refine ⟨v9, v12, d, d, rfl, (r9'.imp s17).rp, (r12.imp s17).rp, dv, dv, by omega, by omega, by omega, fun H18 s18 => ⟨_, rfl, iteF' (by rw [esame]; simp) ?_⟩⟩
    have s1718 := s17.trans s18
    have s415 := (s5.trans s512).trans s1215
    exact ⟨(hsF H16 fun b o eb hb => k16 b o (s415 _ _ eb) hb).same s1718, k4, s1718 _ _ (k16 _ _ (s415 _ _ hp4) hGp), k40, by omega⟩
  · rintro σ' H1 ⟨k, v2, v3, v4, v5, v6, v7, v8, v9, v10, v11, v12, rfl, hs1, hp, k0, k1⟩
    walk_at "rd"
    exact q _
end

abbrev LVL : Nat := 12
section
variable {P : Program} {w : World} {K : PySem.W.Frag} {mg : Str → Option Value} {base : Heap} {f : Addr} {fd : FuncData}
theorem ok_copieds (D : Def K mg "copied" s_copied f fd) (B : Blt mg) : ∀ n : Nat, FnOk P w K mg base CX0 (n + 1) f fd ["document"] (sp_copied n)
  | 0 => ⟨fun vs H Q E ⟨_, _, _, h, _⟩ => h.elim, fun A outer s H args us vs Q E _ _ _ _ ⟨_, _, _, h, _⟩ => h.elim⟩
  | n + 1 => ok_copied D B (D.rdy (fun _ _ _ _ _ _ us hl => match us, hl with | [_], _ => rfl) (ok_copieds D B n))
theorem ok_clones (D : Def K mg "_law_clone" s_law_clone f fd) (B : Blt mg) : ∀ n : Nat, FnOk P w K mg base CX0 (n + 1) f fd ["_law_tree_here"] (sp_copied n)
  | 0 => ⟨fun vs H Q E ⟨_, _, _, h, _⟩ => h.elim, fun A outer s H args us vs Q E _ _ _ _ ⟨_, _, _, h, _⟩ => h.elim⟩
  | n + 1 => ok_clone D B (D.rdy (fun _ _ _ _ _ _ us hl => match us, hl with | [_], _ => rfl) (ok_clones D B n))
theorem ok_routess (D : Def K mg "_law_routes" s_law_routes f fd) (B : Blt mg) : ∀ n : Nat, FnOk P w K mg base CX0 (n + 1) f fd ["_law_tree_here"] (sp_routes n)
  | 0 => ⟨fun vs H Q E ⟨_, _, _, h, _⟩ => h.elim, fun A outer s H args us vs Q E _ _ _ _ ⟨_, _, _, h, _⟩ => h.elim⟩
  | n + 1 => ok_routes D B (D.rdy (fun _ _ _ _ _ _ us hl => match us, hl with | [_], _ => rfl) (ok_routess D B n))
theorem ok_filleds (D : Def K mg "_law_filled" s_law_filled f fd) (B : Blt mg) : ∀ n : Nat, FnOk P w K mg base CX0 (n + 1) f fd ["_law_tree_here"] (sp_filled n)
  | 0 => ⟨fun vs H Q E ⟨_, _, _, _, h, _⟩ => h.elim, fun A outer s H args us vs Q E _ _ _ _ ⟨_, _, _, _, h, _⟩ => h.elim⟩
  | n + 1 => ok_filled D B (D.rdy (fun _ _ _ _ _ _ us hl => match us, hl with | [_], _ => rfl) (ok_filleds D B n))
theorem ok_isames (D : Def K mg "_law_is_same" s_law_is_same f fd) (B : Blt mg) (hsys : ∃ o, base.get? sysModules = some o) : ∀ n : Nat, FnG P w K mg base (n + 1) f fd ["_law_near", "_law_far"] (sp_isame n)
  | 0 => ⟨fun vs H Q E ⟨_, _, _, _, _, h, _⟩ => h.elim, fun A outer s H args us vs Q E _ _ _ _ _ ⟨_, _, _, _, _, h, _⟩ => h.elim⟩
  | n + 1 => ok_isame D B hsys (D.rdyG (fun _ _ _ _ _ _ us hl => match us, hl with | [_, _], _ => rfl) (ok_isames D B hsys n))
end
theorem all_mk {l : PySem.W.OpenLaw} {w : World} {K : PySem.W.Frag} {h : Heap} {mg : Str → Option Value} {fa f0 f1 f2 f3 f4 f5 f6 f7 f8 f9 f10 f11 f12 : Addr} (X : K.In h) (G : h.Ns mainGlobals mg) (hfa : mg "law" = some (.ref fa))
    {od0 an0 : Option Addr} {sl0 : Array (Option Value)} {oc0 kV0 dc0 pm0 cd0 ct0 : Value}
    (a0 : PySem.W.nsIn K mainGlobals "is_integer" = some (some (.ref f0)))
    (l0 : K.lookup f0 = some ⟨oc0, od0, .func (PySem.W.fnOf "is_integer" "is_integer" (defArgs s_is_integer) (defBody s_is_integer) (defScope s_is_integer) .none kV0 dc0 pm0 an0 cd0 ct0), sl0⟩)
    (c0 : PySem.W.codeIn K cd0 "is_integer" = true) (k0 : PySem.W.keepIn K (.ref f0) = true)
    {od1 an1 : Option Addr} {sl1 : Array (Option Value)} {oc1 kV1 dc1 pm1 cd1 ct1 : Value}
    (a1 : PySem.W.nsIn K mainGlobals "has_step" = some (some (.ref f1)))
    (l1 : K.lookup f1 = some ⟨oc1, od1, .func (PySem.W.fnOf "has_step" "has_step" (defArgs s_has_step) (defBody s_has_step) (defScope s_has_step) .none kV1 dc1 pm1 an1 cd1 ct1), sl1⟩)
    (c1 : PySem.W.codeIn K cd1 "has_step" = true) (k1 : PySem.W.keepIn K (.ref f1) = true)
    {od2 an2 : Option Addr} {sl2 : Array (Option Value)} {oc2 kV2 dc2 pm2 cd2 ct2 : Value}
    (a2 : PySem.W.nsIn K mainGlobals "copied" = some (some (.ref f2)))
    (l2 : K.lookup f2 = some ⟨oc2, od2, .func (PySem.W.fnOf "copied" "copied" (defArgs s_copied) (defBody s_copied) (defScope s_copied) .none kV2 dc2 pm2 an2 cd2 ct2), sl2⟩)
    (c2 : PySem.W.codeIn K cd2 "copied" = true) (k2 : PySem.W.keepIn K (.ref f2) = true)
    {od3 an3 : Option Addr} {sl3 : Array (Option Value)} {oc3 kV3 dc3 pm3 cd3 ct3 : Value}
    (a3 : PySem.W.nsIn K mainGlobals "part_at" = some (some (.ref f3)))
    (l3 : K.lookup f3 = some ⟨oc3, od3, .func (PySem.W.fnOf "part_at" "part_at" (defArgs s_part_at) (defBody s_part_at) (defScope s_part_at) .none kV3 dc3 pm3 an3 cd3 ct3), sl3⟩)
    (c3 : PySem.W.codeIn K cd3 "part_at" = true) (k3 : PySem.W.keepIn K (.ref f3) = true)
    {od4 an4 : Option Addr} {sl4 : Array (Option Value)} {oc4 kV4 dc4 pm4 cd4 ct4 : Value}
    (a4 : PySem.W.nsIn K mainGlobals "_law_cell" = some (some (.ref f4)))
    (l4 : K.lookup f4 = some ⟨oc4, od4, .func (PySem.W.fnOf "_law_cell" "_law_cell" (defArgs s_law_cell) (defBody s_law_cell) (defScope s_law_cell) .none kV4 dc4 pm4 an4 cd4 ct4), sl4⟩)
    (c4 : PySem.W.codeIn K cd4 "_law_cell" = true) (k4 : PySem.W.keepIn K (.ref f4) = true)
    {od5 an5 : Option Addr} {sl5 : Array (Option Value)} {oc5 kV5 dc5 pm5 cd5 ct5 : Value}
    (a5 : PySem.W.nsIn K mainGlobals "_law_leaf" = some (some (.ref f5)))
    (l5 : K.lookup f5 = some ⟨oc5, od5, .func (PySem.W.fnOf "_law_leaf" "_law_leaf" (defArgs s_law_leaf) (defBody s_law_leaf) (defScope s_law_leaf) .none kV5 dc5 pm5 an5 cd5 ct5), sl5⟩)
    (c5 : PySem.W.codeIn K cd5 "_law_leaf" = true) (k5 : PySem.W.keepIn K (.ref f5) = true)
    {od6 an6 : Option Addr} {sl6 : Array (Option Value)} {oc6 kV6 dc6 pm6 cd6 ct6 : Value}
    (a6 : PySem.W.nsIn K mainGlobals "_law_names" = some (some (.ref f6)))
    (l6 : K.lookup f6 = some ⟨oc6, od6, .func (PySem.W.fnOf "_law_names" "_law_names" (defArgs s_law_names) (defBody s_law_names) (defScope s_law_names) .none kV6 dc6 pm6 an6 cd6 ct6), sl6⟩)
    (c6 : PySem.W.codeIn K cd6 "_law_names" = true) (k6 : PySem.W.keepIn K (.ref f6) = true)
    {od7 an7 : Option Addr} {sl7 : Array (Option Value)} {oc7 kV7 dc7 pm7 cd7 ct7 : Value}
    (a7 : PySem.W.nsIn K mainGlobals "_law_tree" = some (some (.ref f7)))
    (l7 : K.lookup f7 = some ⟨oc7, od7, .func (PySem.W.fnOf "_law_tree" "_law_tree" (defArgs s_law_tree) (defBody s_law_tree) (defScope s_law_tree) .none kV7 dc7 pm7 an7 cd7 ct7), sl7⟩)
    (c7 : PySem.W.codeIn K cd7 "_law_tree" = true) (k7 : PySem.W.keepIn K (.ref f7) = true)
    {od8 an8 : Option Addr} {sl8 : Array (Option Value)} {oc8 kV8 dc8 pm8 cd8 ct8 : Value}
    (a8 : PySem.W.nsIn K mainGlobals "_law_is_same" = some (some (.ref f8)))
    (l8 : K.lookup f8 = some ⟨oc8, od8, .func (PySem.W.fnOf "_law_is_same" "_law_is_same" (defArgs s_law_is_same) (defBody s_law_is_same) (defScope s_law_is_same) .none kV8 dc8 pm8 an8 cd8 ct8), sl8⟩)
    (c8 : PySem.W.codeIn K cd8 "_law_is_same" = true) (k8 : PySem.W.keepIn K (.ref f8) = true)
    {od9 an9 : Option Addr} {sl9 : Array (Option Value)} {oc9 kV9 dc9 pm9 cd9 ct9 : Value}
    (a9 : PySem.W.nsIn K mainGlobals "_law_clone" = some (some (.ref f9)))
    (l9 : K.lookup f9 = some ⟨oc9, od9, .func (PySem.W.fnOf "_law_clone" "_law_clone" (defArgs s_law_clone) (defBody s_law_clone) (defScope s_law_clone) .none kV9 dc9 pm9 an9 cd9 ct9), sl9⟩)
    (c9 : PySem.W.codeIn K cd9 "_law_clone" = true) (k9 : PySem.W.keepIn K (.ref f9) = true)
    {od10 an10 : Option Addr} {sl10 : Array (Option Value)} {oc10 kV10 dc10 pm10 cd10 ct10 : Value}
    (a10 : PySem.W.nsIn K mainGlobals "_law_filled" = some (some (.ref f10)))
    (l10 : K.lookup f10 = some ⟨oc10, od10, .func (PySem.W.fnOf "_law_filled" "_law_filled" (defArgs s_law_filled) (defBody s_law_filled) (defScope s_law_filled) .none kV10 dc10 pm10 an10 cd10 ct10), sl10⟩)
    (c10 : PySem.W.codeIn K cd10 "_law_filled" = true) (k10 : PySem.W.keepIn K (.ref f10) = true)
    {od11 an11 : Option Addr} {sl11 : Array (Option Value)} {oc11 kV11 dc11 pm11 cd11 ct11 : Value}
    (a11 : PySem.W.nsIn K mainGlobals "_law_routes" = some (some (.ref f11)))
    (l11 : K.lookup f11 = some ⟨oc11, od11, .func (PySem.W.fnOf "_law_routes" "_law_routes" (defArgs s_law_routes) (defBody s_law_routes) (defScope s_law_routes) .none kV11 dc11 pm11 an11 cd11 ct11), sl11⟩)
    (c11 : PySem.W.codeIn K cd11 "_law_routes" = true) (k11 : PySem.W.keepIn K (.ref f11) = true)
    {od12 an12 : Option Addr} {sl12 : Array (Option Value)} {oc12 kV12 dc12 pm12 cd12 ct12 : Value}
    (a12 : PySem.W.nsIn K mainGlobals "law" = some (some (.ref f12)))
    (l12 : K.lookup f12 = some ⟨oc12, od12, .func (PySem.W.fnOf "law" "law" (defArgs s_law) (defBody s_law) (defScope s_law) .none kV12 dc12 pm12 an12 cd12 ct12), sl12⟩)
    (c12 : PySem.W.codeIn K cd12 "law" = true) (k12 : PySem.W.keepIn K (.ref f12) = true)
    (z_len : PySem.W.nsIn K mainGlobals "len" = some none)
    (z_range : PySem.W.nsIn K mainGlobals "range" = some none)
    (z_isinstance : PySem.W.nsIn K mainGlobals "isinstance" = some none)
    (z_max : PySem.W.nsIn K mainGlobals "max" = some none)
    (z_min : PySem.W.nsIn K mainGlobals "min" = some none)
    (z_list : PySem.W.nsIn K mainGlobals "list" = some none)
    (z_dict : PySem.W.nsIn K mainGlobals "dict" = some none)
    (z_int : PySem.W.nsIn K mainGlobals "int" = some none)
    (z_str : PySem.W.nsIn K mainGlobals "str" = some none)
    (z_bool : PySem.W.nsIn K mainGlobals "bool" = some none)
    (z_tuple : PySem.W.nsIn K mainGlobals "tuple" = some none)
    (z_sorted : PySem.W.nsIn K mainGlobals "sorted" = some none)
    (z_enumerate : PySem.W.nsIn K mainGlobals "enumerate" = some none)
    (z_repr : PySem.W.nsIn K mainGlobals "repr" = some none)
    (z_all : PySem.W.nsIn K mainGlobals "all" = some none)
    (z_any : PySem.W.nsIn K mainGlobals "any" = some none)
    (z_zip : PySem.W.nsIn K mainGlobals "zip" = some none)
    (z_set : PySem.W.nsIn K mainGlobals "set" = some none)
    (z_sum : PySem.W.nsIn K mainGlobals "sum" = some none)
    : ∃ fd : FuncData, (∀ (s : Shared) (v : Value), BindsTo s fd ⟨[v], []⟩ [("_law_script", v)]) ∧ ∀ base : Heap, K.In base → base.Ns mainGlobals mg → (∃ o, base.get? sysModules = some o) → FnG l.prog w K mg base LVL fa fd ["_law_script"] (sp_law K) := by
  have e := hfa.symm.trans (PySem.W.mg_of X G a12)
  cases e
  have D_is_integer : Def K mg "is_integer" s_is_integer _ _ := ⟨fun_mk (st := s_is_integer) l0 c0 k0, PySem.W.mg_of X G a0⟩
  have D_has_step : Def K mg "has_step" s_has_step _ _ := ⟨fun_mk (st := s_has_step) l1 c1 k1, PySem.W.mg_of X G a1⟩
  have D_copied : Def K mg "copied" s_copied _ _ := ⟨fun_mk (st := s_copied) l2 c2 k2, PySem.W.mg_of X G a2⟩
  have D_part_at : Def K mg "part_at" s_part_at _ _ := ⟨fun_mk (st := s_part_at) l3 c3 k3, PySem.W.mg_of X G a3⟩
  have D_law_cell : Def K mg "_law_cell" s_law_cell _ _ := ⟨fun_mk (st := s_law_cell) l4 c4 k4, PySem.W.mg_of X G a4⟩
  have D_law_leaf : Def K mg "_law_leaf" s_law_leaf _ _ := ⟨fun_mk (st := s_law_leaf) l5 c5 k5, PySem.W.mg_of X G a5⟩
  have D_law_names : Def K mg "_law_names" s_law_names _ _ := ⟨fun_mk (st := s_law_names) l6 c6 k6, PySem.W.mg_of X G a6⟩
  have D_law_tree : Def K mg "_law_tree" s_law_tree _ _ := ⟨fun_mk (st := s_law_tree) l7 c7 k7, PySem.W.mg_of X G a7⟩
  have D_law_is_same : Def K mg "_law_is_same" s_law_is_same _ _ := ⟨fun_mk (st := s_law_is_same) l8 c8 k8, PySem.W.mg_of X G a8⟩
  have D_law_clone : Def K mg "_law_clone" s_law_clone _ _ := ⟨fun_mk (st := s_law_clone) l9 c9 k9, PySem.W.mg_of X G a9⟩
  have D_law_filled : Def K mg "_law_filled" s_law_filled _ _ := ⟨fun_mk (st := s_law_filled) l10 c10 k10, PySem.W.mg_of X G a10⟩
  have D_law_routes : Def K mg "_law_routes" s_law_routes _ _ := ⟨fun_mk (st := s_law_routes) l11 c11 k11, PySem.W.mg_of X G a11⟩
  have D_law : Def K mg "law" s_law _ _ := ⟨fun_mk (st := s_law) l12 c12 k12, PySem.W.mg_of X G a12⟩
  have B : Blt mg := ⟨PySem.W.mg_none_of X G z_len, PySem.W.mg_none_of X G z_range, PySem.W.mg_none_of X G z_isinstance, PySem.W.mg_none_of X G z_max, PySem.W.mg_none_of X G z_min, PySem.W.mg_none_of X G z_list, PySem.W.mg_none_of X G z_dict, PySem.W.mg_none_of X G z_int, PySem.W.mg_none_of X G z_str, PySem.W.mg_none_of X G z_bool, PySem.W.mg_none_of X G z_tuple, PySem.W.mg_none_of X G z_sorted, PySem.W.mg_none_of X G z_enumerate, PySem.W.mg_none_of X G z_repr, PySem.W.mg_none_of X G z_all, PySem.W.mg_none_of X G z_any, PySem.W.mg_none_of X G z_zip, PySem.W.mg_none_of X G z_set, PySem.W.mg_none_of X G z_sum⟩
  refine ⟨PySem.W.fnOf "law" "law" (defArgs s_law) (defBody s_law) (defScope s_law) .none kV12 dc12 pm12 an12 cd12 ct12, fun s v => .of_eq rfl, fun base _ _ hsys => ?_⟩
  have R_cell := D_law_cell.rdy (P := l.prog) (w := w) (base := base) (fun _ _ _ _ _ _ us hl => match us, hl with | [_, _], _ => rfl) (ok_cell D_law_cell B)
  have R_leaf := D_law_leaf.rdy (P := l.prog) (w := w) (base := base) (fun _ _ _ _ _ _ us hl => match us, hl with | [_], _ => rfl) (ok_leaf D_law_leaf B)
  have R_names := D_law_names.rdy (P := l.prog) (w := w) (base := base) (fun _ _ _ _ _ _ us hl => match us, hl with | [_], _ => rfl) (ok_names D_law_names B)
  have R_tree := D_law_tree.rdy (P := l.prog) (w := w) (base := base) (fun _ _ _ _ _ _ us hl => match us, hl with | [_, _, _, _], _ => rfl) (ok_trees D_law_tree B R_cell R_leaf R_names 8)
  have R_routes := D_law_routes.rdy (P := l.prog) (w := w) (base := base) (fun _ _ _ _ _ _ us hl => match us, hl with | [_], _ => rfl) (ok_routess D_law_routes B 8)
  have R_clone := D_law_clone.rdy (P := l.prog) (w := w) (base := base) (fun _ _ _ _ _ _ us hl => match us, hl with | [_], _ => rfl) (ok_clones D_law_clone B 8)
  have R_filled := D_law_filled.rdy (P := l.prog) (w := w) (base := base) (fun _ _ _ _ _ _ us hl => match us, hl with | [_], _ => rfl) (ok_filleds D_law_filled B 8)
  have R_isint := D_is_integer.rdy (P := l.prog) (w := w) (base := base) (fun _ _ _ _ _ _ us hl => match us, hl with | [_], _ => rfl) (ok_isint D_is_integer B)
  have R_hstep := D_has_step.rdy (P := l.prog) (w := w) (base := base) (fun _ _ _ _ _ _ us hl => match us, hl with | [_, _], _ => rfl) (ok_hstep D_has_step B R_isint)
  have R_copied := D_copied.rdy (P := l.prog) (w := w) (base := base) (fun _ _ _ _ _ _ us hl => match us, hl with | [_], _ => rfl) (ok_copieds D_copied B 8)
  have RK_copied := D_copied.rdyK (P := l.prog) (w := w) (base := base) ["document"] (fun vs zs => vs ++ zs) vals_app (fun _ _ _ _ _ _ us ws hl => match us, ws, hl with | [], [_], _ => rfl | [_], [], _ => rfl) (ok_copieds D_copied B 8)
  have R_pat := D_part_at.rdy (P := l.prog) (w := w) (base := base) (fun _ _ _ _ _ _ us hl => match us, hl with | [_, _], _ => rfl) (ok_pat (n := 8) D_part_at B R_hstep R_copied)
  have R_isame := D_law_is_same.rdyG (P := l.prog) (w := w) (base := base) (fun _ _ _ _ _ _ us hl => match us, hl with | [_, _], _ => rfl) (ok_isames D_law_is_same B hsys 8)
  exact ok_law D_law B hsys R_cell R_tree R_routes R_copied RK_copied R_clone R_isame R_pat R_filled
theorem walk {l : PySem.W.OpenLaw} {q : Program} {loose : List Str} {XP : (Str → Option Value) → Heap → Prop} {YP : World → Heap → Prop} {d : DefRec} {K : Params → PySem.W.Frag} (hn : l.most = some 63) (hdf : d.params.defaults = [])
    (hq : PyProof.Rows.importsNone q = true) (hY : ∀ (w : World) (h : Heap), YP w h → (K w.params).In h)
    (F : ∀ (w : World) (mg : Str → Option Value) (fa : Addr) (h : Heap), (K w.params).In h → h.Ns mainGlobals mg → mg d.name = some (.ref fa) →
      ∃ fd : FuncData, (∀ (s : Shared) (u : Value), BindsTo s fd ⟨[u], []⟩ [("_law_script", u)]) ∧ ∀ base : Heap, (K w.params).In base → base.Ns mainGlobals mg → (∃ o, base.get? sysModules = some o) → FnG l.prog w (K w.params) mg base LVL fa fd ["_law_script"] (sp_law (K w.params))) :
    PySem.W.WalkO q loose XP YP l.row.toRowW d [] (fun f vs => PySem.call f vs) :=
  SC.walkG (n := 63) (k := LVL) (x := "_law_script") (sp := sp_law) hn (by decide) hdf ⟨rfl, by decide, by decide⟩ hq hY F fun K H a ns hl hO hS => ⟨a, ns, rfl, Scr.of hS hO, hl, fun _ => rfl⟩

end SC
open PySem PySem.W PyProof.Rows
set_option maxRecDepth 100000 in
set_option maxHeartbeats 0 in
theorem PySem.Challenge.cw_schemacheck_k08_copies_holds : PySem.Challenge.rw_schemacheck_k08_copies.Holds := by
  w_on; o_law; k_head; (case hw => w_witness2)
  k_fill
  refine SC.walk (l := PySem.Challenge.rw_schemacheck_k08_copies) rfl rfl (by decide +kernel) (fun w h Y => PySem.W.kIn_of Y) ?F
  case F =>
    intro w mg fa h KX G hmg
    refine' SC.all_mk KX G hmg ?a0 ?l0 ?c0 ?k0 ?a1 ?l1 ?c1 ?k1 ?a2 ?l2 ?c2 ?k2 ?a3 ?l3 ?c3 ?k3 ?a4 ?l4 ?c4 ?k4 ?a5 ?l5 ?c5 ?k5 ?a6 ?l6 ?c6 ?k6 ?a7 ?l7 ?c7 ?k7 ?a8 ?l8 ?c8 ?k8 ?a9 ?l9 ?c9 ?k9 ?a10 ?l10 ?c10 ?k10 ?a11 ?l11 ?c11 ?k11 ?a12 ?l12 ?c12 ?k12 ?z_len ?z_range ?z_isinstance ?z_max ?z_min ?z_list ?z_dict ?z_int ?z_str ?z_bool ?z_tuple ?z_sorted ?z_enumerate ?z_repr ?z_all ?z_any ?z_zip ?z_set ?z_sum
    (case a0 => k_is)
    (case l0 => k_is)
    (case c0 => k_is)
    (case k0 => k_is)
    (case a1 => k_is)
    (case l1 => k_is)
    (case c1 => k_is)
    (case k1 => k_is)
    (case a2 => k_is)
    (case l2 => k_is)
    (case c2 => k_is)
    (case k2 => k_is)
    (case a3 => k_is)
    (case l3 => k_is)
    (case c3 => k_is)
    (case k3 => k_is)
    (case a4 => k_is)
    (case l4 => k_is)
    (case c4 => k_is)
    (case k4 => k_is)
    (case a5 => k_is)
    (case l5 => k_is)
    (case c5 => k_is)
    (case k5 => k_is)
    (case a6 => k_is)
    (case l6 => k_is)
    (case c6 => k_is)
    (case k6 => k_is)
    (case a7 => k_is)
    (case l7 => k_is)
    (case c7 => k_is)
    (case k7 => k_is)
    (case a8 => k_is)
    (case l8 => k_is)
    (case c8 => k_is)
    (case k8 => k_is)
    (case a9 => k_is)
    (case l9 => k_is)
    (case c9 => k_is)
    (case k9 => k_is)
    (case a10 => k_is)
    (case l10 => k_is)
    (case c10 => k_is)
    (case k10 => k_is)
    (case a11 => k_is)
    (case l11 => k_is)
    (case c11 => k_is)
    (case k11 => k_is)
    (case a12 => k_is)
    (case l12 => k_is)
    (case c12 => k_is)
    (case k12 => k_is)
    (case z_len => k_is)
    (case z_range => k_is)
    (case z_isinstance => k_is)
    (case z_max => k_is)
    (case z_min => k_is)
    (case z_list => k_is)
    (case z_dict => k_is)
    (case z_int => k_is)
    (case z_str => k_is)
    (case z_bool => k_is)
    (case z_tuple => k_is)
    (case z_sorted => k_is)
    (case z_enumerate => k_is)
    (case z_repr => k_is)
    (case z_all => k_is)
    (case z_any => k_is)
    (case z_zip => k_is)
    (case z_set => k_is)
    (case z_sum => k_is)
#print axioms PySem.Challenge.cw_schemacheck_k08_copies_holds
