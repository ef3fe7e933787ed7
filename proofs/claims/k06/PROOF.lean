import PyProof.Rows.All
import Wide.All
import OpenK.AllK
import Wide.FinOn
import HandS.ForMost
import HandS.IsInst
import HandS.DictComp
import HandS.Flow
import HandS.Walk
import HandS.More
import HandS.Style
import HandS.FStr
import HandS.Text
import PySem.Challenge.RW_schemacheck_k06_texts_of_paths
set_option Elab.async false
set_option linter.all false
set_option maxRecDepth 100000
set_option maxHeartbeats 4000000
/-! Schemacheck: data as trees over the abstract heap. -/
namespace SC
open PySem L2

/-! ### pairs -/
theorem pd_len {A B : Type} {F : A → B → Prop} {xs : List A} {ys : List B} (h : Paired F xs ys) : xs.length = ys.length := by
  induction h with
  | nil => rfl
  | cons _ _ ih => simp [ih]
theorem pd_imp {A B : Type} {F G : A → B → Prop} {xs : List A} {ys : List B} (h : Paired F xs ys) (f : ∀ a b, a ∈ xs → b ∈ ys → F a b → G a b) : Paired G xs ys := by
  induction h with
  | nil => exact .nil
  | cons r _ ih => exact .cons (f _ _ (by simp) (by simp) r) (ih fun a b ha hb q => f a b (by simp [ha]) (by simp [hb]) q)
theorem pd_app {A B : Type} {F : A → B → Prop} {xs zs : List A} {ys ws : List B} (h : Paired F xs ys) (g : Paired F zs ws) : Paired F (xs ++ zs) (ys ++ ws) := by
  induction h with
  | nil => exact g
  | cons r _ ih => exact .cons r ih
theorem pd_get {A B : Type} {F : A → B → Prop} {xs : List A} {ys : List B} (h : Paired F xs ys) : ∀ {i : Nat} {x : A}, xs[i]? = some x → ∃ y, ys[i]? = some y ∧ F x y := by
  induction h with
  | nil => intro i x e; simp at e
  | cons r _ ih =>
    intro i x e
    cases i with
    | zero => simp at e; subst e; exact ⟨_, rfl, r⟩
    | succ i => simp at e; obtain ⟨y, h1, h2⟩ := ih e; exact ⟨y, by simpa using h1, h2⟩
theorem pd_memR {A B : Type} {F : A → B → Prop} {xs : List A} {ys : List B} (h : Paired F xs ys) : ∀ {y : B}, y ∈ ys → ∃ x, x ∈ xs ∧ F x y := by
  induction h with
  | nil => intro y e; simp at e
  | cons r _ ih =>
    intro y e
    rcases List.mem_cons.mp e with rfl | e
    · exact ⟨_, by simp, r⟩
    · obtain ⟨x, h1, h2⟩ := ih e; exact ⟨x, by simp [h1], h2⟩
theorem pd_eq {A B : Type} {F G : A → B → Prop} {xs : List A} {ys zs : List B} (h : Paired F xs ys) (g : Paired G xs zs) (f : ∀ a b c, b ∈ ys → c ∈ zs → F a b → G a c → b = c) : ys = zs := by
  induction h generalizing zs with
  | nil => cases g; rfl
  | cons r _ ih =>
    cases g with
    | cons r2 g2 =>
      rw [f _ _ _ (by simp) (by simp) r r2, ih g2 fun a b c hb hc => f a b c (by simp [hb]) (by simp [hc])]

/-! ### a value stands for a datum, at most n deep -/
def kD : Key → PyData
  | .inl i => .int i
  | .inr x => .str x
theorem kD_inj {a b : Key} (h : kD a = kD b) : a = b := by
  cases a <;> cases b <;> simp [kD] at h <;> simp [h]
def Rp (H : Hp) : Nat → V → PyData → Prop
  | 0, _, _ => False
  | _ + 1, v, .none => v = .non
  | _ + 1, v, .bool b => v = .bl b
  | _ + 1, v, .int i => v = .int i
  | _ + 1, v, .str x => v = .str x
  | n + 1, v, .list ds => ∃ a xs, v = .ref a ∧ H a = some (.lst xs) ∧ xs.length ≤ 10000 ∧ Paired (Rp H n) xs ds
  | n + 1, v, .tuple ds => ∃ a xs, v = .ref a ∧ H a = some (.tup xs) ∧ xs.length ≤ 10000 ∧ Paired (Rp H n) xs ds
  | n + 1, v, .dict es => ∃ a kvs, v = .ref a ∧ Rd H a (.dK kvs) ∧ kvs.length ≤ 10000 ∧ (kvs.map (·.1)).Nodup ∧ Paired (fun (p : Key × V) (q : PyData × PyData) => q.1 = kD p.1 ∧ Rp H n p.2 q.2) kvs es
theorem rd_same {H H' : Hp} {a : Addr} {u : HO} (e : Same H H') (h : Rd H a u) : Rd H' a u := by
  rcases h with h | ⟨o, h⟩
  · exact .inl (e _ _ h)
  · exact .inr ⟨o, e _ _ h⟩
/-- all is as it was, but dicts may be locked -/
def LSame (H H' : Hp) : Prop := ∀ b o, H b = some o → H' b = some o ∨ ∃ kvs od, o = .dK kvs ∧ H' b = some (.frz od (.dK kvs))
theorem LSame.of {H H' : Hp} (h : Same H H') : LSame H H' := fun b o e => .inl (h b o e)
theorem LSame.refl (H : Hp) : LSame H H := fun b o e => .inl e
theorem LSame.trans {H H1 H2 : Hp} (a : LSame H H1) (b : LSame H1 H2) : LSame H H2 := fun c o e => by
  rcases a c o e with h | ⟨kvs, od, h1, h2⟩
  · exact b c o h
  · rcases b c _ h2 with h | ⟨_, _, h3, _⟩
    · exact .inr ⟨kvs, od, h1, h⟩
    · cases h3
theorem LSame.lst {H H' : Hp} {a : Addr} {xs : List V} (h : LSame H H') (e : H a = some (.lst xs)) : H' a = some (.lst xs) := by
  rcases h a _ e with q | ⟨_, _, q, _⟩
  · exact q
  · cases q
theorem LSame.tup {H H' : Hp} {a : Addr} {xs : List V} (h : LSame H H') (e : H a = some (.tup xs)) : H' a = some (.tup xs) := by
  rcases h a _ e with q | ⟨_, _, q, _⟩
  · exact q
  · cases q
theorem LSame.rdk {H H' : Hp} {a : Addr} {kvs : List (Key × V)} (h : LSame H H') (e : Rd H a (.dK kvs)) : Rd H' a (.dK kvs) := by
  rcases e with e | ⟨od, e⟩
  · rcases h a _ e with q | ⟨k2, od, q, q2⟩
    · exact .inl q
    · cases q; exact .inr ⟨od, q2⟩
  · rcases h a _ e with q | ⟨_, _, q, _⟩
    · exact .inr ⟨od, q⟩
    · cases q
theorem Rp.imp {H H' : Hp} : ∀ {n : Nat} {v : V} {d : PyData}, Same H H' → Rp H n v d → Rp H' n v d
  | 0, _, _, _, h => h
  | n + 1, v, .none, _, h => h
  | n + 1, v, .bool _, _, h => h
  | n + 1, v, .int _, _, h => h
  | n + 1, v, .str _, _, h => h
  | n + 1, v, .list ds, e, ⟨a, xs, h1, h2, hb, h3⟩ => ⟨a, xs, h1, e _ _ h2, hb, pd_imp h3 fun _ _ _ _ q => Rp.imp e q⟩
  | n + 1, v, .tuple ds, e, ⟨a, xs, h1, h2, hb, h3⟩ => ⟨a, xs, h1, e _ _ h2, hb, pd_imp h3 fun _ _ _ _ q => Rp.imp e q⟩
  | n + 1, v, .dict es, e, ⟨a, xs, h1, h2, hb, hn, h3⟩ => ⟨a, xs, h1, rd_same e h2, hb, hn, pd_imp h3 fun _ _ _ _ q => ⟨q.1, Rp.imp e q.2⟩⟩
theorem Rp.up1 {H : Hp} : ∀ {n : Nat} {v : V} {d : PyData}, Rp H n v d → Rp H (n + 1) v d
  | 0, _, _, h => h.elim
  | n + 1, v, .none, h => h
  | n + 1, v, .bool _, h => h
  | n + 1, v, .int _, h => h
  | n + 1, v, .str _, h => h
  | n + 1, v, .list ds, ⟨a, xs, h1, h2, hb, h3⟩ => ⟨a, xs, h1, h2, hb, pd_imp h3 fun _ _ _ _ q => Rp.up1 q⟩
  | n + 1, v, .tuple ds, ⟨a, xs, h1, h2, hb, h3⟩ => ⟨a, xs, h1, h2, hb, pd_imp h3 fun _ _ _ _ q => Rp.up1 q⟩
  | n + 1, v, .dict es, ⟨a, xs, h1, h2, hb, hn, h3⟩ => ⟨a, xs, h1, h2, hb, hn, pd_imp h3 fun _ _ _ _ q => ⟨q.1, Rp.up1 q.2⟩⟩
theorem Rp.up {H : Hp} {n m : Nat} {v : V} {d : PyData} (h : Rp H n v d) (hl : n ≤ m) : Rp H m v d := by
  induction hl with
  | refl => exact h
  | step _ ih => exact ih.up1
theorem Rp.pos {H : Hp} {n : Nat} {v : V} {d : PyData} (h : Rp H n v d) : 0 < n := by
  cases n with
  | zero => exact h.elim
  | succ n => omega
theorem Rp.lk {H H' : Hp} : ∀ {n : Nat} {v : V} {d : PyData}, LSame H H' → Rp H n v d → Rp H' n v d
  | 0, _, _, _, h => h
  | n + 1, v, .none, _, h => h
  | n + 1, v, .bool _, _, h => h
  | n + 1, v, .int _, _, h => h
  | n + 1, v, .str _, _, h => h
  | n + 1, v, .list ds, e, ⟨a, xs, h1, h2, hb, h3⟩ => ⟨a, xs, h1, e.lst h2, hb, pd_imp h3 fun _ _ _ _ q => Rp.lk e q⟩
  | n + 1, v, .tuple ds, e, ⟨a, xs, h1, h2, hb, h3⟩ => ⟨a, xs, h1, e.tup h2, hb, pd_imp h3 fun _ _ _ _ q => Rp.lk e q⟩
  | n + 1, v, .dict es, e, ⟨a, xs, h1, h2, hb, hn, h3⟩ => ⟨a, xs, h1, e.rdk h2, hb, hn, pd_imp h3 fun _ _ _ _ q => ⟨q.1, Rp.lk e q.2⟩⟩
/-- a value stands for one datum alone -/
theorem rd_one {H : Hp} {a : Addr} {x y : List (Key × V)} (h : Rd H a (.dK x)) (g : Rd H a (.dK y)) : x = y := by
  rcases h with h | ⟨o, h⟩ <;> rcases g with g | ⟨u, g⟩ <;> rw [h] at g <;> cases g <;> rfl
theorem Rp.one {H : Hp} : ∀ {n m : Nat} {v : V} {d e : PyData}, Rp H n v d → Rp H m v e → d = e
  | 0, _, _, _, _, h, _ => h.elim
  | _, 0, _, _, _, _, h => h.elim
  | n + 1, m + 1, v, .none, e, h, g => by
    cases h
    cases e <;> simp [Rp] at g <;> rfl
  | n + 1, m + 1, v, .bool b, e, h, g => by
    cases h
    cases e <;> simp [Rp] at g
    subst g; rfl
  | n + 1, m + 1, v, .int b, e, h, g => by
    cases h
    cases e <;> simp [Rp] at g
    subst g; rfl
  | n + 1, m + 1, v, .str b, e, h, g => by
    cases h
    cases e <;> simp [Rp] at g
    subst g; rfl
  | n + 1, m + 1, v, .list ds, e, ⟨a, xs, h1, h2, hb, h3⟩, g => by
    subst h1
    cases e <;> simp [Rp] at g
    · obtain ⟨ys, g2, gb, g3⟩ := g
      rw [h2] at g2; cases g2
      rw [pd_eq h3 g3 fun _ _ _ _ _ p q => Rp.one p q]
    · rw [h2] at g; simp at g
    · obtain ⟨ys, g2, _⟩ := g
      rcases g2 with g2 | ⟨_, g2⟩ <;> rw [h2] at g2 <;> cases g2
  | n + 1, m + 1, v, .tuple ds, e, ⟨a, xs, h1, h2, hb, h3⟩, g => by
    subst h1
    cases e <;> simp [Rp] at g
    · rw [h2] at g; simp at g
    · obtain ⟨ys, g2, gb, g3⟩ := g
      rw [h2] at g2; cases g2
      rw [pd_eq h3 g3 fun _ _ _ _ _ p q => Rp.one p q]
    · obtain ⟨ys, g2, _⟩ := g
      rcases g2 with g2 | ⟨_, g2⟩ <;> rw [h2] at g2 <;> cases g2
  | n + 1, m + 1, v, .dict es, e, ⟨a, xs, h1, h2, hb, hn, h3⟩, g => by
    subst h1
    cases e <;> simp [Rp] at g
    · obtain ⟨ys, g2, _⟩ := g
      rcases h2 with h2 | ⟨_, h2⟩ <;> rw [h2] at g2 <;> cases g2
    · obtain ⟨ys, g2, _⟩ := g
      rcases h2 with h2 | ⟨_, h2⟩ <;> rw [h2] at g2 <;> cases g2
    · obtain ⟨ys, g2, gb, gn, g3⟩ := g
      cases rd_one h2 g2
      rw [pd_eq h3 g3 fun x b c _ _ p q => by
        obtain ⟨b1, b2⟩ := b
        obtain ⟨c1, c2⟩ := c
        obtain ⟨p1, p2⟩ := p
        obtain ⟨q1, q2⟩ := q
        simp at p1 q1 p2 q2
        rw [p1, q1, Rp.one p2 q2]]
/-- without the place a -/
def del (H : Hp) (a : Addr) : Hp := fun b => if b = a then none else H b
theorem del_ne {H : Hp} {a b : Addr} (h : b ≠ a) : del H a b = H b := if_neg h
theorem del_at {H : Hp} {a : Addr} : del H a a = none := if_pos rfl
theorem del_sub (H : Hp) (a : Addr) : Same (del H a) H := fun b o e => by
  by_cases hb : b = a
  · subst hb; rw [del_at] at e; cases e
  · rw [del_ne hb] at e; exact e
theorem rd_del {H : Hp} {a b : Addr} {u : HO} (hb : b ≠ a) (h : Rd H b u) : Rd (del H a) b u := by
  rcases h with h | ⟨o, h⟩
  · exact .inl (by rw [del_ne hb]; exact h)
  · exact .inr ⟨o, by rw [del_ne hb]; exact h⟩
/-- a smaller datum does not hold a greater one -/
theorem Rp.del {H : Hp} {a : Addr} {m : Nat} {D : PyData} (hD : Rp H m (.ref a) D) : ∀ {n : Nat} {v : V} {d : PyData}, sizeOf d < sizeOf D → Rp H n v d → Rp (del H a) n v d
  | 0, _, _, _, h => h
  | n + 1, v, .none, _, h => h
  | n + 1, v, .bool _, _, h => h
  | n + 1, v, .int _, _, h => h
  | n + 1, v, .str _, _, h => h
  | n + 1, v, .list ds, hs, h => by
    obtain ⟨b, xs, h1, h2, hl, h3⟩ := id h
    have hb : b ≠ a := by
      rintro rfl
      subst h1
      rw [Rp.one h hD] at hs
      exact absurd hs (Nat.lt_irrefl _)
    refine ⟨b, xs, h1, by rw [del_ne hb]; exact h2, hl, pd_imp h3 fun x d _ hd q => Rp.del hD ?_ q⟩
    have := List.sizeOf_lt_of_mem hd
    simp at hs
    omega
  | n + 1, v, .tuple ds, hs, h => by
    obtain ⟨b, xs, h1, h2, hl, h3⟩ := id h
    have hb : b ≠ a := by
      rintro rfl
      subst h1
      rw [Rp.one h hD] at hs
      exact absurd hs (Nat.lt_irrefl _)
    refine ⟨b, xs, h1, by rw [del_ne hb]; exact h2, hl, pd_imp h3 fun x d _ hd q => Rp.del hD ?_ q⟩
    have := List.sizeOf_lt_of_mem hd
    simp at hs
    omega
  | n + 1, v, .dict es, hs, h => by
    obtain ⟨b, xs, h1, h2, hl, hn, h3⟩ := id h
    have hb : b ≠ a := by
      rintro rfl
      subst h1
      rw [Rp.one h hD] at hs
      exact absurd hs (Nat.lt_irrefl _)
    refine ⟨b, xs, h1, rd_del hb h2, hl, hn, pd_imp h3 fun x d _ hd q => ⟨q.1, Rp.del hD ?_ q.2⟩⟩
    have h4 := List.sizeOf_lt_of_mem hd
    obtain ⟨d1, d2⟩ := d
    simp at hs h4
    show sizeOf d2 < _
    omega
/-- nothing is locked -/
def NoFrz (G : Hp) : Prop := ∀ a o u, G a ≠ some (.frz o u)
theorem NoFrz.rd {G : Hp} {a : Addr} {u : HO} (h : NoFrz G) (r : Rd G a u) : G a = some u := by
  rcases r with r | ⟨o, r⟩
  · exact r
  · exact absurd r (h a o u)
theorem NoFrz.del {G : Hp} (h : NoFrz G) (a : Addr) : NoFrz (del G a) := fun b o u e => h b o u (del_sub G a b _ e)
theorem size_kv {es : List (PyData × PyData)} {q : PyData × PyData} (h : q ∈ es) : sizeOf q.2 < sizeOf (PyData.dict es) := by
  have h4 := List.sizeOf_lt_of_mem h
  obtain ⟨d1, d2⟩ := q
  simp at h4
  show sizeOf d2 < _
  simp
  omega
theorem size_item {ds : List PyData} {d : PyData} (h : d ∈ ds) : sizeOf d < sizeOf (PyData.list ds) := by
  have h4 := List.sizeOf_lt_of_mem h
  simp
  omega

/-! ### heaps: all as before, but for some places -/
def Keep (S : List Addr) (H H' : Hp) : Prop := ∀ b o, H b = some o → b ∉ S → H' b = some o
theorem Keep.refl (S : List Addr) (H : Hp) : Keep S H H := fun _ _ h _ => h
theorem Keep.trans {S : List Addr} {H H1 H2 : Hp} (a : Keep S H H1) (b : Keep S H1 H2) : Keep S H H2 := fun c o h n => b c o (a c o h n) n
theorem Keep.sub {S T : List Addr} {H H' : Hp} (a : Keep S H H') (h : ∀ b ∈ S, b ∈ T) : Keep T H H' := fun c o e n => a c o e fun z => n (h c z)
theorem Keep.of {S : List Addr} {H H' : Hp} (a : Same H H') : Keep S H H' := fun c o e _ => a c o e
theorem Keep.same {H H' : Hp} (a : Keep [] H H') : Same H H' := fun c o e => a c o e (by simp)
theorem Keep.new {S : List Addr} {H H' : Hp} {p : Addr} {o : HO} (a : Keep S H H') (h : H' p = none) : Keep S H (upd H' p o) := fun c u e n => by
  rw [upd_ne (ne_of_none (a c u e n) h)]
  exact a c u e n
theorem Keep.mut {S : List Addr} {H H' : Hp} {p : Addr} {o : HO} (a : Keep S H H') (h : p ∈ S) : Keep S H (upd H' p o) := fun c u e n => by
  have hc : c ≠ p := fun z => n (by rw [z]; exact h)
  rw [upd_ne hc]
  exact a c u e n
theorem Keep.fresh {S : List Addr} {H H' : Hp} {p : Addr} {o : HO} (a : Keep S H H') (h : H p = none) : Keep S H (upd H' p o) := fun c u e n => by
  rw [upd_ne (ne_of_none e h)]
  exact a c u e n
theorem Keep.free {S : List Addr} {H H' : Hp} {p : Addr} (a : Keep S H H') (h : H' p = none) (n : p ∉ S) : H p = none := by
  cases e : H p with
  | none => rfl
  | some o =>
    rw [a p o e n] at h
    cases h
theorem same_new {H : Hp} {p : Addr} (h : H p = none) (o : HO) : Same H (upd H p o) := fun b u q => by rw [upd_ne (ne_of_none q h)]; exact q
theorem same_mut {H H' : Hp} {p : Addr} {o : HO} (a : Same H H') (h : H p = none) : Same H (upd H' p o) := fun c u e => by
  rw [upd_ne (ne_of_none e h)]
  exact a c u e
/-- what is new in H' -/
def news (H H' : Hp) : Hp := fun a => match H a with
  | some _ => none
  | none => H' a
theorem news_sub (H H' : Hp) : Same (news H H') H' := fun b o e => by
  unfold news at e
  split at e
  · cases e
  · exact e
theorem news_no {H H' : Hp} {a : Addr} {o : HO} (h : H a = some o) : news H H' a = none := by
  unfold news; rw [h]
theorem news_at {H H' : Hp} {a : Addr} (h : H a = none) : news H H' a = H' a := by
  unfold news; rw [h]
/-- a later heap that keeps all that H1 has outside S, S known in H -/
theorem news_mono {S : List Addr} {H H1 H2 : Hp} (k : Keep S H1 H2) (hs : ∀ a ∈ S, H a ≠ none) : Same (news H H1) (news H H2) := fun b o e => by
  unfold news at e ⊢
  split at e
  · cases e
  · rename_i hb
    exact k b o e fun z => hs b z hb
/-- newer than H1 is newer than H -/
theorem news_more {S : List Addr} {H H1 H2 : Hp} (k : Keep S H H1) (hs : ∀ a ∈ S, H1 a ≠ none) : Same (news H1 H2) (news H H2) := fun b o e => by
  unfold news at e ⊢
  split at e
  · cases e
  · rename_i hb
    split
    · rename_i u hu
      by_cases hz : b ∈ S
      · exact absurd hb (hs b hz)
      · rw [k b _ hu hz] at hb; cases hb
    · exact e

/-- a turn of a loop that makes new data and stores at D -/
theorem grow {S : List Addr} {Hx H1 H4 : Hp} {D : Addr} {o : HO} (k1 : Keep S Hx H1) (k2 : Keep S H1 H4) (hx : ∀ a ∈ S, Hx a ≠ none) (h1 : ∀ a ∈ S, H1 a ≠ none) (hD : D ∈ S) :
    Same (news Hx H1) (news Hx (upd H4 D o)) ∧ Same (news H1 H4) (news Hx (upd H4 D o)) :=
  ⟨news_mono (k2.mut hD) hx, (news_more k1 h1).trans (news_mono (S := S) ((Keep.refl _ _).mut hD) hx)⟩

/-! ### the script, read and never written -/
def Scr (K : PySem.W.Frag) (H : Hp) (a : Addr) (ns : List Int) : Prop := (∃ ob, H a = some (.frz ob (.lst (ns.map V.int)))) ∨ ∀ H' : Hp, SqL K H' a (ns.map V.int)
theorem Scr.of {K : PySem.W.Frag} {H : Hp} {a : Addr} {ns : List Int} (h : SqL K H a (ns.map V.int)) (hO : Only H) : Scr K H a ns := by
  rcases h with (h | ⟨o, h⟩) | h
  · rcases hO a with z | ⟨ob, xs, z⟩
    · rw [z] at h; cases h
    · rw [z] at h; cases h
  · exact .inl ⟨o, h⟩
  · exact .inr fun _ => .inr h
theorem Scr.sq {K : PySem.W.Frag} {H : Hp} {a : Addr} {ns : List Int} (h : Scr K H a ns) : SqL K H a (ns.map V.int) := by
  rcases h with ⟨o, h⟩ | h
  · exact .inl (.inr ⟨o, h⟩)
  · exact h H
theorem Scr.keep {K : PySem.W.Frag} {S : List Addr} {H H' : Hp} {a : Addr} {ns : List Int} (h : Scr K H a ns) (k : Keep S H H') (n : ∀ b ∈ S, ∀ ob u, H b ≠ some (.frz ob u)) : Scr K H' a ns := by
  rcases h with ⟨o, h⟩ | h
  · refine .inl ⟨o, k _ _ h fun z => ?_⟩
    exact n a z _ _ h
  · exact .inr h
theorem Scr.same {K : PySem.W.Frag} {H H' : Hp} {a : Addr} {ns : List Int} (h : Scr K H a ns) (k : Same H H') : Scr K H' a ns := by
  rcases h with ⟨o, h⟩ | h
  · exact .inl ⟨o, k _ _ h⟩
  · exact .inr h
theorem Scr.put {K : PySem.W.Frag} {H : Hp} {a b : Addr} {ns : List Int} {xs : List V} {o : HO} (h : Scr K H a ns) (e : H b = some (.lst xs)) : Scr K (upd H b o) a ns := by
  rcases h with ⟨u, h⟩ | h
  · refine .inl ⟨u, ?_⟩
    rw [upd_ne (ne_of h e (by intro z; cases z))]
    exact h
  · exact .inr h
end SC

set_option Elab.async false
set_option linter.all false
set_option maxRecDepth 100000
set_option maxHeartbeats 4000000
/-! Schemacheck: defs that are ready to be called, built-ins, kinds of values. -/
namespace SC
open PySem L2

/-! ### a def that may be called -/
def Rdy (P : Program) (w : World) (K : PySem.W.Frag) (mg : Str → Option Value) (base : Heap) (k : Nat) (x : Str) (ps : List Str) (sp : Sp) : Prop :=
  ∃ f fd, FnOk P w K mg base CX0 k f fd ps sp ∧ mg x = some (.ref f) ∧ PySem.W.keepIn K (.ref f) = true ∧ Binds K fd ps []
/-- and with keywords ks: gV puts the positional values and the keywords' values in order -/
def RdyK (P : Program) (w : World) (K : PySem.W.Frag) (mg : Str → Option Value) (base : Heap) (k : Nat) (x : Str) (ps ks : List Str) (gV : List V → List V → List V) (sp : Sp) : Prop :=
  ∃ f fd g, FnOk P w K mg base CX0 k f fd ps sp ∧ mg x = some (.ref f) ∧ PySem.W.keepIn K (.ref f) = true ∧ KBinds K fd ps ks g gV
theorem Rdy.mono {P : Program} {w : World} {K : PySem.W.Frag} {mg : Str → Option Value} {base : Heap} {j k : Nat} {x : Str} {ps : List Str} {sp : Sp} (h : Rdy P w K mg base j x ps sp) (l : j ≤ k) : Rdy P w K mg base k x ps sp := by
  obtain ⟨f, fd, h1, h2⟩ := h
  exact ⟨f, fd, h1.mono l, h2⟩
section
variable {X : Cx} {k : Nat} {x : Str} {ps ks : List Str} {sp : Sp} {p pos : Pos} {e : Expr} {es : List Expr} {kws : List Keyword} {t tk : TA} {gV : List V → List V → List V}
theorem pe_c (R : Rdy X.prog X.w X.K X.mg X.base k x ps sp) (hr : Room k X.A) (hg : Gl X x) (ha : PA X (e :: es) t) (hdb : (x == ("__debug__" : Str)) = false := by decide)
    (he : starEach (e :: es) X.env = (false, eval e X.env) :: starEach es X.env := by rfl) (hpl : (backTo pos (starEach es X.env)).any (·.1) = false := by rfl) : PE X (.Call (.Name x p) (e :: es) [] pos) (tCall sp [] E0 t) := by
  obtain ⟨f, fd, h1, h2, h3, h4⟩ := R
  exact pe_call h1 hr hg h2 h3 h4 .nil pass0 ha hdb he hpl
theorem pe_c0 (R : Rdy X.prog X.w X.K X.mg X.base k x ps sp) (hr : Room k X.A) (hg : Gl X x) (hdb : (x == ("__debug__" : Str)) = false := by decide) : PE X (.Call (.Name x p) [] [] pos) (tCall sp [] E0 tNil) := by
  obtain ⟨f, fd, h1, h2, h3, h4⟩ := R
  exact pe_call0 h1 hr hg h2 h3 h4 .nil pass0 hdb
theorem pe_ck (_R : Rdy X.prog X.w X.K X.mg X.base k x ps sp) (hr : Room k X.A) (hg : Gl X x) (R : RdyK X.prog X.w X.K X.mg X.base k x ps ks gV sp) (ha : PA X (e :: es) t) (hkw : PK X kws tk)
    (hall : (backToKw pos (keywordEach kws X.env)).all (·.1.isSome) = true := by rfl) (hks : (backToKw pos (keywordEach kws X.env)).filterMap (·.1) = ks := by rfl) (hdb : (x == ("__debug__" : Str)) = false := by decide)
    (he : starEach (e :: es) X.env = (false, eval e X.env) :: starEach es X.env := by rfl) (hpl : ((backTo pos (starEach (e :: es) X.env)).any (·.1) || (backToKw pos (keywordEach kws X.env)).any (·.1.isNone)) = false := by rfl) :
    PE X (.Call (.Name x p) (e :: es) kws pos) (tCallK sp gV E0 t tk) := by
  obtain ⟨f, fd, g, h1, h2, h3, h4⟩ := R
  exact pe_callK h1 hr hg h2 h3 h4 pass0 ha hkw hall hks hdb he hpl
/-- only keywords -/
theorem pe_ck0 (_R : Rdy X.prog X.w X.K X.mg X.base k x ps sp) (hr : Room k X.A) (hg : Gl X x) (R : RdyK X.prog X.w X.K X.mg X.base k x ps ks gV sp) (hkw : PK X kws tk)
    (hall : (backToKw pos (keywordEach kws X.env)).all (·.1.isSome) = true := by rfl) (hks : (backToKw pos (keywordEach kws X.env)).filterMap (·.1) = ks := by rfl) (hdb : (x == ("__debug__" : Str)) = false := by decide)
    (hpl : ((backTo pos (starEach [] X.env)).any (·.1) || (backToKw pos (keywordEach kws X.env)).any (·.1.isNone)) = false := by rfl) :
    PE X (.Call (.Name x p) [] kws pos) (tCallK sp gV E0 tNil tk) := by
  obtain ⟨f, fd, g, h1, h2, h3, h4⟩ := R
  constructor
  intro pins s σ H Q I h
  apply wpAny_Call_Name_kw
  apply ld_glob I hg h2 _ hdb
  apply PySem.W.callWith_KW0 (h₀ := X.base) I.ok.mod.kin h3 hall _ hpl
  apply thn (hkw.run pos pins s σ H _ I h)
  rintro ws s2 ⟨zs, H2, I2, rz, q2⟩
  constructor
  · exact I2.kIn
  · rw [hks]
    exact run_fnk (us := []) (vs := []) h1 hr h4 pass0 I2 .nil rz q2
end
/-- the def st stands at the name x, with parameters ps -/
def Def (K : PySem.W.Frag) (mg : Str → Option Value) (x : Str) (st : Stmt) (f : Addr) (fd : FuncData) : Prop := Fun K x x st f fd ∧ mg x = some (.ref f)
theorem Def.rdy {P : Program} {w : World} {K : PySem.W.Frag} {mg : Str → Option Value} {base : Heap} {k : Nat} {x : Str} {st : Stmt} {f : Addr} {fd : FuncData} {ps : List Str} {sp : Sp} (D : Def K mg x st f fd)
    (b : ∀ (kV doc pm : Value) (an : Option Addr) (cdv ct : Value) (us : List Value), us.length = ps.length → bindArgs (PySem.W.fnOf x x (defArgs st) (defBody st) (defScope st) .none kV doc pm an cdv ct) ⟨us, []⟩ = pure (ps.zip us))
    (h : FnOk P w K mg base CX0 k f fd ps sp) : Rdy P w K mg base k x ps sp := ⟨f, fd, h, D.2, D.1.kp, D.1.binds b⟩
theorem Def.rdyK {P : Program} {w : World} {K : PySem.W.Frag} {mg : Str → Option Value} {base : Heap} {k : Nat} {x : Str} {st : Stmt} {f : Addr} {fd : FuncData} {ps : List Str} {sp : Sp} (D : Def K mg x st f fd) (ks : List Str) (g : {α : Type} → List α → List α → List α)
    (hrel : ∀ {vs zs : List V} {us ws : List Value}, Vals vs us → Vals zs ws → Vals (g vs zs) (g us ws))
    (b : ∀ (kV doc pm : Value) (an : Option Addr) (cdv ct : Value) (us ws : List Value), (g us ws).length = ps.length → bindArgs (PySem.W.fnOf x x (defArgs st) (defBody st) (defScope st) .none kV doc pm an cdv ct) ⟨us, ks.zip ws⟩ = pure (ps.zip (g us ws)))
    (h : FnOk P w K mg base CX0 k f fd ps sp) : RdyK P w K mg base k x ps ks (fun vs zs => g vs zs) sp := by
  obtain ⟨oc, od, kV, doc, pm, an, cdv, ct, osl, rfl, lk, hcd⟩ := D.1.ex
  exact ⟨f, _, fun us ws => g us ws, h, D.2, D.1.kp, ⟨fun s us ws _ hl => .of_eq (b kV doc pm an cdv ct us ws hl), hrel⟩⟩

theorem vals_app : ∀ {vs zs : List V} {us ws : List Value}, Vals vs us → Vals zs ws → Vals (vs ++ zs) (us ++ ws) := fun a b => a.append b
/-! ### built-ins that the module has not named otherwise -/
structure Blt (mg : Str → Option Value) : Prop where
  b_len : mg "len" = none
  b_range : mg "range" = none
  b_isinstance : mg "isinstance" = none
  b_max : mg "max" = none
  b_min : mg "min" = none
  b_list : mg "list" = none
  b_dict : mg "dict" = none
  b_int : mg "int" = none
  b_str : mg "str" = none
  b_bool : mg "bool" = none
  b_tuple : mg "tuple" = none
  b_sorted : mg "sorted" = none
  b_enumerate : mg "enumerate" = none
  b_repr : mg "repr" = none
  b_all : mg "all" = none
  b_any : mg "any" = none
  b_zip : mg "zip" = none
  b_set : mg "set" = none
  b_sum : mg "sum" = none

/-! ### text * number -/
theorem op_mul_str {X : Cx} : OpR X (binaryOp .Mult) (fun x y H Q => ∃ z n, x = .str z ∧ y = .int n ∧ MulOk z n ∧ Q (.str (Txt.mul z n)) H) := by
  intro pins s σ H x y v u Q I rx ry h
  obtain ⟨z, n, rfl, rfl, hk, q⟩ := h
  obtain ⟨t, rfl⟩ := rx
  obtain ⟨t2, rfl⟩ := ry
  exact SB.mul hk fun a b => ⟨.str (Txt.mul z n), H, I.tok _, ⟨_, rfl⟩, q⟩

/-! ### isinstance of a datum -/
inductive Ty where
  | bool | int | str | list | tuple | dict
def Ty.nm : Ty → String
  | .bool => "bool"
  | .int => "int"
  | .str => "str"
  | .list => "list"
  | .tuple => "tuple"
  | .dict => "dict"
def isT : Ty → PyData → Bool
  | .bool, .bool _ => true
  | .int, .bool _ => true
  | .int, .int _ => true
  | .str, .str _ => true
  | .list, .list _ => true
  | .tuple, .tuple _ => true
  | .dict, .dict _ => true
  | _, _ => false
def tyD : PyData → String
  | .none => "NoneType"
  | .bool _ => "bool"
  | .int _ => "int"
  | .str _ => "str"
  | .list _ => "list"
  | .tuple _ => "tuple"
  | .dict _ => "dict"
theorem Rp.ty {K : PySem.W.Frag} {H : Hp} {n : Nat} {v : V} : ∀ {d : PyData}, Rp H n v d → TyX K H v (.type (tyD d)) := by
  intro d h
  cases n with
  | zero => exact h.elim
  | succ n =>
    cases d with
    | none => cases h; exact .base .non
    | bool b => cases h; exact .base (.bl b)
    | int i => cases h; exact .base (.int i)
    | str x => cases h; exact .base (.str x)
    | list ds => obtain ⟨a, xs, rfl, h2, _⟩ := h; exact .base (.lst h2)
    | tuple ds => obtain ⟨a, xs, rfl, h2, _⟩ := h; exact .base (.tup h2)
    | dict ds =>
      obtain ⟨a, xs, rfl, h2 | ⟨od, h2⟩, _⟩ := h
      · exact .base (.dK h2)
      · exact .fDict h2
theorem kit_isT (T : Ty) (d : PyData) : kitB (tyD d) T.nm = some (isT T d) := by
  cases T <;> cases d <;> (show kitB _ _ = some _; simp only [tyD, isT, Ty.nm]; decide +kernel)
theorem isi1 {K : PySem.W.Frag} {H : Hp} {n : Nat} {v : V} {d : PyData} (T : Ty) {Q : VK} (h : Rp H n v d) (q : Q (.bl (isT T d)) H) : rIsi K [v, .ty T.nm] H Q :=
  ⟨v, .ty T.nm, _, _, isT T d, rfl, .ty T.nm, h.ty, kit_ty (kit_isT T d), q⟩
theorem isi2 {K : PySem.W.Frag} {H : Hp} {n : Nat} {v : V} {d : PyData} {p : Addr} (T U : Ty) {Q : VK} (h : Rp H n v d) (hp : H p = some (.tup [.ty T.nm, .ty U.nm])) (q : Q (.bl (isT T d || isT U d)) H) : rIsiT K [v, .ref p] H Q := by
  refine ⟨v, p, _, _, [.type T.nm, .type U.nm], isT T d || isT U d, rfl, hp, .cons (.ty _) (.cons (.ty _) .nil), h.ty, ?_, q⟩
  refine kitAny_cons (b := isT T d) (kit_ty (kit_isT T d)) (fun e => ?_) (fun e => by rw [e]; rfl)
  rw [e, Bool.false_or]
  exact kitAny_cons (b := isT U d) (kit_ty (kit_isT U d)) (fun e => by rw [e]; exact kitAny_nil) (fun e => e)
end SC

set_option Elab.async false
set_option linter.all false
set_option maxRecDepth 100000
set_option maxHeartbeats 4000000
/-! Schemacheck: loops and comprehensions, read once more. -/
namespace SC
open PySem L2

/-- a for whose walk has begun -/
def FoR (J : It) (g : TG) (tb : TS) (D : Ends) (σ : St) (H : Hp) : Prop := tFor (fun _ G R => R J G) g tb D σ H
theorem tFor_eq (wi : TI) (g : TG) (tb : TS) (D : Ends) (σ : St) (H : Hp) : tFor wi g tb D σ H = wi σ H fun J H1 => FoR J g tb D σ H1 := rfl
/-- a comprehension whose walk has begun -/
def LcR (J : It) (g : TG) (tt : TT) (te : TE) (vs : List Nat) (σ : St) (H : Hp) (Q : VK) : Prop := tLc (fun _ G R => R J G) g tt te vs σ H Q
theorem tLc_eq (wi : TI) (g : TG) (tt : TT) (te : TE) (vs : List Nat) (σ : St) (H : Hp) (Q : VK) : tLc wi g tt te vs σ H Q = wi σ H fun J H1 => LcR J g tt te vs σ H1 Q := rfl
def DcR (J : It) (g : TG) (tt : TT) (tk tv : TE) (vs : List Nat) (σ : St) (H : Hp) (Q : VK) : Prop := tDc (fun _ G R => R J G) g tt tk tv vs σ H Q
theorem tDc_eq (wi : TI) (g : TG) (tt : TT) (tk tv : TE) (vs : List Nat) (σ : St) (H : Hp) (Q : VK) : tDc wi g tt tk tv vs σ H Q = wi σ H fun J H1 => DcR J g tt tk tv vs σ H1 Q := rfl
section
variable {J : It} {n : Nat} {G : Hp → Prop} {Y : Nat → Hp → V → Hp → Prop}
theorem fo_it (w : Walk J n G Y) {g : TG} {tb : TS} {D : Ends} {σ : St} {H : Hp} (Pv : Nat → St → Hp → Prop) (h0 : Pv 0 σ H) (hG : ∀ i σ H, i ≤ n → Pv i σ H → G H)
    (hs : ∀ i x σ H H', i < n → Pv i σ H → Y i H x H' → g x σ H' fun σ2 H2 => tb { nx := Pv (i + 1), rt := D.rt, bk := D.nx, ct := Pv (i + 1) } σ2 H2) (hd : ∀ σ H, Pv n σ H → D.nx σ H) : FoR J g tb D σ H :=
  for_it w Pv h0 hG hs hd
theorem lc_itR (w : Walk J n G Y) {g : TG} {tt : TT} {te : TE} {vs : List Nat} {σ : St} {H1 : Hp} {Q : VK} (Pv : Addr → Nat → Hp → Prop) (h0 : ∀ D, H1 D = none → Pv D 0 (upd H1 D (.lst []))) (hG : ∀ D i H, H1 D = none → i ≤ n → Pv D i H → G H)
    (hs : ∀ D i x H H', H1 D = none → i < n → Pv D i H → Y i H x H' → g x (wipe σ vs) H' fun σ2 H2 => wipe σ2 vs = wipe σ vs ∧ tt σ2 H2 fun b H3 =>
      if b = true then te σ2 H3 fun y H4 => ∃ acc, H4 D = some (.lst acc) ∧ acc.length < sizeLine ∧ Pv D (i + 1) (upd H4 D (.lst (acc ++ [y]))) else Pv D (i + 1) H3)
    (hd : ∀ D H, H1 D = none → Pv D n H → Q (.ref D) H) : LcR J g tt te vs σ H1 Q := fun D hD =>
  lc_it w (Pv D) (h0 D hD) (fun i H => hG D i H hD) (fun i x H H' => hs D i x H H' hD) fun H => hd D H hD
theorem wipe1 {σ : St} {j : Nat} {x : Option V} : wipe ((wipe σ [j]).set j x) [j] = wipe σ [j] := by
  show ((σ.set j none).set j x).set j none = σ.set j none
  rw [List.set_set, List.set_set]
/-- [e for x in ..], each e a value known ahead, the heap only grows -/
theorem lcP_map (w : Walk J n G Y) (X : Nat → V → Prop) (hX : ∀ i H x H', Y i H x H' → H' = H ∧ X i x) {te : TE} {j : Nat} {σ : St} {H1 : Hp} {Q : VK} (hG : ∀ H', Same H1 H' → G H') (ys : List V) (hl : ys.length = n) (hz : n ≤ 100000)
    (step : ∀ i x y H' (N : VK), X i x → ys[i]? = some y → Same H1 H' → (∀ H4, Same H' H4 → N y H4) → te ((wipe σ [j]).set j (some x)) H' N)
    (done : ∀ D H', H1 D = none → Same H1 H' → H' D = some (.lst ys) → Q (.ref D) H') : LcR J (gName j) tYes te [j] σ H1 Q := by
  refine lc_itR w (fun D i H' => Same H1 H' ∧ H' D = some (.lst (ys.take i))) (fun D hD => ⟨same_new hD _, by rw [upd_same, List.take_zero]⟩) (fun D i H _ _ p => hG H p.1) ?_ (fun D H hD p => done D H hD p.1 (by rw [p.2, ← hl, List.take_length]))
  rintro D i x H H' hD hi ⟨s, e⟩ y
  obtain ⟨rfl, hx⟩ := hX _ _ _ _ y
  obtain ⟨z, hz'⟩ : ∃ z, ys[i]? = some z := ⟨ys[i]'(by omega), by rw [List.getElem?_eq_getElem]⟩
  refine ⟨wipe1, ?_⟩
  show te _ _ _
  refine step i x z _ _ hx hz' s fun H4 s4 => ⟨_, s4 _ _ e, ?_, same_mut (s.trans s4) hD, ?_⟩
  · rw [List.length_take]
    exact Nat.lt_of_le_of_lt (Nat.min_le_left _ _) (Nat.lt_of_lt_of_le (Nat.lt_of_lt_of_le hi hz) (by decide))
  · rw [upd_same, List.take_succ, hz']
    rfl
end
/-- a block cut behind its first statement: what holds there, and what follows it -/
theorem cutM {t u : TS} {D : Ends} {σ : St} {H : Hp} (M : St → Hp → Prop) (h1 : ∀ N : St → Hp → Prop, (∀ σ' H', M σ' H' → N σ' H') → t { D with nx := N } σ H) (h2 : ∀ σ' H', M σ' H' → u D σ' H') : tSeq t u D σ H := h1 (u D) h2
/-- the walks -/
theorem lcP_list {K : PySem.W.Frag} {a : Addr} {xs : List V} {te : TE} {j : Nat} {σ : St} {H1 : Hp} {Q : VK} (hS : SqL K H1 a xs) (ys : List V) (hl : ys.length = xs.length) (hz : xs.length ≤ 100000)
    (step : ∀ (i : Nat) x y H' (N : VK), xs[i]? = some x → ys[i]? = some y → Same H1 H' → (∀ H4, Same H' H4 → N y H4) → te ((wipe σ [j]).set j (some x)) H' N)
    (done : ∀ D H', H1 D = none → Same H1 H' → H' D = some (.lst ys) → Q (.ref D) H') : LcR (Itl K a) (gName j) tYes te [j] σ H1 Q :=
  lcP_map (walk_list (xs := xs)) (fun i x => xs[i]? = some x) (fun _ _ _ _ h => h) (fun _ s => s.seq hS) ys hl hz step done
theorem lcP_range {lo : Int} {n : Nat} {te : TE} {j : Nat} {σ : St} {H1 : Hp} {Q : VK} (ys : List V) (hl : ys.length = n) (hz : n ≤ 100000)
    (step : ∀ (i : Nat) x y H' (N : VK), x = V.int (lo + (i : Nat)) → ys[i]? = some y → Same H1 H' → (∀ H4, Same H' H4 → N y H4) → te ((wipe σ [j]).set j (some x)) H' N)
    (done : ∀ D H', H1 D = none → Same H1 H' → H' D = some (.lst ys) → Q (.ref D) H') : LcR (Itr lo n) (gName j) tYes te [j] σ H1 Q :=
  lcP_map walk_range (fun i x => x = V.int (lo + (i : Nat))) (fun _ _ _ _ h => h) (fun _ _ => trivial) ys hl hz step done
theorem lcP_keys {d : Addr} {o : Obj} {kvs : List (Key × V)} {te : TE} {j : Nat} {σ : St} {H1 : Hp} {Q : VK} (hd : H1 d = some (.frz o (.dK kvs))) (ys : List V) (hl : ys.length = kvs.length) (hz : kvs.length ≤ 100000)
    (step : ∀ (i : Nat) k v y H' (N : VK), kvs[i]? = some (k, v) → ys[i]? = some y → Same H1 H' → (∀ H4, Same H' H4 → N y H4) → te ((wipe σ [j]).set j (some (kV k))) H' N)
    (done : ∀ D H', H1 D = none → Same H1 H' → H' D = some (.lst ys) → Q (.ref D) H') : LcR (Itk d o kvs) (gName j) tYes te [j] σ H1 Q :=
  lcP_map walk_keys (fun i x => ∃ k v, kvs[i]? = some (k, v) ∧ x = kV k) (fun _ _ _ _ h => h) (fun _ s => s _ _ hd) ys hl hz (fun i x y H' N ⟨k, v, h1, h2⟩ hy s n => by subst h2; exact step i k v y H' N h1 hy s n) done
/-- under a lock: what was there is there, what the lock hid comes back -/
theorem same_lock {H H' : Hp} {d : Addr} {u : HO} {od : Obj} (hd : H d = some u) (s : Same (upd H d (.frz od u)) H') : Same H (upd H' d u) := fun b o e => by
  by_cases hb : b = d
  · subst hb
    rw [hd] at e
    cases e
    exact upd_same
  · rw [upd_ne hb]
    exact s b o (by rw [upd_ne hb]; exact e)
/-- a dict locked for a walk: it is locked here, or it was before (then some list p is locked in its place) -/
theorem lockE {t : TE} {σ : St} {H : Hp} {Q : VK} {a p : Addr} {kvs : List (Key × V)} {ps : List V} (ha : Rd H a (.dK kvs)) (hp : H p = some (.lst ps))
    (h : ∀ (H1 : Hp) (od : Obj), H1 a = some (.frz od (.dK kvs)) → (∀ b, H1 b = none → H b = none) → (∀ G : Hp, G p = none → Same G H → LSame G H1) →
      ∀ Q' : VK, (∀ v H', Same H1 H' → (∀ H2, Same H H2 → (∀ b, H b = none → H2 b = H' b) → Q v H2) → Q' v H') → t σ H1 Q') : tLockE t σ H Q := by
  have key : ∀ (c : Addr) (u : HO), H c = some u → ∀ (od : Obj) (v : V) (H' : Hp), Same (upd H c (.frz od u)) H' → (∀ H2, Same H H2 → (∀ b, H b = none → H2 b = H' b) → Q v H2) → H' c = some (.frz od u) ∧ Q v (upd H' c u) := by
    intro c u hc od v H' s q
    refine ⟨s _ _ upd_same, q _ (same_lock hc s) ?_⟩
    intro b hb
    rw [upd_ne (fun z => by rw [z, hc] at hb; cases hb)]
  have free : ∀ (c : Addr) (u : HO), H c = some u → ∀ od : Obj, ∀ b, upd H c (.frz od u) b = none → H b = none := by
    intro c u hc od b hb
    by_cases e : b = c
    · rw [e, upd_same] at hb; cases hb
    · rw [upd_ne e] at hb; exact hb
  rcases ha with ha | ⟨od, ha⟩
  · refine ⟨a, .dK kvs, ha, trivial, fun od => h _ od upd_same (free _ _ ha od) ?_ _ (key _ _ ha od)⟩
    intro G _ s b o e
    by_cases hb : b = a
    · subst hb
      have e2 := s _ _ e
      rw [ha] at e2
      cases e2
      exact .inr ⟨kvs, od, rfl, upd_same⟩
    · exact .inl (by rw [upd_ne hb]; exact s _ _ e)
  · have hap : a ≠ p := ne_of ha hp (by intro z; cases z)
    refine ⟨p, .lst ps, hp, trivial, fun od2 => h _ od (by rw [upd_ne hap]; exact ha) (free _ _ hp od2) ?_ _ (key _ _ hp od2)⟩
    intro G hG s b o e
    exact .inl (by rw [upd_ne (ne_of_none e hG)]; exact s _ _ e)
/-- [e for k in d] -/
theorem lcD_keys {a p : Addr} {kvs : List (Key × V)} {ps : List V} {te : TE} {i j : Nat} {σ : St} {H G : Hp} {Q : VK} (ha : Rd H a (.dK kvs)) (hp : H p = some (.lst ps)) (hi : σ[i]? = some (some (.ref a))) (hG : G p = none) (sG : Same G H)
    (ys : List V) (hl : ys.length = kvs.length) (hz : kvs.length ≤ 100000)
    (step : ∀ (i : Nat) k v y H' (N : VK), kvs[i]? = some (k, v) → ys[i]? = some y → LSame G H' → Rd H' a (.dK kvs) → (∀ H4, Same H' H4 → N y H4) → te ((wipe σ [j]).set j (some (kV k))) H' N)
    (done : ∀ D H', H D = none → Same H H' → H' D = some (.lst ys) → Q (.ref D) H') : tLockE (tLc (iKeys (tVar i)) (gName j) tYes te [j]) σ H Q := by
  refine lockE ha hp ?_
  intro H1 od e1 fr ls Q' hQ
  rw [tLc_eq]
  refine ⟨_, hi, a, od, rfl, .inl ⟨kvs, e1, lcP_keys e1 ys hl hz ?_ ?_⟩⟩
  · intro i k v y H' N hk hy s N'
    exact step i k v y H' N hk hy ((ls G hG sG).trans (.of s)) (.inr ⟨od, s _ _ e1⟩) N'
  · intro D H' nD s e
    refine hQ _ _ s ?_
    intro H2 s2 h2
    have hD : H D = none := fr D nD
    exact done D H2 hD s2 (by rw [h2 D hD]; exact e)
/-- a dict's value by its key -/
theorem valV_at {kvs : List (Key × V)} {i : Nat} {k : Key} {v : V} (hn : (kvs.map (·.1)).Nodup) (h : kvs[i]? = some (k, v)) : valV kvs k = some v := by
  induction kvs generalizing i with
  | nil => simp at h
  | cons p r ih =>
    cases i with
    | zero =>
      simp at h
      subst h
      simp [valV]
    | succ i =>
      simp at h
      have hm : (k, v) ∈ r := List.mem_of_getElem? h
      have hne : ¬ p.1 = k := by
        intro e
        simp only [List.map_cons, List.nodup_cons] at hn
        exact hn.1 (List.mem_map.mpr ⟨_, hm, e.symm⟩)
      have := ih (by simp only [List.map_cons, List.nodup_cons] at hn; exact hn.2) h
      simp only [valV, List.find?_cons, decide_eq_false hne] at this ⊢
      exact this
theorem cx_K {CX : CXT} {P : Program} {w : World} {K : PySem.W.Frag} {mg : Str → Option Value} {base : Heap} {N : List Str} {q : Str} {sc : Scope} {f : Addr} {cd : Value} {A : Around} {outer : List Env} {s : Shared} {H : Hp} {E : XK} : (cxOf CX P w K mg base N q sc f cd A outer s H E).K = K := rfl
/-- an item of a written list, whichever -/
theorem ix_any {K : PySem.W.Frag} {H : Hp} {p : Addr} {xs : List V} {i : Int} {Q : VK} (hp : H p = some (.lst xs)) (h0 : 0 ≤ i) (h1 : i < (xs.length : Int)) (q : ∀ v ∈ xs, Q v H) : rIxL K (.ref p) (.int i) H Q := by
  obtain ⟨j, rfl⟩ : ∃ j : Nat, i = j := ⟨i.toNat, by omega⟩
  have hl : j < xs.length := by omega
  exact ⟨p, xs, j, xs[j], rfl, rfl, SqL.of hp, atI_nat (List.getElem?_eq_getElem hl), q _ (List.getElem_mem hl)⟩
theorem mul_ok {x : Str} {n : Int} (hx : x.length = 1) (h0 : -1000 ≤ n) (h1 : n ≤ 1000) : MulOk x n := by
  refine ⟨?_, ?_, ?_⟩
  · rw [decide_eq_false (by omega), decide_eq_false (by omega)]; rfl
  · intro h2 _
    rw [hx]
    have : (2 ^ 63 - 1 : Int) / n ≥ 1 := Int.le_ediv_of_mul_le (by omega) (by omega)
    omega
  · intro h2 _
    rw [hx]
    have h3 : ∀ k : Fin 1001, PySem.Builtin.Str.tooLong (1 * k.1) = false := by decide +kernel
    exact h3 ⟨n.toNat, by omega⟩
theorem erase_map {A B : Type} (f : A → B) : ∀ (l : List A) (k : Nat), (l.map f).eraseIdx k = (l.eraseIdx k).map f
  | [], _ => rfl
  | _ :: _, 0 => rfl
  | x :: r, k + 1 => by simp [List.eraseIdx, erase_map f r k]
theorem erase_perm {A : Type} : ∀ (l : List A) (k : Nat) (x : A), l[k]? = some x → (x :: l.eraseIdx k).Perm l
  | [], _, _, h => by simp at h
  | y :: r, 0, x, h => by simp at h; subst h; exact .refl _
  | y :: r, k + 1, x, h => by
    simp at h
    exact (List.Perm.swap y x _).trans ((erase_perm r k x h).cons y)
theorem seqIx {j n : Nat} (h : j < n) : seqIndex? (j : Int) n = some j := by
  have h1 : ¬ (j : Int) < 0 := by omega
  unfold seqIndex?
  simp only [if_neg h1]
  rw [if_pos (by simp; omega)]
  simp
theorem valV_no {kvs : List (Key × V)} {k : Key} (h : k ∉ kvs.map (·.1)) : valV kvs k = none := by
  unfold valV
  rw [List.find?_eq_none.mpr]
  · rfl
  · intro p hp
    simp only [decide_eq_true_eq]
    intro e
    exact h (List.mem_map.mpr ⟨p, hp, e⟩)
theorem nd_take {A : Type} {xs : List A} {i : Nat} (h : xs.Nodup) (hi : i < xs.length) : xs[i] ∉ xs.take i := by
  intro hm
  rw [← List.take_append_drop i xs] at h
  exact (List.nodup_append.mp h).2.2 _ hm _ (List.mem_of_getElem (i := 0) (h := by rw [List.length_drop]; omega) (by simp)) rfl
theorem iteT' {c A B : Prop} [Decidable c] (hc : c) (h : A) : if c then A else B := by rw [if_pos hc]; exact h
theorem iteF' {c A B : Prop} [Decidable c] (hc : ¬ c) (h : B) : if c then A else B := by rw [if_neg hc]; exact h
theorem mod_in (n : Int) {m : Int} (h : 0 < m) : 0 ≤ n % m ∧ n % m < m := ⟨Int.emod_nonneg _ (by omega), Int.emod_lt_of_pos _ h⟩
theorem sz5 {n : Nat} (h : n ≤ 100000) : n ≤ sizeLine := Nat.le_trans h (by decide)
theorem sz5l {n : Nat} (h : n < 100000) : n < sizeLine := Nat.lt_of_lt_of_le h (by decide)
end SC

set_option Elab.async false
set_option linter.all false
set_option maxRecDepth 100000
set_option maxHeartbeats 4000000
/-! Schemacheck: defs that are called where no repr is under way; repr of data. -/
namespace SC
open PySem L2 PySem.Spec PyProof.Rows

/-- a def keeps its promise wherever nothing is being shown -/
structure FnG (P : Program) (w : World) (K : PySem.W.Frag) (mg : Str → Option Value) (base : Heap) (k : Nat) (f : Addr) (fd : FuncData) (ps : List Str) (sp : Sp) : Prop where
  len : ∀ vs H Q E, sp vs H Q E → vs.length = ps.length
  run : ∀ (A : Around) (outer : List Env) (s : Shared) (H : Hp) (args : Args) (us : List Value) (vs : List V) (Q : VK) (E : XK), A.guards = some [] → Room k A → Env0 P w K mg base A outer s H →
    BindsTo s fd args (ps.zip us) → Vals vs us → sp vs H Q E → codeAny (model P w) A (.call (.ref f) args) (CR CX0 outer P w H s Q E) s
section
variable {P : Program} {w : World} {K : PySem.W.Frag} {mg : Str → Option Value} {base : Heap} {k : Nat} {f : Addr} {fd : FuncData} {ps : List Str} {sp : Sp}
theorem FnG.of (F : FnOk P w K mg base CX0 k f fd ps sp) : FnG P w K mg base k f fd ps sp := ⟨F.len, fun A outer s H args us vs Q E _ => F.run A outer s H args us vs Q E⟩
theorem kinds_ok {N ps : List Str} {sc : Scope} (S : FnScope N ps sc) (us : List Value) : ((ps.zip us).all fun y => sc.names.lookup y.1 == some .local || sc.names.lookup y.1 == some .cell) = true := by
  rw [List.all_eq_true]
  rintro ⟨n, v⟩ hy
  have h1 := S.par n (List.of_mem_zip hy).1
  rcases h1 with q | q
  · simp [q]
  · simp [q]
/-- the rule for a def, as Fun.ok, with the guards known -/
theorem okG {x qual : Str} {st : Stmt} {N : List Str} (F : Fun K x qual st f fd) (S : FnScope N ps (defScope st)) (len : ∀ vs H Q E, sp vs H Q E → vs.length = ps.length)
    (hbody : ∀ (cdv : Value) (A : Around) (outer : List Env) (s : Shared) (H : Hp) (vs : List V) (Q : VK) (E : XK), A.guards = some [] → Room k (A.deeper (envOfC qual (defScope st) s.heap.objs.size f cdv)) → sp vs H Q E →
      ∃ t, PSs (cxOf CX0 P w K mg base N qual (defScope st) f cdv A outer s H E).nox (defBody st) t ∧ t { nx := fun _ H' => Q .non H', rt := Q } (start N vs) H) : FnG P w K mg base (k + 1) f fd ps sp := by
  obtain ⟨oc, od, kV, doc, pm, an, cdv, ct, osl, rfl, lk, hcd⟩ := F.ex
  constructor
  · exact len
  intro A outer s H args us vs Q E hg hr e0 hb r hsp
  obtain ⟨t, ht, hq⟩ := hbody cdv A outer s H vs Q E hg (hr.deeper _) hsp
  have KX : K.In s.heap := e0.mod.kin.keeps (fun b o e => (e0.bs b o e).1)
  have lim : s.heap.NoLimit := e0.mod.nolimit.keeps (fun b o e => (e0.bs b o e).1)
  refine Att.call_fn KX lim lk hcd hr.depth hb (kinds_ok S us) ?_ S.co S.gen S.kind
  intro s1 x
  have I : Inv (cxOf CX0 P w K mg base N qual (defScope st) f cdv A outer s H E) [] (start N vs) H s1 := inv_start S hr.hd e0 (len _ _ _ _ hsp) r x
  have done : ∀ {σ' : L2.St} {H' : Hp} {v : V} {u : Value} {s' : Shared}, Inv (cxOf CX0 P w K mg base N qual (defScope st) f cdv A outer s H E) [] σ' H' s' → RelV v u → Q v H' → CE outer P w H s Q u s' := by
    intro σ' H' v u s' J rv q
    exact ⟨v, H', J.os, J.bare, J.base, J.hok, rv, q⟩
  apply wpAny_mono (ht.nox.run [] s1 (start N vs) H _ I hq)
  · intro fl s' hs
    cases fl
    case ret u =>
      obtain ⟨v, σ', H', J, rv, q⟩ := hs
      exact done J rv q
    case next =>
      obtain ⟨σ', H', J, q⟩ := hs
      exact done (v := .non) (u := .none) J rfl q
    case brk =>
      obtain ⟨_, _, _, q⟩ := hs
      exact q.elim
    case cont =>
      obtain ⟨_, _, _, q⟩ := hs
      exact q.elim
  · intro e s' hs
    exact hs
end
/-! ### calls of such defs -/
def RdyG (P : Program) (w : World) (K : PySem.W.Frag) (mg : Str → Option Value) (base : Heap) (k : Nat) (x : Str) (ps : List Str) (sp : Sp) : Prop :=
  ∃ f fd, FnG P w K mg base k f fd ps sp ∧ mg x = some (.ref f) ∧ PySem.W.keepIn K (.ref f) = true ∧ Binds K fd ps []
theorem Def.rdyG {P : Program} {w : World} {K : PySem.W.Frag} {mg : Str → Option Value} {base : Heap} {k : Nat} {x : Str} {st : Stmt} {f : Addr} {fd : FuncData} {ps : List Str} {sp : Sp} (D : Def K mg x st f fd)
    (b : ∀ (kV doc pm : Value) (an : Option Addr) (cdv ct : Value) (us : List Value), us.length = ps.length → bindArgs (PySem.W.fnOf x x (defArgs st) (defBody st) (defScope st) .none kV doc pm an cdv ct) ⟨us, []⟩ = pure (ps.zip us))
    (h : FnG P w K mg base k f fd ps sp) : RdyG P w K mg base k x ps sp := ⟨f, fd, h, D.2, D.1.kp, D.1.binds b⟩
section
variable {X : Cx} {k : Nat} {x : Str} {ps ks : List Str} {sp : Sp} {p pos : Pos} {e : Expr} {es : List Expr} {t : TA}
theorem run_g {pins : List (Addr × Obj)} {σ : L2.St} {H : Hp} {s : Shared} {Q : VK} {f : Addr} {fd : FuncData} {us : List Value} {vs : List V} (F : FnG X.prog X.w X.K X.mg X.base k f fd ps sp) (hg : X.A.guards = some []) (hr : Room k X.A) (hb : Binds X.K fd ps [])
    (I : Inv X pins σ H s) (r : Vals vs us) (h : sp vs H Q E0) : wpAny (model X.prog X.w) X.A (call (.ref f) us) (EP X pins σ Q) X.xe s := by
  have hl : us.length = ps.length := by
    rw [← r.length]
    exact F.len _ _ _ _ h
  have hb' := hb s us I.kIn (by rw [List.append_nil]; exact hl)
  rw [List.append_nil] at hb'
  apply wpAny_call
  apply codeAny_mono (F.run X.A X.stack s H ⟨us, []⟩ us vs Q E0 hg hr I.env0 hb' r h)
  intro res s' hq
  cases res with
  | error e => exact False.elim hq
  | ok fl =>
    cases fl with
    | ret u => exact I.after hq
    | next => exact False.elim hq
    | brk => exact False.elim hq
    | cont => exact False.elim hq
theorem pe_cg (R : RdyG X.prog X.w X.K X.mg X.base k x ps sp) (hgd : X.A.guards = some []) (hr : Room k X.A) (hg : Gl X x) (ha : PA X (e :: es) t) (hdb : (x == ("__debug__" : Str)) = false := by decide)
    (he : starEach (e :: es) X.env = (false, eval e X.env) :: starEach es X.env := by rfl) (hpl : (backTo pos (starEach es X.env)).any (·.1) = false := by rfl) : PE X (.Call (.Name x p) (e :: es) [] pos) (tCall sp [] E0 t) := by
  obtain ⟨f, fd, h1, h2, h3, h4⟩ := R
  constructor
  intro pins s σ H Q I h
  apply wpAny_Call_Name_kw
  apply ld_glob I hg h2 _ hdb
  refine PySem.W.callWith_K (h₀ := X.base) I.ok.mod.kin h3 ?_ he hpl
  apply thn (ha.run pos pins s σ H _ I h)
  rintro us s1 ⟨vs, H1, I1, r, q⟩
  refine ⟨I1.kIn, run_g h1 hgd hr h4 I1 r ?_⟩
  rw [List.append_nil] at q
  exact q
theorem pe_cg0 (R : RdyG X.prog X.w X.K X.mg X.base k x ps sp) (hgd : X.A.guards = some []) (hr : Room k X.A) (hg : Gl X x) (hdb : (x == ("__debug__" : Str)) = false := by decide) : PE X (.Call (.Name x p) [] [] pos) (tCall sp [] E0 tNil) := by
  obtain ⟨f, fd, h1, h2, h3, h4⟩ := R
  constructor
  intro pins s σ H Q I h
  apply wpAny_Call_Name_kw
  apply ld_glob I hg h2 _ hdb
  exact PySem.W.callWith_K0 I.kIn h3 (run_g (us := []) (vs := []) h1 hgd hr h4 I .nil h)
end
/-! ### repr -/
theorem readsAll_of {h : Heap} {F : V → PyData → Prop} {G : Addr → Prop} (f : ∀ v d u, F v d → RelV v u → ∃ as, Reads h u d as ∧ ∀ b ∈ as, G b) : ∀ {xs : List V} {ds : List PyData} {us : List Value}, Paired F xs ds → Vals xs us → ∃ as, ReadsAll h us ds as ∧ ∀ b ∈ as, G b := by
  intro xs ds us hp
  induction hp generalizing us with
  | nil =>
    intro r
    cases r
    exact ⟨[], .nil, by simp⟩
  | cons q _ ih =>
    intro r
    cases r with
    | cons r1 r2 =>
      obtain ⟨as, h1, g1⟩ := f _ _ _ q r1
      obtain ⟨bs, h2, g2⟩ := ih r2
      refine ⟨_, .cons h1 h2, ?_⟩
      intro b hb
      rcases List.mem_append.mp hb with hb | hb
      · exact g1 b hb
      · exact g2 b hb
theorem reads_key {h : Heap} {k : Key} {v : Value} (hk : keyIs k v = true) : Reads h v (kD k) [] := by
  rcases keyIs_shape hk with ⟨i, t, rfl, rfl⟩ | ⟨x, t, rfl, rfl⟩
  · exact .int i t
  · exact .str x t
theorem readsKv_of {P : Program} {w : World} {h : Heap} {F : V → PyData → Prop} {G : Addr → Prop} (f : ∀ v d u, F v d → RelV v u → ∃ as, Reads h u d as ∧ ∀ b ∈ as, G b) : ∀ {kvs : List (Key × V)} {es : List (PyData × PyData)} {ws : List (Key × Value)} {ds : List DictEntry},
    Paired (fun (p : Key × V) (q : PyData × PyData) => q.1 = kD p.1 ∧ F p.2 q.2) kvs es → KV kvs ws → Pairs (mixKind P w) ds ws →
    (∃ as, ReadsAll h (ds.map (·.key)) (es.map (·.1)) as ∧ as = []) ∧ ∃ bs, ReadsAll h (ds.map (·.val)) (es.map (·.2)) bs ∧ ∀ b ∈ bs, G b := by
  intro kvs es ws ds hp
  induction hp generalizing ws ds with
  | nil =>
    intro r q
    cases r
    cases q
    exact ⟨⟨[], .nil, rfl⟩, [], .nil, by simp⟩
  | cons c _ ih =>
    intro r q
    cases r with
    | cons r1 r2 =>
      cases q with
      | cons q1 q2 q3 =>
        obtain ⟨⟨as, h1, e1⟩, bs, h2, g2⟩ := ih r2 q3
        subst e1
        obtain ⟨cs, h3, g3⟩ := f _ _ _ c.2 r1.2
        have k1 : Reads h _ (kD _) [] := reads_key q1
        rw [← r1.1, ← c.1] at k1
        rw [← q2] at h3
        refine ⟨⟨[] ++ [], ReadsAll.cons k1 h1, rfl⟩, cs ++ bs, ReadsAll.cons h3 h2, ?_⟩
        · intro b hb
          rcases List.mem_append.mp hb with hb | hb
          · exact g3 b hb
          · exact g2 b hb
theorem Rp.reads {P : Program} {w : World} {H : Hp} {h : Heap} (ok : HOk P w H h) : ∀ {n : Nat} {d : PyData} {v : V} {u : Value}, Rp H n v d → RelV v u → ∃ as, Reads h u d as ∧ ∀ b ∈ as, H b ≠ none
  | 0, _, _, _, h, _ => h.elim
  | n + 1, .none, _, _, e, r => by cases e; cases r; exact ⟨[], .none, by simp⟩
  | n + 1, .bool b, _, _, e, r => by cases e; cases r; exact ⟨[], .bool b, by simp⟩
  | n + 1, .int b, _, _, e, r => by cases e; obtain ⟨t, rfl⟩ := r; exact ⟨[], .int b t, by simp⟩
  | n + 1, .str b, _, _, e, r => by cases e; obtain ⟨t, rfl⟩ := r; exact ⟨[], .str b t, by simp⟩
  | n + 1, .list ds, _, _, ⟨a, xs, e, ha, _, hp⟩, r => by
    subst e
    cases r
    obtain ⟨_, its, m, rv, hg⟩ := ok a _ ha
    obtain ⟨as, h1, g1⟩ := readsAll_of (G := fun b => H b ≠ none) (fun v d u q r => Rp.reads ok q r) hp rv
    refine ⟨a :: as, .list hg rfl rfl (by simpa using h1), ?_⟩
    intro b hb
    rcases List.mem_cons.mp hb with rfl | hb
    · rw [ha]; simp
    · exact g1 b hb
  | n + 1, .tuple ds, _, _, ⟨a, xs, e, ha, _, hp⟩, r => by
    subst e
    cases r
    obtain ⟨_, its, rv, o, ho, hc, m, hd⟩ := ok a _ ha
    obtain ⟨as, h1, g1⟩ := readsAll_of (G := fun b => H b ≠ none) (fun v d u q r => Rp.reads ok q r) hp rv
    exact ⟨as, .tuple ho hc hd (by simpa using h1), g1⟩
  | n + 1, .dict es, _, _, ⟨a, kvs, e, ha, _, _, hp⟩, r => by
    subst e
    cases r
    obtain ⟨_, _, ws, rv, o, ds, ep, ho, hx, hd, _, hpr, _⟩ := ha.ok ok
    obtain ⟨⟨as, h1, e1⟩, bs, h2, g2⟩ := readsKv_of (G := fun b => H b ≠ none) (fun v d u q r => Rp.reads ok q r) hp rv hpr
    subst e1
    refine ⟨_, .dict ho hx.1 hd h1 h2, ?_⟩
    intro b hb
    simp only [List.append_nil, List.cons_append, List.nil_append, List.mem_cons] at hb
    rcases hb with rfl | hb
    · rcases ha with ha | ⟨_, ha⟩ <;> rw [ha] <;> simp
    · exact g2 b hb
theorem depthAll_le {n : Nat} : ∀ {ds : List PyData}, (∀ d ∈ ds, d.depth ≤ n) → PyData.depthAll ds ≤ n
  | [], _ => Nat.zero_le _
  | d :: r, h => by
    have h1 := h d (by simp)
    have h2 := depthAll_le (ds := r) fun e he => h e (by simp [he])
    show max _ _ ≤ n
    omega
theorem depthKv_le {n : Nat} : ∀ {es : List (PyData × PyData)}, (∀ e ∈ es, e.1.depth ≤ n ∧ e.2.depth ≤ n) → PyData.depthKv es ≤ n
  | [], _ => Nat.zero_le _
  | (a, b) :: r, h => by
    have h1 := h (a, b) (by simp)
    have h2 := depthKv_le (es := r) fun e he => h e (by simp [he])
    show max (max _ _) _ ≤ n
    simp at h1
    omega
theorem Rp.depth_le {H : Hp} : ∀ {n : Nat} {d : PyData} {v : V}, Rp H n v d → d.depth ≤ n
  | 0, _, _, h => h.elim
  | n + 1, .none, _, _ => Nat.zero_le _
  | n + 1, .bool _, _, _ => Nat.zero_le _
  | n + 1, .int _, _, _ => Nat.zero_le _
  | n + 1, .str _, _, _ => Nat.zero_le _
  | n + 1, .list ds, _, ⟨a, xs, e, ha, _, hp⟩ => by
    show PyData.depthAll ds + 1 ≤ n + 1
    have : PyData.depthAll ds ≤ n := depthAll_le fun d hd => by
      obtain ⟨x, _, r⟩ := pd_memR hp hd
      exact r.depth_le
    omega
  | n + 1, .tuple ds, _, ⟨a, xs, e, ha, _, hp⟩ => by
    show PyData.depthAll ds + 1 ≤ n + 1
    have : PyData.depthAll ds ≤ n := depthAll_le fun d hd => by
      obtain ⟨x, _, r⟩ := pd_memR hp hd
      exact r.depth_le
    omega
  | n + 1, .dict es, _, ⟨a, xs, e, ha, _, _, hp⟩ => by
    show PyData.depthKv es + 1 ≤ n + 1
    have : PyData.depthKv es ≤ n := depthKv_le fun q hq => by
      obtain ⟨x, _, r1, r2⟩ := pd_memR hp hq
      refine ⟨?_, r2.depth_le⟩
      rw [r1]
      cases x.1 <;> exact Nat.zero_le _
    omega
def rRepr : List V → Hp → VK → Prop := fun xs H Q => ∃ v n d, xs = [v] ∧ Rp H n v d ∧ n ≤ 90 ∧ d.showable = true ∧ d.shown.length ≤ sizeLine ∧ Q (.str d.shown) H
theorem call_repr {X : Cx} (hg : X.A.guards = some []) (hsys : ∃ o, X.base.get? sysModules = some o) (hu : X.A.units + 100 < cLine) : CallR X (.builtin "repr") rRepr := by
  intro pins s σ H xs us Q I r h
  obtain ⟨v, n, d, rfl, hd, hn, hs, hz, q⟩ := h
  obtain ⟨u, rfl, rv⟩ := vals1 r
  obtain ⟨o0, hs0⟩ := hsys
  have hsm : H sysModules = none := (I.bs _ _ hs0).2
  obtain ⟨as, rd, g⟩ := hd.reads I.hok rv
  have hdep := hd.depth_le
  have no : sysModules ∉ as := fun hm => g _ hm hsm
  cases rd with
  | none => exact PySem.P.repr_of_none ⟨.str _, H, I.tok _, ⟨_, rfl⟩, q⟩
  | bool b => exact PySem.P.repr_of_bool ⟨.str _, H, I.tok _, ⟨_, rfl⟩, q⟩
  | int i t =>
    have hi : i.natAbs.log2 < 1920 := of_decide_eq_true hs
    exact PySem.P.repr_of_int hi ⟨.str _, H, I.tok _, ⟨_, rfl⟩, q⟩
  | str x t => exact PySem.P.repr_of_str ⟨.str _, H, I.tok _, ⟨_, rfl⟩, q⟩ hz
  | list a1 a2 a3 a4 => exact repr_of_reads' (.list a1 a2 a3 a4) hs (fun _ => no) hg (by omega) (fun b o e => e) (fun h' t tk hk => ⟨.str _, H, I.un (Un.kept hk) (I.hok.kept hk), ⟨_, rfl⟩, q⟩) hz
  | tuple a1 a2 a3 a4 => exact repr_of_reads' (.tuple a1 a2 a3 a4) hs (fun _ => no) hg (by omega) (fun b o e => e) (fun h' t tk hk => ⟨.str _, H, I.un (Un.kept hk) (I.hok.kept hk), ⟨_, rfl⟩, q⟩) hz
  | dict a1 a2 a3 a4 a5 => exact repr_of_reads' (.dict a1 a2 a3 a4 a5) hs (fun _ => no) hg (by omega) (fun b o e => e) (fun h' t tk hk => ⟨.str _, H, I.un (Un.kept hk) (I.hok.kept hk), ⟨_, rfl⟩, q⟩) hz
/-! ### the law's own call -/
section
variable {P : Program} {w : World} {K : PySem.W.Frag} {mg mb : Str → Option Value} {k : Nat} {fa a : Addr} {fd : FuncData} {x : Str} {sp : Sp} {s1 : Shared} {vs : List Value} {ns : List Int}
/-- a dict of the state is not the script's place -/
theorem not_script {h : Heap} {b : Addr} {m : Str → Option Value} (n : h.Ns b m) (ha : h.get? a = some { cls := .type "list", data := .seq vs.toArray }) : b ≠ a := by
  rintro rfl
  obtain ⟨o, es, ep, e, d, _⟩ := n
  rw [ha] at e
  cases e
  cases d
theorem lawH {H : Hp} (KX : K.In s1.heap) (hns : s1.heap.Ns mainGlobals mg) (hb : s1.heap.Ns builtinsNs mb) (hbb : ∀ x : Str, x ≠ "__name__" → mb x = bootBuiltins x) (hlim : s1.heap.NoLimit) (hseer : s1.heap.NoSeer) (hg : s1.gens = #[])
    (ha : s1.heap.get? a = some { cls := .type "list", data := .seq vs.toArray }) (hr : Room k callerA) (hbind : ∀ (s : Shared) (u : Value), BindsTo s fd ⟨[u], []⟩ [(x, u)])
    (F : ∀ base : Heap, K.In base → base.Ns mainGlobals mg → (∃ o, base.get? sysModules = some o) → FnG P w K mg base k fa fd [x] sp)
    (hsp : sp [.ref a] H (fun v _ => v = .bl true) fun _ _ _ => False) (hO : Only H) (hok : HOk P w H s1.heap) (hA : ∀ b, b ≠ a → H b = none) (hK : ∀ o, K.lookup a = some o → H a = none) :
    codeAny (model P w) callerA (.call (.ref fa) ⟨[.ref a], []⟩) (fun r s' => r = .ok (.ret (.bool true)) ∧ OldK s1.heap s'.heap ∧ s'.os = s1.os ∧ AllBare s'.gens) s1 := by
  have toB : ∀ {b : Addr} {o : Obj}, s1.heap.get? b = some o → H b = none → (hidT s1.heap H).get? b = some o := fun e n => hidT_get e n
  have toN : ∀ {b : Addr} {m : Str → Option Value}, s1.heap.Ns b m → (hidT s1.heap H).Ns b m := by
    intro b m n
    have hne := not_script n ha
    obtain ⟨o, es, ep, e, r⟩ := n
    exact ⟨o, es, ep, toB e (hA b hne), r⟩
  have inB : K.In (hidT s1.heap H) := by
    intro b o e
    apply toB (KX b o e)
    by_cases hba : b = a
    · subst hba; exact hK o e
    · exact hA b hba
  have sysB : ∃ o, (hidT s1.heap H).get? sysModules = some o := by
    obtain ⟨mm, n, _⟩ := hseer.mods
    have hne := not_script n ha
    obtain ⟨o, es, ep, e, _⟩ := n
    exact ⟨o, toB e (hA _ hne)⟩
  have limB : (hidT s1.heap H).NoLimit := by
    obtain ⟨mc, h1, h2⟩ := hlim
    exact ⟨mc, toN h1, h2⟩
  have e0 : Env0 P w K mg (hidT s1.heap H) callerA [] s1 H := by
    refine ⟨rfl, ⟨inB, toN hns, ⟨mb, toN hb, hbb⟩, limB⟩, fun b o e => of_hidT e, Nat.le_of_eq (hidT_size _ _), trivial, ?_, hok, .of_eq hg⟩
    intro b hb
    exact absurd (show b ∈ ([] : List Addr) from hb) List.not_mem_nil
  have run := (F _ inB (toN hns) sysB).run callerA [] s1 H ⟨[.ref a], []⟩ [.ref a] [.ref a] _ _ rfl hr e0 (hbind s1 (.ref a)) (.cons rfl .nil) hsp
  refine codeAny_mono run ?_
  intro r s' h
  cases r with
  | error e => exact False.elim h
  | ok fl =>
    cases fl with
    | next => exact False.elim h
    | brk => exact False.elim h
    | cont => exact False.elim h
    | ret u =>
      obtain ⟨v, H', os, bare, un, hok', rv, hv⟩ := h
      obtain rfl : v = .bl true := hv
      obtain rfl : u = Value.bool true := rv
      refine ⟨rfl, OldK.of_keep ?_, os, bare⟩
      intro b o e
      rcases hO b with q | ⟨ob, xs, q⟩
      · exact un.keep b o e q (fun z => absurd (show b ∈ ([] : List Addr) from z) List.not_mem_nil) List.not_mem_nil
      · obtain ⟨e1, _⟩ := hok b _ q
        obtain ⟨e2, _⟩ := hok' b _ (un.frzs b ob _ q)
        rw [e] at e1
        cases e1
        exact e2
theorem lawG (KX : K.In s1.heap) (hns : s1.heap.Ns mainGlobals mg) (hb : s1.heap.Ns builtinsNs mb) (hbb : ∀ x : Str, x ≠ "__name__" → mb x = bootBuiltins x) (hlim : s1.heap.NoLimit) (hseer : s1.heap.NoSeer) (hg : s1.gens = #[])
    (ha : s1.heap.get? a = some { cls := .type "list", data := .seq vs.toArray }) (hi : IntsAre vs ns) (hl : ns.length ≤ sizeLine) (hr : Room k callerA) (hbind : ∀ (s : Shared) (u : Value), BindsTo s fd ⟨[u], []⟩ [(x, u)])
    (F : ∀ base : Heap, K.In base → base.Ns mainGlobals mg → (∃ o, base.get? sysModules = some o) → FnG P w K mg base k fa fd [x] sp)
    (hsp : ∀ H : Hp, Only H → SqL K H a (ns.map V.int) → sp [.ref a] H (fun v _ => v = .bl true) fun _ _ _ => False) :
    codeAny (model P w) callerA (.call (.ref fa) ⟨[.ref a], []⟩) (fun r s' => r = .ok (.ret (.bool true)) ∧ OldK s1.heap s'.heap ∧ s'.os = s1.os ∧ AllBare s'.gens) s1 := by
  have rv := vals_ints hi
  have lv : vs.length = ns.length := hi.length
  by_cases hk : ∃ o, K.lookup a = some o
  · obtain ⟨o, hk⟩ := hk
    have e := KX a o hk
    rw [ha] at e
    cases e
    have O0 : Only (fun _ => none) := fun _ => .inl rfl
    refine lawH KX hns hb hbb hlim hseer hg ha hr hbind F (hsp _ O0 ?_) O0 ?_ (fun _ _ => rfl) (fun _ _ => rfl)
    · refine .inr ⟨_, vs.toArray, _, hk, rfl, rfl, rfl, ?_, by simpa using rv⟩
      rw [List.size_toArray, lv]
      exact hl
    · intro b u z
      cases (show (none : Option HO) = some u from z)
  · let ob : Obj := { cls := .type "list", data := .seq vs.toArray }
    let H : Hp := fun b => if b = a then some (.frz ob (.lst (ns.map V.int))) else none
    have at_a : H a = some (.frz ob (.lst (ns.map V.int))) := if_pos rfl
    have off : ∀ b, b ≠ a → H b = none := fun b h => if_neg h
    have hO : Only H := by
      intro b
      by_cases hb : b = a
      · subst hb; exact .inr ⟨_, _, at_a⟩
      · exact .inl (off b hb)
    refine lawH KX hns hb hbb hlim hseer hg ha hr hbind F (hsp H hO (.inl (.inr ⟨ob, at_a⟩))) hO ?_ off (fun o e => absurd ⟨o, e⟩ hk)
    intro b u z
    by_cases hb : b = a
    · subst hb
      rw [at_a] at z
      cases z
      exact ⟨ha, by rw [List.length_map]; exact hl, vs, _, rv, ha⟩
    · rw [off b hb] at z
      cases z
end
/-- the end of a law row whose defs speak of FnG -/
theorem walkG {l : PySem.W.OpenLaw} {n k : Nat} {q : Program} {loose : List Str} {XP : (Str → Option Value) → Heap → Prop} {YP : World → Heap → Prop} {d : DefRec} {K : Params → PySem.W.Frag} {sp : PySem.W.Frag → Sp} {x : Str}
    (hn : l.most = some n) (hn2 : n ≤ sizeLine) (hdf : d.params.defaults = []) (hr : Room k callerA) (hq : importsNone q = true) (hY : ∀ (w : World) (h : Heap), YP w h → (K w.params).In h)
    (F : ∀ (w : World) (mg : Str → Option Value) (fa : Addr) (h : Heap), (K w.params).In h → h.Ns mainGlobals mg → mg d.name = some (.ref fa) →
      ∃ fd : FuncData, (∀ (s : Shared) (u : Value), BindsTo s fd ⟨[u], []⟩ [(x, u)]) ∧
        ∀ base : Heap, (K w.params).In base → base.Ns mainGlobals mg → (∃ o, base.get? sysModules = some o) → FnG l.prog w (K w.params) mg base k fa fd [x] (sp (K w.params)))
    (hsp : ∀ (K : PySem.W.Frag) (H : Hp) (a : Addr) (ns : List Int), ns.length ≤ n → Only H → SqL K H a (ns.map V.int) → sp K [.ref a] H (fun v _ => v = .bl true) fun _ _ _ => False) :
    PySem.W.WalkO q loose XP YP l.row.toRowW d [] (fun f vs => PySem.call f vs) := by
  apply Att.attach_call hn hdf
  intro w s0 s1 mg mb fa o pm cd doc a vs ns G Y ho hd hcd hmg hobj hints hlen hg
  have KX := hY w _ Y
  obtain ⟨fd, hb, hF⟩ := F w mg fa _ KX G.T.g hmg
  exact lawG KX G.T.g G.T.b G.T.builtins G.T.nolimit (G.T.seer hq) hg hobj hints (Nat.le_trans hlen hn2) hr hb hF fun H hO hS => hsp _ H a ns hlen hO hS
end SC

set_option Elab.async false
set_option linter.all false
set_option maxRecDepth 100000
set_option maxHeartbeats 4000000
/-! Schemacheck: documents, their number of parts, how long they are shown. -/
namespace SC
open PySem L2
def AsciiS (s : Str) : Prop := ∀ c ∈ s.cps.toList, c < 128
def leafD : PyData → Prop
  | .none => True
  | .bool _ => True
  | .int i => -10 ^ 30 ≤ i ∧ i ≤ 10 ^ 30
  | .str s => s.length ≤ 60 ∧ AsciiS s
  | _ => False
def LeafV (v : V) : Prop := ∃ d, leafD d ∧ ∀ G, Rp G 1 v d
theorem leaf_str (x : Str) (h : x.length ≤ 60) (h2 : ∀ c ∈ x.cps.toList, c < 128) : LeafV (.str x) := ⟨.str x, ⟨h, h2⟩, fun _ => rfl⟩
theorem leaf_int (i : Int) (h : -10 ^ 30 ≤ i ∧ i ≤ 10 ^ 30) : LeafV (.int i) := ⟨.int i, h, fun _ => rfl⟩
theorem leaf_bl (b : Bool) : LeafV (.bl b) := ⟨.bool b, trivial, fun _ => rfl⟩
theorem leaf_non : LeafV .non := ⟨.none, trivial, fun _ => rfl⟩
def NameOk (x : Str) : Prop := x.length ≤ 60 ∧ AsciiS x
def docD : Nat → PyData → Prop
  | 0, _ => False
  | n + 1, .list ds => ds.length ≤ 10 ∧ ∀ d ∈ ds, docD n d
  | n + 1, .dict es => es.length ≤ 10 ∧ ∀ e ∈ es, (∃ x, e.1 = .str x ∧ NameOk x) ∧ docD n e.2
  | _ + 1, d => leafD d
theorem docD.leaf {d : PyData} (h : leafD d) (n : Nat) : docD (n + 1) d := by
  cases d <;> first | exact h | exact h.elim
theorem docD.up1 : ∀ {n : Nat} {d : PyData}, docD n d → docD (n + 1) d
  | 0, _, h => h.elim
  | n + 1, .list ds, h => ⟨h.1, fun d hd => (h.2 d hd).up1⟩
  | n + 1, .dict es, h => ⟨h.1, fun e he => ⟨(h.2 e he).1, (h.2 e he).2.up1⟩⟩
  | n + 1, .none, h => h
  | n + 1, .bool _, h => h
  | n + 1, .int _, h => h
  | n + 1, .str _, h => h
  | n + 1, .tuple _, h => h.elim
theorem docD.up {n m : Nat} {d : PyData} (h : docD n d) (hl : n ≤ m) : docD m d := by
  induction hl with
  | refl => exact h
  | step _ ih => exact ih.up1
mutual
/-- the number of parts -/
def cnt : PyData → Nat
  | .list ds => 1 + cntAll ds
  | .tuple ds => 1 + cntAll ds
  | .dict es => 1 + cntKv es
  | .none => 1
  | .bool _ => 1
  | .int _ => 1
  | .str _ => 1
def cntAll : List PyData → Nat
  | [] => 0
  | d :: r => cnt d + cntAll r
def cntKv : List (PyData × PyData) → Nat
  | [] => 0
  | (_, d) :: r => cnt d + cntKv r
end
theorem cntAll_app (xs ys : List PyData) : cntAll (xs ++ ys) = cntAll xs + cntAll ys := by
  induction xs with
  | nil => simp [cntAll]
  | cons d r ih => simp [cntAll, ih]; omega
theorem cntKv_app (xs ys : List (PyData × PyData)) : cntKv (xs ++ ys) = cntKv xs + cntKv ys := by
  induction xs with
  | nil => simp [cntKv]
  | cons d r ih => obtain ⟨a, b⟩ := d; simp [cntKv, ih]; omega
theorem cnt_pos (d : PyData) : 1 ≤ cnt d := by
  cases d <;> simp [cnt] <;> omega
theorem leaf_cnt {d : PyData} (h : leafD d) : cnt d = 1 := by
  cases d <;> first | rfl | exact h.elim
theorem cntAll_mem {d : PyData} {ds : List PyData} (h : d ∈ ds) : cnt d ≤ cntAll ds := by
  induction ds with
  | nil => simp at h
  | cons e r ih =>
    simp only [cntAll]
    rcases List.mem_cons.mp h with rfl | h
    · omega
    · have := ih h; omega
theorem cntKv_mem {q : PyData × PyData} {es : List (PyData × PyData)} (h : q ∈ es) : cnt q.2 ≤ cntKv es := by
  induction es with
  | nil => simp at h
  | cons e r ih =>
    obtain ⟨a, b⟩ := e
    simp only [cntKv]
    rcases List.mem_cons.mp h with rfl | h
    · show cnt b ≤ _; omega
    · have := ih h; omega
theorem ascii_big {x : Str} (h : AsciiS x) : (x.cps.toList.all fun c => decide (c < 16 ^ 8)) = true := by
  rw [List.all_eq_true]
  intro c hc
  have := h c hc
  exact decide_eq_true (by omega)
theorem int30_len {i : Int} (h : -10 ^ 30 ≤ i ∧ i ≤ 10 ^ 30) : (PyData.shown (.int i)).length ≤ 40 := by
  have e := int_text_length_le10 (a := i) (k := 31) (by decide) (by omega)
  show (Str.ofString (toString i)).length ≤ 40
  rw [ofString_length]
  omega
theorem int30_log {i : Int} (h : -10 ^ 30 ≤ i ∧ i ≤ 10 ^ 30) : i.natAbs.log2 < 100 := by
  by_cases h0 : i.natAbs = 0
  · rw [h0]; decide
  · exact (Nat.log2_lt h0).mpr (by have : i.natAbs ≤ 10 ^ 30 := by omega
                                   exact Nat.lt_of_le_of_lt this (by decide))
theorem str60_weight {x : Str} (h : x.length ≤ 60) : PyData.weight (.str x) ≤ 60 := h
/-- a document can be shown, and not too long -/
def Fine (d : PyData) : Prop := d.showable = true ∧ d.leavesShort 40 = true ∧ d.weight + 64 ≤ 165 * cnt d
theorem fine_all {ds : List PyData} (h : ∀ d ∈ ds, Fine d) : PyData.showableAll ds = true ∧ PyData.leavesShortAll 40 ds = true ∧ PyData.weightAll ds ≤ 165 * cntAll ds := by
  induction ds with
  | nil => exact ⟨rfl, rfl, Nat.zero_le _⟩
  | cons d r ih =>
    obtain ⟨a1, a2, a3⟩ := h d (by simp)
    obtain ⟨b1, b2, b3⟩ := ih fun e he => h e (by simp [he])
    refine ⟨?_, ?_, ?_⟩
    · show (_ && _) = true; rw [a1, b1]; rfl
    · show (_ && _) = true; rw [a2, b2]; rfl
    · show PyData.weight d + 1 + PyData.weightAll r ≤ 165 * (cnt d + cntAll r); omega
theorem fine_kv {es : List (PyData × PyData)} (h : ∀ e ∈ es, (∃ x, e.1 = .str x ∧ NameOk x) ∧ Fine e.2) : PyData.showableKv es = true ∧ PyData.leavesShortKv 40 es = true ∧ PyData.weightKv es ≤ 165 * cntKv es := by
  induction es with
  | nil => exact ⟨rfl, rfl, Nat.zero_le _⟩
  | cons e r ih =>
    obtain ⟨k, d⟩ := e
    obtain ⟨⟨x, hx, hx1, hx2⟩, a1, a2, a3⟩ := h (k, d) (by simp)
    obtain ⟨b1, b2, b3⟩ := ih fun e he => h e (by simp [he])
    simp at hx
    subst hx
    have hw := str60_weight hx1
    refine ⟨?_, ?_, ?_⟩
    · show (PyData.showable (.str x) && PyData.showable d && _) = true; rw [a1, b1]; rfl
    · show (PyData.leavesShort 40 (.str x) && PyData.leavesShort 40 d && _) = true; rw [a2, b2]
      show ((x.cps.toList.all fun c => decide (c < 16 ^ 8)) && true && true) = true
      rw [ascii_big hx2]; rfl
    · show PyData.weight (.str x) + PyData.weight d + 2 + PyData.weightKv r ≤ 165 * (cnt d + cntKv r)
      have : PyData.weight d + 64 ≤ 165 * cnt d := a3
      omega
theorem Fine.list {ds : List PyData} (h : ∀ d ∈ ds, Fine d) : Fine (.list ds) := by
  obtain ⟨b1, b2, b3⟩ := fine_all h
  refine ⟨b1, b2, ?_⟩
  show PyData.weightAll ds + 64 ≤ 165 * (1 + cntAll ds)
  omega
theorem Fine.tuple {ds : List PyData} (h : ∀ d ∈ ds, Fine d) : Fine (.tuple ds) := by
  obtain ⟨b1, b2, b3⟩ := fine_all h
  refine ⟨b1, b2, ?_⟩
  show PyData.weightAll ds + 64 ≤ 165 * (1 + cntAll ds)
  omega
theorem Fine.dict {es : List (PyData × PyData)} (h : ∀ e ∈ es, (∃ x, e.1 = .str x ∧ NameOk x) ∧ Fine e.2) : Fine (.dict es) := by
  obtain ⟨b1, b2, b3⟩ := fine_kv h
  refine ⟨b1, b2, ?_⟩
  show PyData.weightKv es + 64 ≤ 165 * (1 + cntKv es)
  omega
theorem Fine.leaf {d : PyData} (h : leafD d) : Fine d := by
  cases d with
  | none => exact ⟨rfl, rfl, by decide⟩
  | bool b => exact ⟨rfl, rfl, by show 0 + 64 ≤ 165 * 1; decide⟩
  | int i =>
    have h1 := int30_len h
    have h2 := int30_log h
    refine ⟨decide_eq_true (show i.natAbs.log2 < 1920 by omega), decide_eq_true h1, ?_⟩
    show (if i == 0 then 0 else i.natAbs.log2 + 1) + 64 ≤ 165 * 1
    split <;> omega
  | str x =>
    have h1 := str60_weight h.1
    exact ⟨rfl, ascii_big h.2, by show PyData.weight (.str x) + 64 ≤ 165 * 1; omega⟩
  | list ds => exact h.elim
  | tuple ds => exact h.elim
  | dict ds => exact h.elim
theorem docD.fine : ∀ {n : Nat} {d : PyData}, docD n d → Fine d
  | 0, _, h => h.elim
  | n + 1, .list ds, h => Fine.list fun d hd => (h.2 d hd).fine
  | n + 1, .dict es, h => Fine.dict fun e he => ⟨(h.2 e he).1, (h.2 e he).2.fine⟩
  | n + 1, .none, h => Fine.leaf h
  | n + 1, .bool _, h => Fine.leaf h
  | n + 1, .int _, h => Fine.leaf h
  | n + 1, .str _, h => Fine.leaf h
  | n + 1, .tuple _, h => h.elim
theorem Fine.fits {d : PyData} (h : Fine d) (hc : cnt d ≤ 2000) : d.shown.length ≤ sizeLine := by
  have h1 := PyData.shown_le 40 (by decide) d h.2.1
  have h2 := h.2.2
  have e : sizeLine = 16777216 := by decide
  omega
/-- repr of a datum -/
theorem repr1 {H : Hp} {v : V} {n : Nat} {d : PyData} {Q : VK} (h : Rp H n v d) (hn : n ≤ 90) (hf : Fine d) (hc : cnt d ≤ 2000) (q : Q (.str d.shown) H) : rRepr [v] H Q := ⟨v, n, d, rfl, h, hn, hf.1, hf.fits hc, q⟩
end SC

set_option Elab.async false
set_option linter.all false
set_option maxRecDepth 100000
set_option maxHeartbeats 4000000
/-! Schemacheck: names in order, documents that are the same. -/
namespace SC
open PySem L2 PyProof.Rows

/-! ### texts in order -/
def leS (a b : Str) : Bool := !PySem.Spec.ltCps b.cps.toList a.cps.toList
theorem leS_iff (a b : Str) : leS a b = true ↔ a.cps.toList ≤ b.cps.toList := by
  unfold leS
  rw [ltCps_eq]
  simp
theorem leS_trans (a b c : Str) (h1 : leS a b = true) (h2 : leS b c = true) : leS a c = true := by
  rw [leS_iff] at *
  exact List.le_trans h1 h2
theorem leS_total (a b : Str) : (leS a b || leS b a) = true := by
  have := List.le_total a.cps.toList b.cps.toList
  rw [Bool.or_eq_true, leS_iff, leS_iff]
  exact this
theorem leS_anti (a b : Str) (h1 : leS a b = true) (h2 : leS b a = true) : a = b := by
  rw [leS_iff] at *
  have e := List.le_antisymm h1 h2
  have e2 : a.cps = b.cps := Array.toList_inj.mp e
  cases a; cases b; simp at e2; rw [e2]
def srt (xs : List Str) : List Str := xs.mergeSort leS
theorem srt_perm (xs : List Str) : (srt xs).Perm xs := List.mergeSort_perm _ _
theorem srt_pw (xs : List Str) : (srt xs).Pairwise (fun a b => leS a b = true) := List.pairwise_mergeSort leS_trans leS_total xs
theorem rising_pw : ∀ {r : List Str} {p : Str}, PyProof.Rows.risingS p r = true → (p :: r).Pairwise (fun a b => leS a b = true)
  | [], p, _ => by simp
  | x :: r, p, h => by
    have h' : (!PySem.Spec.ltCps x.cps.toList p.cps.toList && PyProof.Rows.risingS x r) = true := h
    rw [Bool.and_eq_true] at h'
    have ih := rising_pw h'.2
    refine List.pairwise_cons.mpr ⟨?_, ih⟩
    intro y hy
    rcases List.mem_cons.mp hy with rfl | hy
    · exact h'.1
    · exact leS_trans _ _ _ h'.1 ((List.pairwise_cons.mp ih).1 y hy)
theorem sorted_pw {ys : List Str} (h : PyProof.Rows.sortedS ys = true) : ys.Pairwise (fun a b => leS a b = true) := by
  cases ys with
  | nil => exact .nil
  | cons x r => exact rising_pw h
theorem srt_is {ys xs : List Str} (hp : ys.Perm xs) (hs : PyProof.Rows.sortedS ys = true) : ys = srt xs :=
  List.Perm.eq_of_pairwise (le := fun a b => leS a b = true) (fun a b _ _ h1 h2 => leS_anti a b h1 h2) (sorted_pw hs) (srt_pw xs) (hp.trans (srt_perm xs).symm)
theorem srt_congr {xs ys : List Str} (h : xs.Perm ys) : srt xs = srt ys :=
  List.Perm.eq_of_pairwise (le := fun a b => leS a b = true) (fun a b _ _ h1 h2 => leS_anti a b h1 h2) (srt_pw xs) (srt_pw ys) ((srt_perm xs).trans (h.trans (srt_perm ys).symm))
theorem perm_srt {xs ys : List Str} (h : srt xs = srt ys) : xs.Perm ys := (srt_perm xs).symm.trans (by rw [h]; exact srt_perm ys)
theorem srt_len (xs : List Str) : (srt xs).length = xs.length := (srt_perm xs).length_eq
theorem srt_nd {xs : List Str} (h : xs.Nodup) : (srt xs).Nodup := (srt_perm xs).nodup_iff.mpr h
theorem mem_srt {xs : List Str} {x : Str} : x ∈ srt xs ↔ x ∈ xs := (srt_perm xs).mem_iff

/-! ### dicts by their names -/
def strD : PyData → Str
  | .str x => x
  | _ => Str.empty
def keysD (es : List (PyData × PyData)) : List Str := es.map fun e => strD e.1
def StrKeys (es : List (PyData × PyData)) : Prop := ∀ e ∈ es, ∃ x, e.1 = .str x
def dget (es : List (PyData × PyData)) (x : Str) : Option PyData := (es.find? fun e => decide (strD e.1 = x)).map (·.2)
theorem docD.keys {n : Nat} {es : List (PyData × PyData)} (h : docD (n + 1) (.dict es)) : StrKeys es := fun e he => by
  obtain ⟨⟨x, hx, _⟩, _⟩ := h.2 e he
  exact ⟨x, hx⟩
abbrev KvR (F : V → PyData → Prop) : Key × V → PyData × PyData → Prop := fun p q => q.1 = kD p.1 ∧ F p.2 q.2
theorem keys_of {F : V → PyData → Prop} {kvs : List (Key × V)} {es : List (PyData × PyData)} (hp : Paired (KvR F) kvs es) (hs : StrKeys es) : kvs.map (·.1) = (keysD es).map Sum.inr := by
  induction hp with
  | nil => rfl
  | cons r _ ih =>
    obtain ⟨x, hx⟩ := hs _ (List.mem_cons_self)
    have h1 := ih fun e he => hs e (by simp [he])
    simp only [keysD, List.map_cons, List.map_map] at h1 ⊢
    rw [h1]
    congr 1
    have h2 := r.1
    rw [hx] at h2
    rw [hx]
    rename_i a _ _ _ _
    obtain ⟨k, v⟩ := a
    cases k with
    | inl i => cases h2
    | inr y => cases h2; rfl
theorem keysV_of {F : V → PyData → Prop} {kvs : List (Key × V)} {es : List (PyData × PyData)} (hp : Paired (KvR F) kvs es) (hs : StrKeys es) : (kvs.map fun kv => kV kv.1) = (keysD es).map V.str := by
  have h := congrArg (List.map kV) (keys_of hp hs)
  rw [List.map_map, List.map_map] at h
  exact h
theorem inr_nd {xs : List Str} (h : (xs.map (Sum.inr : Str → Key)).Nodup) : xs.Nodup := by
  induction xs with
  | nil => exact List.nodup_nil
  | cons x r ih =>
    rw [List.map_cons, List.nodup_cons] at h
    rw [List.nodup_cons]
    exact ⟨fun hm => h.1 (List.mem_map.mpr ⟨x, hm, rfl⟩), ih h.2⟩
theorem nd_inr {xs : List Str} (h : xs.Nodup) : (xs.map (Sum.inr : Str → Key)).Nodup := by
  induction xs with
  | nil => exact List.nodup_nil
  | cons x r ih =>
    rw [List.nodup_cons] at h
    rw [List.map_cons, List.nodup_cons]
    refine ⟨fun hm => ?_, ih h.2⟩
    obtain ⟨y, hy, e⟩ := List.mem_map.mp hm
    cases e
    exact h.1 hy
theorem keys_nd {F : V → PyData → Prop} {kvs : List (Key × V)} {es : List (PyData × PyData)} (hp : Paired (KvR F) kvs es) (hs : StrKeys es) (hn : (kvs.map (·.1)).Nodup) : (keysD es).Nodup := by
  rw [keys_of hp hs] at hn
  exact inr_nd hn
/-- what a name leads to, in the heap and in the datum -/
theorem get_of {F : V → PyData → Prop} {kvs : List (Key × V)} {es : List (PyData × PyData)} (hp : Paired (KvR F) kvs es) (hs : StrKeys es) (x : Str) :
    (valV kvs (Sum.inr x) = none ∧ dget es x = none) ∨ ∃ v d, valV kvs (Sum.inr x) = some v ∧ dget es x = some d ∧ F v d := by
  induction hp with
  | nil => exact .inl ⟨rfl, rfl⟩
  | cons r _ ih =>
    obtain ⟨y, hy⟩ := hs _ (List.mem_cons_self)
    have h1 := ih fun e he => hs e (by simp [he])
    rename_i a b l1 l2 _
    obtain ⟨k, v⟩ := a
    obtain ⟨b1, b2⟩ := b
    obtain ⟨r1, r2⟩ := r
    simp at hy r1 r2
    subst hy
    cases k with
    | inl i => cases r1
    | inr z =>
      cases r1
      by_cases hz : y = x
      · subst hz
        refine .inr ⟨v, b2, ?_, ?_, r2⟩
        · simp [valV]
        · simp [dget, strD]
      · have hz' : ¬ (Sum.inr y : Key) = Sum.inr x := fun e => hz (Sum.inr.inj e)
        have e1 : valV ((Sum.inr y, v) :: l1) (Sum.inr x) = valV l1 (Sum.inr x) := by
          simp only [valV, List.find?_cons, decide_eq_false hz']
        have e2 : dget ((PyData.str y, b2) :: l2) x = dget l2 x := by
          have : ¬ strD (.str y) = x := hz
          simp only [dget, List.find?_cons, decide_eq_false this]
        rw [e1, e2]
        exact h1
theorem dget_mem {es : List (PyData × PyData)} {x : Str} {d : PyData} (h : dget es x = some d) : ∃ e ∈ es, e.2 = d ∧ strD e.1 = x := by
  unfold dget at h
  cases e : es.find? fun e => decide (strD e.1 = x) with
  | none => rw [e] at h; cases h
  | some q =>
    rw [e] at h
    cases h
    exact ⟨q, List.mem_of_find?_eq_some e, rfl, by have := List.find?_some e; simpa using this⟩
theorem dget_none {es : List (PyData × PyData)} {x : Str} (h : dget es x = none) : x ∉ keysD es := by
  unfold dget at h
  intro hm
  obtain ⟨e, he, hx⟩ := List.mem_map.mp hm
  cases q : es.find? fun e => decide (strD e.1 = x) with
  | none =>
    have := List.find?_eq_none.mp q e he
    simp at this
    exact this hx
  | some z => rw [q] at h; cases h

/-! ### the same -/
def sameL : PyData → PyData → Bool
  | .none, .none => true
  | .bool a, .bool b => decide (a = b)
  | .int i, .int j => decide (i = j)
  | .str x, .str y => decide (x = y)
  | _, _ => false
def optB (o : Option PyData) (f : PyData → Bool) : Bool := match o with
  | some d => f d
  | none => false
def sameN : Nat → PyData → PyData → Bool
  | 0, _, _ => false
  | n + 1, .list xs, .list ys => decide (xs.length = ys.length) && (List.zipWith (sameN n) xs ys).all id
  | n + 1, .dict es, .dict fs => decide (srt (keysD es) = srt (keysD fs)) && (es.map fun e => optB (dget fs (strD e.1)) (sameN n e.2)).all id
  | _ + 1, d, e => sameL d e
theorem sameL_refl {d : PyData} (h : leafD d) : sameL d d = true := by
  cases d <;> first | exact h.elim | simp [sameL]
/-- names nowhere twice -/
def ndD : Nat → PyData → Prop
  | 0, _ => True
  | n + 1, .list ds => ∀ d ∈ ds, ndD n d
  | n + 1, .dict es => (keysD es).Nodup ∧ ∀ e ∈ es, ndD n e.2
  | _ + 1, _ => True
theorem Rp.nd {H : Hp} : ∀ {n m : Nat} {v : V} {d : PyData}, Rp H n v d → docD m d → ndD m d
  | 0, _, _, _, h, _ => h.elim
  | _, 0, _, _, _, _ => trivial
  | n + 1, m + 1, v, .none, _, _ => trivial
  | n + 1, m + 1, v, .bool _, _, _ => trivial
  | n + 1, m + 1, v, .int _, _, _ => trivial
  | n + 1, m + 1, v, .str _, _, _ => trivial
  | n + 1, m + 1, v, .tuple _, _, _ => trivial
  | n + 1, m + 1, v, .list ds, ⟨a, xs, _, _, _, hp⟩, hd => fun d hm => by
    obtain ⟨x, _, r⟩ := pd_memR hp hm
    exact r.nd (hd.2 d hm)
  | n + 1, m + 1, v, .dict es, ⟨a, kvs, _, _, _, hn, hp⟩, hd => ⟨keys_nd hp hd.keys hn, fun e hm => by
    obtain ⟨x, _, r⟩ := pd_memR hp hm
    exact r.2.nd (hd.2 e hm).2⟩

/-! ### rules that speak of the written part, by its name -/
section
variable {X : Cx} {K : PySem.W.Frag}
theorem ixLK (h : X.K = K) : IxR X (rIxL K) := by subst h; exact ix_list
theorem ixTK (h : X.K = K) : IxR X (rIxT K) := by subst h; exact ix_tup
theorem isiK (h : X.K = K) : CallR X (.builtin "isinstance") (rIsi K) := by subst h; exact call_isi
theorem isiTK (h : X.K = K) : CallR X (.builtin "isinstance") (rIsiT K) := by subst h; exact call_isiT
def rLenK (K : PySem.W.Frag) : List V → Hp → VK → Prop := fun xs H Q => ∃ x n, xs = [x] ∧ LenV K x H n ∧ Q (.int (n : Nat)) H
theorem lenK (h : X.K = K) : CallR X (.builtin "len") (rLenK K) := by subst h; exact call_len
theorem maxK (h : X.K = K) (hc : X.calm = true) : CallR X (.builtin "max") (rMax K) := by subst h; exact cr_max hc
theorem sumK (h : X.K = K) (hc : X.calm = true) : CallR X (.builtin "sum") (rSum K) := by subst h; exact cr_sum hc
theorem allK (h : X.K = K) (hc : X.calm = true) : CallR X (.builtin "all") (rAll K) := by subst h; exact cr_all hc
theorem anyK (h : X.K = K) (hc : X.calm = true) : CallR X (.builtin "any") (rAny K) := by subst h; exact cr_any hc
theorem sortedSK (h : X.K = K) : CallR X (.builtin "sorted") (rSortedS K) := by subst h; exact cr_sortedS
theorem inK (h : X.K = K) : OpR X (compareOp .In) (rIn K false) := by subst h; exact op_in_seq
theorem notInK (h : X.K = K) : OpR X (compareOp .NotIn) (rIn K true) := by subst h; exact op_notIn_seq
theorem eqDK (h : X.K = K) (hu : X.A.units + 64 < cLine) : OpR X (compareOp .Eq) (rEqD K) := by subst h; exact op_eqD hu
theorem neDK (h : X.K = K) (hu : X.A.units + 64 < cLine) : OpR X (compareOp .NotEq) (rNeD K) := by subst h; exact op_neD hu
theorem slLK (h : X.K = K) : SlR X (rSlL K) := by subst h; exact sl_list
theorem slTK (h : X.K = K) : SlR X (rSlT K) := by subst h; exact sl_tup
def rListK (K : PySem.W.Frag) : List V → Hp → VK → Prop := fun xs H Q => ∃ p ys, xs = [.ref p] ∧ (SqL K H p ys ∨ SqT K H p ys) ∧ ∀ l, H l = none → Q (.ref l) (upd H l (.lst ys))
theorem listK (h : X.K = K) : CallR X (.type "list") (rListK K) := by subst h; exact call_list_of
end

/-! ### kinds -/
def kindD : PyData → Str
  | .none => "null"
  | .bool _ => "boolean"
  | .int _ => "integer"
  | .str _ => "string"
  | .list _ => "array"
  | _ => "object"

theorem same_kind {n m : Nat} {d e : PyData} (hd : docD m d) (he : docD m e) (h : ¬ kindD d = kindD e) : sameN (n + 1) d e = false := by
  cases m with
  | zero => exact hd.elim
  | succ m => cases d <;> cases e <;> first | exact hd.elim | exact he.elim | rfl | exact absurd rfl h
theorem kind_inv {m : Nat} {d e : PyData} (hd : docD m d) (he : docD m e) (h : kindD d = kindD e) :
    (d = .none ∧ e = .none) ∨ (∃ a b, d = .bool a ∧ e = .bool b) ∨ (∃ a b, d = .int a ∧ e = .int b) ∨ (∃ a b, d = .str a ∧ e = .str b) ∨ (∃ a b, d = .list a ∧ e = .list b) ∨ ∃ a b, d = .dict a ∧ e = .dict b := by
  cases m with
  | zero => exact hd.elim
  | succ m =>
    cases d <;> cases e <;> first | exact hd.elim | exact he.elim | exact .inl ⟨rfl, rfl⟩ | exact .inr (.inl ⟨_, _, rfl, rfl⟩) | exact .inr (.inr (.inl ⟨_, _, rfl, rfl⟩)) | exact .inr (.inr (.inr (.inl ⟨_, _, rfl, rfl⟩))) | exact .inr (.inr (.inr (.inr (.inl ⟨_, _, rfl, rfl⟩)))) | exact .inr (.inr (.inr (.inr (.inr ⟨_, _, rfl, rfl⟩)))) | exact absurd h (by simp only [kindD]; decide +kernel)
theorem strOk_of {x : Str} (h : AsciiS x) : PyData.strOk x = true := by
  unfold PyData.strOk
  rw [Array.all_eq_true_iff_forall_mem]
  intro c hc
  have := h c (by simpa using hc)
  exact decide_eq_true (by omega)
theorem layAll_strs : ∀ {xs : List Str}, (∀ x ∈ xs, AsciiS x) → PyData.canLayAll0 (xs.map .str) = true
  | [], _ => rfl
  | x :: r, h => by
    show (PyData.strOk x && PyData.canLayAll0 (r.map .str)) = true
    rw [strOk_of (h x (by simp)), layAll_strs fun y hy => h y (by simp [hy])]
    rfl
theorem depth_strs : ∀ xs : List Str, PyData.depthAll (xs.map .str) = 0
  | [] => rfl
  | x :: r => by
    show max 0 (PyData.depthAll (r.map .str)) = 0
    rw [depth_strs r]
    rfl
theorem shaped_strs {xs : List Str} (h : ∀ x ∈ xs, AsciiS x) : SeqAt.shaped (.list (xs.map .str)) = true := by
  have h1 := layAll_strs h
  have h2 := depth_strs xs
  show (PyData.canLayAll0 (xs.map .str) && decide (PyData.depthAll (xs.map .str) + 1 ≤ 64)) = true
  rw [h1, h2]
  rfl
theorem eqv_strs : ∀ xs ys : List Str, PyData.eqv (.list (xs.map .str)) (.list (ys.map .str)) = decide (xs = ys) := by
  have h : ∀ xs ys : List Str, PyData.eqvAll (xs.map .str) (ys.map .str) = decide (xs = ys) := by
    intro xs
    induction xs with
    | nil =>
      intro ys
      cases ys with
      | nil => rfl
      | cons y r => rfl
    | cons x r ih =>
      intro ys
      cases ys with
      | nil => rfl
      | cons y q =>
        show ((x == y) && PyData.eqvAll (r.map .str) (q.map .str)) = _
        rw [ih q]
        by_cases hxy : x = y
        · subst hxy
          simp
        · simp [hxy]
  intro xs ys
  exact h xs ys
theorem Dp_strs {K : PySem.W.Frag} {H : Hp} {a : Addr} {xs : List Str} (h : H a = some (.lst (xs.map V.str))) : Dp K H (.ref a) (.list (xs.map .str)) := by
  refine .lst (SqL.of h) ?_
  induction xs generalizing H with
  | nil => exact .nil
  | cons x r ih =>
    have : ∀ l : List Str, DpAll K H (l.map V.str) (l.map PyData.str) := by
      intro l
      induction l with
      | nil => exact .nil
      | cons y q ih2 => exact .cons (.str y) ih2
    exact this _

/-! ### None, True, False are shown as nothing else is -/
theorem mem_list (ts : List Str) : 93 ∈ (listText ts).cps.toList := by
  unfold listText
  show 93 ∈ ((textFrom 0 "[" ts).cps ++ (Str.ofString "]").cps).toList
  rw [Array.toList_append]
  exact List.mem_append_right _ (by decide +kernel)
theorem mem_dict (ts : List Str) : 125 ∈ (dictText ts).cps.toList := by
  unfold dictText
  show 125 ∈ (_ ++ (Str.ofString "}").cps).toList
  rw [Array.toList_append]
  exact List.mem_append_right _ (by decide +kernel)
theorem mem_str (x : Str) : reprQuote x ∈ (reprText x).cps.toList := by
  unfold reprText
  simp
theorem quote_is (x : Str) : reprQuote x = 39 ∨ reprQuote x = 34 := by
  unfold reprQuote
  split <;> simp
def flatN : PyData → Bool
  | .none => true
  | .bool _ => true
  | _ => false
theorem flat_apart {d e : PyData} (hd : flatN d = true) (he : flatN e = false) (ht : ∀ ds, e ≠ .tuple ds) : d.shown ≠ e.shown := by
  intro h
  have h2 : ∀ c, c ∈ e.shown.cps.toList → c ∈ d.shown.cps.toList := fun c hc => by rw [h]; exact hc
  have h3 : ∀ c, c ∈ d.shown.cps.toList → c ∈ e.shown.cps.toList := fun c hc => by rw [← h]; exact hc
  have no : ∀ c ∈ [93, 125, 39, 34], c ∉ d.shown.cps.toList := by
    cases d with
    | none => decide +kernel
    | bool b => cases b <;> decide +kernel
    | _ => cases hd
  cases e with
  | none => cases he
  | bool b => cases he
  | tuple ds => exact ht ds rfl
  | list ds => exact no 93 (by simp) (h2 _ (mem_list _))
  | dict ds => exact no 125 (by simp) (h2 _ (mem_dict _))
  | str x =>
    rcases quote_is x with q | q
    · exact no 39 (by simp) (h2 _ (by rw [← q]; exact mem_str x))
    · exact no 34 (by simp) (h2 _ (by rw [← q]; exact mem_str x))
  | int i =>
    have hi : ∀ c ∈ [78, 84, 70], c ∉ (PyData.shown (.int i)).cps.toList := by
      intro c hc
      simp only [List.mem_cons, List.not_mem_nil, or_false] at hc
      rcases hc with rfl | rfl | rfl <;> exact PyProof.Rows.int_text_free' _ ⟨by decide, by decide⟩ i
    cases d with
    | none => exact hi 78 (by simp) (h3 78 (by decide +kernel))
    | bool b =>
      cases b
      · exact hi 70 (by simp) (h3 70 (by decide +kernel))
      · exact hi 84 (by simp) (h3 84 (by decide +kernel))
    | _ => cases hd
theorem flat_same {n m : Nat} {d e : PyData} (dd : docD m d) (de : docD m e) (h : flatN d = true ∨ flatN e = true) : decide (d.shown = e.shown) = sameN (n + 1) d e := by
  have nt : ∀ {x : PyData}, docD m x → ∀ ds, x ≠ .tuple ds := by
    intro x hx ds e
    subst e
    cases m with
    | zero => exact hx.elim
    | succ m => exact hx.elim
  by_cases hd : flatN d = true
  · by_cases he : flatN e = true
    · cases d <;> first | cases hd | skip
      all_goals cases e <;> first | cases he | skip
      · rfl
      · rename_i b; cases b <;> (show _ = sameL _ _; decide +kernel)
      · rename_i b; cases b <;> (show _ = sameL _ _; decide +kernel)
      · rename_i a b; cases a <;> cases b <;> (show _ = sameL _ _; decide +kernel)
    · have he' : flatN e = false := by simpa using he
      rw [decide_eq_false (flat_apart hd he' (nt de))]
      cases d <;> first | cases hd | skip
      all_goals cases e <;> first | exact absurd rfl he | rfl
  · have hd' : flatN d = false := by simpa using hd
    have he : flatN e = true := by rcases h with h | h; exact absurd h hd; exact h
    rw [decide_eq_false (fun z => flat_apart he hd' (nt dd) z.symm)]
    cases e <;> first | cases he | skip
    all_goals cases d <;> first | exact absurd rfl hd | rfl
theorem Room.u100 {k : Nat} {A : Around} (r : Room k A) : A.units + 100 < cLine := by have := r.un; omega
theorem flat_iff {H : Hp} {n : Nat} {v : V} {d : PyData} (h : Rp H n v d) : flatN d = true ↔ isT .bool d = true ∨ v = .non := by
  cases n with
  | zero => exact h.elim
  | succ n =>
    cases d with
    | none => cases h; simp [flatN]
    | bool b => cases h; simp [flatN, isT]
    | int b => cases h; simp [flatN, isT]
    | str b => cases h; simp [flatN, isT]
    | list b => obtain ⟨a, xs, rfl, _⟩ := h; simp [flatN, isT]
    | tuple b => obtain ⟨a, xs, rfl, _⟩ := h; simp [flatN, isT]
    | dict b => obtain ⟨a, xs, rfl, _⟩ := h; simp [flatN, isT]
theorem notin_false (bs : List Bool) : (!inV (.bl false) (bs.map V.bl)) = bs.all id := by
  unfold inV
  induction bs with
  | nil => rfl
  | cons b r ih =>
    simp only [List.map_cons, List.any_cons, Bool.not_or, List.all_cons]
    rw [ih]
    cases b <;> rfl
theorem flat_bls (bs : List Bool) : (bs.map V.bl).all flatV = true := by
  rw [List.all_eq_true]
  intro x hx
  obtain ⟨b, _, rfl⟩ := List.mem_map.mp hx
  rfl
/-- name = [.. for k in d], the dict locked -/
theorem tLock_asg (te : TE) (k : Nat) (D : Ends) (σ : L2.St) (H : Hp) : tLock (tAsg te (gName k)) D σ H = tLockE te σ H (fun v H' => D.nx (σ.set k (some v)) H') := rfl
end SC

set_option Elab.async false
set_option linter.all false
set_option maxRecDepth 100000
set_option maxHeartbeats 4000000
/-! Schemacheck: texts; parts of the heap. -/
namespace SC
open PySem L2

/-! ### the heap without some of it -/
def gone (S : List Addr) (H : Hp) : Hp := fun b => if b ∈ S then none else H b
theorem gone_sub (S : List Addr) (H : Hp) : Same (gone S H) H := fun b o e => by
  unfold gone at e
  split at e
  · cases e
  · exact e
theorem gone_at {S : List Addr} {H : Hp} {b : Addr} (h : b ∉ S) : gone S H b = H b := if_neg h
theorem gone_keep {S : List Addr} {H H' : Hp} (k : Keep S H H') : Same (gone S H) (gone S H') := fun b o e => by
  unfold gone at e ⊢
  split at e
  · cases e
  · rename_i h
    rw [if_neg h]
    exact k b o e h
theorem gone_same {S : List Addr} {H H' : Hp} (k : Same H H') : Same (gone S H) (gone S H') := gone_keep (.of k)
theorem gone_less {S T : List Addr} {H : Hp} (h : ∀ b ∈ S, b ∈ T) : Same (gone T H) (gone S H) := fun b o e => by
  unfold gone at e ⊢
  split at e
  · cases e
  · rename_i z
    rw [if_neg fun y => z (h b y)]
    exact e
/-- a new thing is none of the old -/
theorem gone_new {S : List Addr} {H : Hp} {D : Addr} {o : HO} (hD : H D = none) : Same (gone S H) (gone (D :: S) (upd H D o)) := fun b u e => by
  unfold gone at e ⊢
  split at e
  · cases e
  · rename_i z
    have hb : b ≠ D := ne_of_none e hD
    rw [if_neg (by simp [hb, z]), upd_ne hb]
    exact e
theorem gone_mut {S : List Addr} {H : Hp} {D : Addr} {o : HO} (hD : D ∈ S) : gone S (upd H D o) = gone S H := by
  funext b
  unfold gone
  split
  · rfl
  · rename_i z
    exact upd_ne fun e => z (e ▸ hD)
theorem news_gone {S : List Addr} {H H' : Hp} (hs : ∀ a ∈ S, H a ≠ none) : Same (news H H') (gone S H') := fun b o e => by
  unfold news at e
  split at e
  · cases e
  · rename_i h
    rw [gone_at fun z => hs b z h]
    exact e

/-! ### rules with the given part named -/
section
variable {X : Cx} {K : PySem.W.Frag}
theorem pe_gstr {x z : Str} {t : Tok} {pos : Pos} (hg : Gl X x) (hm : X.mg x = some (.str z t)) (hd : (x == ("__debug__" : Str)) = false := by decide) : PE X (.Name x pos) (tC (.str z)) := pe_glob (v := .str z) hg hm ⟨t, rfl⟩ hd
theorem revLK {e : Expr} {te : TE} {k : Nat} {p1 p2 p3 pos : Pos} (h : X.K = K) (he : PE X e te) : PE X (.Subscript e (.Slice none none (some (.UnaryOp .USub (.Constant (.int 1) k p1) p2)) p3) pos) (tRevL K te) := by subst h; exact pe_revL he
def rJoin (K : PySem.W.Frag) : V → List V → Hp → VK → Prop := fun x xs H Q => ∃ a p, ∃ ys : List Str, x = .str a ∧ xs = [.ref p] ∧ (SqL K H p (ys.map V.str) ∨ SqT K H p (ys.map V.str)) ∧
      (ys.map (·.length)).sum + ys.length * a.length ≤ 16777216 ∧ Q (.str (Txt.join a ys)) H
theorem joinK {o e : Expr} {to te : TE} {apos pos : Pos} (h : X.K = K) (ho : PE X o to) (he : PE X e te) (hs : starEach [e] X.env = [(false, eval e X.env)] := by rfl) (hbase : attributeBase o "join" X.env (eval o X.env) = eval o X.env := by rfl) (hline : (apos.endLine == pos.line) = true := by rfl) :
    PE X (.Call (.Attribute o "join" apos) [e] [] pos) (tM1 (rJoin K) to te) := by subst h; exact pe_join ho he hs hbase hline
def rTup (K : PySem.W.Frag) : List V → Hp → VK → Prop := fun xs H Q => ∃ p ys, xs = [.ref p] ∧ ((SqL K H p ys ∧ ∀ l, H l = none → Q (.ref l) (upd H l (.tup ys))) ∨ (SqT K H p ys ∧ Q (.ref p) H))
theorem tupleK (h : X.K = K) : CallR X (.type "tuple") (rTup K) := by subst h; exact call_tuple_of
end

/-! ### texts -/
theorem len_app (x y : Str) : (x ++ y).length = x.length + y.length := by
  show (x.cps ++ y.cps).size = _
  rw [Array.size_append]
  rfl
theorem int_len {i : Int} (h : -10 ^ 30 ≤ i ∧ i ≤ 10 ^ 30) : (Str.ofString (toString i)).length ≤ 40 := int30_len h
/-! ### signs of a text -/
theorem lcP_str {z : Str} {te : TE} {j : Nat} {σ : L2.St} {H1 : Hp} {Q : VK} (ys : List V) (hl : ys.length = z.length) (hz : z.length ≤ 100000)
    (step : ∀ (i : Nat) c y H' (N : VK), z.cps.toList[i]? = some c → ys[i]? = some y → Same H1 H' → (∀ H4, Same H' H4 → N y H4) → te ((wipe σ [j]).set j (some (.str ⟨#[c]⟩))) H' N)
    (done : ∀ D H', H1 D = none → Same H1 H' → H' D = some (.lst ys) → Q (.ref D) H') : LcR (Its z) (gName j) tYes te [j] σ H1 Q :=
  lcP_map walk_str (fun i x => ∃ c, z.cps[i]? = some c ∧ x = .str ⟨#[c]⟩) (fun _ _ _ _ h => h) (fun _ _ => trivial) ys hl hz (fun i x y H' N ⟨c, h1, h2⟩ hy s n => by subst h2; exact step i c y H' N (by rw [Array.getElem?_toList]; exact h1) hy s n) done
/-- [x for x in text if ..] -/
theorem lcF_str {z : Str} {tt : TT} {j : Nat} {σ : L2.St} {H1 : Hp} {Q : VK} (p : Nat → Bool) (hz : z.length ≤ 100000) (hj : j < σ.length)
    (step : ∀ c H' (N : Bool → Hp → Prop), c ∈ z.cps.toList → Same H1 H' → N (p c) H' → tt ((wipe σ [j]).set j (some (.str ⟨#[c]⟩))) H' N)
    (done : ∀ D H', H1 D = none → Same H1 H' → H' D = some (.lst (((z.cps.toList.filter p).map fun c => (⟨#[c]⟩ : Str)).map V.str)) → Q (.ref D) H') : LcR (Its z) (gName j) tt (tVar j) [j] σ H1 Q := by
  refine lc_itR walk_str (fun D i H' => Same H1 H' ∧ H' D = some (.lst ((((z.cps.toList.take i).filter p).map fun c => (⟨#[c]⟩ : Str)).map V.str))) (fun D hD => ⟨same_new hD _, by rw [upd_same]; rfl⟩) (fun _ _ _ _ _ _ => trivial) ?_ ?_
  · rintro D i x H H' hD hi ⟨s, e⟩ ⟨rfl, c, hc, rfl⟩
    have hc' : z.cps.toList[i]? = some c := by rw [Array.getElem?_toList]; exact hc
    refine ⟨wipe1, step c _ _ (List.mem_of_getElem? hc') s ?_⟩
    have ht : z.cps.toList.take (i + 1) = z.cps.toList.take i ++ [c] := by rw [List.take_succ, hc']; rfl
    split
    · rename_i hp
      refine ⟨.str ⟨#[c]⟩, ?_, _, e, ?_, same_mut s hD, ?_⟩
      · show (((σ.set j none).set j (some _)))[j]? = _
        rw [List.getElem?_set_self (by rw [List.length_set]; exact hj)]
      · rw [List.length_map, List.length_map]
        refine sz5l (Nat.lt_of_le_of_lt (List.length_filter_le _ _) ?_)
        rw [List.length_take]
        have : i < z.length := hi
        omega
      · rw [upd_same, ht, List.filter_append, List.filter_cons_of_pos hp]
        simp
    · rename_i hp
      refine ⟨s, ?_⟩
      rw [ht, List.filter_append, List.filter_cons_of_neg (by simpa using hp)]
      simpa using e
  · rintro D H' hD ⟨s, e⟩
    refine done D H' hD s ?_
    rw [List.take_of_length_le (by show z.cps.toList.length ≤ z.cps.size; simp)] at e
    exact e
theorem app_cps (x y : Str) : (x ++ y).cps.toList = x.cps.toList ++ y.cps.toList := by
  show (x.cps ++ y.cps).toList = _
  rw [Array.toList_append]
theorem str_nil {x : Str} (h : x.cps.toList = []) : x = "" := by
  obtain ⟨⟨l⟩⟩ := x
  cases h
  rfl
theorem str_one {c : Nat} (z : Nat) : (V.str ⟨#[c]⟩ = V.str ⟨#[z]⟩) ↔ c = z := by
  constructor
  · intro e; cases e; rfl
  · intro e; rw [e]
theorem emp_app (x : Str) : Str.empty ++ x = x := by
  obtain ⟨a⟩ := x
  show (⟨#[] ++ a⟩ : Str) = ⟨a⟩
  rw [Array.empty_append]
theorem of_len (x : String) : (Str.ofString x).length = x.length := PyProof.Rows.ofString_length x
theorem app_assoc (x y z : Str) : x ++ y ++ z = x ++ (y ++ z) := by
  show (⟨x.cps ++ y.cps ++ z.cps⟩ : Str) = ⟨x.cps ++ (y.cps ++ z.cps)⟩
  rw [Array.append_assoc]
theorem emp_len : Str.empty.length = 0 := rfl
theorem int_log {i : Int} (h : -10 ^ 30 ≤ i ∧ i ≤ 10 ^ 30) : i.natAbs.log2 < 1920 := Nat.lt_trans (int30_log h) (by decide)
/-! ### texts that can be laid -/
theorem ok_ofString (x : String) : PyData.strOk (Str.ofString x) = true := by
  unfold PyData.strOk
  rw [Str.ofString_eq_toList, Array.all_eq_true_iff_forall_mem]
  intro c hc
  obtain ⟨d, _, rfl⟩ := List.mem_map.mp (by simpa using hc : c ∈ x.toList.map Char.toNat)
  refine decide_eq_true ?_
  have := d.valid
  rcases this with h | ⟨_, h⟩
  · exact Nat.lt_trans h (by decide)
  · exact h
theorem ok_app {x y : Str} (hx : PyData.strOk x = true) (hy : PyData.strOk y = true) : PyData.strOk (x ++ y) = true := by
  unfold PyData.strOk at *
  show (x.cps ++ y.cps).all _ = true
  rw [Array.all_append, hx, hy]
  rfl
theorem layAll_strsK : ∀ {xs : List Str}, (∀ x ∈ xs, PyData.strOk x = true) → PyData.canLayAll0 (xs.map .str) = true
  | [], _ => rfl
  | x :: r, h => by
    show (PyData.strOk x && PyData.canLayAll0 (r.map .str)) = true
    rw [h x (by simp), layAll_strsK fun y hy => h y (by simp [hy])]
    rfl
theorem shaped_strsK {xs : List Str} (h : ∀ x ∈ xs, PyData.strOk x = true) : SeqAt.shaped (.list (xs.map .str)) = true := by
  have h1 := layAll_strsK h
  have h2 := depth_strs xs
  show (PyData.canLayAll0 (xs.map .str) && decide (PyData.depthAll (xs.map .str) + 1 ≤ 64)) = true
  rw [h1, h2]
  rfl
theorem app_emp (x : Str) : x ++ Str.ofString "" = x := by
  obtain ⟨a⟩ := x
  show (⟨a ++ (Str.ofString "").cps⟩ : Str) = ⟨a⟩
  rw [show (Str.ofString "").cps = #[] by decide +kernel, Array.append_empty]
theorem join_foldl : ∀ (ys : List Str) (a : Str), a ++ Txt.join (Str.ofString "") ys = ys.foldl (· ++ ·) a := by
  intro ys
  rw [TL.join_eq]
  induction ys with
  | nil => intro a; exact app_emp a
  | cons x r ih =>
    intro a
    cases r with
    | nil => rfl
    | cons y r =>
      show a ++ (x ++ Str.ofString "" ++ Str.join (Str.ofString "") (y :: r)) = _
      rw [app_emp, ← app_assoc, ih]
      rfl
theorem sum_len {A : Type} (f : A → Nat) (b : Nat) : ∀ xs : List A, (∀ x ∈ xs, f x ≤ b) → (xs.map f).sum ≤ b * xs.length
  | [], _ => by simp
  | x :: r, h => by
    have h1 := h x (by simp)
    have h2 := sum_len f b r fun y hy => h y (by simp [hy])
    simp only [List.map_cons, List.sum_cons, List.length_cons, Nat.mul_succ]
    omega
theorem ix_last {n : Nat} : ixN (n + 1) (-1) = some n := by
  unfold ixN
  simp
  try omega
end SC

set_option Elab.async false
set_option linter.all false
set_option maxRecDepth 100000
set_option maxHeartbeats 4000000
namespace SC
open PySem L2
local macro_rules | `(tactic| walk_at "rd") => `(tactic| simp only [tLock_asg, tM1, tM0, tFmt, tJs, tRevL, tPar3, tSeq, tNext, tIfS, tB, tTest, tCB, tCons, tC, tNil, tVar, tRet, tRetN, tAsg, gName, tOp, tUn, tAnd, tOr, tNot, tAndV, tOrV, tNotV, tIf, tDrop, tCall, tCallK, rI, rI0, rU, rEq, rNe, tPar, tAug, ipI, tLst, tTup, tDNewK, tDGet, tDIn, tDNotIn, sDPut, tBM, tBM0, gSub, rSetL, tChain, gTup, gCons, gNil, tYes, tBreak, tCont, tDisp, tPairs, rLenK, rListK, L2.start, L2.wipe, cx_K, tFor_eq, tLc_eq, tDc_eq, tSl, tPart, tNoPart, iList, iTup, iRng1, iRng2, iKeys, iStr, iEnum, List.map_cons, List.map_nil, List.length_cons, List.length_nil, Nat.reduceAdd, Nat.reduceSub, List.reduceReplicate, List.replicate_zero, List.append_nil, List.nil_append, List.cons_append, List.getElem?_cons_zero, List.getElem?_cons_succ, Option.some.injEq, exists_eq_left', exists_eq_left, exists_eq', exists_eq, exists_and_left, V.int.injEq, V.ref.injEq, V.str.injEq, V.bl.injEq, List.cons.injEq, and_true, true_and, and_assoc, Bool.false_eq_true, ↓reduceIte, List.set_cons_zero, List.set_cons_succ, decide_eq_true_eq, Bool.not_eq_true', decide_eq_false_iff_not, Nat.zero_add, Nat.zero_sub, Nat.sub_self, Nat.sub_zero])

theorem ln_0 : (Str.ofString "").length = 0 := by decide +kernel
theorem ln_1 : (Str.ofString "[").length = 1 := by decide +kernel
theorem ln_2 : (Str.ofString "]").length = 1 := by decide +kernel
theorem ln_3 : (Str.ofString ".").length = 1 := by decide +kernel
theorem ln_4 : (Str.ofString "[\"").length = 2 := by decide +kernel
theorem ln_5 : (Str.ofString "\"]").length = 2 := by decide +kernel
theorem ln_6 : (Str.ofString "$").length = 1 := by decide +kernel
local macro_rules | `(tactic| walk_at "sl") => `(tactic| (refine sz5 ?_; simp only [len_app, emp_len, ln_0, ln_1, ln_2, ln_3, ln_4, ln_5, ln_6]; omega))
def top (i : Nat) : Stmt := PySem.Challenge.pw_schemacheck_k06_texts_of_paths.main.body.getD i (.Pass ⟨0, 0, 0, 0⟩)
/-! ### is_word, path_text -/
def letters : Str := "abcdefghijklmnopqrstuvwxyzABCDEFGHIJKLMNOPQRSTUVWXYZ"
def digits : Str := "0123456789"
def wordC (c : Nat) : Bool := decide (c ∈ letters.cps.toList) || decide (c ∈ digits.cps.toList) || decide (c = 95)
def isWord (x : Str) : Bool := match x.cps.toList with
  | [] => false
  | c :: _ => !decide (c ∈ digits.cps.toList) && x.cps.toList.all wordC
def sp_word : Sp := fun vs H Q _ => ∃ x, vs = [.str x] ∧ x.length ≤ 1000 ∧ ∀ H', Same H H' → Q (.bl (isWord x)) H'
theorem one_us (c : Nat) : (⟨#[c]⟩ : Str) = Str.ofString "_" ↔ c = 95 := by
  constructor
  · intro e
    have := congrArg (fun z : Str => z.cps.toList) e
    exact (List.cons.inj (this.trans (by decide +kernel : (Str.ofString "_").cps.toList = [95]))).1
  · intro e; subst e; decide +kernel
abbrev s_is_word : Stmt := top 3
theorem sc_is_word : FnScope ["value", "sign"] ["value"] (defScope s_is_word) := ⟨rfl, rfl, rfl, by decide +kernel, rfl, by decide +kernel, by decide +kernel⟩
section
variable {P : Program} {w : World} {K : PySem.W.Frag} {mg : Str → Option Value} {base : Heap} {f : Addr} {fd : FuncData}
theorem ok_word (D : Def K mg "is_word" s_is_word f fd) (B : Blt mg) {t1 t2 : Tok} (g_LETTERS : mg "LETTERS" = some (.str letters t1)) (g_DIGITS : mg "DIGITS" = some (.str digits t2)) : FnOk P w K mg base CX0 1 f fd ["value"] sp_word := by
  refine D.1.ok sc_is_word (fun vs H Q E h => ?_) (fun cdv A outer s H vs Q E hr h => ?_)
  · obtain ⟨x, rfl, _⟩ := h
    rfl
  obtain ⟨x, rfl, hx, q⟩ := h
  refine ⟨_, (pss_cons (ps_if (PW.pt (pw_or (pt_not (pt_val (pe_callB (isiK (K := K) rfl) (by rfl) B.b_isinstance (by decide +kernel) (pa_cons (pv 0) (pa_cons (pe_bltn (v := .ty "str") (by rfl) B.b_str (by decide +kernel) rfl) pa_nil))))) (pw_or (pt_cmpR op_eq (pv 0) pe_str (nomark _)) (pw_or1 (pt_cmpR op_in_sign (pe_ix ix_str (pv 0) pe_int (fun _ _ => rfl)) (pe_gstr (by rfl) g_DIGITS) rfl)))))
   (pss_one (ps_ret pe_bl))
   pss_nil)
  (pss_one (ps_ret (pe_callB (allK (K := K) rfl rfl) (by rfl) B.b_all (by decide +kernel) (pa_cons (pe_lc (own := [("sign", 1)]) (by rfl) sc_is_word.nd (pi_str (pv 0)) (blkOk_by (own := [("sign", 1)]) (N := ["value", "sign"]) (sc := defScope s_is_word) (by decide +kernel)) (fun _ _ _ _ _ => (pg_name (i := 1) sc_is_word.nd rfl (by first | exact Or.inl rfl | exact Or.inr rfl))) (fun _ _ _ _ _ => pts_nil) (fun _ _ _ _ _ => (pe_or (pe_cmpR op_in_sign (pv 1) (pe_gstr (by rfl) g_LETTERS) rfl) (pe_or (pe_cmpR op_in_sign (pv 1) (pe_gstr (by rfl) g_DIGITS) rfl) (pe_one (pe_cmpR op_eq (pv 1) pe_str (nomark _))))))) pa_nil))))), ?_⟩
  walk_at "rd"
  refine isi1 .str (n := 1) (d := .str x) rfl ⟨_, rfl, iteF' (by simp [isT]) ⟨rfl, ?_⟩⟩
  cases hc : x.cps.toList with
  | nil =>
    refine iteT' (str_nil hc) ?_
    have := q _ (Same.refl _)
    simpa [isWord, hc] using this
  | cons c r =>
    refine iteF' (fun e => by rw [e] at hc; cases hc) ⟨x, 0, c, rfl, rfl, sz5 (by omega), by rw [hc]; exact atI_nat (j := 0) rfl, c, rfl, ?_⟩
    refine ite2 (fun hd => ?_) fun hd => ?_
    · have := q _ (Same.refl _)
      simpa [isWord, hc, hd] using this
    · refine lcP_str ((x.cps.toList.map wordC).map V.bl) (by simp; rfl) (by omega) ?_ ?_
      · intro i c2 y H' N hi hy s N'
        simp only [List.getElem?_map, hi, Option.map_some, Option.some.injEq] at hy
        subst hy
        walk_at "rd"
        have hN := N' _ (Same.refl _)
        refine ⟨c2, rfl, ite2 (fun h1 => ?_) fun h1 => ⟨c2, rfl, ite2 (fun h2 => ?_) fun h2 => ⟨rfl, ?_⟩⟩⟩
        · simpa [wordC, h1] using hN
        · simpa [wordC, h2] using hN
        · rw [show decide ((⟨#[c2]⟩ : Str) = Str.ofString "_") = decide (c2 = 95) from decide_eq_decide.mpr (one_us c2)]
          simpa [wordC, h1, h2] using hN
      · intro D' H' nD s e
        refine ⟨D', _, rfl, SqL.of e, ?_⟩
        have := q _ s
        simpa [isWord, hc, hd] using this
end
/-- a step of a path -/
def stepOk (v : V) : Prop := (∃ i, v = .int i ∧ 0 ≤ i ∧ i < 10 ^ 6) ∨ ∃ x : Str, v = .str x ∧ x.length ≤ 60 ∧ AsciiS x
def stepT : V → Str
  | .int i => Str.ofString "[" ++ Str.ofString (toString i) ++ Str.ofString "]"
  | .str x => if isWord x then Str.ofString "." ++ x else Str.ofString "[\"" ++ x ++ Str.ofString "\"]"
  | _ => Str.ofString ""
theorem stepT_len {v : V} (h : stepOk v) : (stepT v).length ≤ 70 := by
  rcases h with ⟨i, rfl, h0, h1⟩ | ⟨x, rfl, hx, _⟩
  · have := int_len (i := i) (by omega)
    simp only [stepT, len_app]
    have e1 : (Str.ofString "[").length = 1 := by decide +kernel
    have e2 : (Str.ofString "]").length = 1 := by decide +kernel
    omega
  · simp only [stepT]
    have e1 : (Str.ofString ".").length = 1 := by decide +kernel
    have e2 : (Str.ofString "[\"").length = 2 := by decide +kernel
    have e3 : (Str.ofString "\"]").length = 2 := by decide +kernel
    split <;> simp only [len_app] <;> omega
def pathT (xs : List V) : Str := xs.foldl (fun a v => a ++ stepT v) (Str.ofString "$")
theorem pathT_len : ∀ (xs : List V) (a : Str), (∀ v ∈ xs, stepOk v) → (xs.foldl (fun a v => a ++ stepT v) a).length ≤ a.length + 70 * xs.length
  | [], a, _ => by simp
  | v :: r, a, h => by
    have := pathT_len r (a ++ stepT v) (fun u hu => h u (by simp [hu]))
    have h1 := stepT_len (h v (by simp))
    rw [len_app] at this
    simp only [List.foldl_cons, List.length_cons]
    omega
def sp_ptext (K : PySem.W.Frag) : Sp := fun vs H Q _ => ∃ p xs, vs = [.ref p] ∧ H p = some (.tup xs) ∧ xs.length ≤ 100 ∧ (∀ v ∈ xs, stepOk v) ∧ ∀ H', Same H H' → Q (.str (pathT xs)) H'
abbrev s_path_text : Stmt := top 4
theorem sc_path_text : FnScope ["path", "found", "step"] ["path"] (defScope s_path_text) := ⟨rfl, rfl, rfl, by decide +kernel, rfl, by decide +kernel, by decide +kernel⟩
section
variable {P : Program} {w : World} {K : PySem.W.Frag} {mg : Str → Option Value} {base : Heap} {f : Addr} {fd : FuncData}
theorem ok_ptext (D : Def K mg "path_text" s_path_text f fd) (B : Blt mg) (R_is_word : Rdy P w K mg base 1 "is_word" ["value"] sp_word) : FnOk P w K mg base CX0 2 f fd ["path"] (sp_ptext K) := by
  refine D.1.ok sc_path_text (fun vs H Q E h => ?_) (fun cdv A outer s H vs Q E hr h => ?_)
  · obtain ⟨p, xs, rfl, _⟩ := h
    rfl
  obtain ⟨p, xs, rfl, hp, hl, hx, q⟩ := h
  refine ⟨_, (pss_cons (ps_set (i := 1) sc_path_text.nd rfl (by first | exact Or.inl rfl | exact Or.inr rfl) pe_str)
  (pss_cons (ps_for PassesOwn.never rfl (pi_tup (pv 0)) (pg_name (i := 2) sc_path_text.nd rfl (by first | exact Or.inl rfl | exact Or.inr rfl))
   (pss_one (ps_if (pt_not (pt_val (pe_callB (isiK (K := K) rfl) (by rfl) B.b_isinstance (by decide +kernel) (pa_cons (pv 2) (pa_cons (pe_bltn (v := .ty "str") (by rfl) B.b_str (by decide +kernel) rfl) pa_nil)))))
   (pss_one (ps_aug (i := 1) sc_path_text.nd rfl (by first | exact Or.inl rfl | exact Or.inr rfl) (pe_joined (.cons pe_str (.cons (pe_fmt (pv 2)) (.cons pe_str .nil)))) iop_add_str))
   (pss_one (ps_if (pt_val (pe_c R_is_word hr rfl (pa_cons (pv 2) pa_nil)))
   (pss_one (ps_aug (i := 1) sc_path_text.nd rfl (by first | exact Or.inl rfl | exact Or.inr rfl) (pe_op op_add_str pe_str (pv 2)) iop_add_str))
   (pss_one (ps_aug (i := 1) sc_path_text.nd rfl (by first | exact Or.inl rfl | exact Or.inr rfl) (pe_op op_add_str (pe_op op_add_str pe_str (pv 2)) pe_str) iop_add_str)))))))
  (pss_one (ps_ret (pv 1))))), ?_⟩
  walk_at "rd"
  refine ⟨⟨_, SqT.of hp⟩, ?_⟩
  refine fo_it (walk_tup (xs := xs)) (fun i σ' H' => (∃ z, σ' = [some (V.ref p), some (V.str (pathT (xs.take i))), z]) ∧ Same H H') ⟨⟨_, rfl⟩, Same.refl _⟩ (fun i σ' H' _ h => SqT.of (h.2 _ _ hp)) ?_ ?_
  · rintro i v σ' H' H2 hi ⟨⟨z, rfl⟩, s1⟩ ⟨rfl, hv⟩
    have ht : pathT (xs.take (i + 1)) = pathT (xs.take i) ++ stepT v := by
      rw [List.take_succ, hv]
      simp [pathT]
    have hlen := pathT_len (xs.take i) (Str.ofString "$") fun v hv => hx v (List.mem_of_mem_take hv)
    have e0 : (Str.ofString "$").length = 1 := by decide +kernel
    have hlt : (xs.take i).length ≤ 100 := by rw [List.length_take]; omega
    have hok := hx v (List.mem_of_getElem? hv)
    have hsl := stepT_len hok
    have hlen' : (pathT (xs.take i)).length ≤ 7001 := by unfold pathT; omega
    walk_at "rd"
    rcases hok with ⟨j, rfl, h0, h1⟩ | ⟨x, rfl, hxl, hxa⟩
    · refine isi1 .str (n := 1) (d := .int j) rfl ⟨_, rfl, ?_⟩
      have := int_len (i := j) (by omega)
      refine iteT' rfl ⟨by walk_at "sl", .inr ⟨j, rfl, int_log (by omega), by walk_at "sl", by walk_at "sl", by walk_at "sl", ?_, s1⟩⟩
      rw [ht, emp_app]
      rfl
    · refine isi1 .str (n := 1) (d := .str x) rfl ⟨_, rfl, ?_⟩
      refine iteF' (by simp [isT]) ⟨x, rfl, by omega, fun H3 s3 => ⟨_, rfl, ite2 (fun hw => ⟨x, rfl, by walk_at "sl", by walk_at "sl", ?_, s1.trans s3⟩) fun hw => ⟨x, rfl, by walk_at "sl", by walk_at "sl", by walk_at "sl", ?_, s1.trans s3⟩⟩⟩
      · rw [ht]; simp only [stepT, hw, if_true]
      · rw [ht]; simp only [stepT, Bool.eq_false_iff.mpr hw, Bool.false_eq_true, if_false]
  · rintro σ' H' ⟨⟨z, rfl⟩, s1⟩
    rw [List.take_length]
    exact ⟨_, rfl, q _ s1⟩
end
theorem stepT_ok {v : V} (h : stepOk v) : PyData.strOk (stepT v) = true := by
  rcases h with ⟨i, rfl, _⟩ | ⟨x, rfl, _, ha⟩
  · exact ok_app (ok_app (ok_ofString _) (ok_ofString _)) (ok_ofString _)
  · simp only [stepT]
    split
    · exact ok_app (ok_ofString _) (strOk_of ha)
    · exact ok_app (ok_app (ok_ofString _) (strOk_of ha)) (ok_ofString _)
theorem pathT_ok : ∀ (xs : List V) (a : Str), PyData.strOk a = true → (∀ v ∈ xs, stepOk v) → PyData.strOk (xs.foldl (fun a v => a ++ stepT v) a) = true
  | [], a, ha, _ => ha
  | v :: r, a, ha, h => pathT_ok r (a ++ stepT v) (ok_app ha (stepT_ok (h v (by simp)))) fun u hu => h u (by simp [hu])

/-! ### _law_cell -/
def sp_cell (K : PySem.W.Frag) : Sp := fun vs H Q _ => ∃ c sp ns k, vs = [.ref c, .ref sp] ∧ Scr K H c ns ∧ ns.length ≤ 63 ∧ H sp = some (.lst [.int k]) ∧ 0 ≤ k ∧ k < 2 ^ 60 ∧
  ∀ n : Int, 0 ≤ n → n < 306783379 → Q (.int n) (upd H sp (.lst [.int (k + 1)]))
abbrev s_law_cell : Stmt := top 6
theorem sc_law_cell : FnScope ["_law_cells", "_law_spot", "_law_k", "_law_base", "_law_at", "_law_turn", "_law_rest", "_law_j"] ["_law_cells", "_law_spot"] (defScope s_law_cell) := ⟨rfl, rfl, rfl, by decide +kernel, rfl, by decide +kernel, by decide +kernel⟩
theorem cell_end (b : Int) : 0 ≤ (b % 2147483647) ^ Int.toNat 5 % 2147483647 / 7 ∧ (b % 2147483647) ^ Int.toNat 5 % 2147483647 / 7 < 306783379 := by
  have h1 := Int.emod_nonneg ((b % 2147483647) ^ Int.toNat 5) (show (2147483647 : Int) ≠ 0 by decide)
  have h2 := Int.emod_lt_of_pos ((b % 2147483647) ^ Int.toNat 5) (show (0 : Int) < 2147483647 by decide)
  omega
theorem cell_pow (b : Int) : CPow (b % 2147483647) 5 := by
  have h1 := Int.emod_nonneg b (show (2147483647 : Int) ≠ 0 by decide)
  have h2 := Int.emod_lt_of_pos b (show (0 : Int) < 2147483647 by decide)
  refine ⟨by decide, by decide, ?_⟩
  omega
theorem at_ints {ns : List Int} {i : Int} (h0 : 0 ≤ i) (h1 : i < ((ns.map V.int).length : Int)) : ∃ x : Int, atI (ns.map V.int) i = some (.int x) := by
  obtain ⟨j, rfl⟩ : ∃ j : Nat, i = j := ⟨i.toNat, by omega⟩
  have hl : j < ns.length := by rw [List.length_map] at h1; omega
  exact ⟨ns[j], atI_nat (by rw [List.getElem?_map, List.getElem?_eq_getElem hl]; rfl)⟩
section
variable {P : Program} {w : World} {K : PySem.W.Frag} {mg : Str → Option Value} {base : Heap} {f : Addr} {fd : FuncData}
theorem ok_cell (D : Def K mg "_law_cell" s_law_cell f fd) (B : Blt mg) : FnOk P w K mg base CX0 1 f fd ["_law_cells", "_law_spot"] (sp_cell K) := by
  refine D.1.ok sc_law_cell (fun vs H Q E h => ?_) (fun cdv A outer s H vs Q E hr h => ?_)
  · obtain ⟨c, sp, ns, k, rfl, _⟩ := h
    rfl
  obtain ⟨c, sp, ns, k, rfl, hs, h63, hp, h0, h1, q⟩ := h
  refine ⟨_, (pss_cons (ps_set (i := 2) sc_law_cell.nd rfl (by first | exact Or.inl rfl | exact Or.inr rfl) (pe_ix (ixLK (K := K) rfl) (pv 1) pe_int (fun _ _ => rfl)))
  (pss_cons (ps_asg (pe_op op_add (pv 2) pe_int) (pg_sub (pv 1) pe_int set_list))
  (pss_cons (ps_set (i := 3) sc_law_cell.nd rfl (by first | exact Or.inl rfl | exact Or.inr rfl) (pe_op op_add (pe_op op_mul (pe_op op_mul pe_int (pv 2)) (pv 2)) (pe_op op_mul pe_int (pv 2))))
  (pss_cons (ps_if (pt_cmpR op_gt (pe_callB (lenK (K := K) rfl) (by rfl) B.b_len (by decide +kernel) (pa_cons (pv 0) pa_nil)) pe_int (nomark _))
   (pss_cons (ps_par (i := 4) (j := 5) (by rfl) sc_law_cell.nd rfl rfl (by decide) rfl rfl (pa_cons (pe_op op_mod (pv 2) (pe_callB (lenK (K := K) rfl) (by rfl) B.b_len (by decide +kernel) (pa_cons (pv 0) pa_nil))) (pa_cons (pe_op op_fdiv (pv 2) (pe_callB (lenK (K := K) rfl) (by rfl) B.b_len (by decide +kernel) (pa_cons (pv 0) pa_nil))) pa_nil)) (by rfl))
  (pss_cons (ps_if (PW.pt (pw_and (pt_cmpR op_ge (pe_ix (ixLK (K := K) rfl) (pv 0) (pv 4) (fun _ _ => rfl)) (pe_op op_pow pe_int pe_int) (nomark _)) (pw_and1 (pt_cmpR op_lt (pv 5) pe_int (nomark _)))))
   (pss_cons (ps_set (i := 6) sc_law_cell.nd rfl (by first | exact Or.inl rfl | exact Or.inr rfl) (pe_ix (ixLK (K := K) rfl) (pv 0) (pv 4) (fun _ _ => rfl)))
  (pss_cons (ps_for PassesOwn.never rfl (pi_range1 (by rfl) B.b_range (pa_cons (pv 5) pa_nil)) (pg_name (i := 7) sc_law_cell.nd rfl (by first | exact Or.inl rfl | exact Or.inr rfl))
   (pss_one (ps_set (i := 6) sc_law_cell.nd rfl (by first | exact Or.inl rfl | exact Or.inr rfl) (pe_op op_fdiv (pv 6) pe_int))))
  (pss_one (ps_if (pt_cmpR op_gt (pv 6) pe_int (nomark _))
   (pss_one (ps_ret (pe_op op_mod (pv 6) pe_int)))
   pss_nil))))
   pss_nil)
  (pss_one (ps_set (i := 3) sc_law_cell.nd rfl (by first | exact Or.inl rfl | exact Or.inr rfl) (pe_op op_add (pv 3) (pe_op op_mul (pe_op op_mod (pe_ix (ixLK (K := K) rfl) (pv 0) (pv 4) (fun _ _ => rfl)) pe_int) (pe_op op_add pe_int (pv 5))))))))
   pss_nil)
  (pss_one (ps_ret (pe_op op_fdiv (pe_op op_mod (pe_op op_pow (pe_op op_mod (pv 3) pe_int) pe_int) pe_int) pe_int))))))), ?_⟩
  walk_at "rd"
  have hs1 : Scr K (upd H sp (.lst [.int (k + 1)])) c ns := hs.put hp
  refine ⟨sp, _, 0, _, rfl, rfl, SqL.of hp, rfl, ?_⟩
  walk_at "rd"
  refine ⟨_, hp, 0, rfl, .inl (by omega), .inr (by omega), .inl (by decide), _, .inl ⟨_, hs1.sq, rfl⟩, ?_⟩
  split
  · rename_i hl
    have hL : ((ns.map V.int).length : Int) < 64 := by rw [List.length_map]; omega
    have hm0 := Int.emod_nonneg k (show ((ns.map V.int).length : Int) ≠ 0 by omega)
    have hm1 := Int.emod_lt_of_pos k hl
    obtain ⟨x, hx⟩ := at_ints hm0 hm1
    have hd0 : 0 ≤ k / ((ns.map V.int).length : Int) := Int.ediv_nonneg h0 (by omega)
    have hd1 : k / ((ns.map V.int).length : Int) ≤ k := Int.ediv_le_self _ h0
    refine ⟨_, .inl ⟨_, hs1.sq, rfl⟩, hl, _, .inl ⟨_, hs1.sq, rfl⟩, ⟨hl, by omega⟩, ?_⟩
    have last : ∀ b : Int, CMul (x % 2147483629) (1 + k / ((ns.map V.int).length : Int)) ∧ (0 : Int) < 2147483647 ∧ CPow (b % 2147483647) 5 ∧ (0 : Int) < 2147483647 ∧ CDiv ((b % 2147483647) ^ Int.toNat 5 % 2147483647) 7 ∧ Q (V.int ((b % 2147483647) ^ Int.toNat 5 % 2147483647 / 7)) (upd H sp (HO.lst [V.int (k + 1)])) := fun b => by
      have a1 := Int.emod_nonneg x (show (2147483629 : Int) ≠ 0 by decide)
      have a2 := Int.emod_lt_of_pos x (show (0 : Int) < 2147483629 by decide)
      exact ⟨.inl (by omega), by decide, cell_pow _, by decide, ⟨by decide, by decide⟩, q _ (cell_end _).1 (cell_end _).2⟩
    refine ⟨c, _, _, _, rfl, rfl, hs1.sq, hx, ⟨by decide, by decide, by decide⟩, ?_⟩
    walk_at "rd"
    split
    · split
      · refine ⟨c, _, _, _, rfl, rfl, hs1.sq, hx, by omega, by omega, ?_⟩
        refine fo_it walk_range (fun i σ' H' => H' = upd H sp (.lst [.int (k + 1)]) ∧ ∃ (r : Int) (j : Option V), σ' = [some (V.ref c), some (V.ref sp), some (V.int k), some (V.int (31 * k * k + 7919 * k)), some (V.int (k % ((ns.map V.int).length : Int))), some (V.int (k / ((ns.map V.int).length : Int))), some (V.int r), j]) ⟨rfl, x, none, rfl⟩ (fun _ _ _ _ _ => trivial) ?_ ?_
        · rintro i y σ' H' H'' hi ⟨rfl, r, j, rfl⟩ ⟨rfl, rfl⟩
          walk_at "rd"
          exact ⟨by decide, by decide⟩
        · rintro σ' H' ⟨rfl, r, j, rfl⟩
          walk_at "rd"
          split
          · refine ⟨by decide, q _ (Int.emod_nonneg _ (by decide)) (Int.emod_lt_of_pos _ (by decide))⟩
          · refine ⟨c, _, _, _, rfl, rfl, hs1.sq, hx, ?_⟩
            walk_at "rd"
            exact ⟨by decide, last _⟩
      · refine ⟨c, _, _, _, rfl, rfl, hs1.sq, hx, ?_⟩
        walk_at "rd"
        exact ⟨by decide, last _⟩
    · refine ⟨c, _, _, _, rfl, rfl, hs1.sq, hx, ?_⟩
      walk_at "rd"
      exact ⟨by decide, last _⟩
  · exact ⟨by decide, cell_pow _, by decide, ⟨by decide, by decide⟩, q _ (cell_end _).1 (cell_end _).2⟩
end

/-! ### _law_label -/
def sp_label : Sp := fun vs H Q _ => ∃ n : Int, vs = [.int n] ∧ 0 ≤ n ∧ ∀ (x : Str) H', x.length ≤ 7 → AsciiS x → Same H H' → Q (.str x) H'
def signs14 : Str := "ab_9ZA0 .-[]\"$"
theorem signs14_ok : ∀ c ∈ signs14.cps.toList, c < 128 := by decide +kernel
theorem signs14_len : signs14.cps.toList.length = 14 := by decide +kernel
theorem letters_us : (Str.ofString "abcdefghijklmnopqrstuvwxyzABCDEFGHIJKLMNOPQRSTUVWXYZ_").cps.toList = letters.cps.toList ++ [95] := by decide +kernel
theorem lett_word (c : Nat) : (!decide (c ∈ (Str.ofString "abcdefghijklmnopqrstuvwxyzABCDEFGHIJKLMNOPQRSTUVWXYZ_" ++ Str.ofString "0123456789").cps.toList)) = !wordC c := by
  rw [app_cps, letters_us]
  simp only [wordC, List.mem_append, List.mem_singleton, digits]
  congr 1
  by_cases h1 : c ∈ letters.cps.toList <;> by_cases h2 : c = 95 <;> by_cases h3 : c ∈ (Str.ofString "0123456789").cps.toList <;> simp [h1, h2, h3]
theorem lett_dig : ∀ c ∈ (Str.ofString "abcdefghijklmnopqrstuvwxyzABCDEFGHIJKLMNOPQRSTUVWXYZ_").cps.toList, c ∉ digits.cps.toList := by decide +kernel
theorem lett_not {c : Nat} (h : c ∉ (Str.ofString "abcdefghijklmnopqrstuvwxyzABCDEFGHIJKLMNOPQRSTUVWXYZ_").cps.toList) (hw : wordC c = true) : c ∈ digits.cps.toList := by
  rw [letters_us] at h
  simp only [List.mem_append, List.mem_singleton, not_or] at h
  simpa [wordC, h.1, h.2] using hw
abbrev s_law_label : Stmt := top 7
theorem sc_law_label : FnScope ["_law_n", "_law_signs", "_law_found", "_law_k"] ["_law_n"] (defScope s_law_label) := ⟨rfl, rfl, rfl, by decide +kernel, rfl, by decide +kernel, by decide +kernel⟩
abbrev s_law_step : Stmt := top 8
theorem sc_law_step : FnScope ["_law_step_here", "_law_letters", "_law_sign"] ["_law_step_here"] (defScope s_law_step) := ⟨rfl, rfl, rfl, by decide +kernel, rfl, by decide +kernel, by decide +kernel⟩
abbrev s_law : Stmt := top 9
theorem sc_law : FnScope ["_law_script", "_law_spot", "_law_turn", "_law_n", "_law_steps", "_law_k", "_law_m", "_law_due", "_law_step_here"] ["_law_script"] (defScope s_law) := ⟨rfl, rfl, rfl, by decide +kernel, rfl, by decide +kernel, by decide +kernel⟩
section
variable {P : Program} {w : World} {K : PySem.W.Frag} {mg : Str → Option Value} {base : Heap} {f : Addr} {fd : FuncData}
theorem ok_label (D : Def K mg "_law_label" s_law_label f fd) (B : Blt mg) : FnOk P w K mg base CX0 1 f fd ["_law_n"] sp_label := by
  refine D.1.ok sc_law_label (fun vs H Q E h => ?_) (fun cdv A outer s H vs Q E hr h => ?_)
  · obtain ⟨n, rfl, _⟩ := h
    rfl
  obtain ⟨n, rfl, h0, q⟩ := h
  refine ⟨_, (pss_cons (ps_asg (pe_tup (pa_cons pe_str (pa_cons pe_str pa_nil))) (pg_tup (by rfl) (pgs_cons (pg_name (i := 1) sc_law_label.nd rfl (by first | exact Or.inl rfl | exact Or.inr rfl)) (pgs_cons (pg_name (i := 2) sc_law_label.nd rfl (by first | exact Or.inl rfl | exact Or.inr rfl)) pgs_nil))))
  (pss_cons (ps_for PassesOwn.never rfl (pi_range1 (by rfl) B.b_range (pa_cons (pe_op op_mod (pv 0) pe_int) pa_nil)) (pg_name (i := 3) sc_law_label.nd rfl (by first | exact Or.inl rfl | exact Or.inr rfl))
   (pss_cons (ps_set (i := 0) sc_law_label.nd rfl (by first | exact Or.inl rfl | exact Or.inr rfl) (pe_op op_add (pe_op op_add (pe_op op_fdiv (pv 0) pe_int) (pe_op op_mul pe_int (pv 0))) (pv 3)))
  (pss_one (ps_set (i := 2) sc_law_label.nd rfl (by first | exact Or.inl rfl | exact Or.inr rfl) (pe_op op_add_str (pv 2) (pe_ix ix_str (pv 1) (pe_ifExp (pt_cmpR op_eq (pe_op op_mod (pe_op op_fdiv (pv 0) pe_int) pe_int) pe_int (nomark _)) (pe_op op_mod (pv 0) pe_int) (pe_op op_mod (pv 0) pe_int)) (fun _ _ => rfl)))))))
  (pss_one (ps_ret (pv 2))))), ?_⟩
  walk_at "rd"
  have m8 := mod_in n (m := 8) (by decide)
  refine ⟨sz5 (by omega), fun p np => ⟨_, SqT.of upd_same, rfl, _, _, rfl, _, _, rfl, rfl, by decide, by omega, by omega, ?_⟩⟩
  refine fo_it walk_range (fun i σ' H' => Same H H' ∧ ∃ (m : Int) (x : Str) (kv : Option V), 0 ≤ m ∧ σ' = [some (.int m), some (.str signs14), some (.str x), kv] ∧ x.length = i ∧ AsciiS x)
    ⟨same_new np _, n, _, none, h0, rfl, by decide +kernel, by intro c hc; cases hc⟩ (fun _ _ _ _ _ => trivial) ?_ ?_
  · rintro i y σ' H1 H2 hi ⟨s1, m, x, kv, hm, rfl, hx, ha⟩ ⟨rfl, rfl⟩
    walk_at "rd"
    refine ⟨⟨by decide, by decide⟩, .inl (by decide), ⟨by decide, by decide⟩, by decide, rfl, ?_⟩
    have hm2 : 0 ≤ m / 3 + 11 * m + (0 + (i : Int)) := by omega
    generalize m / 3 + 11 * m + (0 + (i : Int)) = m2 at hm2 ⊢
    have key : ∀ u : Int, 0 ≤ u → u < 14 → rIxS (V.str signs14) (V.int u) H2 fun y H2 => ∃ x_1, y = V.str x_1 ∧ x.length + x_1.length ≤ sizeLine ∧ Same H H2 ∧ ∃ m_1, 0 ≤ m_1 ∧ m2 = m_1 ∧ (x ++ x_1).length = i + 1 ∧ AsciiS (x ++ x_1) := by
      intro u u0 u1
      obtain ⟨j, rfl⟩ : ∃ j : Nat, u = j := ⟨u.toNat, by omega⟩
      have hj : j < signs14.cps.toList.length := by rw [signs14_len]; omega
      refine ⟨_, _, signs14.cps.toList[j], rfl, rfl, by decide +kernel, atI_nat (List.getElem?_eq_getElem hj), _, rfl, sz5 (by rw [show Str.length ⟨#[signs14.cps.toList[j]]⟩ = 1 from rfl]; omega), s1, _, hm2, rfl, by rw [len_app, hx]; rfl, ?_⟩
      intro c hc
      rw [app_cps] at hc
      rcases List.mem_append.mp hc with hc | hc
      · exact ha c hc
      · have : c = signs14.cps.toList[j] := by simpa using hc
        rw [this]
        exact signs14_ok _ (List.getElem_mem hj)
    have h14 := mod_in m2 (m := 14) (by decide)
    have h7 := mod_in m2 (m := 7) (by decide)
    exact ite2 (fun _ => ⟨by decide, key _ h14.1 h14.2⟩) fun _ => ⟨by decide, key _ h7.1 (by omega)⟩
  · rintro σ' H1 ⟨s1, m, x, kv, hm, rfl, hx, ha⟩
    walk_at "rd"
    exact q x H1 (by omega) ha s1
theorem ok_step (D : Def K mg "_law_step" s_law_step f fd) (B : Blt mg) : FnOk P w K mg base CX0 1 f fd ["_law_step_here"] (fun vs H Q _ => ∃ v, vs = [v] ∧ stepOk v ∧ ∀ H', Same H H' → Q (.str (stepT v)) H') := by
  refine D.1.ok sc_law_step (fun vs H Q E h => ?_) (fun cdv A outer s H vs Q E hr h => ?_)
  · obtain ⟨n, rfl, _⟩ := h
    rfl
  obtain ⟨v, rfl, hv, q⟩ := h
  refine ⟨_, (pss_cons (ps_if (pt_not (pt_val (pe_callB (isiK (K := K) rfl) (by rfl) B.b_isinstance (by decide +kernel) (pa_cons (pv 0) (pa_cons (pe_bltn (v := .ty "str") (by rfl) B.b_str (by decide +kernel) rfl) pa_nil)))))
   (pss_one (ps_ret (pe_op op_add_str (pe_op op_add_str pe_str (pe_callTy call_str_int (by rfl) B.b_str (by decide +kernel) (pa_cons (pv 0) pa_nil))) pe_str)))
   pss_nil)
  (pss_cons (ps_set (i := 1) sc_law_step.nd rfl (by first | exact Or.inl rfl | exact Or.inr rfl) pe_str)
  (pss_cons (ps_if (PW.pt (pw_and (pt_cmpR op_ne (pv 0) pe_str (nomark _)) (pw_and1 (pt_cmpR op_in_sign (pe_ix ix_str (pv 0) pe_int (fun _ _ => rfl)) (pv 1) rfl))))
   (pss_one (ps_if (pt_cmpR (eqDK (K := K) rfl hr.units) (pe_lc (own := [("_law_sign", 2)]) (by rfl) sc_law_step.nd (pi_str (pv 0)) (blkOk_by (own := [("_law_sign", 2)]) (N := ["_law_step_here", "_law_letters", "_law_sign"]) (sc := defScope s_law_step) (by decide +kernel)) (fun _ _ _ _ _ => (pg_name (i := 2) sc_law_step.nd rfl (by first | exact Or.inl rfl | exact Or.inr rfl))) (fun _ _ _ _ _ => (pts_one (pt_cmpR op_notIn_sign (pv 2) (pe_op op_add_str (pv 1) pe_str) rfl))) (fun _ _ _ _ _ => (pv 2))) (pe_lst pa_nil) (nomark _))
   (pss_one (ps_ret (pe_op op_add_str pe_str (pv 0))))
   pss_nil))
   pss_nil)
  (pss_one (ps_ret (pe_op op_add_str (pe_op op_add_str pe_str (pv 0)) pe_str)))))), ?_⟩
  walk_at "rd"
  rcases hv with ⟨i, rfl, h0, h1⟩ | ⟨x, rfl, hx, ha⟩
  · have := int_len (i := i) (by omega)
    exact isi1 .str (n := 1) (d := .int i) rfl ⟨_, rfl, iteT' rfl ⟨i, rfl, int_log (by omega), by walk_at "sl", by walk_at "sl", q _ (Same.refl _)⟩⟩
  · refine isi1 .str (n := 1) (d := .str x) rfl ⟨_, rfl, iteF' (by simp [isT]) ⟨rfl, ?_⟩⟩
    have no : isWord x = false → ∀ H', Same H H' → ∃ x_2, V.str x = V.str x_2 ∧ (Str.ofString "[\"").length + x_2.length ≤ sizeLine ∧ (Str.ofString "[\"" ++ x_2).length + (Str.ofString "\"]").length ≤ sizeLine ∧ Q (V.str (Str.ofString "[\"" ++ x_2 ++ Str.ofString "\"]")) H' := fun hw H' s => by
      have := q H' s
      simp only [stepT, hw, Bool.false_eq_true, if_false] at this
      exact ⟨x, rfl, by walk_at "sl", by walk_at "sl", this⟩
    cases hc : x.cps.toList with
    | nil =>
      refine iteF' (by simp [str_nil hc]) (no ?_ _ (Same.refl _))
      simp [isWord, hc]
    | cons c r =>
      refine iteT' (fun e => by cases e; cases hc) ⟨x, 0, c, rfl, rfl, sz5 (by omega), by rw [hc]; exact atI_nat (j := 0) rfl, c, rfl, ite2 (fun h1 => ?_) fun h1 => no ?_ _ (Same.refl _)⟩
      · refine ⟨x, rfl, lcF_str (fun c => !wordC c) (by omega) (by simp) ?_ ?_⟩
        · intro c2 H' N hc2 s hN
          walk_at "rd"
          refine ⟨by decide +kernel, c2, rfl, ?_⟩
          rw [lett_word]
          exact hN
        · intro D' H' nD s e
          refine ⟨Nat.zero_le _, fun p np => ⟨_, _, Dp_strs ((same_new np _) _ _ e), Dp_strs (xs := []) upd_same, shaped_strs ?_, shaped_strs (by simp), _, rfl, ?_⟩⟩
          · intro z hz
            obtain ⟨c3, h3, rfl⟩ := List.mem_map.mp hz
            intro c4 h4
            have : c4 = c3 := by simpa using h4
            rw [this]
            exact ha _ (List.mem_filter.mp h3).1
          · rw [eqv_strs]
            have hd := lett_dig c h1
            have hw : isWord x = x.cps.toList.all wordC := by simp [isWord, hc, hd]
            have s2 := s.trans (same_new (o := .lst []) np)
            refine ite2 (fun h2 => ?_) fun h2 => ?_
            · have ht : isWord x = true := by
                rw [hw, List.all_eq_true]
                intro c5 h5
                have h6 := List.map_eq_nil_iff.mp (of_decide_eq_true h2)
                simpa using List.filter_eq_nil_iff.mp h6 c5 h5
              have := q _ s2
              simp only [stepT, ht, if_true] at this
              exact ⟨x, rfl, by walk_at "sl", this⟩
            · refine no ?_ _ s2
              rw [hw, ← Bool.not_eq_true, List.all_eq_true]
              intro h5
              refine h2 (decide_eq_true (List.map_eq_nil_iff.mpr (List.filter_eq_nil_iff.mpr fun c6 h6 => ?_)))
              simp [h5 c6 h6]
      · rw [← Bool.not_eq_true]
        intro h2
        simp only [isWord, hc, Bool.and_eq_true, Bool.not_eq_true', decide_eq_false_iff_not, List.all_cons] at h2
        exact h2.1 (lett_not h1 h2.2.1)
def sp_step : Sp := fun vs H Q _ => ∃ v, vs = [v] ∧ stepOk v ∧ ∀ H', Same H H' → Q (.str (stepT v)) H'
def sp_law (K : PySem.W.Frag) : Sp := fun vs H Q _ => ∃ a ns, vs = [.ref a] ∧ Scr K H a ns ∧ ns.length ≤ 63 ∧ ∀ H', Q (.bl true) H'
theorem ok_law (D : Def K mg "law" s_law f fd) (B : Blt mg) (R_law_cell : Rdy P w K mg base 1 "_law_cell" ["_law_cells", "_law_spot"] (sp_cell K)) (R_law_label : Rdy P w K mg base 1 "_law_label" ["_law_n"] sp_label) (R_law_step : Rdy P w K mg base 1 "_law_step" ["_law_step_here"] sp_step)
    (R_path_text : Rdy P w K mg base 2 "path_text" ["path"] (sp_ptext K)) (RK_path_text : RdyK P w K mg base 2 "path_text" ["path"] ["path"] (fun vs zs => vs ++ zs) (sp_ptext K)) : FnOk P w K mg base CX0 3 f fd ["_law_script"] (sp_law K) := by
  refine D.1.ok sc_law (fun vs H Q E h => ?_) (fun cdv A outer s H vs Q E hr h => ?_)
  · obtain ⟨a, ns, rfl, _⟩ := h
    rfl
  obtain ⟨a, ns, rfl, hs, h63, q⟩ := h
  have hr1 : Room 1 _ := hr.mono (by omega)
  refine ⟨_, (pss_cons (ps_set (i := 1) sc_law.nd rfl (by first | exact Or.inl rfl | exact Or.inr rfl) (pe_lst (pa_cons pe_int pa_nil)))
  (pss_cons (ps_for PassesOwn.never rfl (pi_range1 (by rfl) B.b_range (pa_cons (pe_op op_add pe_int (pe_callB (call_min2 rfl) (by rfl) B.b_min (by decide +kernel) (pa_cons pe_int (pa_cons (pe_callB (lenK (K := K) rfl) (by rfl) B.b_len (by decide +kernel) (pa_cons (pv 0) pa_nil)) pa_nil)))) pa_nil)) (pg_name (i := 2) sc_law.nd rfl (by first | exact Or.inl rfl | exact Or.inr rfl))
   (pss_cons (ps_par (i := 3) (j := 4) (by rfl) sc_law.nd rfl rfl (by decide) rfl rfl (pa_cons (pe_c R_law_cell hr1 rfl (pa_cons (pv 0) (pa_cons (pv 1) pa_nil))) (pa_cons (pe_lst pa_nil) pa_nil)) (by rfl))
  (pss_cons (ps_for PassesOwn.never rfl (pi_range1 (by rfl) B.b_range (pa_cons (pe_op op_mod (pv 3) pe_int) pa_nil)) (pg_name (i := 5) sc_law.nd rfl (by first | exact Or.inl rfl | exact Or.inr rfl))
   (pss_cons (ps_set (i := 6) sc_law.nd rfl (by first | exact Or.inl rfl | exact Or.inr rfl) (pe_c R_law_cell hr1 rfl (pa_cons (pv 0) (pa_cons (pv 1) pa_nil))))
  (pss_cons (ps_expr (pe_bm PySem.F.plainAttrs_list PySem.F.slot_list_append PySem.F.type_list_append mt_append (pv 4) (pa_cons (pe_op op_mod (pe_op op_fdiv (pv 6) pe_int) (pe_ix (ixLK (K := K) rfl) (pe_lst (pa_cons pe_int (pa_cons pe_int (pa_cons (pe_op op_pow pe_int pe_int) pa_nil)))) (pe_op op_mod (pe_op op_fdiv (pv 6) pe_int) pe_int) (fun _ _ => rfl))) pa_nil)))
  (pss_one (ps_if (pt_cmpR op_gt (pe_op op_mod (pv 6) pe_int) pe_int (nomark _))
   (pss_one (ps_asg (pe_c R_law_label hr1 rfl (pa_cons (pe_op op_fdiv (pv 6) pe_int) pa_nil)) (pg_sub (pv 4) (pe_un un_neg pe_int) set_list)))
   pss_nil)))))
  (pss_cons (ps_set (i := 7) sc_law.nd rfl (by first | exact Or.inl rfl | exact Or.inr rfl) (pe_op op_add_str pe_str (joinK (K := K) rfl pe_str (pe_lc (own := [("_law_step_here", 8)]) (by rfl) sc_law.nd (pi_list (pv 4)) (blkOk_by (own := [("_law_step_here", 8)]) (N := ["_law_script", "_law_spot", "_law_turn", "_law_n", "_law_steps", "_law_k", "_law_m", "_law_due", "_law_step_here"]) (sc := defScope s_law) (by decide +kernel)) (fun _ _ _ _ _ => (pg_name (i := 8) sc_law.nd rfl (by first | exact Or.inl rfl | exact Or.inr rfl))) (fun _ _ _ _ _ => pts_nil) (fun _ _ _ _ _ => (pe_c R_law_step hr1 rfl (pa_cons (pv 8) pa_nil)))))))
  (pss_one (ps_if (pt_cmpR (neDK (K := K) rfl hr.units) (pe_lst (pa_cons (pe_c R_path_text hr rfl (pa_cons (pe_callTy (tupleK (K := K) rfl) (by rfl) B.b_tuple (by decide +kernel) (pa_cons (pv 4) pa_nil)) pa_nil)) (pa_cons (pe_ck0 R_path_text hr rfl RK_path_text (pk_cons (pe_callTy (tupleK (K := K) rfl) (by rfl) B.b_tuple (by decide +kernel) (pa_cons (pv 4) pa_nil)) pk_nil)) pa_nil))) (pe_lst (pa_cons (pv 7) (pa_cons (pv 7) pa_nil))) (nomark _))
   (pss_one (ps_ret pe_bl))
   pss_nil))))))
  (pss_one (ps_ret (pe_and (pe_cmpR op_eq (pe_c R_path_text hr rfl (pa_cons (pe_tup pa_nil) pa_nil)) pe_str (nomark _)) (pe_one (pe_cmpR op_eq (pe_c R_path_text hr rfl (pa_cons (pe_tup (pa_cons pe_str (pa_cons pe_int (pa_cons pe_str pa_nil)))) pa_nil)) pe_str (nomark _)))))))), ?_⟩
  walk_at "rd"
  have hs0 : ∀ (p : Addr), H p = none → Scr K (upd H p (HO.lst [V.int 0])) a ns := fun p np => hs.same (same_new np _)
  refine ⟨sz5 (by omega), fun p np => ⟨_, .inl ⟨_, (hs0 p np).sq, rfl⟩, ?_⟩⟩
  rw [List.length_map]
  have hmin : (0 : Int) ≤ (if (ns.length : Int) < 16 then (ns.length : Int) else 16) ∧ (if (ns.length : Int) < 16 then (ns.length : Int) else 16) ≤ 16 := by split <;> omega
  generalize (if (ns.length : Int) < 16 then (ns.length : Int) else 16) = mm at hmin ⊢
  refine ⟨by omega, by omega, ?_⟩
  obtain ⟨t, ht⟩ : ∃ t : Nat, (3 + mm).toNat = t := ⟨_, rfl⟩
  rw [ht]
  have ht2 : t ≤ 19 := by omega
  refine fo_it walk_range (fun i σ' H' => ∃ (k : Int) (v2 v3 v4 v5 v6 v7 v8 : Option V), σ' = [some (V.ref a), some (V.ref p), v2, v3, v4, v5, v6, v7, v8] ∧ Scr K H' a ns ∧ H' p = some (.lst [.int k]) ∧ 0 ≤ k ∧ k ≤ 10 * i)
    ⟨0, none, none, none, none, none, none, none, rfl, hs0 p np, upd_same, by omega, by omega⟩ (fun _ _ _ _ _ => trivial) ?_ ?_
  · rintro i y σ' H1 H2 hi ⟨k, v2, v3, v4, v5, v6, v7, v8, rfl, hs1, hp, k0, k1⟩ ⟨rfl, rfl⟩
    walk_at "rd"
    refine ⟨a, p, ns, k, rfl, hs1, h63, hp, k0, by omega, fun n n0 n1 => ?_⟩
    have hs2 := hs1.put (o := .lst [.int (k + 1)]) hp
    have m10 := mod_in n (m := 10) (by decide)
    walk_at "rd"
    refine ⟨Nat.zero_le _, fun r nr => ?_⟩
    refine ⟨by decide, by omega, by omega, ?_⟩
    have npr : p ≠ r := fun e => by rw [← e, upd_same] at nr; cases nr
    obtain ⟨u, hu⟩ : ∃ u : Nat, (n % 10).toNat = u := ⟨_, rfl⟩
    rw [hu]
    have hu2 : u ≤ 9 := by omega
    refine fo_it walk_range (fun j σ' H' => ∃ (k : Int) (v5 v6 : Option V) (xs : List V), σ' = [some (V.ref a), some (V.ref p), some (V.int (0 + i)), some (V.int n), some (V.ref r), v5, v6, v7, v8] ∧ Scr K H' a ns ∧ H' p = some (.lst [.int k]) ∧ 0 ≤ k ∧ k ≤ 10 * i + 1 + j ∧ H' r = some (.lst xs) ∧ xs.length = j ∧ ∀ v ∈ xs, stepOk v)
      ⟨k + 1, v5, v6, [], rfl, hs2.same (same_new nr _), by rw [upd_ne npr, upd_same], by omega, by omega, upd_same, rfl, by simp⟩ (fun _ _ _ _ _ => trivial) ?_ ?_
    · rintro j y σ' H3 H4 hj ⟨k2, v5, v6, xs, rfl, hs3, hp3, k20, k21, hr3, hxl, hxo⟩ ⟨rfl, rfl⟩
      walk_at "rd"
      refine ⟨a, p, ns, k2, rfl, hs3, h63, hp3, k20, by omega, fun m m0 m1 => ?_⟩
      walk_at "rd"
      have hr5 : upd H4 p (HO.lst [V.int (k2 + 1)]) r = some (.lst xs) := by rw [upd_ne npr.symm]; exact hr3
      have hp5 : upd H4 p (HO.lst [V.int (k2 + 1)]) p = some (.lst [.int (k2 + 1)]) := upd_same
      have hs5 := hs3.put (o := .lst [.int (k2 + 1)]) hp3
      generalize upd H4 p (HO.lst [V.int (k2 + 1)]) = H5 at hr5 hp5 hs5 ⊢
      refine ⟨.inl ⟨rfl, _, SqL.of hr5⟩, ⟨by decide, by decide⟩, ⟨by decide, by decide, by decide⟩, sz5 (by omega), fun p1 np1 => ⟨⟨by decide, by decide⟩, by decide, ?_⟩⟩
      have s6 := same_new np1 (.lst [V.int 2, V.int 10, V.int (10 ^ Int.toNat 6)])
      refine ix_any upd_same (by omega) (by simp; omega) fun v hv => ?_
      obtain ⟨x, rfl, x0, x1⟩ : ∃ x : Int, v = .int x ∧ 0 < x ∧ x ≤ 10 ^ 6 := by
        simp only [List.mem_cons, List.not_mem_nil, or_false] at hv
        rcases hv with rfl | rfl | rfl
        · exact ⟨_, rfl, by decide, by decide⟩
        · exact ⟨_, rfl, by decide, by decide⟩
        · exact ⟨_, rfl, by decide, by decide⟩
      have hx := mod_in (m / 3) x0
      refine ⟨x, rfl, x0, r, xs, _, rfl, rfl, s6 _ _ hr5, sz5l (by omega), by decide, ?_⟩
      have hs6 := (hs5.same s6).put (o := .lst (xs ++ [V.int (m / 3 % x)])) (s6 _ _ hr5)
      have hp6 : upd (upd H5 p1 (.lst [V.int 2, V.int 10, V.int (10 ^ Int.toNat 6)])) r (.lst (xs ++ [V.int (m / 3 % x)])) p = some (.lst [.int (k2 + 1)]) := by rw [upd_ne npr]; exact s6 _ _ hp5
      refine ite2 (fun hm => ⟨⟨by decide, by decide⟩, m / 3, rfl, by omega, fun z H7 hz ha s7 => ⟨_, s7 _ _ upd_same, j, by rw [List.length_append, hxl]; exact ix_last, (hs6.same s7).put (s7 _ _ upd_same), k2 + 1, by rw [upd_ne npr]; exact s7 _ _ hp6, by omega, by omega, _, upd_same, by simp [hxl], ?_⟩⟩) fun hm => ⟨hs6, k2 + 1, hp6, by omega, by omega, _, upd_same, by simp [hxl], ?_⟩
      · intro v hv
        rcases List.mem_or_eq_of_mem_set hv with hv | rfl
        · rcases List.mem_append.mp hv with hv | hv
          · exact hxo v hv
          · simp at hv; subst hv; exact .inl ⟨_, rfl, hx.1, by omega⟩
        · exact .inr ⟨z, rfl, by omega, ha⟩
      · intro v hv
        rcases List.mem_append.mp hv with hv | hv
        · exact hxo v hv
        · simp at hv; subst hv; exact .inl ⟨_, rfl, hx.1, by omega⟩
    · rintro σ' H3 ⟨k2, v5, v6, xs, rfl, hs3, hp3, k20, k21, hr3, hxl, hxo⟩
      walk_at "rd"
      refine ⟨⟨_, SqL.of hr3⟩, lcP_list (SqL.of hr3) ((xs.map stepT).map V.str) (by simp) (by omega) ?_ ?_⟩
      · intro i2 x y H4 N hx hy s4 N'
        simp only [List.getElem?_map, hx, Option.map_some, Option.some.injEq] at hy
        subst hy
        walk_at "rd"
        exact ⟨x, rfl, hxo x (List.mem_of_getElem? hx), fun H5 s5 => N' H5 s5⟩
      · intro D' H4 nD s4 e4
        have hsum := sum_len (fun v => (stepT v).length) 70 xs fun v hv => stepT_len (hxo v hv)
        have hpl := pathT_len xs (Str.ofString "$") hxo
        have hpk : PyData.strOk (pathT xs) = true := pathT_ok xs (Str.ofString "$") (ok_ofString _) hxo
        have hj : Str.ofString "$" ++ Txt.join (Str.ofString "") (xs.map stepT) = pathT xs := by
          rw [join_foldl, List.foldl_map]
          rfl
        have hjl := congrArg Str.length hj
        rw [len_app] at hjl
        have e1 : (Str.ofString "$").length = 1 := by decide +kernel
        refine ⟨_, D', xs.map stepT, rfl, rfl, .inl (SqL.of e4), ?_, _, rfl, sz5 ?_, ?_⟩
        · rw [List.map_map, show (Str.ofString "").length = 0 by decide +kernel, Nat.mul_zero]
          show (xs.map fun v => (stepT v).length).sum + 0 ≤ 16777216
          omega
        · rw [hjl]
          show (xs.foldl (fun a v => a ++ stepT v) (Str.ofString "$")).length ≤ 100000
          omega
        · rw [hj]
          refine ⟨r, xs, rfl, .inl ⟨SqL.of (s4 _ _ hr3), fun l nl => ⟨l, xs, rfl, upd_same, by omega, hxo, fun H5 s5 => ?_⟩⟩⟩
          have s5' := s4.trans ((same_new nl _).trans s5)
          refine ⟨r, xs, rfl, .inl ⟨SqL.of (s5' _ _ hr3), fun l2 nl2 => ⟨l2, xs, rfl, upd_same, by omega, hxo, fun H6 s6 => ?_⟩⟩⟩
          have s6' := s5'.trans ((same_new nl2 _).trans s6)
          refine ⟨sz5 (by omega), fun q1 nq1 => ⟨sz5 (by omega), fun q2 nq2 => ⟨_, _, Dp_strs (xs := [pathT xs, pathT xs]) ((same_new nq2 _) _ _ upd_same), Dp_strs (xs := [pathT xs, pathT xs]) upd_same, shaped_strsK (by simpa using hpk), shaped_strsK (by simpa using hpk), _, rfl, ?_⟩⟩⟩
          have s7 := s6'.trans ((same_new nq1 (.lst [V.str (pathT xs), V.str (pathT xs)])).trans (same_new nq2 (.lst [V.str (pathT xs), V.str (pathT xs)])))
          rw [eqv_strs]
          refine iteF' (by simp) ⟨hs3.same s7, k2, s7 _ _ hp3, k20, by omega⟩
  · rintro σ' H1 ⟨k, v2, v3, v4, v5, v6, v7, v8, rfl, hs1, hp, k0, k1⟩
    walk_at "rd"
    refine ⟨Nat.zero_le _, fun p1 np1 => ⟨p1, [], rfl, upd_same, by simp, by simp, fun H2 s2 => ⟨rfl, iteT' rfl ⟨sz5 (by omega), fun p2 np2 => ⟨p2, _, rfl, upd_same, by simp, ?_, fun H3 s3 => ⟨rfl, ?_⟩⟩⟩⟩⟩⟩
    · intro v hv
      simp only [List.mem_cons, List.not_mem_nil, or_false] at hv
      rcases hv with rfl | rfl | rfl
      · exact .inr ⟨_, rfl, by decide +kernel, by unfold AsciiS; decide +kernel⟩
      · exact .inl ⟨0, rfl, by omega, by omega⟩
      · exact .inr ⟨_, rfl, by decide +kernel, by unfold AsciiS; decide +kernel⟩
    · rw [show (pathT [V.str (Str.ofString "a"), V.int 0, V.str (Str.ofString "x y")]) = Str.ofString "$.a[0][\"x y\"]" by decide +kernel]
      simpa using q H3
end

abbrev LVL : Nat := 3
theorem all_mk {l : PySem.W.OpenLaw} {w : World} {K : PySem.W.Frag} {h : Heap} {mg : Str → Option Value} {fa f0 f1 f2 f3 f4 f5 : Addr} (X : K.In h) (G : h.Ns mainGlobals mg) (hfa : mg "law" = some (.ref fa))
    {od0 an0 : Option Addr} {sl0 : Array (Option Value)} {oc0 kV0 dc0 pm0 cd0 ct0 : Value}
    (a0 : PySem.W.nsIn K mainGlobals "is_word" = some (some (.ref f0)))
    (l0 : K.lookup f0 = some ⟨oc0, od0, .func (PySem.W.fnOf "is_word" "is_word" (defArgs s_is_word) (defBody s_is_word) (defScope s_is_word) .none kV0 dc0 pm0 an0 cd0 ct0), sl0⟩)
    (c0 : PySem.W.codeIn K cd0 "is_word" = true) (k0 : PySem.W.keepIn K (.ref f0) = true)
    {od1 an1 : Option Addr} {sl1 : Array (Option Value)} {oc1 kV1 dc1 pm1 cd1 ct1 : Value}
    (a1 : PySem.W.nsIn K mainGlobals "path_text" = some (some (.ref f1)))
    (l1 : K.lookup f1 = some ⟨oc1, od1, .func (PySem.W.fnOf "path_text" "path_text" (defArgs s_path_text) (defBody s_path_text) (defScope s_path_text) .none kV1 dc1 pm1 an1 cd1 ct1), sl1⟩)
    (c1 : PySem.W.codeIn K cd1 "path_text" = true) (k1 : PySem.W.keepIn K (.ref f1) = true)
    {od2 an2 : Option Addr} {sl2 : Array (Option Value)} {oc2 kV2 dc2 pm2 cd2 ct2 : Value}
    (a2 : PySem.W.nsIn K mainGlobals "_law_cell" = some (some (.ref f2)))
    (l2 : K.lookup f2 = some ⟨oc2, od2, .func (PySem.W.fnOf "_law_cell" "_law_cell" (defArgs s_law_cell) (defBody s_law_cell) (defScope s_law_cell) .none kV2 dc2 pm2 an2 cd2 ct2), sl2⟩)
    (c2 : PySem.W.codeIn K cd2 "_law_cell" = true) (k2 : PySem.W.keepIn K (.ref f2) = true)
    {od3 an3 : Option Addr} {sl3 : Array (Option Value)} {oc3 kV3 dc3 pm3 cd3 ct3 : Value}
    (a3 : PySem.W.nsIn K mainGlobals "_law_label" = some (some (.ref f3)))
    (l3 : K.lookup f3 = some ⟨oc3, od3, .func (PySem.W.fnOf "_law_label" "_law_label" (defArgs s_law_label) (defBody s_law_label) (defScope s_law_label) .none kV3 dc3 pm3 an3 cd3 ct3), sl3⟩)
    (c3 : PySem.W.codeIn K cd3 "_law_label" = true) (k3 : PySem.W.keepIn K (.ref f3) = true)
    {od4 an4 : Option Addr} {sl4 : Array (Option Value)} {oc4 kV4 dc4 pm4 cd4 ct4 : Value}
    (a4 : PySem.W.nsIn K mainGlobals "_law_step" = some (some (.ref f4)))
    (l4 : K.lookup f4 = some ⟨oc4, od4, .func (PySem.W.fnOf "_law_step" "_law_step" (defArgs s_law_step) (defBody s_law_step) (defScope s_law_step) .none kV4 dc4 pm4 an4 cd4 ct4), sl4⟩)
    (c4 : PySem.W.codeIn K cd4 "_law_step" = true) (k4 : PySem.W.keepIn K (.ref f4) = true)
    {od5 an5 : Option Addr} {sl5 : Array (Option Value)} {oc5 kV5 dc5 pm5 cd5 ct5 : Value}
    (a5 : PySem.W.nsIn K mainGlobals "law" = some (some (.ref f5)))
    (l5 : K.lookup f5 = some ⟨oc5, od5, .func (PySem.W.fnOf "law" "law" (defArgs s_law) (defBody s_law) (defScope s_law) .none kV5 dc5 pm5 an5 cd5 ct5), sl5⟩)
    (c5 : PySem.W.codeIn K cd5 "law" = true) (k5 : PySem.W.keepIn K (.ref f5) = true)
    {tk_LETTERS : Tok} (g_LETTERS : PySem.W.nsIn K mainGlobals "LETTERS" = some (some (.str letters tk_LETTERS)))
    {tk_DIGITS : Tok} (g_DIGITS : PySem.W.nsIn K mainGlobals "DIGITS" = some (some (.str digits tk_DIGITS)))
    (z_len : PySem.W.nsIn K mainGlobals "len" = some none)
    (z_range : PySem.W.nsIn K mainGlobals "range" = some none)
    (z_isinstance : PySem.W.nsIn K mainGlobals "isinstance" = some none)
    (z_max : PySem.W.nsIn K mainGlobals "max" = some none)
    (z_min : PySem.W.nsIn K mainGlobals "min" = some none)
    (z_list : PySem.W.nsIn K mainGlobals "list" = some none)
    (z_dict : PySem.W.nsIn K mainGlobals "dict" = some none)
    (z_int : PySem.W.nsIn K mainGlobals "int" = some none)
    (z_str : PySem.W.nsIn K mainGlobals "str" = some none)
    (z_bool : PySem.W.nsIn K mainGlobals "bool" = some none)
    (z_tuple : PySem.W.nsIn K mainGlobals "tuple" = some none)
    (z_sorted : PySem.W.nsIn K mainGlobals "sorted" = some none)
    (z_enumerate : PySem.W.nsIn K mainGlobals "enumerate" = some none)
    (z_repr : PySem.W.nsIn K mainGlobals "repr" = some none)
    (z_all : PySem.W.nsIn K mainGlobals "all" = some none)
    (z_any : PySem.W.nsIn K mainGlobals "any" = some none)
    (z_zip : PySem.W.nsIn K mainGlobals "zip" = some none)
    (z_set : PySem.W.nsIn K mainGlobals "set" = some none)
    (z_sum : PySem.W.nsIn K mainGlobals "sum" = some none)
    : ∃ fd : FuncData, (∀ (s : Shared) (v : Value), BindsTo s fd ⟨[v], []⟩ [("_law_script", v)]) ∧ ∀ base : Heap, K.In base → base.Ns mainGlobals mg → FnOk l.prog w K mg base CX0 LVL fa fd ["_law_script"] (sp_law K) := by
  have e := hfa.symm.trans (PySem.W.mg_of X G a5)
  cases e
  have D_is_word : Def K mg "is_word" s_is_word _ _ := ⟨fun_mk (st := s_is_word) l0 c0 k0, PySem.W.mg_of X G a0⟩
  have D_path_text : Def K mg "path_text" s_path_text _ _ := ⟨fun_mk (st := s_path_text) l1 c1 k1, PySem.W.mg_of X G a1⟩
  have D_law_cell : Def K mg "_law_cell" s_law_cell _ _ := ⟨fun_mk (st := s_law_cell) l2 c2 k2, PySem.W.mg_of X G a2⟩
  have D_law_label : Def K mg "_law_label" s_law_label _ _ := ⟨fun_mk (st := s_law_label) l3 c3 k3, PySem.W.mg_of X G a3⟩
  have D_law_step : Def K mg "_law_step" s_law_step _ _ := ⟨fun_mk (st := s_law_step) l4 c4 k4, PySem.W.mg_of X G a4⟩
  have D_law : Def K mg "law" s_law _ _ := ⟨fun_mk (st := s_law) l5 c5 k5, PySem.W.mg_of X G a5⟩
  have g_LETTERS := PySem.W.mg_of X G g_LETTERS
  have g_DIGITS := PySem.W.mg_of X G g_DIGITS
  have B : Blt mg := ⟨PySem.W.mg_none_of X G z_len, PySem.W.mg_none_of X G z_range, PySem.W.mg_none_of X G z_isinstance, PySem.W.mg_none_of X G z_max, PySem.W.mg_none_of X G z_min, PySem.W.mg_none_of X G z_list, PySem.W.mg_none_of X G z_dict, PySem.W.mg_none_of X G z_int, PySem.W.mg_none_of X G z_str, PySem.W.mg_none_of X G z_bool, PySem.W.mg_none_of X G z_tuple, PySem.W.mg_none_of X G z_sorted, PySem.W.mg_none_of X G z_enumerate, PySem.W.mg_none_of X G z_repr, PySem.W.mg_none_of X G z_all, PySem.W.mg_none_of X G z_any, PySem.W.mg_none_of X G z_zip, PySem.W.mg_none_of X G z_set, PySem.W.mg_none_of X G z_sum⟩
  refine ⟨PySem.W.fnOf "law" "law" (defArgs s_law) (defBody s_law) (defScope s_law) .none kV5 dc5 pm5 an5 cd5 ct5, fun s v => .of_eq rfl, fun base _ _ => ?_⟩
  have R_cell := D_law_cell.rdy (P := l.prog) (w := w) (base := base) (fun _ _ _ _ _ _ us hl => match us, hl with | [_, _], _ => rfl) (ok_cell D_law_cell B)
  have R_label := D_law_label.rdy (P := l.prog) (w := w) (base := base) (fun _ _ _ _ _ _ us hl => match us, hl with | [_], _ => rfl) (ok_label D_law_label B)
  have R_step := D_law_step.rdy (P := l.prog) (w := w) (base := base) (fun _ _ _ _ _ _ us hl => match us, hl with | [_], _ => rfl) (ok_step D_law_step B)
  have R_word := D_is_word.rdy (P := l.prog) (w := w) (base := base) (fun _ _ _ _ _ _ us hl => match us, hl with | [_], _ => rfl) (ok_word D_is_word B g_LETTERS g_DIGITS)
  have R_path := D_path_text.rdy (P := l.prog) (w := w) (base := base) (fun _ _ _ _ _ _ us hl => match us, hl with | [_], _ => rfl) (ok_ptext D_path_text B R_word)
  have RK_path := D_path_text.rdyK (P := l.prog) (w := w) (base := base) ["path"] (fun vs zs => vs ++ zs) vals_app (fun _ _ _ _ _ _ us ws hl => match us, ws, hl with | [], [_], _ => rfl | [_], [], _ => rfl) (ok_ptext D_path_text B R_word)
  exact ok_law D_law B R_cell R_label R_step R_path RK_path
theorem walk {l : PySem.W.OpenLaw} {q : Program} {loose : List Str} {XP : (Str → Option Value) → Heap → Prop} {YP : World → Heap → Prop} {d : DefRec} {K : Params → PySem.W.Frag} (hn : l.most = some 63) (hdf : d.params.defaults = [])
    (hY : ∀ (w : World) (h : Heap), YP w h → (K w.params).In h)
    (F : ∀ (w : World) (mg : Str → Option Value) (fa : Addr) (h : Heap), (K w.params).In h → h.Ns mainGlobals mg → mg d.name = some (.ref fa) →
      ∃ fd : FuncData, (∀ (s : Shared) (u : Value), BindsTo s fd ⟨[u], []⟩ [("_law_script", u)]) ∧ ∀ base : Heap, (K w.params).In base → base.Ns mainGlobals mg → FnOk l.prog w (K w.params) mg base CX0 LVL fa fd ["_law_script"] (sp_law (K w.params))) :
    PySem.W.WalkO q loose XP YP l.row.toRowW d [] (fun f vs => PySem.call f vs) :=
  L2.walk_of (n := 63) (k := LVL) (x := "_law_script") (CX := fun _ => CX0) (sp := fun w => sp_law (K w.params)) hn (by decide) hdf ⟨rfl, by decide, by decide⟩ hY F (fun _ _ a ns hl hO hS => ⟨a, ns, rfl, Scr.of hS hO, hl, fun _ => rfl⟩) fun _ _ _ _ _ z => z

end SC
open PySem PySem.W PyProof.Rows
set_option maxRecDepth 100000 in
set_option maxHeartbeats 0 in
theorem PySem.Challenge.cw_schemacheck_k06_texts_of_paths_holds : PySem.Challenge.rw_schemacheck_k06_texts_of_paths.Holds := by
  w_on; o_law; k_head; (case hw => w_witness2)
  k_fill
  refine SC.walk (l := PySem.Challenge.rw_schemacheck_k06_texts_of_paths) rfl rfl (fun w h Y => PySem.W.kIn_of Y) ?F
  case F =>
    intro w mg fa h KX G hmg
    refine' SC.all_mk KX G hmg ?a0 ?l0 ?c0 ?k0 ?a1 ?l1 ?c1 ?k1 ?a2 ?l2 ?c2 ?k2 ?a3 ?l3 ?c3 ?k3 ?a4 ?l4 ?c4 ?k4 ?a5 ?l5 ?c5 ?k5 ?g_LETTERS ?g_DIGITS ?z_len ?z_range ?z_isinstance ?z_max ?z_min ?z_list ?z_dict ?z_int ?z_str ?z_bool ?z_tuple ?z_sorted ?z_enumerate ?z_repr ?z_all ?z_any ?z_zip ?z_set ?z_sum
    (case a0 => k_is)
    (case l0 => k_is)
    (case c0 => k_is)
    (case k0 => k_is)
    (case a1 => k_is)
    (case l1 => k_is)
    (case c1 => k_is)
    (case k1 => k_is)
    (case a2 => k_is)
    (case l2 => k_is)
    (case c2 => k_is)
    (case k2 => k_is)
    (case a3 => k_is)
    (case l3 => k_is)
    (case c3 => k_is)
    (case k3 => k_is)
    (case a4 => k_is)
    (case l4 => k_is)
    (case c4 => k_is)
    (case k4 => k_is)
    (case a5 => k_is)
    (case l5 => k_is)
    (case c5 => k_is)
    (case k5 => k_is)
    (case g_LETTERS => k_is)
    (case g_DIGITS => k_is)
    (case z_len => k_is)
    (case z_range => k_is)
    (case z_isinstance => k_is)
    (case z_max => k_is)
    (case z_min => k_is)
    (case z_list => k_is)
    (case z_dict => k_is)
    (case z_int => k_is)
    (case z_str => k_is)
    (case z_bool => k_is)
    (case z_tuple => k_is)
    (case z_sorted => k_is)
    (case z_enumerate => k_is)
    (case z_repr => k_is)
    (case z_all => k_is)
    (case z_any => k_is)
    (case z_zip => k_is)
    (case z_set => k_is)
    (case z_sum => k_is)
#print axioms PySem.Challenge.cw_schemacheck_k06_texts_of_paths_holds
