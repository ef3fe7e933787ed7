import PyProof.Rows.All
import Wide.All
import OpenK.AllK
import Wide.FinOn
import HandS.ForMost
import HandS.IsInst
import HandS.DictComp
import HandS.Flow
import HandS.Walk
import HandS.More
import HandS.Style
import HandS.FStr
import HandS.Text
import KE.GoesEnum
import KE.KDictZip
import PyProof.ListNew
import HandS.GenList
import HandS.TupAny
import HandS.ReplaceLit
import PySem.Challenge.RW_schemacheck_k18_whole_notations_of_a_yea
set_option Elab.async false
set_option linter.all false
set_option maxRecDepth 100000
set_option maxHeartbeats 4000000
/-! Schemacheck: data as trees over the abstract heap. -/
namespace SC
open PySem L2

/-! ### pairs -/
theorem pd_len {A B : Type} {F : A → B → Prop} {xs : List A} {ys : List B} (h : Paired F xs ys) : xs.length = ys.length := by
  induction h with
  | nil => rfl
  | cons _ _ ih => simp [ih]
theorem pd_imp {A B : Type} {F G : A → B → Prop} {xs : List A} {ys : List B} (h : Paired F xs ys) (f : ∀ a b, a ∈ xs → b ∈ ys → F a b → G a b) : Paired G xs ys := by
  induction h with
  | nil => exact .nil
  | cons r _ ih => exact .cons (f _ _ (by simp) (by simp) r) (ih fun a b ha hb q => f a b (by simp [ha]) (by simp [hb]) q)
theorem pd_app {A B : Type} {F : A → B → Prop} {xs zs : List A} {ys ws : List B} (h : Paired F xs ys) (g : Paired F zs ws) : Paired F (xs ++ zs) (ys ++ ws) := by
  induction h with
  | nil => exact g
  | cons r _ ih => exact .cons r ih
theorem pd_get {A B : Type} {F : A → B → Prop} {xs : List A} {ys : List B} (h : Paired F xs ys) : ∀ {i : Nat} {x : A}, xs[i]? = some x → ∃ y, ys[i]? = some y ∧ F x y := by
  induction h with
  | nil => intro i x e; simp at e
  | cons r _ ih =>
    intro i x e
    cases i with
    | zero => simp at e; subst e; exact ⟨_, rfl, r⟩
    | succ i => simp at e; obtain ⟨y, h1, h2⟩ := ih e; exact ⟨y, by simpa using h1, h2⟩
theorem pd_memR {A B : Type} {F : A → B → Prop} {xs : List A} {ys : List B} (h : Paired F xs ys) : ∀ {y : B}, y ∈ ys → ∃ x, x ∈ xs ∧ F x y := by
  induction h with
  | nil => intro y e; simp at e
  | cons r _ ih =>
    intro y e
    rcases List.mem_cons.mp e with rfl | e
    · exact ⟨_, by simp, r⟩
    · obtain ⟨x, h1, h2⟩ := ih e; exact ⟨x, by simp [h1], h2⟩
theorem pd_eq {A B : Type} {F G : A → B → Prop} {xs : List A} {ys zs : List B} (h : Paired F xs ys) (g : Paired G xs zs) (f : ∀ a b c, b ∈ ys → c ∈ zs → F a b → G a c → b = c) : ys = zs := by
  induction h generalizing zs with
  | nil => cases g; rfl
  | cons r _ ih =>
    cases g with
    | cons r2 g2 =>
      rw [f _ _ _ (by simp) (by simp) r r2, ih g2 fun a b c hb hc => f a b c (by simp [hb]) (by simp [hc])]

/-! ### a value stands for a datum, at most n deep -/
def kD : Key → PyData
  | .inl i => .int i
  | .inr x => .str x
theorem kD_inj {a b : Key} (h : kD a = kD b) : a = b := by
  cases a <;> cases b <;> simp [kD] at h <;> simp [h]
def Rp (H : Hp) : Nat → V → PyData → Prop
  | 0, _, _ => False
  | _ + 1, v, .none => v = .non
  | _ + 1, v, .bool b => v = .bl b
  | _ + 1, v, .int i => v = .int i
  | _ + 1, v, .str x => v = .str x
  | n + 1, v, .list ds => ∃ a xs, v = .ref a ∧ H a = some (.lst xs) ∧ xs.length ≤ 10000 ∧ Paired (Rp H n) xs ds
  | n + 1, v, .tuple ds => ∃ a xs, v = .ref a ∧ H a = some (.tup xs) ∧ xs.length ≤ 10000 ∧ Paired (Rp H n) xs ds
  | n + 1, v, .dict es => ∃ a kvs, v = .ref a ∧ Rd H a (.dK kvs) ∧ kvs.length ≤ 10000 ∧ (kvs.map (·.1)).Nodup ∧ Paired (fun (p : Key × V) (q : PyData × PyData) => q.1 = kD p.1 ∧ Rp H n p.2 q.2) kvs es
theorem rd_same {H H' : Hp} {a : Addr} {u : HO} (e : Same H H') (h : Rd H a u) : Rd H' a u := by
  rcases h with h | ⟨o, h⟩
  · exact .inl (e _ _ h)
  · exact .inr ⟨o, e _ _ h⟩
/-- all is as it was, but dicts may be locked -/
def LSame (H H' : Hp) : Prop := ∀ b o, H b = some o → H' b = some o ∨ ∃ kvs od, o = .dK kvs ∧ H' b = some (.frz od (.dK kvs))
theorem LSame.of {H H' : Hp} (h : Same H H') : LSame H H' := fun b o e => .inl (h b o e)
theorem LSame.refl (H : Hp) : LSame H H := fun b o e => .inl e
theorem LSame.trans {H H1 H2 : Hp} (a : LSame H H1) (b : LSame H1 H2) : LSame H H2 := fun c o e => by
  rcases a c o e with h | ⟨kvs, od, h1, h2⟩
  · exact b c o h
  · rcases b c _ h2 with h | ⟨_, _, h3, _⟩
    · exact .inr ⟨kvs, od, h1, h⟩
    · cases h3
theorem LSame.lst {H H' : Hp} {a : Addr} {xs : List V} (h : LSame H H') (e : H a = some (.lst xs)) : H' a = some (.lst xs) := by
  rcases h a _ e with q | ⟨_, _, q, _⟩
  · exact q
  · cases q
theorem LSame.tup {H H' : Hp} {a : Addr} {xs : List V} (h : LSame H H') (e : H a = some (.tup xs)) : H' a = some (.tup xs) := by
  rcases h a _ e with q | ⟨_, _, q, _⟩
  · exact q
  · cases q
theorem LSame.rdk {H H' : Hp} {a : Addr} {kvs : List (Key × V)} (h : LSame H H') (e : Rd H a (.dK kvs)) : Rd H' a (.dK kvs) := by
  rcases e with e | ⟨od, e⟩
  · rcases h a _ e with q | ⟨k2, od, q, q2⟩
    · exact .inl q
    · cases q; exact .inr ⟨od, q2⟩
  · rcases h a _ e with q | ⟨_, _, q, _⟩
    · exact .inr ⟨od, q⟩
    · cases q
theorem Rp.imp {H H' : Hp} : ∀ {n : Nat} {v : V} {d : PyData}, Same H H' → Rp H n v d → Rp H' n v d
  | 0, _, _, _, h => h
  | n + 1, v, .none, _, h => h
  | n + 1, v, .bool _, _, h => h
  | n + 1, v, .int _, _, h => h
  | n + 1, v, .str _, _, h => h
  | n + 1, v, .list ds, e, ⟨a, xs, h1, h2, hb, h3⟩ => ⟨a, xs, h1, e _ _ h2, hb, pd_imp h3 fun _ _ _ _ q => Rp.imp e q⟩
  | n + 1, v, .tuple ds, e, ⟨a, xs, h1, h2, hb, h3⟩ => ⟨a, xs, h1, e _ _ h2, hb, pd_imp h3 fun _ _ _ _ q => Rp.imp e q⟩
  | n + 1, v, .dict es, e, ⟨a, xs, h1, h2, hb, hn, h3⟩ => ⟨a, xs, h1, rd_same e h2, hb, hn, pd_imp h3 fun _ _ _ _ q => ⟨q.1, Rp.imp e q.2⟩⟩
theorem Rp.up1 {H : Hp} : ∀ {n : Nat} {v : V} {d : PyData}, Rp H n v d → Rp H (n + 1) v d
  | 0, _, _, h => h.elim
  | n + 1, v, .none, h => h
  | n + 1, v, .bool _, h => h
  | n + 1, v, .int _, h => h
  | n + 1, v, .str _, h => h
  | n + 1, v, .list ds, ⟨a, xs, h1, h2, hb, h3⟩ => ⟨a, xs, h1, h2, hb, pd_imp h3 fun _ _ _ _ q => Rp.up1 q⟩
  | n + 1, v, .tuple ds, ⟨a, xs, h1, h2, hb, h3⟩ => ⟨a, xs, h1, h2, hb, pd_imp h3 fun _ _ _ _ q => Rp.up1 q⟩
  | n + 1, v, .dict es, ⟨a, xs, h1, h2, hb, hn, h3⟩ => ⟨a, xs, h1, h2, hb, hn, pd_imp h3 fun _ _ _ _ q => ⟨q.1, Rp.up1 q.2⟩⟩
theorem Rp.up {H : Hp} {n m : Nat} {v : V} {d : PyData} (h : Rp H n v d) (hl : n ≤ m) : Rp H m v d := by
  induction hl with
  | refl => exact h
  | step _ ih => exact ih.up1
theorem Rp.pos {H : Hp} {n : Nat} {v : V} {d : PyData} (h : Rp H n v d) : 0 < n := by
  cases n with
  | zero => exact h.elim
  | succ n => omega
theorem Rp.lk {H H' : Hp} : ∀ {n : Nat} {v : V} {d : PyData}, LSame H H' → Rp H n v d → Rp H' n v d
  | 0, _, _, _, h => h
  | n + 1, v, .none, _, h => h
  | n + 1, v, .bool _, _, h => h
  | n + 1, v, .int _, _, h => h
  | n + 1, v, .str _, _, h => h
  | n + 1, v, .list ds, e, ⟨a, xs, h1, h2, hb, h3⟩ => ⟨a, xs, h1, e.lst h2, hb, pd_imp h3 fun _ _ _ _ q => Rp.lk e q⟩
  | n + 1, v, .tuple ds, e, ⟨a, xs, h1, h2, hb, h3⟩ => ⟨a, xs, h1, e.tup h2, hb, pd_imp h3 fun _ _ _ _ q => Rp.lk e q⟩
  | n + 1, v, .dict es, e, ⟨a, xs, h1, h2, hb, hn, h3⟩ => ⟨a, xs, h1, e.rdk h2, hb, hn, pd_imp h3 fun _ _ _ _ q => ⟨q.1, Rp.lk e q.2⟩⟩
/-- a value stands for one datum alone -/
theorem rd_one {H : Hp} {a : Addr} {x y : List (Key × V)} (h : Rd H a (.dK x)) (g : Rd H a (.dK y)) : x = y := by
  rcases h with h | ⟨o, h⟩ <;> rcases g with g | ⟨u, g⟩ <;> rw [h] at g <;> cases g <;> rfl
theorem Rp.one {H : Hp} : ∀ {n m : Nat} {v : V} {d e : PyData}, Rp H n v d → Rp H m v e → d = e
  | 0, _, _, _, _, h, _ => h.elim
  | _, 0, _, _, _, _, h => h.elim
  | n + 1, m + 1, v, .none, e, h, g => by
    cases h
    cases e <;> simp [Rp] at g <;> rfl
  | n + 1, m + 1, v, .bool b, e, h, g => by
    cases h
    cases e <;> simp [Rp] at g
    subst g; rfl
  | n + 1, m + 1, v, .int b, e, h, g => by
    cases h
    cases e <;> simp [Rp] at g
    subst g; rfl
  | n + 1, m + 1, v, .str b, e, h, g => by
    cases h
    cases e <;> simp [Rp] at g
    subst g; rfl
  | n + 1, m + 1, v, .list ds, e, ⟨a, xs, h1, h2, hb, h3⟩, g => by
    subst h1
    cases e <;> simp [Rp] at g
    · obtain ⟨ys, g2, gb, g3⟩ := g
      rw [h2] at g2; cases g2
      rw [pd_eq h3 g3 fun _ _ _ _ _ p q => Rp.one p q]
    · rw [h2] at g; simp at g
    · obtain ⟨ys, g2, _⟩ := g
      rcases g2 with g2 | ⟨_, g2⟩ <;> rw [h2] at g2 <;> cases g2
  | n + 1, m + 1, v, .tuple ds, e, ⟨a, xs, h1, h2, hb, h3⟩, g => by
    subst h1
    cases e <;> simp [Rp] at g
    · rw [h2] at g; simp at g
    · obtain ⟨ys, g2, gb, g3⟩ := g
      rw [h2] at g2; cases g2
      rw [pd_eq h3 g3 fun _ _ _ _ _ p q => Rp.one p q]
    · obtain ⟨ys, g2, _⟩ := g
      rcases g2 with g2 | ⟨_, g2⟩ <;> rw [h2] at g2 <;> cases g2
  | n + 1, m + 1, v, .dict es, e, ⟨a, xs, h1, h2, hb, hn, h3⟩, g => by
    subst h1
    cases e <;> simp [Rp] at g
    · obtain ⟨ys, g2, _⟩ := g
      rcases h2 with h2 | ⟨_, h2⟩ <;> rw [h2] at g2 <;> cases g2
    · obtain ⟨ys, g2, _⟩ := g
      rcases h2 with h2 | ⟨_, h2⟩ <;> rw [h2] at g2 <;> cases g2
    · obtain ⟨ys, g2, gb, gn, g3⟩ := g
      cases rd_one h2 g2
      rw [pd_eq h3 g3 fun x b c _ _ p q => by
        obtain ⟨b1, b2⟩ := b
        obtain ⟨c1, c2⟩ := c
        obtain ⟨p1, p2⟩ := p
        obtain ⟨q1, q2⟩ := q
        simp at p1 q1 p2 q2
        rw [p1, q1, Rp.one p2 q2]]
/-- without the place a -/
def del (H : Hp) (a : Addr) : Hp := fun b => if b = a then none else H b
theorem del_ne {H : Hp} {a b : Addr} (h : b ≠ a) : del H a b = H b := if_neg h
theorem del_at {H : Hp} {a : Addr} : del H a a = none := if_pos rfl
theorem del_sub (H : Hp) (a : Addr) : Same (del H a) H := fun b o e => by
  by_cases hb : b = a
  · subst hb; rw [del_at] at e; cases e
  · rw [del_ne hb] at e; exact e
theorem rd_del {H : Hp} {a b : Addr} {u : HO} (hb : b ≠ a) (h : Rd H b u) : Rd (del H a) b u := by
  rcases h with h | ⟨o, h⟩
  · exact .inl (by rw [del_ne hb]; exact h)
  · exact .inr ⟨o, by rw [del_ne hb]; exact h⟩
/-- a smaller datum does not hold a greater one -/
theorem Rp.del {H : Hp} {a : Addr} {m : Nat} {D : PyData} (hD : Rp H m (.ref a) D) : ∀ {n : Nat} {v : V} {d : PyData}, sizeOf d < sizeOf D → Rp H n v d → Rp (del H a) n v d
  | 0, _, _, _, h => h
  | n + 1, v, .none, _, h => h
  | n + 1, v, .bool _, _, h => h
  | n + 1, v, .int _, _, h => h
  | n + 1, v, .str _, _, h => h
  | n + 1, v, .list ds, hs, h => by
    obtain ⟨b, xs, h1, h2, hl, h3⟩ := id h
    have hb : b ≠ a := by
      rintro rfl
      subst h1
      rw [Rp.one h hD] at hs
      exact absurd hs (Nat.lt_irrefl _)
    refine ⟨b, xs, h1, by rw [del_ne hb]; exact h2, hl, pd_imp h3 fun x d _ hd q => Rp.del hD ?_ q⟩
    have := List.sizeOf_lt_of_mem hd
    simp at hs
    omega
  | n + 1, v, .tuple ds, hs, h => by
    obtain ⟨b, xs, h1, h2, hl, h3⟩ := id h
    have hb : b ≠ a := by
      rintro rfl
      subst h1
      rw [Rp.one h hD] at hs
      exact absurd hs (Nat.lt_irrefl _)
    refine ⟨b, xs, h1, by rw [del_ne hb]; exact h2, hl, pd_imp h3 fun x d _ hd q => Rp.del hD ?_ q⟩
    have := List.sizeOf_lt_of_mem hd
    simp at hs
    omega
  | n + 1, v, .dict es, hs, h => by
    obtain ⟨b, xs, h1, h2, hl, hn, h3⟩ := id h
    have hb : b ≠ a := by
      rintro rfl
      subst h1
      rw [Rp.one h hD] at hs
      exact absurd hs (Nat.lt_irrefl _)
    refine ⟨b, xs, h1, rd_del hb h2, hl, hn, pd_imp h3 fun x d _ hd q => ⟨q.1, Rp.del hD ?_ q.2⟩⟩
    have h4 := List.sizeOf_lt_of_mem hd
    obtain ⟨d1, d2⟩ := d
    simp at hs h4
    show sizeOf d2 < _
    omega
/-- nothing is locked -/
def NoFrz (G : Hp) : Prop := ∀ a o u, G a ≠ some (.frz o u)
theorem NoFrz.rd {G : Hp} {a : Addr} {u : HO} (h : NoFrz G) (r : Rd G a u) : G a = some u := by
  rcases r with r | ⟨o, r⟩
  · exact r
  · exact absurd r (h a o u)
theorem NoFrz.del {G : Hp} (h : NoFrz G) (a : Addr) : NoFrz (del G a) := fun b o u e => h b o u (del_sub G a b _ e)
theorem size_kv {es : List (PyData × PyData)} {q : PyData × PyData} (h : q ∈ es) : sizeOf q.2 < sizeOf (PyData.dict es) := by
  have h4 := List.sizeOf_lt_of_mem h
  obtain ⟨d1, d2⟩ := q
  simp at h4
  show sizeOf d2 < _
  simp
  omega
theorem size_item {ds : List PyData} {d : PyData} (h : d ∈ ds) : sizeOf d < sizeOf (PyData.list ds) := by
  have h4 := List.sizeOf_lt_of_mem h
  simp
  omega

/-! ### heaps: all as before, but for some places -/
def Keep (S : List Addr) (H H' : Hp) : Prop := ∀ b o, H b = some o → b ∉ S → H' b = some o
theorem Keep.refl (S : List Addr) (H : Hp) : Keep S H H := fun _ _ h _ => h
theorem Keep.trans {S : List Addr} {H H1 H2 : Hp} (a : Keep S H H1) (b : Keep S H1 H2) : Keep S H H2 := fun c o h n => b c o (a c o h n) n
theorem Keep.sub {S T : List Addr} {H H' : Hp} (a : Keep S H H') (h : ∀ b ∈ S, b ∈ T) : Keep T H H' := fun c o e n => a c o e fun z => n (h c z)
theorem Keep.of {S : List Addr} {H H' : Hp} (a : Same H H') : Keep S H H' := fun c o e _ => a c o e
theorem Keep.same {H H' : Hp} (a : Keep [] H H') : Same H H' := fun c o e => a c o e (by simp)
theorem Keep.new {S : List Addr} {H H' : Hp} {p : Addr} {o : HO} (a : Keep S H H') (h : H' p = none) : Keep S H (upd H' p o) := fun c u e n => by
  rw [upd_ne (ne_of_none (a c u e n) h)]
  exact a c u e n
theorem Keep.mut {S : List Addr} {H H' : Hp} {p : Addr} {o : HO} (a : Keep S H H') (h : p ∈ S) : Keep S H (upd H' p o) := fun c u e n => by
  have hc : c ≠ p := fun z => n (by rw [z]; exact h)
  rw [upd_ne hc]
  exact a c u e n
theorem Keep.fresh {S : List Addr} {H H' : Hp} {p : Addr} {o : HO} (a : Keep S H H') (h : H p = none) : Keep S H (upd H' p o) := fun c u e n => by
  rw [upd_ne (ne_of_none e h)]
  exact a c u e n
theorem Keep.free {S : List Addr} {H H' : Hp} {p : Addr} (a : Keep S H H') (h : H' p = none) (n : p ∉ S) : H p = none := by
  cases e : H p with
  | none => rfl
  | some o =>
    rw [a p o e n] at h
    cases h
theorem same_new {H : Hp} {p : Addr} (h : H p = none) (o : HO) : Same H (upd H p o) := fun b u q => by rw [upd_ne (ne_of_none q h)]; exact q
theorem same_mut {H H' : Hp} {p : Addr} {o : HO} (a : Same H H') (h : H p = none) : Same H (upd H' p o) := fun c u e => by
  rw [upd_ne (ne_of_none e h)]
  exact a c u e
/-- what is new in H' -/
def news (H H' : Hp) : Hp := fun a => match H a with
  | some _ => none
  | none => H' a
theorem news_sub (H H' : Hp) : Same (news H H') H' := fun b o e => by
  unfold news at e
  split at e
  · cases e
  · exact e
theorem news_no {H H' : Hp} {a : Addr} {o : HO} (h : H a = some o) : news H H' a = none := by
  unfold news; rw [h]
theorem news_at {H H' : Hp} {a : Addr} (h : H a = none) : news H H' a = H' a := by
  unfold news; rw [h]
/-- a later heap that keeps all that H1 has outside S, S known in H -/
theorem news_mono {S : List Addr} {H H1 H2 : Hp} (k : Keep S H1 H2) (hs : ∀ a ∈ S, H a ≠ none) : Same (news H H1) (news H H2) := fun b o e => by
  unfold news at e ⊢
  split at e
  · cases e
  · rename_i hb
    exact k b o e fun z => hs b z hb
/-- newer than H1 is newer than H -/
theorem news_more {S : List Addr} {H H1 H2 : Hp} (k : Keep S H H1) (hs : ∀ a ∈ S, H1 a ≠ none) : Same (news H1 H2) (news H H2) := fun b o e => by
  unfold news at e ⊢
  split at e
  · cases e
  · rename_i hb
    split
    · rename_i u hu
      by_cases hz : b ∈ S
      · exact absurd hb (hs b hz)
      · rw [k b _ hu hz] at hb; cases hb
    · exact e

/-- a turn of a loop that makes new data and stores at D -/
theorem grow {S : List Addr} {Hx H1 H4 : Hp} {D : Addr} {o : HO} (k1 : Keep S Hx H1) (k2 : Keep S H1 H4) (hx : ∀ a ∈ S, Hx a ≠ none) (h1 : ∀ a ∈ S, H1 a ≠ none) (hD : D ∈ S) :
    Same (news Hx H1) (news Hx (upd H4 D o)) ∧ Same (news H1 H4) (news Hx (upd H4 D o)) :=
  ⟨news_mono (k2.mut hD) hx, (news_more k1 h1).trans (news_mono (S := S) ((Keep.refl _ _).mut hD) hx)⟩

/-! ### the script, read and never written -/
def Scr (K : PySem.W.Frag) (H : Hp) (a : Addr) (ns : List Int) : Prop := (∃ ob, H a = some (.frz ob (.lst (ns.map V.int)))) ∨ ∀ H' : Hp, SqL K H' a (ns.map V.int)
theorem Scr.of {K : PySem.W.Frag} {H : Hp} {a : Addr} {ns : List Int} (h : SqL K H a (ns.map V.int)) (hO : Only H) : Scr K H a ns := by
  rcases h with (h | ⟨o, h⟩) | h
  · rcases hO a with z | ⟨ob, xs, z⟩
    · rw [z] at h; cases h
    · rw [z] at h; cases h
  · exact .inl ⟨o, h⟩
  · exact .inr fun _ => .inr h
theorem Scr.sq {K : PySem.W.Frag} {H : Hp} {a : Addr} {ns : List Int} (h : Scr K H a ns) : SqL K H a (ns.map V.int) := by
  rcases h with ⟨o, h⟩ | h
  · exact .inl (.inr ⟨o, h⟩)
  · exact h H
theorem Scr.keep {K : PySem.W.Frag} {S : List Addr} {H H' : Hp} {a : Addr} {ns : List Int} (h : Scr K H a ns) (k : Keep S H H') (n : ∀ b ∈ S, ∀ ob u, H b ≠ some (.frz ob u)) : Scr K H' a ns := by
  rcases h with ⟨o, h⟩ | h
  · refine .inl ⟨o, k _ _ h fun z => ?_⟩
    exact n a z _ _ h
  · exact .inr h
theorem Scr.same {K : PySem.W.Frag} {H H' : Hp} {a : Addr} {ns : List Int} (h : Scr K H a ns) (k : Same H H') : Scr K H' a ns := by
  rcases h with ⟨o, h⟩ | h
  · exact .inl ⟨o, k _ _ h⟩
  · exact .inr h
theorem Scr.put {K : PySem.W.Frag} {H : Hp} {a b : Addr} {ns : List Int} {xs : List V} {o : HO} (h : Scr K H a ns) (e : H b = some (.lst xs)) : Scr K (upd H b o) a ns := by
  rcases h with ⟨u, h⟩ | h
  · refine .inl ⟨u, ?_⟩
    rw [upd_ne (ne_of h e (by intro z; cases z))]
    exact h
  · exact .inr h
end SC

set_option Elab.async false
set_option linter.all false
set_option maxRecDepth 100000
set_option maxHeartbeats 4000000
/-! Schemacheck: defs that are ready to be called, built-ins, kinds of values. -/
namespace SC
open PySem L2

/-! ### a def that may be called -/
def Rdy (P : Program) (w : World) (K : PySem.W.Frag) (mg : Str → Option Value) (base : Heap) (k : Nat) (x : Str) (ps : List Str) (sp : Sp) : Prop :=
  ∃ f fd, FnOk P w K mg base CX0 k f fd ps sp ∧ mg x = some (.ref f) ∧ PySem.W.keepIn K (.ref f) = true ∧ Binds K fd ps []
/-- and with keywords ks: gV puts the positional values and the keywords' values in order -/
def RdyK (P : Program) (w : World) (K : PySem.W.Frag) (mg : Str → Option Value) (base : Heap) (k : Nat) (x : Str) (ps ks : List Str) (gV : List V → List V → List V) (sp : Sp) : Prop :=
  ∃ f fd g, FnOk P w K mg base CX0 k f fd ps sp ∧ mg x = some (.ref f) ∧ PySem.W.keepIn K (.ref f) = true ∧ KBinds K fd ps ks g gV
theorem Rdy.mono {P : Program} {w : World} {K : PySem.W.Frag} {mg : Str → Option Value} {base : Heap} {j k : Nat} {x : Str} {ps : List Str} {sp : Sp} (h : Rdy P w K mg base j x ps sp) (l : j ≤ k) : Rdy P w K mg base k x ps sp := by
  obtain ⟨f, fd, h1, h2⟩ := h
  exact ⟨f, fd, h1.mono l, h2⟩
section
variable {X : Cx} {k : Nat} {x : Str} {ps ks : List Str} {sp : Sp} {p pos : Pos} {e : Expr} {es : List Expr} {kws : List Keyword} {t tk : TA} {gV : List V → List V → List V}
theorem pe_c (R : Rdy X.prog X.w X.K X.mg X.base k x ps sp) (hr : Room k X.A) (hg : Gl X x) (ha : PA X (e :: es) t) (hdb : (x == ("__debug__" : Str)) = false := by decide)
    (he : starEach (e :: es) X.env = (false, eval e X.env) :: starEach es X.env := by rfl) (hpl : (backTo pos (starEach es X.env)).any (·.1) = false := by rfl) : PE X (.Call (.Name x p) (e :: es) [] pos) (tCall sp [] E0 t) := by
  obtain ⟨f, fd, h1, h2, h3, h4⟩ := R
  exact pe_call h1 hr hg h2 h3 h4 .nil pass0 ha hdb he hpl
theorem pe_c0 (R : Rdy X.prog X.w X.K X.mg X.base k x ps sp) (hr : Room k X.A) (hg : Gl X x) (hdb : (x == ("__debug__" : Str)) = false := by decide) : PE X (.Call (.Name x p) [] [] pos) (tCall sp [] E0 tNil) := by
  obtain ⟨f, fd, h1, h2, h3, h4⟩ := R
  exact pe_call0 h1 hr hg h2 h3 h4 .nil pass0 hdb
theorem pe_ck (_R : Rdy X.prog X.w X.K X.mg X.base k x ps sp) (hr : Room k X.A) (hg : Gl X x) (R : RdyK X.prog X.w X.K X.mg X.base k x ps ks gV sp) (ha : PA X (e :: es) t) (hkw : PK X kws tk)
    (hall : (backToKw pos (keywordEach kws X.env)).all (·.1.isSome) = true := by rfl) (hks : (backToKw pos (keywordEach kws X.env)).filterMap (·.1) = ks := by rfl) (hdb : (x == ("__debug__" : Str)) = false := by decide)
    (he : starEach (e :: es) X.env = (false, eval e X.env) :: starEach es X.env := by rfl) (hpl : ((backTo pos (starEach (e :: es) X.env)).any (·.1) || (backToKw pos (keywordEach kws X.env)).any (·.1.isNone)) = false := by rfl) :
    PE X (.Call (.Name x p) (e :: es) kws pos) (tCallK sp gV E0 t tk) := by
  obtain ⟨f, fd, g, h1, h2, h3, h4⟩ := R
  exact pe_callK h1 hr hg h2 h3 h4 pass0 ha hkw hall hks hdb he hpl
/-- only keywords -/
theorem pe_ck0 (_R : Rdy X.prog X.w X.K X.mg X.base k x ps sp) (hr : Room k X.A) (hg : Gl X x) (R : RdyK X.prog X.w X.K X.mg X.base k x ps ks gV sp) (hkw : PK X kws tk)
    (hall : (backToKw pos (keywordEach kws X.env)).all (·.1.isSome) = true := by rfl) (hks : (backToKw pos (keywordEach kws X.env)).filterMap (·.1) = ks := by rfl) (hdb : (x == ("__debug__" : Str)) = false := by decide)
    (hpl : ((backTo pos (starEach [] X.env)).any (·.1) || (backToKw pos (keywordEach kws X.env)).any (·.1.isNone)) = false := by rfl) :
    PE X (.Call (.Name x p) [] kws pos) (tCallK sp gV E0 tNil tk) := by
  obtain ⟨f, fd, g, h1, h2, h3, h4⟩ := R
  constructor
  intro pins s σ H Q I h
  apply wpAny_Call_Name_kw
  apply ld_glob I hg h2 _ hdb
  apply PySem.W.callWith_KW0 (h₀ := X.base) I.ok.mod.kin h3 hall _ hpl
  apply thn (hkw.run pos pins s σ H _ I h)
  rintro ws s2 ⟨zs, H2, I2, rz, q2⟩
  constructor
  · exact I2.kIn
  · rw [hks]
    exact run_fnk (us := []) (vs := []) h1 hr h4 pass0 I2 .nil rz q2
end
/-- the def st stands at the name x, with parameters ps -/
def Def (K : PySem.W.Frag) (mg : Str → Option Value) (x : Str) (st : Stmt) (f : Addr) (fd : FuncData) : Prop := Fun K x x st f fd ∧ mg x = some (.ref f)
theorem Def.rdy {P : Program} {w : World} {K : PySem.W.Frag} {mg : Str → Option Value} {base : Heap} {k : Nat} {x : Str} {st : Stmt} {f : Addr} {fd : FuncData} {ps : List Str} {sp : Sp} (D : Def K mg x st f fd)
    (b : ∀ (kV doc pm : Value) (an : Option Addr) (cdv ct : Value) (us : List Value), us.length = ps.length → bindArgs (PySem.W.fnOf x x (defArgs st) (defBody st) (defScope st) .none kV doc pm an cdv ct) ⟨us, []⟩ = pure (ps.zip us))
    (h : FnOk P w K mg base CX0 k f fd ps sp) : Rdy P w K mg base k x ps sp := ⟨f, fd, h, D.2, D.1.kp, D.1.binds b⟩
theorem Def.rdyK {P : Program} {w : World} {K : PySem.W.Frag} {mg : Str → Option Value} {base : Heap} {k : Nat} {x : Str} {st : Stmt} {f : Addr} {fd : FuncData} {ps : List Str} {sp : Sp} (D : Def K mg x st f fd) (ks : List Str) (g : {α : Type} → List α → List α → List α)
    (hrel : ∀ {vs zs : List V} {us ws : List Value}, Vals vs us → Vals zs ws → Vals (g vs zs) (g us ws))
    (b : ∀ (kV doc pm : Value) (an : Option Addr) (cdv ct : Value) (us ws : List Value), (g us ws).length = ps.length → bindArgs (PySem.W.fnOf x x (defArgs st) (defBody st) (defScope st) .none kV doc pm an cdv ct) ⟨us, ks.zip ws⟩ = pure (ps.zip (g us ws)))
    (h : FnOk P w K mg base CX0 k f fd ps sp) : RdyK P w K mg base k x ps ks (fun vs zs => g vs zs) sp := by
  obtain ⟨oc, od, kV, doc, pm, an, cdv, ct, osl, rfl, lk, hcd⟩ := D.1.ex
  exact ⟨f, _, fun us ws => g us ws, h, D.2, D.1.kp, ⟨fun s us ws _ hl => .of_eq (b kV doc pm an cdv ct us ws hl), hrel⟩⟩

theorem vals_app : ∀ {vs zs : List V} {us ws : List Value}, Vals vs us → Vals zs ws → Vals (vs ++ zs) (us ++ ws) := fun a b => a.append b
/-! ### built-ins that the module has not named otherwise -/
structure Blt (mg : Str → Option Value) : Prop where
  b_len : mg "len" = none
  b_range : mg "range" = none
  b_isinstance : mg "isinstance" = none
  b_max : mg "max" = none
  b_min : mg "min" = none
  b_list : mg "list" = none
  b_dict : mg "dict" = none
  b_int : mg "int" = none
  b_str : mg "str" = none
  b_bool : mg "bool" = none
  b_tuple : mg "tuple" = none
  b_sorted : mg "sorted" = none
  b_enumerate : mg "enumerate" = none
  b_repr : mg "repr" = none
  b_all : mg "all" = none
  b_any : mg "any" = none
  b_zip : mg "zip" = none
  b_set : mg "set" = none
  b_sum : mg "sum" = none

/-! ### text * number -/
theorem op_mul_str {X : Cx} : OpR X (binaryOp .Mult) (fun x y H Q => ∃ z n, x = .str z ∧ y = .int n ∧ MulOk z n ∧ Q (.str (Txt.mul z n)) H) := by
  intro pins s σ H x y v u Q I rx ry h
  obtain ⟨z, n, rfl, rfl, hk, q⟩ := h
  obtain ⟨t, rfl⟩ := rx
  obtain ⟨t2, rfl⟩ := ry
  exact SB.mul hk fun a b => ⟨.str (Txt.mul z n), H, I.tok _, ⟨_, rfl⟩, q⟩

/-! ### isinstance of a datum -/
inductive Ty where
  | bool | int | str | list | tuple | dict
def Ty.nm : Ty → String
  | .bool => "bool"
  | .int => "int"
  | .str => "str"
  | .list => "list"
  | .tuple => "tuple"
  | .dict => "dict"
def isT : Ty → PyData → Bool
  | .bool, .bool _ => true
  | .int, .bool _ => true
  | .int, .int _ => true
  | .str, .str _ => true
  | .list, .list _ => true
  | .tuple, .tuple _ => true
  | .dict, .dict _ => true
  | _, _ => false
def tyD : PyData → String
  | .none => "NoneType"
  | .bool _ => "bool"
  | .int _ => "int"
  | .str _ => "str"
  | .list _ => "list"
  | .tuple _ => "tuple"
  | .dict _ => "dict"
theorem Rp.ty {K : PySem.W.Frag} {H : Hp} {n : Nat} {v : V} : ∀ {d : PyData}, Rp H n v d → TyX K H v (.type (tyD d)) := by
  intro d h
  cases n with
  | zero => exact h.elim
  | succ n =>
    cases d with
    | none => cases h; exact .base .non
    | bool b => cases h; exact .base (.bl b)
    | int i => cases h; exact .base (.int i)
    | str x => cases h; exact .base (.str x)
    | list ds => obtain ⟨a, xs, rfl, h2, _⟩ := h; exact .base (.lst h2)
    | tuple ds => obtain ⟨a, xs, rfl, h2, _⟩ := h; exact .base (.tup h2)
    | dict ds =>
      obtain ⟨a, xs, rfl, h2 | ⟨od, h2⟩, _⟩ := h
      · exact .base (.dK h2)
      · exact .fDict h2
theorem kit_isT (T : Ty) (d : PyData) : kitB (tyD d) T.nm = some (isT T d) := by
  cases T <;> cases d <;> (show kitB _ _ = some _; simp only [tyD, isT, Ty.nm]; decide +kernel)
theorem isi1 {K : PySem.W.Frag} {H : Hp} {n : Nat} {v : V} {d : PyData} (T : Ty) {Q : VK} (h : Rp H n v d) (q : Q (.bl (isT T d)) H) : rIsi K [v, .ty T.nm] H Q :=
  ⟨v, .ty T.nm, _, _, isT T d, rfl, .ty T.nm, h.ty, kit_ty (kit_isT T d), q⟩
theorem isi2 {K : PySem.W.Frag} {H : Hp} {n : Nat} {v : V} {d : PyData} {p : Addr} (T U : Ty) {Q : VK} (h : Rp H n v d) (hp : H p = some (.tup [.ty T.nm, .ty U.nm])) (q : Q (.bl (isT T d || isT U d)) H) : rIsiT K [v, .ref p] H Q := by
  refine ⟨v, p, _, _, [.type T.nm, .type U.nm], isT T d || isT U d, rfl, hp, .cons (.ty _) (.cons (.ty _) .nil), h.ty, ?_, q⟩
  refine kitAny_cons (b := isT T d) (kit_ty (kit_isT T d)) (fun e => ?_) (fun e => by rw [e]; rfl)
  rw [e, Bool.false_or]
  exact kitAny_cons (b := isT U d) (kit_ty (kit_isT U d)) (fun e => by rw [e]; exact kitAny_nil) (fun e => e)
end SC

set_option Elab.async false
set_option linter.all false
set_option maxRecDepth 100000
set_option maxHeartbeats 4000000
/-! Schemacheck: loops and comprehensions, read once more. -/
namespace SC
open PySem L2

/-- a for whose walk has begun -/
def FoR (J : It) (g : TG) (tb : TS) (D : Ends) (σ : St) (H : Hp) : Prop := tFor (fun _ G R => R J G) g tb D σ H
theorem tFor_eq (wi : TI) (g : TG) (tb : TS) (D : Ends) (σ : St) (H : Hp) : tFor wi g tb D σ H = wi σ H fun J H1 => FoR J g tb D σ H1 := rfl
/-- a comprehension whose walk has begun -/
def LcR (J : It) (g : TG) (tt : TT) (te : TE) (vs : List Nat) (σ : St) (H : Hp) (Q : VK) : Prop := tLc (fun _ G R => R J G) g tt te vs σ H Q
theorem tLc_eq (wi : TI) (g : TG) (tt : TT) (te : TE) (vs : List Nat) (σ : St) (H : Hp) (Q : VK) : tLc wi g tt te vs σ H Q = wi σ H fun J H1 => LcR J g tt te vs σ H1 Q := rfl
def DcR (J : It) (g : TG) (tt : TT) (tk tv : TE) (vs : List Nat) (σ : St) (H : Hp) (Q : VK) : Prop := tDc (fun _ G R => R J G) g tt tk tv vs σ H Q
theorem tDc_eq (wi : TI) (g : TG) (tt : TT) (tk tv : TE) (vs : List Nat) (σ : St) (H : Hp) (Q : VK) : tDc wi g tt tk tv vs σ H Q = wi σ H fun J H1 => DcR J g tt tk tv vs σ H1 Q := rfl
section
variable {J : It} {n : Nat} {G : Hp → Prop} {Y : Nat → Hp → V → Hp → Prop}
theorem fo_it (w : Walk J n G Y) {g : TG} {tb : TS} {D : Ends} {σ : St} {H : Hp} (Pv : Nat → St → Hp → Prop) (h0 : Pv 0 σ H) (hG : ∀ i σ H, i ≤ n → Pv i σ H → G H)
    (hs : ∀ i x σ H H', i < n → Pv i σ H → Y i H x H' → g x σ H' fun σ2 H2 => tb { nx := Pv (i + 1), rt := D.rt, bk := D.nx, ct := Pv (i + 1) } σ2 H2) (hd : ∀ σ H, Pv n σ H → D.nx σ H) : FoR J g tb D σ H :=
  for_it w Pv h0 hG hs hd
theorem lc_itR (w : Walk J n G Y) {g : TG} {tt : TT} {te : TE} {vs : List Nat} {σ : St} {H1 : Hp} {Q : VK} (Pv : Addr → Nat → Hp → Prop) (h0 : ∀ D, H1 D = none → Pv D 0 (upd H1 D (.lst []))) (hG : ∀ D i H, H1 D = none → i ≤ n → Pv D i H → G H)
    (hs : ∀ D i x H H', H1 D = none → i < n → Pv D i H → Y i H x H' → g x (wipe σ vs) H' fun σ2 H2 => wipe σ2 vs = wipe σ vs ∧ tt σ2 H2 fun b H3 =>
      if b = true then te σ2 H3 fun y H4 => ∃ acc, H4 D = some (.lst acc) ∧ acc.length < sizeLine ∧ Pv D (i + 1) (upd H4 D (.lst (acc ++ [y]))) else Pv D (i + 1) H3)
    (hd : ∀ D H, H1 D = none → Pv D n H → Q (.ref D) H) : LcR J g tt te vs σ H1 Q := fun D hD =>
  lc_it w (Pv D) (h0 D hD) (fun i H => hG D i H hD) (fun i x H H' => hs D i x H H' hD) fun H => hd D H hD
theorem wipe1 {σ : St} {j : Nat} {x : Option V} : wipe ((wipe σ [j]).set j x) [j] = wipe σ [j] := by
  show ((σ.set j none).set j x).set j none = σ.set j none
  rw [List.set_set, List.set_set]
/-- [e for x in ..], each e a value known ahead, the heap only grows -/
theorem lcP_map (w : Walk J n G Y) (X : Nat → V → Prop) (hX : ∀ i H x H', Y i H x H' → H' = H ∧ X i x) {te : TE} {j : Nat} {σ : St} {H1 : Hp} {Q : VK} (hG : ∀ H', Same H1 H' → G H') (ys : List V) (hl : ys.length = n) (hz : n ≤ 100000)
    (step : ∀ i x y H' (N : VK), X i x → ys[i]? = some y → Same H1 H' → (∀ H4, Same H' H4 → N y H4) → te ((wipe σ [j]).set j (some x)) H' N)
    (done : ∀ D H', H1 D = none → Same H1 H' → H' D = some (.lst ys) → Q (.ref D) H') : LcR J (gName j) tYes te [j] σ H1 Q := by
  refine lc_itR w (fun D i H' => Same H1 H' ∧ H' D = some (.lst (ys.take i))) (fun D hD => ⟨same_new hD _, by rw [upd_same, List.take_zero]⟩) (fun D i H _ _ p => hG H p.1) ?_ (fun D H hD p => done D H hD p.1 (by rw [p.2, ← hl, List.take_length]))
  rintro D i x H H' hD hi ⟨s, e⟩ y
  obtain ⟨rfl, hx⟩ := hX _ _ _ _ y
  obtain ⟨z, hz'⟩ : ∃ z, ys[i]? = some z := ⟨ys[i]'(by omega), by rw [List.getElem?_eq_getElem]⟩
  refine ⟨wipe1, ?_⟩
  show te _ _ _
  refine step i x z _ _ hx hz' s fun H4 s4 => ⟨_, s4 _ _ e, ?_, same_mut (s.trans s4) hD, ?_⟩
  · rw [List.length_take]
    exact Nat.lt_of_le_of_lt (Nat.min_le_left _ _) (Nat.lt_of_lt_of_le (Nat.lt_of_lt_of_le hi hz) (by decide))
  · rw [upd_same, List.take_succ, hz']
    rfl
end
/-- a block cut behind its first statement: what holds there, and what follows it -/
theorem cutM {t u : TS} {D : Ends} {σ : St} {H : Hp} (M : St → Hp → Prop) (h1 : ∀ N : St → Hp → Prop, (∀ σ' H', M σ' H' → N σ' H') → t { D with nx := N } σ H) (h2 : ∀ σ' H', M σ' H' → u D σ' H') : tSeq t u D σ H := h1 (u D) h2
/-- the walks -/
theorem lcP_list {K : PySem.W.Frag} {a : Addr} {xs : List V} {te : TE} {j : Nat} {σ : St} {H1 : Hp} {Q : VK} (hS : SqL K H1 a xs) (ys : List V) (hl : ys.length = xs.length) (hz : xs.length ≤ 100000)
    (step : ∀ (i : Nat) x y H' (N : VK), xs[i]? = some x → ys[i]? = some y → Same H1 H' → (∀ H4, Same H' H4 → N y H4) → te ((wipe σ [j]).set j (some x)) H' N)
    (done : ∀ D H', H1 D = none → Same H1 H' → H' D = some (.lst ys) → Q (.ref D) H') : LcR (Itl K a) (gName j) tYes te [j] σ H1 Q :=
  lcP_map (walk_list (xs := xs)) (fun i x => xs[i]? = some x) (fun _ _ _ _ h => h) (fun _ s => s.seq hS) ys hl hz step done
theorem lcP_range {lo : Int} {n : Nat} {te : TE} {j : Nat} {σ : St} {H1 : Hp} {Q : VK} (ys : List V) (hl : ys.length = n) (hz : n ≤ 100000)
    (step : ∀ (i : Nat) x y H' (N : VK), x = V.int (lo + (i : Nat)) → ys[i]? = some y → Same H1 H' → (∀ H4, Same H' H4 → N y H4) → te ((wipe σ [j]).set j (some x)) H' N)
    (done : ∀ D H', H1 D = none → Same H1 H' → H' D = some (.lst ys) → Q (.ref D) H') : LcR (Itr lo n) (gName j) tYes te [j] σ H1 Q :=
  lcP_map walk_range (fun i x => x = V.int (lo + (i : Nat))) (fun _ _ _ _ h => h) (fun _ _ => trivial) ys hl hz step done
theorem lcP_keys {d : Addr} {o : Obj} {kvs : List (Key × V)} {te : TE} {j : Nat} {σ : St} {H1 : Hp} {Q : VK} (hd : H1 d = some (.frz o (.dK kvs))) (ys : List V) (hl : ys.length = kvs.length) (hz : kvs.length ≤ 100000)
    (step : ∀ (i : Nat) k v y H' (N : VK), kvs[i]? = some (k, v) → ys[i]? = some y → Same H1 H' → (∀ H4, Same H' H4 → N y H4) → te ((wipe σ [j]).set j (some (kV k))) H' N)
    (done : ∀ D H', H1 D = none → Same H1 H' → H' D = some (.lst ys) → Q (.ref D) H') : LcR (Itk d o kvs) (gName j) tYes te [j] σ H1 Q :=
  lcP_map walk_keys (fun i x => ∃ k v, kvs[i]? = some (k, v) ∧ x = kV k) (fun _ _ _ _ h => h) (fun _ s => s _ _ hd) ys hl hz (fun i x y H' N ⟨k, v, h1, h2⟩ hy s n => by subst h2; exact step i k v y H' N h1 hy s n) done
/-- under a lock: what was there is there, what the lock hid comes back -/
theorem same_lock {H H' : Hp} {d : Addr} {u : HO} {od : Obj} (hd : H d = some u) (s : Same (upd H d (.frz od u)) H') : Same H (upd H' d u) := fun b o e => by
  by_cases hb : b = d
  · subst hb
    rw [hd] at e
    cases e
    exact upd_same
  · rw [upd_ne hb]
    exact s b o (by rw [upd_ne hb]; exact e)
/-- a dict locked for a walk: it is locked here, or it was before (then some list p is locked in its place) -/
theorem lockE {t : TE} {σ : St} {H : Hp} {Q : VK} {a p : Addr} {kvs : List (Key × V)} {ps : List V} (ha : Rd H a (.dK kvs)) (hp : H p = some (.lst ps))
    (h : ∀ (H1 : Hp) (od : Obj), H1 a = some (.frz od (.dK kvs)) → (∀ b, H1 b = none → H b = none) → (∀ G : Hp, G p = none → Same G H → LSame G H1) →
      ∀ Q' : VK, (∀ v H', Same H1 H' → (∀ H2, Same H H2 → (∀ b, H b = none → H2 b = H' b) → Q v H2) → Q' v H') → t σ H1 Q') : tLockE t σ H Q := by
  have key : ∀ (c : Addr) (u : HO), H c = some u → ∀ (od : Obj) (v : V) (H' : Hp), Same (upd H c (.frz od u)) H' → (∀ H2, Same H H2 → (∀ b, H b = none → H2 b = H' b) → Q v H2) → H' c = some (.frz od u) ∧ Q v (upd H' c u) := by
    intro c u hc od v H' s q
    refine ⟨s _ _ upd_same, q _ (same_lock hc s) ?_⟩
    intro b hb
    rw [upd_ne (fun z => by rw [z, hc] at hb; cases hb)]
  have free : ∀ (c : Addr) (u : HO), H c = some u → ∀ od : Obj, ∀ b, upd H c (.frz od u) b = none → H b = none := by
    intro c u hc od b hb
    by_cases e : b = c
    · rw [e, upd_same] at hb; cases hb
    · rw [upd_ne e] at hb; exact hb
  rcases ha with ha | ⟨od, ha⟩
  · refine ⟨a, .dK kvs, ha, trivial, fun od => h _ od upd_same (free _ _ ha od) ?_ _ (key _ _ ha od)⟩
    intro G _ s b o e
    by_cases hb : b = a
    · subst hb
      have e2 := s _ _ e
      rw [ha] at e2
      cases e2
      exact .inr ⟨kvs, od, rfl, upd_same⟩
    · exact .inl (by rw [upd_ne hb]; exact s _ _ e)
  · have hap : a ≠ p := ne_of ha hp (by intro z; cases z)
    refine ⟨p, .lst ps, hp, trivial, fun od2 => h _ od (by rw [upd_ne hap]; exact ha) (free _ _ hp od2) ?_ _ (key _ _ hp od2)⟩
    intro G hG s b o e
    exact .inl (by rw [upd_ne (ne_of_none e hG)]; exact s _ _ e)
/-- [e for k in d] -/
theorem lcD_keys {a p : Addr} {kvs : List (Key × V)} {ps : List V} {te : TE} {i j : Nat} {σ : St} {H G : Hp} {Q : VK} (ha : Rd H a (.dK kvs)) (hp : H p = some (.lst ps)) (hi : σ[i]? = some (some (.ref a))) (hG : G p = none) (sG : Same G H)
    (ys : List V) (hl : ys.length = kvs.length) (hz : kvs.length ≤ 100000)
    (step : ∀ (i : Nat) k v y H' (N : VK), kvs[i]? = some (k, v) → ys[i]? = some y → LSame G H' → Rd H' a (.dK kvs) → (∀ H4, Same H' H4 → N y H4) → te ((wipe σ [j]).set j (some (kV k))) H' N)
    (done : ∀ D H', H D = none → Same H H' → H' D = some (.lst ys) → Q (.ref D) H') : tLockE (tLc (iKeys (tVar i)) (gName j) tYes te [j]) σ H Q := by
  refine lockE ha hp ?_
  intro H1 od e1 fr ls Q' hQ
  rw [tLc_eq]
  refine ⟨_, hi, a, od, rfl, .inl ⟨kvs, e1, lcP_keys e1 ys hl hz ?_ ?_⟩⟩
  · intro i k v y H' N hk hy s N'
    exact step i k v y H' N hk hy ((ls G hG sG).trans (.of s)) (.inr ⟨od, s _ _ e1⟩) N'
  · intro D H' nD s e
    refine hQ _ _ s ?_
    intro H2 s2 h2
    have hD : H D = none := fr D nD
    exact done D H2 hD s2 (by rw [h2 D hD]; exact e)
/-- a dict's value by its key -/
theorem valV_at {kvs : List (Key × V)} {i : Nat} {k : Key} {v : V} (hn : (kvs.map (·.1)).Nodup) (h : kvs[i]? = some (k, v)) : valV kvs k = some v := by
  induction kvs generalizing i with
  | nil => simp at h
  | cons p r ih =>
    cases i with
    | zero =>
      simp at h
      subst h
      simp [valV]
    | succ i =>
      simp at h
      have hm : (k, v) ∈ r := List.mem_of_getElem? h
      have hne : ¬ p.1 = k := by
        intro e
        simp only [List.map_cons, List.nodup_cons] at hn
        exact hn.1 (List.mem_map.mpr ⟨_, hm, e.symm⟩)
      have := ih (by simp only [List.map_cons, List.nodup_cons] at hn; exact hn.2) h
      simp only [valV, List.find?_cons, decide_eq_false hne] at this ⊢
      exact this
theorem cx_K {CX : CXT} {P : Program} {w : World} {K : PySem.W.Frag} {mg : Str → Option Value} {base : Heap} {N : List Str} {q : Str} {sc : Scope} {f : Addr} {cd : Value} {A : Around} {outer : List Env} {s : Shared} {H : Hp} {E : XK} : (cxOf CX P w K mg base N q sc f cd A outer s H E).K = K := rfl
/-- an item of a written list, whichever -/
theorem ix_any {K : PySem.W.Frag} {H : Hp} {p : Addr} {xs : List V} {i : Int} {Q : VK} (hp : H p = some (.lst xs)) (h0 : 0 ≤ i) (h1 : i < (xs.length : Int)) (q : ∀ v ∈ xs, Q v H) : rIxL K (.ref p) (.int i) H Q := by
  obtain ⟨j, rfl⟩ : ∃ j : Nat, i = j := ⟨i.toNat, by omega⟩
  have hl : j < xs.length := by omega
  exact ⟨p, xs, j, xs[j], rfl, rfl, SqL.of hp, atI_nat (List.getElem?_eq_getElem hl), q _ (List.getElem_mem hl)⟩
theorem mul_ok {x : Str} {n : Int} (hx : x.length = 1) (h0 : -1000 ≤ n) (h1 : n ≤ 1000) : MulOk x n := by
  refine ⟨?_, ?_, ?_⟩
  · rw [decide_eq_false (by omega), decide_eq_false (by omega)]; rfl
  · intro h2 _
    rw [hx]
    have : (2 ^ 63 - 1 : Int) / n ≥ 1 := Int.le_ediv_of_mul_le (by omega) (by omega)
    omega
  · intro h2 _
    rw [hx]
    have h3 : ∀ k : Fin 1001, PySem.Builtin.Str.tooLong (1 * k.1) = false := by decide +kernel
    exact h3 ⟨n.toNat, by omega⟩
theorem erase_map {A B : Type} (f : A → B) : ∀ (l : List A) (k : Nat), (l.map f).eraseIdx k = (l.eraseIdx k).map f
  | [], _ => rfl
  | _ :: _, 0 => rfl
  | x :: r, k + 1 => by simp [List.eraseIdx, erase_map f r k]
theorem erase_perm {A : Type} : ∀ (l : List A) (k : Nat) (x : A), l[k]? = some x → (x :: l.eraseIdx k).Perm l
  | [], _, _, h => by simp at h
  | y :: r, 0, x, h => by simp at h; subst h; exact .refl _
  | y :: r, k + 1, x, h => by
    simp at h
    exact (List.Perm.swap y x _).trans ((erase_perm r k x h).cons y)
theorem seqIx {j n : Nat} (h : j < n) : seqIndex? (j : Int) n = some j := by
  have h1 : ¬ (j : Int) < 0 := by omega
  unfold seqIndex?
  simp only [if_neg h1]
  rw [if_pos (by simp; omega)]
  simp
theorem valV_no {kvs : List (Key × V)} {k : Key} (h : k ∉ kvs.map (·.1)) : valV kvs k = none := by
  unfold valV
  rw [List.find?_eq_none.mpr]
  · rfl
  · intro p hp
    simp only [decide_eq_true_eq]
    intro e
    exact h (List.mem_map.mpr ⟨p, hp, e⟩)
theorem nd_take {A : Type} {xs : List A} {i : Nat} (h : xs.Nodup) (hi : i < xs.length) : xs[i] ∉ xs.take i := by
  intro hm
  rw [← List.take_append_drop i xs] at h
  exact (List.nodup_append.mp h).2.2 _ hm _ (List.mem_of_getElem (i := 0) (h := by rw [List.length_drop]; omega) (by simp)) rfl
theorem iteT' {c A B : Prop} [Decidable c] (hc : c) (h : A) : if c then A else B := by rw [if_pos hc]; exact h
theorem iteF' {c A B : Prop} [Decidable c] (hc : ¬ c) (h : B) : if c then A else B := by rw [if_neg hc]; exact h
theorem mod_in (n : Int) {m : Int} (h : 0 < m) : 0 ≤ n % m ∧ n % m < m := ⟨Int.emod_nonneg _ (by omega), Int.emod_lt_of_pos _ h⟩
theorem sz5 {n : Nat} (h : n ≤ 100000) : n ≤ sizeLine := Nat.le_trans h (by decide)
theorem sz5l {n : Nat} (h : n < 100000) : n < sizeLine := Nat.lt_of_lt_of_le h (by decide)
end SC

set_option Elab.async false
set_option linter.all false
set_option maxRecDepth 100000
set_option maxHeartbeats 4000000
/-! Schemacheck: defs that are called where no repr is under way; repr of data. -/
namespace SC
open PySem L2 PySem.Spec PyProof.Rows

/-- a def keeps its promise wherever nothing is being shown -/
structure FnG (P : Program) (w : World) (K : PySem.W.Frag) (mg : Str → Option Value) (base : Heap) (k : Nat) (f : Addr) (fd : FuncData) (ps : List Str) (sp : Sp) : Prop where
  len : ∀ vs H Q E, sp vs H Q E → vs.length = ps.length
  run : ∀ (A : Around) (outer : List Env) (s : Shared) (H : Hp) (args : Args) (us : List Value) (vs : List V) (Q : VK) (E : XK), A.guards = some [] → Room k A → Env0 P w K mg base A outer s H →
    BindsTo s fd args (ps.zip us) → Vals vs us → sp vs H Q E → codeAny (model P w) A (.call (.ref f) args) (CR CX0 outer P w H s Q E) s
section
variable {P : Program} {w : World} {K : PySem.W.Frag} {mg : Str → Option Value} {base : Heap} {k : Nat} {f : Addr} {fd : FuncData} {ps : List Str} {sp : Sp}
theorem FnG.of (F : FnOk P w K mg base CX0 k f fd ps sp) : FnG P w K mg base k f fd ps sp := ⟨F.len, fun A outer s H args us vs Q E _ => F.run A outer s H args us vs Q E⟩
theorem kinds_ok {N ps : List Str} {sc : Scope} (S : FnScope N ps sc) (us : List Value) : ((ps.zip us).all fun y => sc.names.lookup y.1 == some .local || sc.names.lookup y.1 == some .cell) = true := by
  rw [List.all_eq_true]
  rintro ⟨n, v⟩ hy
  have h1 := S.par n (List.of_mem_zip hy).1
  rcases h1 with q | q
  · simp [q]
  · simp [q]
/-- the rule for a def, as Fun.ok, with the guards known -/
theorem okG {x qual : Str} {st : Stmt} {N : List Str} (F : Fun K x qual st f fd) (S : FnScope N ps (defScope st)) (len : ∀ vs H Q E, sp vs H Q E → vs.length = ps.length)
    (hbody : ∀ (cdv : Value) (A : Around) (outer : List Env) (s : Shared) (H : Hp) (vs : List V) (Q : VK) (E : XK), A.guards = some [] → Room k (A.deeper (envOfC qual (defScope st) s.heap.objs.size f cdv)) → sp vs H Q E →
      ∃ t, PSs (cxOf CX0 P w K mg base N qual (defScope st) f cdv A outer s H E).nox (defBody st) t ∧ t { nx := fun _ H' => Q .non H', rt := Q } (start N vs) H) : FnG P w K mg base (k + 1) f fd ps sp := by
  obtain ⟨oc, od, kV, doc, pm, an, cdv, ct, osl, rfl, lk, hcd⟩ := F.ex
  constructor
  · exact len
  intro A outer s H args us vs Q E hg hr e0 hb r hsp
  obtain ⟨t, ht, hq⟩ := hbody cdv A outer s H vs Q E hg (hr.deeper _) hsp
  have KX : K.In s.heap := e0.mod.kin.keeps (fun b o e => (e0.bs b o e).1)
  have lim : s.heap.NoLimit := e0.mod.nolimit.keeps (fun b o e => (e0.bs b o e).1)
  refine Att.call_fn KX lim lk hcd hr.depth hb (kinds_ok S us) ?_ S.co S.gen S.kind
  intro s1 x
  have I : Inv (cxOf CX0 P w K mg base N qual (defScope st) f cdv A outer s H E) [] (start N vs) H s1 := inv_start S hr.hd e0 (len _ _ _ _ hsp) r x
  have done : ∀ {σ' : L2.St} {H' : Hp} {v : V} {u : Value} {s' : Shared}, Inv (cxOf CX0 P w K mg base N qual (defScope st) f cdv A outer s H E) [] σ' H' s' → RelV v u → Q v H' → CE outer P w H s Q u s' := by
    intro σ' H' v u s' J rv q
    exact ⟨v, H', J.os, J.bare, J.base, J.hok, rv, q⟩
  apply wpAny_mono (ht.nox.run [] s1 (start N vs) H _ I hq)
  · intro fl s' hs
    cases fl
    case ret u =>
      obtain ⟨v, σ', H', J, rv, q⟩ := hs
      exact done J rv q
    case next =>
      obtain ⟨σ', H', J, q⟩ := hs
      exact done (v := .non) (u := .none) J rfl q
    case brk =>
      obtain ⟨_, _, _, q⟩ := hs
      exact q.elim
    case cont =>
      obtain ⟨_, _, _, q⟩ := hs
      exact q.elim
  · intro e s' hs
    exact hs
end
/-! ### calls of such defs -/
def RdyG (P : Program) (w : World) (K : PySem.W.Frag) (mg : Str → Option Value) (base : Heap) (k : Nat) (x : Str) (ps : List Str) (sp : Sp) : Prop :=
  ∃ f fd, FnG P w K mg base k f fd ps sp ∧ mg x = some (.ref f) ∧ PySem.W.keepIn K (.ref f) = true ∧ Binds K fd ps []
theorem Def.rdyG {P : Program} {w : World} {K : PySem.W.Frag} {mg : Str → Option Value} {base : Heap} {k : Nat} {x : Str} {st : Stmt} {f : Addr} {fd : FuncData} {ps : List Str} {sp : Sp} (D : Def K mg x st f fd)
    (b : ∀ (kV doc pm : Value) (an : Option Addr) (cdv ct : Value) (us : List Value), us.length = ps.length → bindArgs (PySem.W.fnOf x x (defArgs st) (defBody st) (defScope st) .none kV doc pm an cdv ct) ⟨us, []⟩ = pure (ps.zip us))
    (h : FnG P w K mg base k f fd ps sp) : RdyG P w K mg base k x ps sp := ⟨f, fd, h, D.2, D.1.kp, D.1.binds b⟩
section
variable {X : Cx} {k : Nat} {x : Str} {ps ks : List Str} {sp : Sp} {p pos : Pos} {e : Expr} {es : List Expr} {t : TA}
theorem run_g {pins : List (Addr × Obj)} {σ : L2.St} {H : Hp} {s : Shared} {Q : VK} {f : Addr} {fd : FuncData} {us : List Value} {vs : List V} (F : FnG X.prog X.w X.K X.mg X.base k f fd ps sp) (hg : X.A.guards = some []) (hr : Room k X.A) (hb : Binds X.K fd ps [])
    (I : Inv X pins σ H s) (r : Vals vs us) (h : sp vs H Q E0) : wpAny (model X.prog X.w) X.A (call (.ref f) us) (EP X pins σ Q) X.xe s := by
  have hl : us.length = ps.length := by
    rw [← r.length]
    exact F.len _ _ _ _ h
  have hb' := hb s us I.kIn (by rw [List.append_nil]; exact hl)
  rw [List.append_nil] at hb'
  apply wpAny_call
  apply codeAny_mono (F.run X.A X.stack s H ⟨us, []⟩ us vs Q E0 hg hr I.env0 hb' r h)
  intro res s' hq
  cases res with
  | error e => exact False.elim hq
  | ok fl =>
    cases fl with
    | ret u => exact I.after hq
    | next => exact False.elim hq
    | brk => exact False.elim hq
    | cont => exact False.elim hq
theorem pe_cg (R : RdyG X.prog X.w X.K X.mg X.base k x ps sp) (hgd : X.A.guards = some []) (hr : Room k X.A) (hg : Gl X x) (ha : PA X (e :: es) t) (hdb : (x == ("__debug__" : Str)) = false := by decide)
    (he : starEach (e :: es) X.env = (false, eval e X.env) :: starEach es X.env := by rfl) (hpl : (backTo pos (starEach es X.env)).any (·.1) = false := by rfl) : PE X (.Call (.Name x p) (e :: es) [] pos) (tCall sp [] E0 t) := by
  obtain ⟨f, fd, h1, h2, h3, h4⟩ := R
  constructor
  intro pins s σ H Q I h
  apply wpAny_Call_Name_kw
  apply ld_glob I hg h2 _ hdb
  refine PySem.W.callWith_K (h₀ := X.base) I.ok.mod.kin h3 ?_ he hpl
  apply thn (ha.run pos pins s σ H _ I h)
  rintro us s1 ⟨vs, H1, I1, r, q⟩
  refine ⟨I1.kIn, run_g h1 hgd hr h4 I1 r ?_⟩
  rw [List.append_nil] at q
  exact q
theorem pe_cg0 (R : RdyG X.prog X.w X.K X.mg X.base k x ps sp) (hgd : X.A.guards = some []) (hr : Room k X.A) (hg : Gl X x) (hdb : (x == ("__debug__" : Str)) = false := by decide) : PE X (.Call (.Name x p) [] [] pos) (tCall sp [] E0 tNil) := by
  obtain ⟨f, fd, h1, h2, h3, h4⟩ := R
  constructor
  intro pins s σ H Q I h
  apply wpAny_Call_Name_kw
  apply ld_glob I hg h2 _ hdb
  exact PySem.W.callWith_K0 I.kIn h3 (run_g (us := []) (vs := []) h1 hgd hr h4 I .nil h)
end
/-! ### repr -/
theorem readsAll_of {h : Heap} {F : V → PyData → Prop} {G : Addr → Prop} (f : ∀ v d u, F v d → RelV v u → ∃ as, Reads h u d as ∧ ∀ b ∈ as, G b) : ∀ {xs : List V} {ds : List PyData} {us : List Value}, Paired F xs ds → Vals xs us → ∃ as, ReadsAll h us ds as ∧ ∀ b ∈ as, G b := by
  intro xs ds us hp
  induction hp generalizing us with
  | nil =>
    intro r
    cases r
    exact ⟨[], .nil, by simp⟩
  | cons q _ ih =>
    intro r
    cases r with
    | cons r1 r2 =>
      obtain ⟨as, h1, g1⟩ := f _ _ _ q r1
      obtain ⟨bs, h2, g2⟩ := ih r2
      refine ⟨_, .cons h1 h2, ?_⟩
      intro b hb
      rcases List.mem_append.mp hb with hb | hb
      · exact g1 b hb
      · exact g2 b hb
theorem reads_key {h : Heap} {k : Key} {v : Value} (hk : keyIs k v = true) : Reads h v (kD k) [] := by
  rcases keyIs_shape hk with ⟨i, t, rfl, rfl⟩ | ⟨x, t, rfl, rfl⟩
  · exact .int i t
  · exact .str x t
theorem readsKv_of {P : Program} {w : World} {h : Heap} {F : V → PyData → Prop} {G : Addr → Prop} (f : ∀ v d u, F v d → RelV v u → ∃ as, Reads h u d as ∧ ∀ b ∈ as, G b) : ∀ {kvs : List (Key × V)} {es : List (PyData × PyData)} {ws : List (Key × Value)} {ds : List DictEntry},
    Paired (fun (p : Key × V) (q : PyData × PyData) => q.1 = kD p.1 ∧ F p.2 q.2) kvs es → KV kvs ws → Pairs (mixKind P w) ds ws →
    (∃ as, ReadsAll h (ds.map (·.key)) (es.map (·.1)) as ∧ as = []) ∧ ∃ bs, ReadsAll h (ds.map (·.val)) (es.map (·.2)) bs ∧ ∀ b ∈ bs, G b := by
  intro kvs es ws ds hp
  induction hp generalizing ws ds with
  | nil =>
    intro r q
    cases r
    cases q
    exact ⟨⟨[], .nil, rfl⟩, [], .nil, by simp⟩
  | cons c _ ih =>
    intro r q
    cases r with
    | cons r1 r2 =>
      cases q with
      | cons q1 q2 q3 =>
        obtain ⟨⟨as, h1, e1⟩, bs, h2, g2⟩ := ih r2 q3
        subst e1
        obtain ⟨cs, h3, g3⟩ := f _ _ _ c.2 r1.2
        have k1 : Reads h _ (kD _) [] := reads_key q1
        rw [← r1.1, ← c.1] at k1
        rw [← q2] at h3
        refine ⟨⟨[] ++ [], ReadsAll.cons k1 h1, rfl⟩, cs ++ bs, ReadsAll.cons h3 h2, ?_⟩
        · intro b hb
          rcases List.mem_append.mp hb with hb | hb
          · exact g3 b hb
          · exact g2 b hb
theorem Rp.reads {P : Program} {w : World} {H : Hp} {h : Heap} (ok : HOk P w H h) : ∀ {n : Nat} {d : PyData} {v : V} {u : Value}, Rp H n v d → RelV v u → ∃ as, Reads h u d as ∧ ∀ b ∈ as, H b ≠ none
  | 0, _, _, _, h, _ => h.elim
  | n + 1, .none, _, _, e, r => by cases e; cases r; exact ⟨[], .none, by simp⟩
  | n + 1, .bool b, _, _, e, r => by cases e; cases r; exact ⟨[], .bool b, by simp⟩
  | n + 1, .int b, _, _, e, r => by cases e; obtain ⟨t, rfl⟩ := r; exact ⟨[], .int b t, by simp⟩
  | n + 1, .str b, _, _, e, r => by cases e; obtain ⟨t, rfl⟩ := r; exact ⟨[], .str b t, by simp⟩
  | n + 1, .list ds, _, _, ⟨a, xs, e, ha, _, hp⟩, r => by
    subst e
    cases r
    obtain ⟨_, its, m, rv, hg⟩ := ok a _ ha
    obtain ⟨as, h1, g1⟩ := readsAll_of (G := fun b => H b ≠ none) (fun v d u q r => Rp.reads ok q r) hp rv
    refine ⟨a :: as, .list hg rfl rfl (by simpa using h1), ?_⟩
    intro b hb
    rcases List.mem_cons.mp hb with rfl | hb
    · rw [ha]; simp
    · exact g1 b hb
  | n + 1, .tuple ds, _, _, ⟨a, xs, e, ha, _, hp⟩, r => by
    subst e
    cases r
    obtain ⟨_, its, rv, o, ho, hc, m, hd⟩ := ok a _ ha
    obtain ⟨as, h1, g1⟩ := readsAll_of (G := fun b => H b ≠ none) (fun v d u q r => Rp.reads ok q r) hp rv
    exact ⟨as, .tuple ho hc hd (by simpa using h1), g1⟩
  | n + 1, .dict es, _, _, ⟨a, kvs, e, ha, _, _, hp⟩, r => by
    subst e
    cases r
    obtain ⟨_, _, ws, rv, o, ds, ep, ho, hx, hd, _, hpr, _⟩ := ha.ok ok
    obtain ⟨⟨as, h1, e1⟩, bs, h2, g2⟩ := readsKv_of (G := fun b => H b ≠ none) (fun v d u q r => Rp.reads ok q r) hp rv hpr
    subst e1
    refine ⟨_, .dict ho hx.1 hd h1 h2, ?_⟩
    intro b hb
    simp only [List.append_nil, List.cons_append, List.nil_append, List.mem_cons] at hb
    rcases hb with rfl | hb
    · rcases ha with ha | ⟨_, ha⟩ <;> rw [ha] <;> simp
    · exact g2 b hb
theorem depthAll_le {n : Nat} : ∀ {ds : List PyData}, (∀ d ∈ ds, d.depth ≤ n) → PyData.depthAll ds ≤ n
  | [], _ => Nat.zero_le _
  | d :: r, h => by
    have h1 := h d (by simp)
    have h2 := depthAll_le (ds := r) fun e he => h e (by simp [he])
    show max _ _ ≤ n
    omega
theorem depthKv_le {n : Nat} : ∀ {es : List (PyData × PyData)}, (∀ e ∈ es, e.1.depth ≤ n ∧ e.2.depth ≤ n) → PyData.depthKv es ≤ n
  | [], _ => Nat.zero_le _
  | (a, b) :: r, h => by
    have h1 := h (a, b) (by simp)
    have h2 := depthKv_le (es := r) fun e he => h e (by simp [he])
    show max (max _ _) _ ≤ n
    simp at h1
    omega
theorem Rp.depth_le {H : Hp} : ∀ {n : Nat} {d : PyData} {v : V}, Rp H n v d → d.depth ≤ n
  | 0, _, _, h => h.elim
  | n + 1, .none, _, _ => Nat.zero_le _
  | n + 1, .bool _, _, _ => Nat.zero_le _
  | n + 1, .int _, _, _ => Nat.zero_le _
  | n + 1, .str _, _, _ => Nat.zero_le _
  | n + 1, .list ds, _, ⟨a, xs, e, ha, _, hp⟩ => by
    show PyData.depthAll ds + 1 ≤ n + 1
    have : PyData.depthAll ds ≤ n := depthAll_le fun d hd => by
      obtain ⟨x, _, r⟩ := pd_memR hp hd
      exact r.depth_le
    omega
  | n + 1, .tuple ds, _, ⟨a, xs, e, ha, _, hp⟩ => by
    show PyData.depthAll ds + 1 ≤ n + 1
    have : PyData.depthAll ds ≤ n := depthAll_le fun d hd => by
      obtain ⟨x, _, r⟩ := pd_memR hp hd
      exact r.depth_le
    omega
  | n + 1, .dict es, _, ⟨a, xs, e, ha, _, _, hp⟩ => by
    show PyData.depthKv es + 1 ≤ n + 1
    have : PyData.depthKv es ≤ n := depthKv_le fun q hq => by
      obtain ⟨x, _, r1, r2⟩ := pd_memR hp hq
      refine ⟨?_, r2.depth_le⟩
      rw [r1]
      cases x.1 <;> exact Nat.zero_le _
    omega
def rRepr : List V → Hp → VK → Prop := fun xs H Q => ∃ v n d, xs = [v] ∧ Rp H n v d ∧ n ≤ 90 ∧ d.showable = true ∧ d.shown.length ≤ sizeLine ∧ Q (.str d.shown) H
theorem call_repr {X : Cx} (hg : X.A.guards = some []) (hsys : ∃ o, X.base.get? sysModules = some o) (hu : X.A.units + 100 < cLine) : CallR X (.builtin "repr") rRepr := by
  intro pins s σ H xs us Q I r h
  obtain ⟨v, n, d, rfl, hd, hn, hs, hz, q⟩ := h
  obtain ⟨u, rfl, rv⟩ := vals1 r
  obtain ⟨o0, hs0⟩ := hsys
  have hsm : H sysModules = none := (I.bs _ _ hs0).2
  obtain ⟨as, rd, g⟩ := hd.reads I.hok rv
  have hdep := hd.depth_le
  have no : sysModules ∉ as := fun hm => g _ hm hsm
  cases rd with
  | none => exact PySem.P.repr_of_none ⟨.str _, H, I.tok _, ⟨_, rfl⟩, q⟩
  | bool b => exact PySem.P.repr_of_bool ⟨.str _, H, I.tok _, ⟨_, rfl⟩, q⟩
  | int i t =>
    have hi : i.natAbs.log2 < 1920 := of_decide_eq_true hs
    exact PySem.P.repr_of_int hi ⟨.str _, H, I.tok _, ⟨_, rfl⟩, q⟩
  | str x t => exact PySem.P.repr_of_str ⟨.str _, H, I.tok _, ⟨_, rfl⟩, q⟩ hz
  | list a1 a2 a3 a4 => exact repr_of_reads' (.list a1 a2 a3 a4) hs (fun _ => no) hg (by omega) (fun b o e => e) (fun h' t tk hk => ⟨.str _, H, I.un (Un.kept hk) (I.hok.kept hk), ⟨_, rfl⟩, q⟩) hz
  | tuple a1 a2 a3 a4 => exact repr_of_reads' (.tuple a1 a2 a3 a4) hs (fun _ => no) hg (by omega) (fun b o e => e) (fun h' t tk hk => ⟨.str _, H, I.un (Un.kept hk) (I.hok.kept hk), ⟨_, rfl⟩, q⟩) hz
  | dict a1 a2 a3 a4 a5 => exact repr_of_reads' (.dict a1 a2 a3 a4 a5) hs (fun _ => no) hg (by omega) (fun b o e => e) (fun h' t tk hk => ⟨.str _, H, I.un (Un.kept hk) (I.hok.kept hk), ⟨_, rfl⟩, q⟩) hz
/-! ### the law's own call -/
section
variable {P : Program} {w : World} {K : PySem.W.Frag} {mg mb : Str → Option Value} {k : Nat} {fa a : Addr} {fd : FuncData} {x : Str} {sp : Sp} {s1 : Shared} {vs : List Value} {ns : List Int}
/-- a dict of the state is not the script's place -/
theorem not_script {h : Heap} {b : Addr} {m : Str → Option Value} (n : h.Ns b m) (ha : h.get? a = some { cls := .type "list", data := .seq vs.toArray }) : b ≠ a := by
  rintro rfl
  obtain ⟨o, es, ep, e, d, _⟩ := n
  rw [ha] at e
  cases e
  cases d
theorem lawH {H : Hp} (KX : K.In s1.heap) (hns : s1.heap.Ns mainGlobals mg) (hb : s1.heap.Ns builtinsNs mb) (hbb : ∀ x : Str, x ≠ "__name__" → mb x = bootBuiltins x) (hlim : s1.heap.NoLimit) (hseer : s1.heap.NoSeer) (hg : s1.gens = #[])
    (ha : s1.heap.get? a = some { cls := .type "list", data := .seq vs.toArray }) (hr : Room k callerA) (hbind : ∀ (s : Shared) (u : Value), BindsTo s fd ⟨[u], []⟩ [(x, u)])
    (F : ∀ base : Heap, K.In base → base.Ns mainGlobals mg → (∃ o, base.get? sysModules = some o) → FnG P w K mg base k fa fd [x] sp)
    (hsp : sp [.ref a] H (fun v _ => v = .bl true) fun _ _ _ => False) (hO : Only H) (hok : HOk P w H s1.heap) (hA : ∀ b, b ≠ a → H b = none) (hK : ∀ o, K.lookup a = some o → H a = none) :
    codeAny (model P w) callerA (.call (.ref fa) ⟨[.ref a], []⟩) (fun r s' => r = .ok (.ret (.bool true)) ∧ OldK s1.heap s'.heap ∧ s'.os = s1.os ∧ AllBare s'.gens) s1 := by
  have toB : ∀ {b : Addr} {o : Obj}, s1.heap.get? b = some o → H b = none → (hidT s1.heap H).get? b = some o := fun e n => hidT_get e n
  have toN : ∀ {b : Addr} {m : Str → Option Value}, s1.heap.Ns b m → (hidT s1.heap H).Ns b m := by
    intro b m n
    have hne := not_script n ha
    obtain ⟨o, es, ep, e, r⟩ := n
    exact ⟨o, es, ep, toB e (hA b hne), r⟩
  have inB : K.In (hidT s1.heap H) := by
    intro b o e
    apply toB (KX b o e)
    by_cases hba : b = a
    · subst hba; exact hK o e
    · exact hA b hba
  have sysB : ∃ o, (hidT s1.heap H).get? sysModules = some o := by
    obtain ⟨mm, n, _⟩ := hseer.mods
    have hne := not_script n ha
    obtain ⟨o, es, ep, e, _⟩ := n
    exact ⟨o, toB e (hA _ hne)⟩
  have limB : (hidT s1.heap H).NoLimit := by
    obtain ⟨mc, h1, h2⟩ := hlim
    exact ⟨mc, toN h1, h2⟩
  have e0 : Env0 P w K mg (hidT s1.heap H) callerA [] s1 H := by
    refine ⟨rfl, ⟨inB, toN hns, ⟨mb, toN hb, hbb⟩, limB⟩, fun b o e => of_hidT e, Nat.le_of_eq (hidT_size _ _), trivial, ?_, hok, .of_eq hg⟩
    intro b hb
    exact absurd (show b ∈ ([] : List Addr) from hb) List.not_mem_nil
  have run := (F _ inB (toN hns) sysB).run callerA [] s1 H ⟨[.ref a], []⟩ [.ref a] [.ref a] _ _ rfl hr e0 (hbind s1 (.ref a)) (.cons rfl .nil) hsp
  refine codeAny_mono run ?_
  intro r s' h
  cases r with
  | error e => exact False.elim h
  | ok fl =>
    cases fl with
    | next => exact False.elim h
    | brk => exact False.elim h
    | cont => exact False.elim h
    | ret u =>
      obtain ⟨v, H', os, bare, un, hok', rv, hv⟩ := h
      obtain rfl : v = .bl true := hv
      obtain rfl : u = Value.bool true := rv
      refine ⟨rfl, OldK.of_keep ?_, os, bare⟩
      intro b o e
      rcases hO b with q | ⟨ob, xs, q⟩
      · exact un.keep b o e q (fun z => absurd (show b ∈ ([] : List Addr) from z) List.not_mem_nil) List.not_mem_nil
      · obtain ⟨e1, _⟩ := hok b _ q
        obtain ⟨e2, _⟩ := hok' b _ (un.frzs b ob _ q)
        rw [e] at e1
        cases e1
        exact e2
theorem lawG (KX : K.In s1.heap) (hns : s1.heap.Ns mainGlobals mg) (hb : s1.heap.Ns builtinsNs mb) (hbb : ∀ x : Str, x ≠ "__name__" → mb x = bootBuiltins x) (hlim : s1.heap.NoLimit) (hseer : s1.heap.NoSeer) (hg : s1.gens = #[])
    (ha : s1.heap.get? a = some { cls := .type "list", data := .seq vs.toArray }) (hi : IntsAre vs ns) (hl : ns.length ≤ sizeLine) (hr : Room k callerA) (hbind : ∀ (s : Shared) (u : Value), BindsTo s fd ⟨[u], []⟩ [(x, u)])
    (F : ∀ base : Heap, K.In base → base.Ns mainGlobals mg → (∃ o, base.get? sysModules = some o) → FnG P w K mg base k fa fd [x] sp)
    (hsp : ∀ H : Hp, Only H → SqL K H a (ns.map V.int) → sp [.ref a] H (fun v _ => v = .bl true) fun _ _ _ => False) :
    codeAny (model P w) callerA (.call (.ref fa) ⟨[.ref a], []⟩) (fun r s' => r = .ok (.ret (.bool true)) ∧ OldK s1.heap s'.heap ∧ s'.os = s1.os ∧ AllBare s'.gens) s1 := by
  have rv := vals_ints hi
  have lv : vs.length = ns.length := hi.length
  by_cases hk : ∃ o, K.lookup a = some o
  · obtain ⟨o, hk⟩ := hk
    have e := KX a o hk
    rw [ha] at e
    cases e
    have O0 : Only (fun _ => none) := fun _ => .inl rfl
    refine lawH KX hns hb hbb hlim hseer hg ha hr hbind F (hsp _ O0 ?_) O0 ?_ (fun _ _ => rfl) (fun _ _ => rfl)
    · refine .inr ⟨_, vs.toArray, _, hk, rfl, rfl, rfl, ?_, by simpa using rv⟩
      rw [List.size_toArray, lv]
      exact hl
    · intro b u z
      cases (show (none : Option HO) = some u from z)
  · let ob : Obj := { cls := .type "list", data := .seq vs.toArray }
    let H : Hp := fun b => if b = a then some (.frz ob (.lst (ns.map V.int))) else none
    have at_a : H a = some (.frz ob (.lst (ns.map V.int))) := if_pos rfl
    have off : ∀ b, b ≠ a → H b = none := fun b h => if_neg h
    have hO : Only H := by
      intro b
      by_cases hb : b = a
      · subst hb; exact .inr ⟨_, _, at_a⟩
      · exact .inl (off b hb)
    refine lawH KX hns hb hbb hlim hseer hg ha hr hbind F (hsp H hO (.inl (.inr ⟨ob, at_a⟩))) hO ?_ off (fun o e => absurd ⟨o, e⟩ hk)
    intro b u z
    by_cases hb : b = a
    · subst hb
      rw [at_a] at z
      cases z
      exact ⟨ha, by rw [List.length_map]; exact hl, vs, _, rv, ha⟩
    · rw [off b hb] at z
      cases z
end
/-- the end of a law row whose defs speak of FnG -/
theorem walkG {l : PySem.W.OpenLaw} {n k : Nat} {q : Program} {loose : List Str} {XP : (Str → Option Value) → Heap → Prop} {YP : World → Heap → Prop} {d : DefRec} {K : Params → PySem.W.Frag} {sp : PySem.W.Frag → Sp} {x : Str}
    (hn : l.most = some n) (hn2 : n ≤ sizeLine) (hdf : d.params.defaults = []) (hr : Room k callerA) (hq : importsNone q = true) (hY : ∀ (w : World) (h : Heap), YP w h → (K w.params).In h)
    (F : ∀ (w : World) (mg : Str → Option Value) (fa : Addr) (h : Heap), (K w.params).In h → h.Ns mainGlobals mg → mg d.name = some (.ref fa) →
      ∃ fd : FuncData, (∀ (s : Shared) (u : Value), BindsTo s fd ⟨[u], []⟩ [(x, u)]) ∧
        ∀ base : Heap, (K w.params).In base → base.Ns mainGlobals mg → (∃ o, base.get? sysModules = some o) → FnG l.prog w (K w.params) mg base k fa fd [x] (sp (K w.params)))
    (hsp : ∀ (K : PySem.W.Frag) (H : Hp) (a : Addr) (ns : List Int), ns.length ≤ n → Only H → SqL K H a (ns.map V.int) → sp K [.ref a] H (fun v _ => v = .bl true) fun _ _ _ => False) :
    PySem.W.WalkO q loose XP YP l.row.toRowW d [] (fun f vs => PySem.call f vs) := by
  apply Att.attach_call hn hdf
  intro w s0 s1 mg mb fa o pm cd doc a vs ns G Y ho hd hcd hmg hobj hints hlen hg
  have KX := hY w _ Y
  obtain ⟨fd, hb, hF⟩ := F w mg fa _ KX G.T.g hmg
  exact lawG KX G.T.g G.T.b G.T.builtins G.T.nolimit (G.T.seer hq) hg hobj hints (Nat.le_trans hlen hn2) hr hb hF fun H hO hS => hsp _ H a ns hlen hO hS
end SC

set_option Elab.async false
set_option linter.all false
set_option maxRecDepth 100000
set_option maxHeartbeats 4000000
/-! Schemacheck: documents, their number of parts, how long they are shown. -/
namespace SC
open PySem L2
def AsciiS (s : Str) : Prop := ∀ c ∈ s.cps.toList, c < 128
def leafD : PyData → Prop
  | .none => True
  | .bool _ => True
  | .int i => -10 ^ 30 ≤ i ∧ i ≤ 10 ^ 30
  | .str s => s.length ≤ 60 ∧ AsciiS s
  | _ => False
def LeafV (v : V) : Prop := ∃ d, leafD d ∧ ∀ G, Rp G 1 v d
theorem leaf_str (x : Str) (h : x.length ≤ 60) (h2 : ∀ c ∈ x.cps.toList, c < 128) : LeafV (.str x) := ⟨.str x, ⟨h, h2⟩, fun _ => rfl⟩
theorem leaf_int (i : Int) (h : -10 ^ 30 ≤ i ∧ i ≤ 10 ^ 30) : LeafV (.int i) := ⟨.int i, h, fun _ => rfl⟩
theorem leaf_bl (b : Bool) : LeafV (.bl b) := ⟨.bool b, trivial, fun _ => rfl⟩
theorem leaf_non : LeafV .non := ⟨.none, trivial, fun _ => rfl⟩
def NameOk (x : Str) : Prop := x.length ≤ 60 ∧ AsciiS x
def docD : Nat → PyData → Prop
  | 0, _ => False
  | n + 1, .list ds => ds.length ≤ 10 ∧ ∀ d ∈ ds, docD n d
  | n + 1, .dict es => es.length ≤ 10 ∧ ∀ e ∈ es, (∃ x, e.1 = .str x ∧ NameOk x) ∧ docD n e.2
  | _ + 1, d => leafD d
theorem docD.leaf {d : PyData} (h : leafD d) (n : Nat) : docD (n + 1) d := by
  cases d <;> first | exact h | exact h.elim
theorem docD.up1 : ∀ {n : Nat} {d : PyData}, docD n d → docD (n + 1) d
  | 0, _, h => h.elim
  | n + 1, .list ds, h => ⟨h.1, fun d hd => (h.2 d hd).up1⟩
  | n + 1, .dict es, h => ⟨h.1, fun e he => ⟨(h.2 e he).1, (h.2 e he).2.up1⟩⟩
  | n + 1, .none, h => h
  | n + 1, .bool _, h => h
  | n + 1, .int _, h => h
  | n + 1, .str _, h => h
  | n + 1, .tuple _, h => h.elim
theorem docD.up {n m : Nat} {d : PyData} (h : docD n d) (hl : n ≤ m) : docD m d := by
  induction hl with
  | refl => exact h
  | step _ ih => exact ih.up1
mutual
/-- the number of parts -/
def cnt : PyData → Nat
  | .list ds => 1 + cntAll ds
  | .tuple ds => 1 + cntAll ds
  | .dict es => 1 + cntKv es
  | .none => 1
  | .bool _ => 1
  | .int _ => 1
  | .str _ => 1
def cntAll : List PyData → Nat
  | [] => 0
  | d :: r => cnt d + cntAll r
def cntKv : List (PyData × PyData) → Nat
  | [] => 0
  | (_, d) :: r => cnt d + cntKv r
end
theorem cntAll_app (xs ys : List PyData) : cntAll (xs ++ ys) = cntAll xs + cntAll ys := by
  induction xs with
  | nil => simp [cntAll]
  | cons d r ih => simp [cntAll, ih]; omega
theorem cntKv_app (xs ys : List (PyData × PyData)) : cntKv (xs ++ ys) = cntKv xs + cntKv ys := by
  induction xs with
  | nil => simp [cntKv]
  | cons d r ih => obtain ⟨a, b⟩ := d; simp [cntKv, ih]; omega
theorem cnt_pos (d : PyData) : 1 ≤ cnt d := by
  cases d <;> simp [cnt] <;> omega
theorem leaf_cnt {d : PyData} (h : leafD d) : cnt d = 1 := by
  cases d <;> first | rfl | exact h.elim
theorem cntAll_mem {d : PyData} {ds : List PyData} (h : d ∈ ds) : cnt d ≤ cntAll ds := by
  induction ds with
  | nil => simp at h
  | cons e r ih =>
    simp only [cntAll]
    rcases List.mem_cons.mp h with rfl | h
    · omega
    · have := ih h; omega
theorem cntKv_mem {q : PyData × PyData} {es : List (PyData × PyData)} (h : q ∈ es) : cnt q.2 ≤ cntKv es := by
  induction es with
  | nil => simp at h
  | cons e r ih =>
    obtain ⟨a, b⟩ := e
    simp only [cntKv]
    rcases List.mem_cons.mp h with rfl | h
    · show cnt b ≤ _; omega
    · have := ih h; omega
theorem ascii_big {x : Str} (h : AsciiS x) : (x.cps.toList.all fun c => decide (c < 16 ^ 8)) = true := by
  rw [List.all_eq_true]
  intro c hc
  have := h c hc
  exact decide_eq_true (by omega)
theorem int30_len {i : Int} (h : -10 ^ 30 ≤ i ∧ i ≤ 10 ^ 30) : (PyData.shown (.int i)).length ≤ 40 := by
  have e := int_text_length_le10 (a := i) (k := 31) (by decide) (by omega)
  show (Str.ofString (toString i)).length ≤ 40
  rw [ofString_length]
  omega
theorem int30_log {i : Int} (h : -10 ^ 30 ≤ i ∧ i ≤ 10 ^ 30) : i.natAbs.log2 < 100 := by
  by_cases h0 : i.natAbs = 0
  · rw [h0]; decide
  · exact (Nat.log2_lt h0).mpr (by have : i.natAbs ≤ 10 ^ 30 := by omega
                                   exact Nat.lt_of_le_of_lt this (by decide))
theorem str60_weight {x : Str} (h : x.length ≤ 60) : PyData.weight (.str x) ≤ 60 := h
/-- a document can be shown, and not too long -/
def Fine (d : PyData) : Prop := d.showable = true ∧ d.leavesShort 40 = true ∧ d.weight + 64 ≤ 165 * cnt d
theorem fine_all {ds : List PyData} (h : ∀ d ∈ ds, Fine d) : PyData.showableAll ds = true ∧ PyData.leavesShortAll 40 ds = true ∧ PyData.weightAll ds ≤ 165 * cntAll ds := by
  induction ds with
  | nil => exact ⟨rfl, rfl, Nat.zero_le _⟩
  | cons d r ih =>
    obtain ⟨a1, a2, a3⟩ := h d (by simp)
    obtain ⟨b1, b2, b3⟩ := ih fun e he => h e (by simp [he])
    refine ⟨?_, ?_, ?_⟩
    · show (_ && _) = true; rw [a1, b1]; rfl
    · show (_ && _) = true; rw [a2, b2]; rfl
    · show PyData.weight d + 1 + PyData.weightAll r ≤ 165 * (cnt d + cntAll r); omega
theorem fine_kv {es : List (PyData × PyData)} (h : ∀ e ∈ es, (∃ x, e.1 = .str x ∧ NameOk x) ∧ Fine e.2) : PyData.showableKv es = true ∧ PyData.leavesShortKv 40 es = true ∧ PyData.weightKv es ≤ 165 * cntKv es := by
  induction es with
  | nil => exact ⟨rfl, rfl, Nat.zero_le _⟩
  | cons e r ih =>
    obtain ⟨k, d⟩ := e
    obtain ⟨⟨x, hx, hx1, hx2⟩, a1, a2, a3⟩ := h (k, d) (by simp)
    obtain ⟨b1, b2, b3⟩ := ih fun e he => h e (by simp [he])
    simp at hx
    subst hx
    have hw := str60_weight hx1
    refine ⟨?_, ?_, ?_⟩
    · show (PyData.showable (.str x) && PyData.showable d && _) = true; rw [a1, b1]; rfl
    · show (PyData.leavesShort 40 (.str x) && PyData.leavesShort 40 d && _) = true; rw [a2, b2]
      show ((x.cps.toList.all fun c => decide (c < 16 ^ 8)) && true && true) = true
      rw [ascii_big hx2]; rfl
    · show PyData.weight (.str x) + PyData.weight d + 2 + PyData.weightKv r ≤ 165 * (cnt d + cntKv r)
      have : PyData.weight d + 64 ≤ 165 * cnt d := a3
      omega
theorem Fine.list {ds : List PyData} (h : ∀ d ∈ ds, Fine d) : Fine (.list ds) := by
  obtain ⟨b1, b2, b3⟩ := fine_all h
  refine ⟨b1, b2, ?_⟩
  show PyData.weightAll ds + 64 ≤ 165 * (1 + cntAll ds)
  omega
theorem Fine.tuple {ds : List PyData} (h : ∀ d ∈ ds, Fine d) : Fine (.tuple ds) := by
  obtain ⟨b1, b2, b3⟩ := fine_all h
  refine ⟨b1, b2, ?_⟩
  show PyData.weightAll ds + 64 ≤ 165 * (1 + cntAll ds)
  omega
theorem Fine.dict {es : List (PyData × PyData)} (h : ∀ e ∈ es, (∃ x, e.1 = .str x ∧ NameOk x) ∧ Fine e.2) : Fine (.dict es) := by
  obtain ⟨b1, b2, b3⟩ := fine_kv h
  refine ⟨b1, b2, ?_⟩
  show PyData.weightKv es + 64 ≤ 165 * (1 + cntKv es)
  omega
theorem Fine.leaf {d : PyData} (h : leafD d) : Fine d := by
  cases d with
  | none => exact ⟨rfl, rfl, by decide⟩
  | bool b => exact ⟨rfl, rfl, by show 0 + 64 ≤ 165 * 1; decide⟩
  | int i =>
    have h1 := int30_len h
    have h2 := int30_log h
    refine ⟨decide_eq_true (show i.natAbs.log2 < 1920 by omega), decide_eq_true h1, ?_⟩
    show (if i == 0 then 0 else i.natAbs.log2 + 1) + 64 ≤ 165 * 1
    split <;> omega
  | str x =>
    have h1 := str60_weight h.1
    exact ⟨rfl, ascii_big h.2, by show PyData.weight (.str x) + 64 ≤ 165 * 1; omega⟩
  | list ds => exact h.elim
  | tuple ds => exact h.elim
  | dict ds => exact h.elim
theorem docD.fine : ∀ {n : Nat} {d : PyData}, docD n d → Fine d
  | 0, _, h => h.elim
  | n + 1, .list ds, h => Fine.list fun d hd => (h.2 d hd).fine
  | n + 1, .dict es, h => Fine.dict fun e he => ⟨(h.2 e he).1, (h.2 e he).2.fine⟩
  | n + 1, .none, h => Fine.leaf h
  | n + 1, .bool _, h => Fine.leaf h
  | n + 1, .int _, h => Fine.leaf h
  | n + 1, .str _, h => Fine.leaf h
  | n + 1, .tuple _, h => h.elim
theorem Fine.fits {d : PyData} (h : Fine d) (hc : cnt d ≤ 2000) : d.shown.length ≤ sizeLine := by
  have h1 := PyData.shown_le 40 (by decide) d h.2.1
  have h2 := h.2.2
  have e : sizeLine = 16777216 := by decide
  omega
/-- repr of a datum -/
theorem repr1 {H : Hp} {v : V} {n : Nat} {d : PyData} {Q : VK} (h : Rp H n v d) (hn : n ≤ 90) (hf : Fine d) (hc : cnt d ≤ 2000) (q : Q (.str d.shown) H) : rRepr [v] H Q := ⟨v, n, d, rfl, h, hn, hf.1, hf.fits hc, q⟩
end SC

set_option Elab.async false
set_option linter.all false
set_option maxRecDepth 100000
set_option maxHeartbeats 4000000
/-! Schemacheck: names in order, documents that are the same. -/
namespace SC
open PySem L2 PyProof.Rows

/-! ### texts in order -/
def leS (a b : Str) : Bool := !PySem.Spec.ltCps b.cps.toList a.cps.toList
theorem leS_iff (a b : Str) : leS a b = true ↔ a.cps.toList ≤ b.cps.toList := by
  unfold leS
  rw [ltCps_eq]
  simp
theorem leS_trans (a b c : Str) (h1 : leS a b = true) (h2 : leS b c = true) : leS a c = true := by
  rw [leS_iff] at *
  exact List.le_trans h1 h2
theorem leS_total (a b : Str) : (leS a b || leS b a) = true := by
  have := List.le_total a.cps.toList b.cps.toList
  rw [Bool.or_eq_true, leS_iff, leS_iff]
  exact this
theorem leS_anti (a b : Str) (h1 : leS a b = true) (h2 : leS b a = true) : a = b := by
  rw [leS_iff] at *
  have e := List.le_antisymm h1 h2
  have e2 : a.cps = b.cps := Array.toList_inj.mp e
  cases a; cases b; simp at e2; rw [e2]
def srt (xs : List Str) : List Str := xs.mergeSort leS
theorem srt_perm (xs : List Str) : (srt xs).Perm xs := List.mergeSort_perm _ _
theorem srt_pw (xs : List Str) : (srt xs).Pairwise (fun a b => leS a b = true) := List.pairwise_mergeSort leS_trans leS_total xs
theorem rising_pw : ∀ {r : List Str} {p : Str}, PyProof.Rows.risingS p r = true → (p :: r).Pairwise (fun a b => leS a b = true)
  | [], p, _ => by simp
  | x :: r, p, h => by
    have h' : (!PySem.Spec.ltCps x.cps.toList p.cps.toList && PyProof.Rows.risingS x r) = true := h
    rw [Bool.and_eq_true] at h'
    have ih := rising_pw h'.2
    refine List.pairwise_cons.mpr ⟨?_, ih⟩
    intro y hy
    rcases List.mem_cons.mp hy with rfl | hy
    · exact h'.1
    · exact leS_trans _ _ _ h'.1 ((List.pairwise_cons.mp ih).1 y hy)
theorem sorted_pw {ys : List Str} (h : PyProof.Rows.sortedS ys = true) : ys.Pairwise (fun a b => leS a b = true) := by
  cases ys with
  | nil => exact .nil
  | cons x r => exact rising_pw h
theorem srt_is {ys xs : List Str} (hp : ys.Perm xs) (hs : PyProof.Rows.sortedS ys = true) : ys = srt xs :=
  List.Perm.eq_of_pairwise (le := fun a b => leS a b = true) (fun a b _ _ h1 h2 => leS_anti a b h1 h2) (sorted_pw hs) (srt_pw xs) (hp.trans (srt_perm xs).symm)
theorem srt_congr {xs ys : List Str} (h : xs.Perm ys) : srt xs = srt ys :=
  List.Perm.eq_of_pairwise (le := fun a b => leS a b = true) (fun a b _ _ h1 h2 => leS_anti a b h1 h2) (srt_pw xs) (srt_pw ys) ((srt_perm xs).trans (h.trans (srt_perm ys).symm))
theorem perm_srt {xs ys : List Str} (h : srt xs = srt ys) : xs.Perm ys := (srt_perm xs).symm.trans (by rw [h]; exact srt_perm ys)
theorem srt_len (xs : List Str) : (srt xs).length = xs.length := (srt_perm xs).length_eq
theorem srt_nd {xs : List Str} (h : xs.Nodup) : (srt xs).Nodup := (srt_perm xs).nodup_iff.mpr h
theorem mem_srt {xs : List Str} {x : Str} : x ∈ srt xs ↔ x ∈ xs := (srt_perm xs).mem_iff

/-! ### dicts by their names -/
def strD : PyData → Str
  | .str x => x
  | _ => Str.empty
def keysD (es : List (PyData × PyData)) : List Str := es.map fun e => strD e.1
def StrKeys (es : List (PyData × PyData)) : Prop := ∀ e ∈ es, ∃ x, e.1 = .str x
def dget (es : List (PyData × PyData)) (x : Str) : Option PyData := (es.find? fun e => decide (strD e.1 = x)).map (·.2)
theorem docD.keys {n : Nat} {es : List (PyData × PyData)} (h : docD (n + 1) (.dict es)) : StrKeys es := fun e he => by
  obtain ⟨⟨x, hx, _⟩, _⟩ := h.2 e he
  exact ⟨x, hx⟩
abbrev KvR (F : V → PyData → Prop) : Key × V → PyData × PyData → Prop := fun p q => q.1 = kD p.1 ∧ F p.2 q.2
theorem keys_of {F : V → PyData → Prop} {kvs : List (Key × V)} {es : List (PyData × PyData)} (hp : Paired (KvR F) kvs es) (hs : StrKeys es) : kvs.map (·.1) = (keysD es).map Sum.inr := by
  induction hp with
  | nil => rfl
  | cons r _ ih =>
    obtain ⟨x, hx⟩ := hs _ (List.mem_cons_self)
    have h1 := ih fun e he => hs e (by simp [he])
    simp only [keysD, List.map_cons, List.map_map] at h1 ⊢
    rw [h1]
    congr 1
    have h2 := r.1
    rw [hx] at h2
    rw [hx]
    rename_i a _ _ _ _
    obtain ⟨k, v⟩ := a
    cases k with
    | inl i => cases h2
    | inr y => cases h2; rfl
theorem keysV_of {F : V → PyData → Prop} {kvs : List (Key × V)} {es : List (PyData × PyData)} (hp : Paired (KvR F) kvs es) (hs : StrKeys es) : (kvs.map fun kv => kV kv.1) = (keysD es).map V.str := by
  have h := congrArg (List.map kV) (keys_of hp hs)
  rw [List.map_map, List.map_map] at h
  exact h
theorem inr_nd {xs : List Str} (h : (xs.map (Sum.inr : Str → Key)).Nodup) : xs.Nodup := by
  induction xs with
  | nil => exact List.nodup_nil
  | cons x r ih =>
    rw [List.map_cons, List.nodup_cons] at h
    rw [List.nodup_cons]
    exact ⟨fun hm => h.1 (List.mem_map.mpr ⟨x, hm, rfl⟩), ih h.2⟩
theorem nd_inr {xs : List Str} (h : xs.Nodup) : (xs.map (Sum.inr : Str → Key)).Nodup := by
  induction xs with
  | nil => exact List.nodup_nil
  | cons x r ih =>
    rw [List.nodup_cons] at h
    rw [List.map_cons, List.nodup_cons]
    refine ⟨fun hm => ?_, ih h.2⟩
    obtain ⟨y, hy, e⟩ := List.mem_map.mp hm
    cases e
    exact h.1 hy
theorem keys_nd {F : V → PyData → Prop} {kvs : List (Key × V)} {es : List (PyData × PyData)} (hp : Paired (KvR F) kvs es) (hs : StrKeys es) (hn : (kvs.map (·.1)).Nodup) : (keysD es).Nodup := by
  rw [keys_of hp hs] at hn
  exact inr_nd hn
/-- what a name leads to, in the heap and in the datum -/
theorem get_of {F : V → PyData → Prop} {kvs : List (Key × V)} {es : List (PyData × PyData)} (hp : Paired (KvR F) kvs es) (hs : StrKeys es) (x : Str) :
    (valV kvs (Sum.inr x) = none ∧ dget es x = none) ∨ ∃ v d, valV kvs (Sum.inr x) = some v ∧ dget es x = some d ∧ F v d := by
  induction hp with
  | nil => exact .inl ⟨rfl, rfl⟩
  | cons r _ ih =>
    obtain ⟨y, hy⟩ := hs _ (List.mem_cons_self)
    have h1 := ih fun e he => hs e (by simp [he])
    rename_i a b l1 l2 _
    obtain ⟨k, v⟩ := a
    obtain ⟨b1, b2⟩ := b
    obtain ⟨r1, r2⟩ := r
    simp at hy r1 r2
    subst hy
    cases k with
    | inl i => cases r1
    | inr z =>
      cases r1
      by_cases hz : y = x
      · subst hz
        refine .inr ⟨v, b2, ?_, ?_, r2⟩
        · simp [valV]
        · simp [dget, strD]
      · have hz' : ¬ (Sum.inr y : Key) = Sum.inr x := fun e => hz (Sum.inr.inj e)
        have e1 : valV ((Sum.inr y, v) :: l1) (Sum.inr x) = valV l1 (Sum.inr x) := by
          simp only [valV, List.find?_cons, decide_eq_false hz']
        have e2 : dget ((PyData.str y, b2) :: l2) x = dget l2 x := by
          have : ¬ strD (.str y) = x := hz
          simp only [dget, List.find?_cons, decide_eq_false this]
        rw [e1, e2]
        exact h1
theorem dget_mem {es : List (PyData × PyData)} {x : Str} {d : PyData} (h : dget es x = some d) : ∃ e ∈ es, e.2 = d ∧ strD e.1 = x := by
  unfold dget at h
  cases e : es.find? fun e => decide (strD e.1 = x) with
  | none => rw [e] at h; cases h
  | some q =>
    rw [e] at h
    cases h
    exact ⟨q, List.mem_of_find?_eq_some e, rfl, by have := List.find?_some e; simpa using this⟩
theorem dget_none {es : List (PyData × PyData)} {x : Str} (h : dget es x = none) : x ∉ keysD es := by
  unfold dget at h
  intro hm
  obtain ⟨e, he, hx⟩ := List.mem_map.mp hm
  cases q : es.find? fun e => decide (strD e.1 = x) with
  | none =>
    have := List.find?_eq_none.mp q e he
    simp at this
    exact this hx
  | some z => rw [q] at h; cases h

/-! ### the same -/
def sameL : PyData → PyData → Bool
  | .none, .none => true
  | .bool a, .bool b => decide (a = b)
  | .int i, .int j => decide (i = j)
  | .str x, .str y => decide (x = y)
  | _, _ => false
def optB (o : Option PyData) (f : PyData → Bool) : Bool := match o with
  | some d => f d
  | none => false
def sameN : Nat → PyData → PyData → Bool
  | 0, _, _ => false
  | n + 1, .list xs, .list ys => decide (xs.length = ys.length) && (List.zipWith (sameN n) xs ys).all id
  | n + 1, .dict es, .dict fs => decide (srt (keysD es) = srt (keysD fs)) && (es.map fun e => optB (dget fs (strD e.1)) (sameN n e.2)).all id
  | _ + 1, d, e => sameL d e
theorem sameL_refl {d : PyData} (h : leafD d) : sameL d d = true := by
  cases d <;> first | exact h.elim | simp [sameL]
/-- names nowhere twice -/
def ndD : Nat → PyData → Prop
  | 0, _ => True
  | n + 1, .list ds => ∀ d ∈ ds, ndD n d
  | n + 1, .dict es => (keysD es).Nodup ∧ ∀ e ∈ es, ndD n e.2
  | _ + 1, _ => True
theorem Rp.nd {H : Hp} : ∀ {n m : Nat} {v : V} {d : PyData}, Rp H n v d → docD m d → ndD m d
  | 0, _, _, _, h, _ => h.elim
  | _, 0, _, _, _, _ => trivial
  | n + 1, m + 1, v, .none, _, _ => trivial
  | n + 1, m + 1, v, .bool _, _, _ => trivial
  | n + 1, m + 1, v, .int _, _, _ => trivial
  | n + 1, m + 1, v, .str _, _, _ => trivial
  | n + 1, m + 1, v, .tuple _, _, _ => trivial
  | n + 1, m + 1, v, .list ds, ⟨a, xs, _, _, _, hp⟩, hd => fun d hm => by
    obtain ⟨x, _, r⟩ := pd_memR hp hm
    exact r.nd (hd.2 d hm)
  | n + 1, m + 1, v, .dict es, ⟨a, kvs, _, _, _, hn, hp⟩, hd => ⟨keys_nd hp hd.keys hn, fun e hm => by
    obtain ⟨x, _, r⟩ := pd_memR hp hm
    exact r.2.nd (hd.2 e hm).2⟩

/-! ### rules that speak of the written part, by its name -/
section
variable {X : Cx} {K : PySem.W.Frag}
theorem ixLK (h : X.K = K) : IxR X (rIxL K) := by subst h; exact ix_list
theorem ixTK (h : X.K = K) : IxR X (rIxT K) := by subst h; exact ix_tup
theorem isiK (h : X.K = K) : CallR X (.builtin "isinstance") (rIsi K) := by subst h; exact call_isi
theorem isiTK (h : X.K = K) : CallR X (.builtin "isinstance") (rIsiT K) := by subst h; exact call_isiT
def rLenK (K : PySem.W.Frag) : List V → Hp → VK → Prop := fun xs H Q => ∃ x n, xs = [x] ∧ LenV K x H n ∧ Q (.int (n : Nat)) H
theorem lenK (h : X.K = K) : CallR X (.builtin "len") (rLenK K) := by subst h; exact call_len
theorem maxK (h : X.K = K) (hc : X.calm = true) : CallR X (.builtin "max") (rMax K) := by subst h; exact cr_max hc
theorem sumK (h : X.K = K) (hc : X.calm = true) : CallR X (.builtin "sum") (rSum K) := by subst h; exact cr_sum hc
theorem allK (h : X.K = K) (hc : X.calm = true) : CallR X (.builtin "all") (rAll K) := by subst h; exact cr_all hc
theorem anyK (h : X.K = K) (hc : X.calm = true) : CallR X (.builtin "any") (rAny K) := by subst h; exact cr_any hc
theorem sortedSK (h : X.K = K) : CallR X (.builtin "sorted") (rSortedS K) := by subst h; exact cr_sortedS
theorem inK (h : X.K = K) : OpR X (compareOp .In) (rIn K false) := by subst h; exact op_in_seq
theorem notInK (h : X.K = K) : OpR X (compareOp .NotIn) (rIn K true) := by subst h; exact op_notIn_seq
theorem eqDK (h : X.K = K) (hu : X.A.units + 64 < cLine) : OpR X (compareOp .Eq) (rEqD K) := by subst h; exact op_eqD hu
theorem neDK (h : X.K = K) (hu : X.A.units + 64 < cLine) : OpR X (compareOp .NotEq) (rNeD K) := by subst h; exact op_neD hu
theorem slLK (h : X.K = K) : SlR X (rSlL K) := by subst h; exact sl_list
theorem slTK (h : X.K = K) : SlR X (rSlT K) := by subst h; exact sl_tup
def rListK (K : PySem.W.Frag) : List V → Hp → VK → Prop := fun xs H Q => ∃ p ys, xs = [.ref p] ∧ (SqL K H p ys ∨ SqT K H p ys) ∧ ∀ l, H l = none → Q (.ref l) (upd H l (.lst ys))
theorem listK (h : X.K = K) : CallR X (.type "list") (rListK K) := by subst h; exact call_list_of
end

/-! ### kinds -/
def kindD : PyData → Str
  | .none => "null"
  | .bool _ => "boolean"
  | .int _ => "integer"
  | .str _ => "string"
  | .list _ => "array"
  | _ => "object"

theorem same_kind {n m : Nat} {d e : PyData} (hd : docD m d) (he : docD m e) (h : ¬ kindD d = kindD e) : sameN (n + 1) d e = false := by
  cases m with
  | zero => exact hd.elim
  | succ m => cases d <;> cases e <;> first | exact hd.elim | exact he.elim | rfl | exact absurd rfl h
theorem kind_inv {m : Nat} {d e : PyData} (hd : docD m d) (he : docD m e) (h : kindD d = kindD e) :
    (d = .none ∧ e = .none) ∨ (∃ a b, d = .bool a ∧ e = .bool b) ∨ (∃ a b, d = .int a ∧ e = .int b) ∨ (∃ a b, d = .str a ∧ e = .str b) ∨ (∃ a b, d = .list a ∧ e = .list b) ∨ ∃ a b, d = .dict a ∧ e = .dict b := by
  cases m with
  | zero => exact hd.elim
  | succ m =>
    cases d <;> cases e <;> first | exact hd.elim | exact he.elim | exact .inl ⟨rfl, rfl⟩ | exact .inr (.inl ⟨_, _, rfl, rfl⟩) | exact .inr (.inr (.inl ⟨_, _, rfl, rfl⟩)) | exact .inr (.inr (.inr (.inl ⟨_, _, rfl, rfl⟩))) | exact .inr (.inr (.inr (.inr (.inl ⟨_, _, rfl, rfl⟩)))) | exact .inr (.inr (.inr (.inr (.inr ⟨_, _, rfl, rfl⟩)))) | exact absurd h (by simp only [kindD]; decide +kernel)
theorem strOk_of {x : Str} (h : AsciiS x) : PyData.strOk x = true := by
  unfold PyData.strOk
  rw [Array.all_eq_true_iff_forall_mem]
  intro c hc
  have := h c (by simpa using hc)
  exact decide_eq_true (by omega)
theorem layAll_strs : ∀ {xs : List Str}, (∀ x ∈ xs, AsciiS x) → PyData.canLayAll0 (xs.map .str) = true
  | [], _ => rfl
  | x :: r, h => by
    show (PyData.strOk x && PyData.canLayAll0 (r.map .str)) = true
    rw [strOk_of (h x (by simp)), layAll_strs fun y hy => h y (by simp [hy])]
    rfl
theorem depth_strs : ∀ xs : List Str, PyData.depthAll (xs.map .str) = 0
  | [] => rfl
  | x :: r => by
    show max 0 (PyData.depthAll (r.map .str)) = 0
    rw [depth_strs r]
    rfl
theorem shaped_strs {xs : List Str} (h : ∀ x ∈ xs, AsciiS x) : SeqAt.shaped (.list (xs.map .str)) = true := by
  have h1 := layAll_strs h
  have h2 := depth_strs xs
  show (PyData.canLayAll0 (xs.map .str) && decide (PyData.depthAll (xs.map .str) + 1 ≤ 64)) = true
  rw [h1, h2]
  rfl
theorem eqv_strs : ∀ xs ys : List Str, PyData.eqv (.list (xs.map .str)) (.list (ys.map .str)) = decide (xs = ys) := by
  have h : ∀ xs ys : List Str, PyData.eqvAll (xs.map .str) (ys.map .str) = decide (xs = ys) := by
    intro xs
    induction xs with
    | nil =>
      intro ys
      cases ys with
      | nil => rfl
      | cons y r => rfl
    | cons x r ih =>
      intro ys
      cases ys with
      | nil => rfl
      | cons y q =>
        show ((x == y) && PyData.eqvAll (r.map .str) (q.map .str)) = _
        rw [ih q]
        by_cases hxy : x = y
        · subst hxy
          simp
        · simp [hxy]
  intro xs ys
  exact h xs ys
theorem Dp_strs {K : PySem.W.Frag} {H : Hp} {a : Addr} {xs : List Str} (h : H a = some (.lst (xs.map V.str))) : Dp K H (.ref a) (.list (xs.map .str)) := by
  refine .lst (SqL.of h) ?_
  induction xs generalizing H with
  | nil => exact .nil
  | cons x r ih =>
    have : ∀ l : List Str, DpAll K H (l.map V.str) (l.map PyData.str) := by
      intro l
      induction l with
      | nil => exact .nil
      | cons y q ih2 => exact .cons (.str y) ih2
    exact this _

/-! ### None, True, False are shown as nothing else is -/
theorem mem_list (ts : List Str) : 93 ∈ (listText ts).cps.toList := by
  unfold listText
  show 93 ∈ ((textFrom 0 "[" ts).cps ++ (Str.ofString "]").cps).toList
  rw [Array.toList_append]
  exact List.mem_append_right _ (by decide +kernel)
theorem mem_dict (ts : List Str) : 125 ∈ (dictText ts).cps.toList := by
  unfold dictText
  show 125 ∈ (_ ++ (Str.ofString "}").cps).toList
  rw [Array.toList_append]
  exact List.mem_append_right _ (by decide +kernel)
theorem mem_str (x : Str) : reprQuote x ∈ (reprText x).cps.toList := by
  unfold reprText
  simp
theorem quote_is (x : Str) : reprQuote x = 39 ∨ reprQuote x = 34 := by
  unfold reprQuote
  split <;> simp
def flatN : PyData → Bool
  | .none => true
  | .bool _ => true
  | _ => false
theorem flat_apart {d e : PyData} (hd : flatN d = true) (he : flatN e = false) (ht : ∀ ds, e ≠ .tuple ds) : d.shown ≠ e.shown := by
  intro h
  have h2 : ∀ c, c ∈ e.shown.cps.toList → c ∈ d.shown.cps.toList := fun c hc => by rw [h]; exact hc
  have h3 : ∀ c, c ∈ d.shown.cps.toList → c ∈ e.shown.cps.toList := fun c hc => by rw [← h]; exact hc
  have no : ∀ c ∈ [93, 125, 39, 34], c ∉ d.shown.cps.toList := by
    cases d with
    | none => decide +kernel
    | bool b => cases b <;> decide +kernel
    | _ => cases hd
  cases e with
  | none => cases he
  | bool b => cases he
  | tuple ds => exact ht ds rfl
  | list ds => exact no 93 (by simp) (h2 _ (mem_list _))
  | dict ds => exact no 125 (by simp) (h2 _ (mem_dict _))
  | str x =>
    rcases quote_is x with q | q
    · exact no 39 (by simp) (h2 _ (by rw [← q]; exact mem_str x))
    · exact no 34 (by simp) (h2 _ (by rw [← q]; exact mem_str x))
  | int i =>
    have hi : ∀ c ∈ [78, 84, 70], c ∉ (PyData.shown (.int i)).cps.toList := by
      intro c hc
      simp only [List.mem_cons, List.not_mem_nil, or_false] at hc
      rcases hc with rfl | rfl | rfl <;> exact PyProof.Rows.int_text_free' _ ⟨by decide, by decide⟩ i
    cases d with
    | none => exact hi 78 (by simp) (h3 78 (by decide +kernel))
    | bool b =>
      cases b
      · exact hi 70 (by simp) (h3 70 (by decide +kernel))
      · exact hi 84 (by simp) (h3 84 (by decide +kernel))
    | _ => cases hd
theorem flat_same {n m : Nat} {d e : PyData} (dd : docD m d) (de : docD m e) (h : flatN d = true ∨ flatN e = true) : decide (d.shown = e.shown) = sameN (n + 1) d e := by
  have nt : ∀ {x : PyData}, docD m x → ∀ ds, x ≠ .tuple ds := by
    intro x hx ds e
    subst e
    cases m with
    | zero => exact hx.elim
    | succ m => exact hx.elim
  by_cases hd : flatN d = true
  · by_cases he : flatN e = true
    · cases d <;> first | cases hd | skip
      all_goals cases e <;> first | cases he | skip
      · rfl
      · rename_i b; cases b <;> (show _ = sameL _ _; decide +kernel)
      · rename_i b; cases b <;> (show _ = sameL _ _; decide +kernel)
      · rename_i a b; cases a <;> cases b <;> (show _ = sameL _ _; decide +kernel)
    · have he' : flatN e = false := by simpa using he
      rw [decide_eq_false (flat_apart hd he' (nt de))]
      cases d <;> first | cases hd | skip
      all_goals cases e <;> first | exact absurd rfl he | rfl
  · have hd' : flatN d = false := by simpa using hd
    have he : flatN e = true := by rcases h with h | h; exact absurd h hd; exact h
    rw [decide_eq_false (fun z => flat_apart he hd' (nt dd) z.symm)]
    cases e <;> first | cases he | skip
    all_goals cases d <;> first | exact absurd rfl hd | rfl
theorem Room.u100 {k : Nat} {A : Around} (r : Room k A) : A.units + 100 < cLine := by have := r.un; omega
theorem flat_iff {H : Hp} {n : Nat} {v : V} {d : PyData} (h : Rp H n v d) : flatN d = true ↔ isT .bool d = true ∨ v = .non := by
  cases n with
  | zero => exact h.elim
  | succ n =>
    cases d with
    | none => cases h; simp [flatN]
    | bool b => cases h; simp [flatN, isT]
    | int b => cases h; simp [flatN, isT]
    | str b => cases h; simp [flatN, isT]
    | list b => obtain ⟨a, xs, rfl, _⟩ := h; simp [flatN, isT]
    | tuple b => obtain ⟨a, xs, rfl, _⟩ := h; simp [flatN, isT]
    | dict b => obtain ⟨a, xs, rfl, _⟩ := h; simp [flatN, isT]
theorem notin_false (bs : List Bool) : (!inV (.bl false) (bs.map V.bl)) = bs.all id := by
  unfold inV
  induction bs with
  | nil => rfl
  | cons b r ih =>
    simp only [List.map_cons, List.any_cons, Bool.not_or, List.all_cons]
    rw [ih]
    cases b <;> rfl
theorem flat_bls (bs : List Bool) : (bs.map V.bl).all flatV = true := by
  rw [List.all_eq_true]
  intro x hx
  obtain ⟨b, _, rfl⟩ := List.mem_map.mp hx
  rfl
/-- name = [.. for k in d], the dict locked -/
theorem tLock_asg (te : TE) (k : Nat) (D : Ends) (σ : L2.St) (H : Hp) : tLock (tAsg te (gName k)) D σ H = tLockE te σ H (fun v H' => D.nx (σ.set k (some v)) H') := rfl
end SC

set_option Elab.async false
set_option linter.all false
set_option maxRecDepth 100000
set_option maxHeartbeats 4000000
/-! Schemacheck: texts; parts of the heap. -/
namespace SC
open PySem L2

/-! ### the heap without some of it -/
def gone (S : List Addr) (H : Hp) : Hp := fun b => if b ∈ S then none else H b
theorem gone_sub (S : List Addr) (H : Hp) : Same (gone S H) H := fun b o e => by
  unfold gone at e
  split at e
  · cases e
  · exact e
theorem gone_at {S : List Addr} {H : Hp} {b : Addr} (h : b ∉ S) : gone S H b = H b := if_neg h
theorem gone_keep {S : List Addr} {H H' : Hp} (k : Keep S H H') : Same (gone S H) (gone S H') := fun b o e => by
  unfold gone at e ⊢
  split at e
  · cases e
  · rename_i h
    rw [if_neg h]
    exact k b o e h
theorem gone_same {S : List Addr} {H H' : Hp} (k : Same H H') : Same (gone S H) (gone S H') := gone_keep (.of k)
theorem gone_less {S T : List Addr} {H : Hp} (h : ∀ b ∈ S, b ∈ T) : Same (gone T H) (gone S H) := fun b o e => by
  unfold gone at e ⊢
  split at e
  · cases e
  · rename_i z
    rw [if_neg fun y => z (h b y)]
    exact e
/-- a new thing is none of the old -/
theorem gone_new {S : List Addr} {H : Hp} {D : Addr} {o : HO} (hD : H D = none) : Same (gone S H) (gone (D :: S) (upd H D o)) := fun b u e => by
  unfold gone at e ⊢
  split at e
  · cases e
  · rename_i z
    have hb : b ≠ D := ne_of_none e hD
    rw [if_neg (by simp [hb, z]), upd_ne hb]
    exact e
theorem gone_mut {S : List Addr} {H : Hp} {D : Addr} {o : HO} (hD : D ∈ S) : gone S (upd H D o) = gone S H := by
  funext b
  unfold gone
  split
  · rfl
  · rename_i z
    exact upd_ne fun e => z (e ▸ hD)
theorem gone_in {S : List Addr} {H H' : Hp} {D : Addr} (k : Same H H') (hD : H D = none) : Same (gone S H) (gone (D :: S) H') := fun b u e => by
  unfold gone at e ⊢
  split at e
  · cases e
  · rename_i z
    have hb : b ≠ D := ne_of_none e hD
    rw [if_neg (by simp [hb, z])]
    exact k _ _ e
theorem not_gone {S : List Addr} {H : Hp} {D : Addr} (hS : ∀ a ∈ S, H a ≠ none) (hD : H D = none) : D ∉ S := fun h => hS D h hD
theorem here_same {S : List Addr} {H H' : Hp} (hS : ∀ a ∈ S, H a ≠ none) (k : Same H H') : ∀ a ∈ S, H' a ≠ none := fun a ha e => by
  cases h : H a with
  | none => exact hS a ha h
  | some o => rw [k _ _ h] at e; cases e
theorem here_cons {S : List Addr} {H : Hp} {D : Addr} {o : HO} (hS : ∀ a ∈ S, H a ≠ none) (hD : H D = some o) : ∀ a ∈ D :: S, H a ≠ none := fun a ha e => by
  rcases List.mem_cons.mp ha with rfl | h
  · rw [hD] at e; cases e
  · exact hS a h e
theorem pd_rev {A B : Type} {F : A → B → Prop} {xs : List A} {ys : List B} (h : Paired F xs ys) : Paired F xs.reverse ys.reverse := by
  induction h with
  | nil => exact .nil
  | cons h1 _ ih => rw [List.reverse_cons, List.reverse_cons]; exact pd_app ih (.cons h1 .nil)
theorem pd_both {A B : Type} {F G K : A → B → Prop} {xs : List A} {ys : List B} (h : Paired F xs ys) (g : Paired G xs ys) (f : ∀ a b, F a b → G a b → K a b) : Paired K xs ys := by
  induction h with
  | nil => exact .nil
  | cons h1 _ ih => cases g with
    | cons g1 g2 => exact .cons (f _ _ h1 g1) (ih g2)
theorem news_gone {S : List Addr} {H H' : Hp} (hs : ∀ a ∈ S, H a ≠ none) : Same (news H H') (gone S H') := fun b o e => by
  unfold news at e
  split at e
  · cases e
  · rename_i h
    rw [gone_at fun z => hs b z h]
    exact e

/-! ### data no part of which is locked -/
def Re (H : Hp) : Nat → V → PyData → Prop
  | 0, _, _ => False
  | _ + 1, v, .none => v = .non
  | _ + 1, v, .bool b => v = .bl b
  | _ + 1, v, .int i => v = .int i
  | _ + 1, v, .str x => v = .str x
  | n + 1, v, .list ds => ∃ a xs, v = .ref a ∧ H a = some (.lst xs) ∧ xs.length ≤ 10000 ∧ Paired (Re H n) xs ds
  | n + 1, v, .tuple ds => ∃ a xs, v = .ref a ∧ H a = some (.tup xs) ∧ xs.length ≤ 10000 ∧ Paired (Re H n) xs ds
  | n + 1, v, .dict es => ∃ a kvs, v = .ref a ∧ H a = some (.dK kvs) ∧ kvs.length ≤ 10000 ∧ (kvs.map (·.1)).Nodup ∧ Paired (KvR (Re H n)) kvs es
theorem Re.imp {H H' : Hp} : ∀ {n : Nat} {v : V} {d : PyData}, Same H H' → Re H n v d → Re H' n v d
  | 0, _, _, _, h => h
  | n + 1, v, .none, _, h => h
  | n + 1, v, .bool _, _, h => h
  | n + 1, v, .int _, _, h => h
  | n + 1, v, .str _, _, h => h
  | n + 1, v, .list ds, e, ⟨a, xs, h1, h2, hb, h3⟩ => ⟨a, xs, h1, e _ _ h2, hb, pd_imp h3 fun _ _ _ _ q => Re.imp e q⟩
  | n + 1, v, .tuple ds, e, ⟨a, xs, h1, h2, hb, h3⟩ => ⟨a, xs, h1, e _ _ h2, hb, pd_imp h3 fun _ _ _ _ q => Re.imp e q⟩
  | n + 1, v, .dict es, e, ⟨a, xs, h1, h2, hb, hn, h3⟩ => ⟨a, xs, h1, e _ _ h2, hb, hn, pd_imp h3 fun _ _ _ _ q => ⟨q.1, Re.imp e q.2⟩⟩
theorem Re.rp {H : Hp} : ∀ {n : Nat} {v : V} {d : PyData}, Re H n v d → Rp H n v d
  | 0, _, _, h => h
  | n + 1, v, .none, h => h
  | n + 1, v, .bool _, h => h
  | n + 1, v, .int _, h => h
  | n + 1, v, .str _, h => h
  | n + 1, v, .list ds, ⟨a, xs, h1, h2, hb, h3⟩ => ⟨a, xs, h1, h2, hb, pd_imp h3 fun _ _ _ _ q => Re.rp q⟩
  | n + 1, v, .tuple ds, ⟨a, xs, h1, h2, hb, h3⟩ => ⟨a, xs, h1, h2, hb, pd_imp h3 fun _ _ _ _ q => Re.rp q⟩
  | n + 1, v, .dict es, ⟨a, xs, h1, h2, hb, hn, h3⟩ => ⟨a, xs, h1, .inl h2, hb, hn, pd_imp h3 fun _ _ _ _ q => ⟨q.1, Re.rp q.2⟩⟩
theorem Re.up1 {H : Hp} : ∀ {n : Nat} {v : V} {d : PyData}, Re H n v d → Re H (n + 1) v d
  | 0, _, _, h => h.elim
  | n + 1, v, .none, h => h
  | n + 1, v, .bool _, h => h
  | n + 1, v, .int _, h => h
  | n + 1, v, .str _, h => h
  | n + 1, v, .list ds, ⟨a, xs, h1, h2, hb, h3⟩ => ⟨a, xs, h1, h2, hb, pd_imp h3 fun _ _ _ _ q => Re.up1 q⟩
  | n + 1, v, .tuple ds, ⟨a, xs, h1, h2, hb, h3⟩ => ⟨a, xs, h1, h2, hb, pd_imp h3 fun _ _ _ _ q => Re.up1 q⟩
  | n + 1, v, .dict es, ⟨a, xs, h1, h2, hb, hn, h3⟩ => ⟨a, xs, h1, h2, hb, hn, pd_imp h3 fun _ _ _ _ q => ⟨q.1, Re.up1 q.2⟩⟩
theorem Re.up {H : Hp} {n m : Nat} {v : V} {d : PyData} (h : Re H n v d) (hl : n ≤ m) : Re H m v d := by
  induction hl with
  | refl => exact h
  | step _ ih => exact ih.up1
theorem Re.leaf {H : Hp} {n : Nat} {v : V} {d : PyData} (hd : leafD d) (h : Rp H n v d) : Re H n v d := by
  cases n with
  | zero => exact h.elim
  | succ n => cases d <;> first | exact h | exact hd.elim
/-- a part of an unlocked datum, in less of the heap -/
theorem Re.of {G H : Hp} (s : Same G H) : ∀ {n m : Nat} {v : V} {d : PyData}, Re H n v d → Rp G m v d → Re G m v d
  | 0, _, _, _, h, _ => h.elim
  | _, 0, _, _, _, h => h.elim
  | n + 1, m + 1, v, .none, h, _ => h
  | n + 1, m + 1, v, .bool _, h, _ => h
  | n + 1, m + 1, v, .int _, h, _ => h
  | n + 1, m + 1, v, .str _, h, _ => h
  | n + 1, m + 1, v, .list ds, ⟨a, xs, h1, h2, hb, h3⟩, ⟨a', xs', g1, g2, gb, g3⟩ => by
    rw [h1] at g1; cases g1
    have e := s _ _ g2
    rw [h2] at e; cases e
    exact ⟨a, xs, h1, g2, hb, pd_both h3 g3 fun _ _ q r => Re.of s q r⟩
  | n + 1, m + 1, v, .tuple ds, ⟨a, xs, h1, h2, hb, h3⟩, ⟨a', xs', g1, g2, gb, g3⟩ => by
    rw [h1] at g1; cases g1
    have e := s _ _ g2
    rw [h2] at e; cases e
    exact ⟨a, xs, h1, g2, hb, pd_both h3 g3 fun _ _ q r => Re.of s q r⟩
  | n + 1, m + 1, v, .dict es, ⟨a, xs, h1, h2, hb, hn, h3⟩, ⟨a', xs', g1, g2, gb, gn, g3⟩ => by
    rw [h1] at g1; cases g1
    rcases g2 with g2 | ⟨o, g2⟩
    · have e := s _ _ g2
      rw [h2] at e; cases e
      exact ⟨a, xs, h1, g2, hb, hn, pd_both h3 g3 fun _ _ q r => ⟨q.1, Re.of s q.2 r.2⟩⟩
    · have e := s _ _ g2
      rw [h2] at e; cases e

/-! ### rules with the given part named -/
section
variable {X : Cx} {K : PySem.W.Frag}
theorem pe_gstr {x z : Str} {t : Tok} {pos : Pos} (hg : Gl X x) (hm : X.mg x = some (.str z t)) (hd : (x == ("__debug__" : Str)) = false := by decide) : PE X (.Name x pos) (tC (.str z)) := pe_glob (v := .str z) hg hm ⟨t, rfl⟩ hd
theorem revLK {e : Expr} {te : TE} {k : Nat} {p1 p2 p3 pos : Pos} (h : X.K = K) (he : PE X e te) : PE X (.Subscript e (.Slice none none (some (.UnaryOp .USub (.Constant (.int 1) k p1) p2)) p3) pos) (tRevL K te) := by subst h; exact pe_revL he
def rJoin (K : PySem.W.Frag) : V → List V → Hp → VK → Prop := fun x xs H Q => ∃ a p, ∃ ys : List Str, x = .str a ∧ xs = [.ref p] ∧ (SqL K H p (ys.map V.str) ∨ SqT K H p (ys.map V.str)) ∧
      (ys.map (·.length)).sum + ys.length * a.length ≤ 16777216 ∧ Q (.str (Txt.join a ys)) H
theorem joinK {o e : Expr} {to te : TE} {apos pos : Pos} (h : X.K = K) (ho : PE X o to) (he : PE X e te) (hs : starEach [e] X.env = [(false, eval e X.env)] := by rfl) (hbase : attributeBase o "join" X.env (eval o X.env) = eval o X.env := by rfl) (hline : (apos.endLine == pos.line) = true := by rfl) :
    PE X (.Call (.Attribute o "join" apos) [e] [] pos) (tM1 (rJoin K) to te) := by subst h; exact pe_join ho he hs hbase hline
/-- len of a list, tuple, text or dict -/
def LenA (K : PySem.W.Frag) (x : V) (H : Hp) (n : Nat) : Prop := LenV K x H n ∨ ∃ a kvs, x = .ref a ∧ Rd H a (.dK kvs) ∧ n = kvs.length
theorem LenA.l {K : PySem.W.Frag} {H : Hp} {a : Addr} {xs : List V} (h : SqL K H a xs) : LenA K (.ref a) H xs.length := .inl (.inl ⟨xs, h, rfl⟩)
theorem LenA.d {K : PySem.W.Frag} {H : Hp} {a : Addr} {kvs : List (Key × V)} (h : Rd H a (.dK kvs)) : LenA K (.ref a) H kvs.length := .inr ⟨a, kvs, rfl, h, rfl⟩
def rLenA (K : PySem.W.Frag) : List V → Hp → VK → Prop := fun xs H Q => ∃ x n, xs = [x] ∧ LenA K x H n ∧ Q (.int (n : Nat)) H
theorem lenAK (h : X.K = K) : CallR X (.builtin "len") (rLenA K) := by
  subst h
  intro pins s σ H xs us Q I r h
  obtain ⟨x, n, rfl, e, q⟩ := h
  rcases e with e | ⟨a, kvs, rfl, e, rfl⟩
  · exact call_len pins s σ H _ us Q I r ⟨x, n, rfl, e, q⟩
  · cases r with
    | cons r rr =>
      cases rr
      cases r
      exact d_len I e fun t s' I' => ⟨.int kvs.length, H, I', ⟨t, rfl⟩, q⟩
def rTup (K : PySem.W.Frag) : List V → Hp → VK → Prop := fun xs H Q => ∃ p ys, xs = [.ref p] ∧ ((SqL K H p ys ∧ ∀ l, H l = none → Q (.ref l) (upd H l (.tup ys))) ∨ (SqT K H p ys ∧ Q (.ref p) H))
theorem tupleK (h : X.K = K) : CallR X (.type "tuple") (rTup K) := by subst h; exact call_tuple_of
end

/-! ### texts -/
theorem len_app (x y : Str) : (x ++ y).length = x.length + y.length := by
  show (x.cps ++ y.cps).size = _
  rw [Array.size_append]
  rfl
theorem int_len {i : Int} (h : -10 ^ 30 ≤ i ∧ i ≤ 10 ^ 30) : (Str.ofString (toString i)).length ≤ 40 := int30_len h
/-! ### signs of a text -/
theorem lcP_str {z : Str} {te : TE} {j : Nat} {σ : L2.St} {H1 : Hp} {Q : VK} (ys : List V) (hl : ys.length = z.length) (hz : z.length ≤ 100000)
    (step : ∀ (i : Nat) c y H' (N : VK), z.cps.toList[i]? = some c → ys[i]? = some y → Same H1 H' → (∀ H4, Same H' H4 → N y H4) → te ((wipe σ [j]).set j (some (.str ⟨#[c]⟩))) H' N)
    (done : ∀ D H', H1 D = none → Same H1 H' → H' D = some (.lst ys) → Q (.ref D) H') : LcR (Its z) (gName j) tYes te [j] σ H1 Q :=
  lcP_map walk_str (fun i x => ∃ c, z.cps[i]? = some c ∧ x = .str ⟨#[c]⟩) (fun _ _ _ _ h => h) (fun _ _ => trivial) ys hl hz (fun i x y H' N ⟨c, h1, h2⟩ hy s n => by subst h2; exact step i c y H' N (by rw [Array.getElem?_toList]; exact h1) hy s n) done
/-- [x for x in text if ..] -/
theorem lcF_str {z : Str} {tt : TT} {j : Nat} {σ : L2.St} {H1 : Hp} {Q : VK} (p : Nat → Bool) (hz : z.length ≤ 100000) (hj : j < σ.length)
    (step : ∀ c H' (N : Bool → Hp → Prop), c ∈ z.cps.toList → Same H1 H' → N (p c) H' → tt ((wipe σ [j]).set j (some (.str ⟨#[c]⟩))) H' N)
    (done : ∀ D H', H1 D = none → Same H1 H' → H' D = some (.lst (((z.cps.toList.filter p).map fun c => (⟨#[c]⟩ : Str)).map V.str)) → Q (.ref D) H') : LcR (Its z) (gName j) tt (tVar j) [j] σ H1 Q := by
  refine lc_itR walk_str (fun D i H' => Same H1 H' ∧ H' D = some (.lst ((((z.cps.toList.take i).filter p).map fun c => (⟨#[c]⟩ : Str)).map V.str))) (fun D hD => ⟨same_new hD _, by rw [upd_same]; rfl⟩) (fun _ _ _ _ _ _ => trivial) ?_ ?_
  · rintro D i x H H' hD hi ⟨s, e⟩ ⟨rfl, c, hc, rfl⟩
    have hc' : z.cps.toList[i]? = some c := by rw [Array.getElem?_toList]; exact hc
    refine ⟨wipe1, step c _ _ (List.mem_of_getElem? hc') s ?_⟩
    have ht : z.cps.toList.take (i + 1) = z.cps.toList.take i ++ [c] := by rw [List.take_succ, hc']; rfl
    split
    · rename_i hp
      refine ⟨.str ⟨#[c]⟩, ?_, _, e, ?_, same_mut s hD, ?_⟩
      · show (((σ.set j none).set j (some _)))[j]? = _
        rw [List.getElem?_set_self (by rw [List.length_set]; exact hj)]
      · rw [List.length_map, List.length_map]
        refine sz5l (Nat.lt_of_le_of_lt (List.length_filter_le _ _) ?_)
        rw [List.length_take]
        have : i < z.length := hi
        omega
      · rw [upd_same, ht, List.filter_append, List.filter_cons_of_pos hp]
        simp
    · rename_i hp
      refine ⟨s, ?_⟩
      rw [ht, List.filter_append, List.filter_cons_of_neg (by simpa using hp)]
      simpa using e
  · rintro D H' hD ⟨s, e⟩
    refine done D H' hD s ?_
    rw [List.take_of_length_le (by show z.cps.toList.length ≤ z.cps.size; simp)] at e
    exact e
theorem app_cps (x y : Str) : (x ++ y).cps.toList = x.cps.toList ++ y.cps.toList := by
  show (x.cps ++ y.cps).toList = _
  rw [Array.toList_append]
theorem str_nil {x : Str} (h : x.cps.toList = []) : x = "" := by
  obtain ⟨⟨l⟩⟩ := x
  cases h
  rfl
theorem str_one {c : Nat} (z : Nat) : (V.str ⟨#[c]⟩ = V.str ⟨#[z]⟩) ↔ c = z := by
  constructor
  · intro e; cases e; rfl
  · intro e; rw [e]
theorem emp_app (x : Str) : Str.empty ++ x = x := by
  obtain ⟨a⟩ := x
  show (⟨#[] ++ a⟩ : Str) = ⟨a⟩
  rw [Array.empty_append]
theorem of_len (x : String) : (Str.ofString x).length = x.length := PyProof.Rows.ofString_length x
theorem app_assoc (x y z : Str) : x ++ y ++ z = x ++ (y ++ z) := by
  show (⟨x.cps ++ y.cps ++ z.cps⟩ : Str) = ⟨x.cps ++ (y.cps ++ z.cps)⟩
  rw [Array.append_assoc]
theorem emp_len : Str.empty.length = 0 := rfl
theorem int_log {i : Int} (h : -10 ^ 30 ≤ i ∧ i ≤ 10 ^ 30) : i.natAbs.log2 < 1920 := Nat.lt_trans (int30_log h) (by decide)
/-! ### texts that can be laid -/
theorem ok_ofString (x : String) : PyData.strOk (Str.ofString x) = true := by
  unfold PyData.strOk
  rw [Str.ofString_eq_toList, Array.all_eq_true_iff_forall_mem]
  intro c hc
  obtain ⟨d, _, rfl⟩ := List.mem_map.mp (by simpa using hc : c ∈ x.toList.map Char.toNat)
  refine decide_eq_true ?_
  have := d.valid
  rcases this with h | ⟨_, h⟩
  · exact Nat.lt_trans h (by decide)
  · exact h
theorem ok_app {x y : Str} (hx : PyData.strOk x = true) (hy : PyData.strOk y = true) : PyData.strOk (x ++ y) = true := by
  unfold PyData.strOk at *
  show (x.cps ++ y.cps).all _ = true
  rw [Array.all_append, hx, hy]
  rfl
theorem layAll_strsK : ∀ {xs : List Str}, (∀ x ∈ xs, PyData.strOk x = true) → PyData.canLayAll0 (xs.map .str) = true
  | [], _ => rfl
  | x :: r, h => by
    show (PyData.strOk x && PyData.canLayAll0 (r.map .str)) = true
    rw [h x (by simp), layAll_strsK fun y hy => h y (by simp [hy])]
    rfl
theorem shaped_strsK {xs : List Str} (h : ∀ x ∈ xs, PyData.strOk x = true) : SeqAt.shaped (.list (xs.map .str)) = true := by
  have h1 := layAll_strsK h
  have h2 := depth_strs xs
  show (PyData.canLayAll0 (xs.map .str) && decide (PyData.depthAll (xs.map .str) + 1 ≤ 64)) = true
  rw [h1, h2]
  rfl
theorem app_emp (x : Str) : x ++ Str.ofString "" = x := by
  obtain ⟨a⟩ := x
  show (⟨a ++ (Str.ofString "").cps⟩ : Str) = ⟨a⟩
  rw [show (Str.ofString "").cps = #[] by decide +kernel, Array.append_empty]
theorem join_foldl : ∀ (ys : List Str) (a : Str), a ++ Txt.join (Str.ofString "") ys = ys.foldl (· ++ ·) a := by
  intro ys
  rw [TL.join_eq]
  induction ys with
  | nil => intro a; exact app_emp a
  | cons x r ih =>
    intro a
    cases r with
    | nil => rfl
    | cons y r =>
      show a ++ (x ++ Str.ofString "" ++ Str.join (Str.ofString "") (y :: r)) = _
      rw [app_emp, ← app_assoc, ih]
      rfl
theorem sum_len {A : Type} (f : A → Nat) (b : Nat) : ∀ xs : List A, (∀ x ∈ xs, f x ≤ b) → (xs.map f).sum ≤ b * xs.length
  | [], _ => by simp
  | x :: r, h => by
    have h1 := h x (by simp)
    have h2 := sum_len f b r fun y hy => h y (by simp [hy])
    simp only [List.map_cons, List.sum_cons, List.length_cons, Nat.mul_succ]
    omega
theorem ix_last {n : Nat} : ixN (n + 1) (-1) = some n := by
  unfold ixN
  simp
  try omega
theorem nd_rev {A : Type} {l : List A} (h : l.Nodup) : l.reverse.Nodup := (List.reverse_perm l).nodup_iff.mpr h
theorem dget_nd : ∀ {fs : List (PyData × PyData)} {e : PyData × PyData}, (keysD fs).Nodup → e ∈ fs → dget fs (strD e.1) = some e.2
  | [], _, _, h => by cases h
  | q :: r, e, hn, h => by
    have hn' : strD q.1 ∉ keysD r ∧ (keysD r).Nodup := List.nodup_cons.mp hn
    rcases List.mem_cons.mp h with rfl | h
    · simp [dget]
    · have hne : ¬ strD q.1 = strD e.1 := fun z => hn'.1 (by rw [z]; exact List.mem_map.mpr ⟨e, h, rfl⟩)
      have := dget_nd hn'.2 h
      unfold dget at this ⊢
      rw [List.find?_cons_of_neg (by simpa using hne)]
      exact this
theorem pd_take {A B : Type} {F : A → B → Prop} {xs : List A} {ys : List B} (h : Paired F xs ys) : ∀ j : Nat, Paired F (xs.take j) (ys.take j) := by
  induction h with
  | nil => intro j; simp only [List.take_nil]; exact .nil
  | cons h1 _ ih => intro j; cases j with
    | zero => exact .nil
    | succ j => exact .cons h1 (ih j)
theorem pd_drop {A B : Type} {F : A → B → Prop} {xs : List A} {ys : List B} (h : Paired F xs ys) : ∀ j : Nat, Paired F (xs.drop j) (ys.drop j) := by
  induction h with
  | nil => intro j; simp only [List.drop_nil]; exact .nil
  | cons h1 h2 ih => intro j; cases j with
    | zero => exact .cons h1 h2
    | succ j => exact ih j
theorem cut_take (xs : List V) (j : Nat) (h : j ≤ xs.length) : cutV xs none (some (j : Int)) = xs.take j := by
  unfold cutV
  rw [HT.sIx_none, HT.sIx_nat]
  simp [Nat.min_eq_left h]
theorem cut_drop (xs : List V) (j : Nat) (h : j ≤ xs.length) : cutV xs (some (j : Int)) none = xs.drop j := by
  unfold cutV
  rw [HT.sIx_none, HT.sIx_nat, Nat.min_eq_left h]
  exact List.take_of_length_le (by simp)
theorem cntAll_split : ∀ {ds : List PyData} {j : Nat} {d : PyData}, ds[j]? = some d → cntAll ds = cntAll (ds.take j) + cnt d + cntAll (ds.drop (j + 1))
  | [], _, _, h => by simp at h
  | e :: r, 0, d, h => by
    simp at h; subst h
    simp [cntAll]
  | e :: r, j + 1, d, h => by
    have := cntAll_split (ds := r) (j := j) (d := d) (by simpa using h)
    simp only [List.take_succ_cons, List.drop_succ_cons, cntAll]
    omega
/-! ### bools -/
theorem Dp_bls {K : PySem.W.Frag} {H : Hp} {a : Addr} {xs : List Bool} (h : H a = some (.lst (xs.map V.bl))) : Dp K H (.ref a) (.list (xs.map .bool)) := by
  refine .lst (SqL.of h) ?_
  have : ∀ l : List Bool, DpAll K H (l.map V.bl) (l.map PyData.bool) := by
    intro l
    induction l with
    | nil => exact .nil
    | cons y q ih2 => exact .cons (.bl y) ih2
  exact this _
theorem Rp_bls {H : Hp} {a : Addr} {xs : List Bool} (h : H a = some (.lst (xs.map V.bl))) (hl : xs.length ≤ 10000) : Rp H 2 (.ref a) (.list (xs.map .bool)) := by
  refine ⟨a, _, rfl, h, by simpa using hl, ?_⟩
  clear h
  induction xs with
  | nil => exact .nil
  | cons x r ih => exact .cons rfl (ih (by simp at hl; omega))
theorem doc_bls (xs : List Bool) (hl : xs.length ≤ 10) : docD 2 (.list (xs.map .bool)) := ⟨by simpa using hl, fun d hd => by
  obtain ⟨b, _, rfl⟩ := List.mem_map.mp hd
  trivial⟩
theorem cnt_bls : ∀ xs : List Bool, cntAll (xs.map .bool) = xs.length
  | [] => rfl
  | x :: r => by simp only [List.map_cons, cntAll, cnt, List.length_cons]; rw [cnt_bls r]; omega
/-- repr of a list of bools -/
theorem repr_bls {H : Hp} {a : Addr} {xs : List Bool} {Q : VK} (h : H a = some (.lst (xs.map V.bl))) (hl : xs.length ≤ 10) (q : Q (.str (PyData.shown (.list (xs.map .bool)))) H) : rRepr [.ref a] H Q :=
  repr1 (Rp_bls h (by omega)) (by omega) (doc_bls xs hl).fine (by simp only [cnt]; rw [cnt_bls]; omega) q
theorem sameN_up : ∀ {n m : Nat} {d e : PyData}, docD n d → docD m e → n ≤ m → ∀ k, sameN (n + k) d e = sameN n d e
  | 0, _, _, _, h, _, _, _ => h.elim
  | n + 1, m + 1, .list ds, .list es, h, g, hl, k => by
    rw [show n + 1 + k = (n + k) + 1 by omega]
    simp only [sameN]
    congr 2
    apply List.ext_getElem?
    intro i
    rw [List.getElem?_zipWith, List.getElem?_zipWith]
    cases h1 : ds[i]? <;> cases h2 : es[i]? <;> simp
    exact sameN_up (h.2 _ (List.mem_of_getElem? h1)) (g.2 _ (List.mem_of_getElem? h2)) (by omega) k
  | n + 1, m + 1, .dict ds, .dict es, h, g, hl, k => by
    rw [show n + 1 + k = (n + k) + 1 by omega]
    simp only [sameN]
    congr 2
    apply List.map_congr_left
    intro e he
    cases h2 : dget es (strD e.1) with
    | none => rfl
    | some d2 =>
      obtain ⟨e2, he2, rfl, _⟩ := dget_mem h2
      exact sameN_up (h.2 e he).2 (g.2 e2 he2).2 (by omega) k
  | n + 1, 0, _, _, _, _, hl, _ => by omega
  | n + 1, m + 1, .none, e, _, _, _, k => by rw [show n + 1 + k = (n + k) + 1 by omega]; cases e <;> rfl
  | n + 1, m + 1, .bool _, e, _, _, _, k => by rw [show n + 1 + k = (n + k) + 1 by omega]; cases e <;> rfl
  | n + 1, m + 1, .int _, e, _, _, _, k => by rw [show n + 1 + k = (n + k) + 1 by omega]; cases e <;> rfl
  | n + 1, m + 1, .str _, e, _, _, _, k => by rw [show n + 1 + k = (n + k) + 1 by omega]; cases e <;> rfl
  | n + 1, m + 1, .tuple _, _, h, _, _, _ => h.elim
  | n + 1, m + 1, .list _, .none, _, _, _, k => by rw [show n + 1 + k = (n + k) + 1 by omega]; rfl
  | n + 1, m + 1, .list _, .bool _, _, _, _, k => by rw [show n + 1 + k = (n + k) + 1 by omega]; rfl
  | n + 1, m + 1, .list _, .int _, _, _, _, k => by rw [show n + 1 + k = (n + k) + 1 by omega]; rfl
  | n + 1, m + 1, .list _, .str _, _, _, _, k => by rw [show n + 1 + k = (n + k) + 1 by omega]; rfl
  | n + 1, m + 1, .list _, .tuple _, _, _, _, k => by rw [show n + 1 + k = (n + k) + 1 by omega]; rfl
  | n + 1, m + 1, .list _, .dict _, _, _, _, k => by rw [show n + 1 + k = (n + k) + 1 by omega]; rfl
  | n + 1, m + 1, .dict _, .none, _, _, _, k => by rw [show n + 1 + k = (n + k) + 1 by omega]; rfl
  | n + 1, m + 1, .dict _, .bool _, _, _, _, k => by rw [show n + 1 + k = (n + k) + 1 by omega]; rfl
  | n + 1, m + 1, .dict _, .int _, _, _, _, k => by rw [show n + 1 + k = (n + k) + 1 by omega]; rfl
  | n + 1, m + 1, .dict _, .str _, _, _, _, k => by rw [show n + 1 + k = (n + k) + 1 by omega]; rfl
  | n + 1, m + 1, .dict _, .tuple _, _, _, _, k => by rw [show n + 1 + k = (n + k) + 1 by omega]; rfl
  | n + 1, m + 1, .dict _, .list _, _, _, _, k => by rw [show n + 1 + k = (n + k) + 1 by omega]; rfl
end SC

set_option Elab.async false
set_option linter.all false
set_option maxRecDepth 100000
set_option maxHeartbeats 4000000
/-! Schemacheck: for i, k in enumerate(d), d a dict. -/
namespace SC
open PySem L2 PySem.Spec PyProof.Rows
open Sem (wp)
section
variable {prog : Program} {w : World} {A : Around} {E : Value → Shared → Prop} {s : Shared}
theorem nextOf_key_item {it d : Addr} {i n ep : Nat} {od : Obj} {es : Array DictEntry} {en : DictEntry} {Q : Value → Shared → Prop} (hit : s.heap.IsKeyIter it d i n ep) (hod : s.heap.get? d = some od) (hdd : od.data = .dict es ep)
    (hsz : es.size = n) (hx : es[i]? = some en) (hQ : ∀ h', h'.IsKeyIter it d (i + 1) n ep → Heap.SameBut it s.heap h' → Q en.key { s with heap := h' }) : wpAny (model prog w) A (Builtin.SmallTypes.nextOf (.ref it)) Q E s := by
  obtain ⟨o, ho, hc, hd⟩ := id hit
  unfold Builtin.SmallTypes.nextOf
  refine wpAny_bind (wpAny_callSpecial?_slot (name := Str.ofString "__next__") hit.typeIs F.slot_dict_keyiterator_next
    (wpAny_call_entry F.slot_dict_keyiterator_next hit.typeIs F.entry_dict_keyiterator_next ?_ (F.args_dict_keyiterator_next_1 _)))
  refine wpAny_bind (wpAny_pure ?_)
  refine wpAny_bind ?_
  refine wpAny_bind ?_
  first | refine wpAny_bind (wpAny_typeNameOfWhole_keyiter hit.typeIs (wpAny_pure ?_)) | refine wpAny_bind (wpAny_typeNameOf_keyiter hit.typeIs (wpAny_pure ?_))
  refine wpAny_bind (wpAny_fieldsOf ho hd ?_)
  have hown : Builtin.Dict_items.ownsTuple "dict_keyiterator" = false := by decide
  simp only [hown, Bool.false_eq_true, if_false]
  show wpAny _ _ (if (Value.ref d == Value.none) = true then _ else _) _ _ s
  rw [if_neg (show ¬ ((Value.ref d == Value.none) = true) from Bool.false_ne_true)]
  refine wpAny_bind (wpAny_pure ?_)
  refine wpAny_bind (wpAny_dictEntries hod hdd ?_)
  rw [if_neg (by rw [hsz]; simp)]
  refine wpAny_bind (wpAny_pure ?_)
  refine wpAny_bind (wpAny_dictEpoch hod hdd ?_)
  rw [if_neg (by simp)]
  refine wpAny_pure ?_
  obtain ⟨hlt', hen⟩ := Array.getElem?_eq_some_iff.mp hx
  simp only [show ¬ ((i : Int) < 0) from by omega, if_false, Int.toNat_natCast, Array.getElem?_eq_getElem hlt']
  refine wpAny_bind ?_
  first | refine wpAny_bind (wpAny_typeNameOfWhole_keyiter hit.typeIs (wpAny_pure ?_)) | refine wpAny_bind (wpAny_typeNameOf_keyiter hit.typeIs (wpAny_pure ?_))
  refine wpAny_bind (wpAny_isOneOf_keyiter hit.typeIs ?_)
  show wpAny _ _ (setField (.ref it) 1 (rawInt ((i : Int) + 1)) >>= _) _ _ s
  refine wpAny_bind (wpAny_setField ho hd (by simp) ?_)
  have hit' : (s.heap.update it (Obj.mapFields (·.setIfInBounds 1 (rawInt ((i : Int) + 1))))).IsKeyIter it d (i + 1) n ep :=
    ⟨_, Heap.get?_update_self _ ho (Obj.isFreed_of_fields (Obj.data_mapFields hd _)), (Obj.cls_mapFields ..).trans hc, by rw [Obj.data_mapFields hd]; simp [rawInt]⟩
  refine wpAny_bind (wpAny_holding ?_)
  refine wpAny_bind (wpAny_isOneOf_keyiter (s := { s with heap := s.heap.update it (Obj.mapFields (·.setIfInBounds 1 (rawInt ((i : Int) + 1)))) }) hit'.typeIs ?_)
  show wpAny _ _ (pure es[i].key) _ _ _
  rw [hen]
  exact wpAny_pure (wpAny_pure ⟨_, rfl, wpAny_pure (hQ _ hit' (Heap.SameBut.update ..))⟩)
theorem nextOf_key_end {it d : Addr} {i n ep : Nat} {od : Obj} {es : Array DictEntry} {Q : Value → Shared → Prop} (hh : A.handled = none) (hit : s.heap.IsKeyIter it d i n ep) (hod : s.heap.get? d = some od) (hdd : od.data = .dict es ep)
    (hsz : es.size = n) (hge : n ≤ i) (hE : ∀ h' e, Heap.ExtBut it s.heap h' → (∃ o, h'.get? e = some o ∧ o.cls = .type "StopIteration") → E (.ref e) { s with heap := h' }) : wpAny (model prog w) A (Builtin.SmallTypes.nextOf (.ref it)) Q E s := by
  obtain ⟨o, ho, hc, hd⟩ := id hit
  unfold Builtin.SmallTypes.nextOf
  refine wpAny_bind (wpAny_callSpecial?_slot (name := Str.ofString "__next__") hit.typeIs F.slot_dict_keyiterator_next
    (wpAny_call_entry F.slot_dict_keyiterator_next hit.typeIs F.entry_dict_keyiterator_next ?_ (F.args_dict_keyiterator_next_1 _)))
  refine wpAny_bind (wpAny_pure ?_)
  refine wpAny_bind ?_
  refine wpAny_bind ?_
  first | refine wpAny_bind (wpAny_typeNameOfWhole_keyiter hit.typeIs (wpAny_pure ?_)) | refine wpAny_bind (wpAny_typeNameOf_keyiter hit.typeIs (wpAny_pure ?_))
  refine wpAny_bind (wpAny_fieldsOf ho hd ?_)
  have hown : Builtin.Dict_items.ownsTuple "dict_keyiterator" = false := by decide
  simp only [hown, Bool.false_eq_true, if_false]
  show wpAny _ _ (if (Value.ref d == Value.none) = true then _ else _) _ _ s
  rw [if_neg (show ¬ ((Value.ref d == Value.none) = true) from Bool.false_ne_true)]
  refine wpAny_bind (wpAny_pure ?_)
  refine wpAny_bind (wpAny_dictEntries hod hdd ?_)
  rw [if_neg (by rw [hsz]; simp)]
  refine wpAny_bind (wpAny_pure ?_)
  refine wpAny_bind (wpAny_dictEpoch hod hdd ?_)
  rw [if_neg (by simp)]
  refine wpAny_pure ?_
  have hge' : es.size ≤ i := by rw [hsz]; exact hge
  simp only [show ¬ ((i : Int) < 0) from by omega, if_false, Int.toNat_natCast, Array.getElem?_eq_none hge']
  refine wpAny_bind ?_
  first | refine wpAny_bind (wpAny_typeNameOfWhole_keyiter hit.typeIs (wpAny_pure ?_)) | refine wpAny_bind (wpAny_typeNameOf_keyiter hit.typeIs (wpAny_pure ?_))
  show wpAny _ _ (setField (.ref it) 0 .none >>= _) _ _ s
  refine wpAny_bind (wpAny_setField ho hd (by simp) ?_)
  show wpAny _ _ (newExc (.type "StopIteration") [] >>= _) _ _ _
  refine wpAny_bind ?_
  simp only [newExc, newTuple]
  refine wpAny_bind (wpAny_newObj_type ?_ (by size_fits))
  refine wpAny_bind (m := firstArgMember _ _) (wpAny_of_eq (a := Value.none) (by first | rfl | (simp only [firstArgMember]; rfl)) ?_)
  refine wpAny_newObj_type ?_ (by size_fits)
  simp only [raiseNew]
  refine wpAny_bind (wpAny_handled ?_)
  first | rw [show A.in1.handled = none from hh] | rw [hh]
  refine wpAny_bind (wpAny_pure (wpAny_throw ?_))
  exact hE _ _ (((Heap.SameBut.update ..).extBut.push _).push _) ⟨_, Heap.get?_push_size _ rfl, rfl⟩
end
/-- what a dict's key iterator draws -/
theorem draws_keys {prog : Program} {w : World} {A : Around} (hh : A.handled = none) (it d : Addr) (hne : d ≠ it) (o : Obj) (es : Array DictEntry) (ep : Nat) (hdt : o.data = .dict es ep) :
    Draws prog w A it [it, d] es.size (fun i v => ∃ en, es[i]? = some en ∧ en.key = v) (fun i h => h.IsKeyIter it d i es.size ep ∧ h.get? d = some o) where
  live := fun _ _ st => let ⟨o, ho, _⟩ := st.1; ⟨o, ho⟩
  frame := fun _ _ _ st hk => ⟨st.1.at fun o e => hk it (by simp) o e, hk d (by simp) o st.2⟩
  item := fun i s Q E hi st hQ => by
    refine nextOf_key_item (en := es[i]) st.1 st.2 hdt rfl (by simp [hi]) fun h' hit' hs' => ?_
    exact hQ _ h' s.toks ⟨_, by simp [hi], rfl⟩ ⟨hit', hs'.extBut _ _ hne st.2⟩ hs'
  done := fun s Q E st hE => nextOf_key_end hh st.1 st.2 hdt rfl (Nat.le_refl _) hE
theorem begins_keys (d : Addr) (o : Obj) (es : Array DictEntry) (ep : Nat) (hd : (d == sysModules) = false) (hx : o.ExactDict) (hdt : o.data = .dict es ep) :
    Begins (.ref d) { cls := .type "dict_keyiterator", data := .fields #[.ref d, .int 0 0, .int es.size 0, .int ep 0] } fun h => h.get? d = some o where
  iter := fun prog w A E s Q hl h => iter_keys hd hl hx hdt h
  keeps := fun h h' x hk => hk d o x
  free := rfl
set_option maxHeartbeats 1000000 in
theorem meets_enumerate_new1 {v : Value} {o : Obj} {H : Heap → Prop} (B : Begins v o H) :
    Meets (Builtin.«enumerate.__new__» ⟨[.type "enumerate", v], []⟩) (fun _ R s => H s.heap ∧
      R (.ok (.ret (.ref (s.heap.push o).objs.size))) { s with heap := (s.heap.push o).push { cls := .type "enumerate", data := .fields #[.none, .bool false, .ref s.heap.objs.size, rawInt 0, .none, .none] } }) :=
  .of_wp fun prog w A R s h => by
    obtain ⟨hp, g, d, tk, os⟩ := s; obtain ⟨h1, h⟩ := h
    have hsub := sub_enumerate
    have q1 : ∀ {A' : Around} {E : Value → Shared → Prop} {Q : Value → Shared → Prop}, Q (.ref hp.objs.size) ⟨hp.push o, g, d, tk, os⟩ → wpAny (model prog w) A' (pyIter v) Q E ⟨hp, g, d, tk, os⟩ :=
      fun q => B.iter prog w _ _ ⟨hp, g, d, tk, os⟩ _ h1 q
    wp_walk using q1
    refine wpAny_stack_any fun st => wpAny_pure ?_
    split
    · rename_i c _ _ _ _ _
      cases (c == Value.type "enumerate")
      · wp_walk using q1
        exact ⟨_, rfl, h⟩
      · wp_walk using q1
        exact ⟨_, rfl, h⟩
    · wp_walk using q1
      exact ⟨_, rfl, h⟩
section
variable {prog : Program} {w : World} {A : Around} {E : Value → Shared → Prop} {s : Shared}
theorem enum_begins1 {v : Value} {o : Obj} {H : Heap → Prop} {Q : Value → Shared → Prop} (B : Begins v o H) (h1 : H s.heap)
    (h : ∀ h', IsEnum h' (s.heap.objs.size + 1) s.heap.objs.size 0 .none → h'.get? s.heap.objs.size = some o → h'.objs.size = s.heap.objs.size + 2 →
      (∀ b o, s.heap.get? b = some o → h'.get? b = some o) → Q (.ref (s.heap.objs.size + 1)) { s with heap := h' }) :
    wpAny (model prog w) A (call (.type "enumerate") [v]) Q E s := by
  refine callType_new F.called_enumerate (by decide) (F.typeCall_enumerate_1 _) (F.newCall_enumerate_1 _) (fun obj => F.args_object_init_2 obj _) F.entry_enumerate_new
    (meets_enumerate_new1 B) ⟨h1, ?_⟩
  have hz : (s.heap.push o).objs.size = s.heap.objs.size + 1 := Heap.size_push ..
  show _ ∧ _
  rw [hz]
  have he : IsEnum ((s.heap.push o).push { cls := .type "enumerate", data := .fields #[.none, .bool false, .ref s.heap.objs.size, rawInt 0, .none, .none] }) (s.heap.objs.size + 1) s.heap.objs.size 0 .none := by
    have := Heap.get?_push_size (s.heap.push o) (o := { cls := .type "enumerate", data := .fields #[.none, .bool false, .ref s.heap.objs.size, rawInt 0, .none, .none] }) rfl
    rw [hz] at this; exact this
  refine ⟨⟨_, he, rfl⟩, h _ he (Heap.get?_push_of_some _ (Heap.get?_push_size _ B.free)) (by rw [Heap.size_push, hz]) fun b o x => Heap.get?_push_of_some _ (Heap.get?_push_of_some _ x)⟩
end
theorem next_enumK_end {prog : Program} {w : World} {A : Around} {E : Value → Shared → Prop} {s : Shared} {e it d : Addr} {i n ep : Nat} {c : Int} {old : Value} {od : Obj} {es : Array DictEntry} {Q : Option Value → Shared → Prop} (hh : A.in1.handled = none)
    (he : IsEnum s.heap e it c old) (hit : s.heap.IsKeyIter it d i n ep) (hod : s.heap.get? d = some od) (hdd : od.data = .dict es ep) (hsz : es.size = n) (hge : n ≤ i)
    (hQ : ∀ h', Heap.ExtBut it s.heap h' → Q none { s with heap := h' }) : wpAny (model prog w) A (pyNext (.ref e)) Q E s := by
  have hT : s.TypeIs (.ref e) "enumerate" := ⟨_, he, rfl⟩
  unfold pyNext
  refine wpAny_bind (wpAny_attempt (wpAny_callSpecial?_slot (name := Str.ofString "__next__") hT F.slot_enumerate_next
    (wpAny_call_entry F.slot_enumerate_next hT F.entry_enumerate_next ?_ (F.args_enumerate_next_1 _))))
  show wpAny _ _ (field (.ref e) 2 >>= _) _ _ _
  refine wpAny_bind (wpAny_field he rfl (x := .ref it) rfl ?_)
  refine wpAny_bind (nextOf_key_end hh hit hod hdd hsz hge fun h' x he' hx' => ?_)
  obtain ⟨o, ho, hc⟩ := hx'
  refine wpAny_bind (wpAny_isInstance (T := "StopIteration") (b := true) ⟨o, ho, hc⟩ isSubtype_stop ?_)
  exact wpAny_pure (hQ _ he')
/-- the keys of the locked dict at d, each in a new pair -/
def Itke (d : Addr) (o : Obj) (kvs : List (Key × V)) : It :=
  ⟨fun i H => H d = some (.frz o (.dK kvs)) ∧ i < kvs.length, fun i H v H' => ∃ T k x, kvs[i]? = some (k, x) ∧ v = .ref T ∧ H T = none ∧ H' = upd H T (.tup [.int (i : Nat), kV k]), fun i H => H d = some (.frz o (.dK kvs)) ∧ kvs.length ≤ i⟩
theorem turn_enumK {P : Program} {w : World} {K : PySem.W.Frag} {elts : List Expr} {kk : Nat} {tpos : Pos} {d : Addr} {o : Obj} {es : Array DictEntry} {ep : Nat} {kvs : List (Key × V)} (e it : Addr) (hod : o.data = .dict es ep) (hsz : es.size = kvs.length) (hde : d ≠ e) (hdi : d ≠ it) :
    Turn P w K (.Tuple elts kk tpos) (Itke d o kvs) [e, it] e (fun i h => (∃ old, IsEnum h e it ((i : Nat) : Int) old) ∧ h.IsKeyIter it d i es.size ep ∧ e ≠ it) where
  mem := by simp
  obj := fun i h st b hb => by
    obtain ⟨⟨old, he⟩, ⟨o, ho, hc, hd⟩, _⟩ := st
    have e' : b = e ∨ b = it := by simpa using hb
    rcases e' with z | z
    · rw [z]; exact ⟨_, he, fun v q => nomatch q⟩
    · rw [z]; exact ⟨o, ho, fun v q => by rw [hd] at q; cases q⟩
  keep := fun i h h' st k => let ⟨⟨old, he⟩, hi, hne⟩ := st; ⟨⟨old, k e (by simp) _ he⟩, hi.at fun o q => k it (by simp) o q, hne⟩
  item := by
    intro X hP hw hK hc i pins s σ H E I hf st hg
    subst hP hw hK
    obtain ⟨⟨old, he⟩, hit, hne⟩ := st
    obtain ⟨hd, hi⟩ := hg
    obtain ⟨hs, hgd, hx, es', ep', vs, hdt, hsz', kv, hm⟩ := I.frzK hd
    obtain ⟨rfl, rfl⟩ := dict_ep hod hdt
    obtain ⟨⟨k, v⟩, hkv⟩ : ∃ p, kvs[i]? = some p := ⟨kvs[i], List.getElem?_eq_getElem hi⟩
    obtain ⟨u, hu, ru⟩ := kv_get kv hkv
    obtain ⟨od, es2, hod2, hcd, hdd, hk2, hp2, hn2⟩ := id hm
    have e3 : od = o := by rw [hgd] at hod2; exact (Option.some.inj hod2).symm
    subst e3
    obtain ⟨rfl, _⟩ := dict_ep hdt hdd
    have hel : e < s.heap.objs.size := Heap.lt_size he
    have hil : it < s.heap.objs.size := by obtain ⟨_, q, _⟩ := hit; exact Heap.lt_size q
    have hh : X.A.in1.handled = none := I.ok.hd hc
    refine wpAny_pyNext_enum_itemD (draws_keys hh it d hdi od es2 ep' hdt) he ⟨hit, hgd⟩ (by omega) hne (by simp [hne, hde.symm]) fun x h' tk ⟨en, hen, hkx⟩ ho st' hT hsz2 hk => ?_
    refine ⟨_, rfl, wpAny_letOwnedTupleGo_enum (s := { s with heap := h', toks := tk + 1 }) ho fun h'' he' sb => ?_⟩
    have hkey : keyIs k x = true := by rw [← hkx]; exact (hp2.get? (e := en) (by simpa using hen) hu).1
    have hT2 : h''.get? s.heap.objs.size = some { cls := .type "tuple", data := .seq #[.int i tk, x] } := (sb.2 _ (Nat.ne_of_gt hel)).trans hT
    have new : ObjOk X.prog X.w (upd H s.heap.objs.size (.tup [.int (i : Nat), kV k])) h'' s.heap.objs.size (.tup [.int (i : Nat), kV k]) :=
      ⟨by show 2 ≤ sizeLine; decide, [.int i tk, x], .cons ⟨_, rfl⟩ (.cons (relV_key hkey) .nil), ⟨_, hT2, rfl, _, rfl⟩⟩
    have I1 : Inv X pins σ (upd H s.heap.objs.size (.tup [.int (i : Nat), kV k])) { s with heap := h'', toks := tk + 1 } :=
      I.turnedNew (ch := [e, it]) (fun b ob hb q => (sb.2 b (fun z => hb (by simp [z]))).trans (hk b ob (fun z => hb (by simp [z])) (fun z => hb (by simp [z])) q)) hf (Nat.le_refl _) new
    refine ⟨.ref s.heap.objs.size, _, I1, rfl, ⟨_, k, v, hkv, rfl, I.hok.fresh (Nat.le_refl _), rfl⟩, ⟨⟨x, ?_⟩, st'.1.at fun o q => (sb.2 it (Ne.symm hne)).trans q, hne⟩, fun b hb => ?_⟩
    · have e1 : ((i + 1 : Nat) : Int) = (i : Int) + 1 := by omega
      rw [e1]; exact he'
    · have hb' : b < s.heap.objs.size := by
        have e' : b = e ∨ b = it := by simpa using hb
        rcases e' with z | z
        · rw [z]; exact hel
        · rw [z]; exact hil
      rw [upd_ne (Nat.ne_of_lt hb')]
      exact (hf b hb).1
  done := by
    intro X hP hw hK hc i pins s σ H E I hf st hg
    subst hP hw hK
    obtain ⟨⟨old, he⟩, hit, hne⟩ := st
    obtain ⟨hd, hi⟩ := hg
    obtain ⟨hs, hgd, hx, es', ep', vs, hdt, hsz', kv, hm⟩ := I.frzK hd
    obtain ⟨rfl, rfl⟩ := dict_ep hod hdt
    obtain ⟨f0, f1, f2, f3, f4, f5⟩ := hf it (by simp)
    have hh : X.A.in1.handled = none := I.ok.hd hc
    exact next_enumK_end hh he hit hgd hdt rfl (by omega) fun h' eb => ⟨rfl, I.turned (t' := s.toks) (fun b o hb q => eb b o hb q) f0 f1 f3 f4 f5⟩
  self := fun A i s Q E st h => let ⟨⟨_, he⟩, _⟩ := st; wpAny_pyIter_enum he h
def iEnumK (ta : TA) : TI := fun σ H R => ta σ H fun vs H1 => ∃ d o kvs, vs = [.ref d] ∧ H1 d = some (.frz o (.dK kvs)) ∧ R (Itke d o kvs) H1
theorem pi_enumK {X : Cx} {e : Expr} {ta : TA} {p pos tpos : Pos} {elts : List Expr} {kk : Nat} (hg : Gl X "enumerate") (hm : X.mg "enumerate" = none) (ha : PA X [e] ta) (hs : starEach [e] X.env = [(false, eval e X.env)] := by rfl) :
    PI X (.Tuple elts kk tpos) (.Call (.Name "enumerate" p) [e] [] pos) (iEnumK ta) := by
  refine ⟨fun pins s σ H R I h => ?_⟩
  refine Call_ (ld_blt I hg hm boot_enumerate (PyProof.Rows.callWith_type1 (thn (ha.run pos pins s σ H _ I h) fun us s1 ⟨vs, H1, I1, r1, q1⟩ => ?_) hs rfl))
  obtain ⟨d, o, kvs, ex, hd, q⟩ := q1
  subst ex
  cases r1 with
  | cons r rr =>
    cases rr
    cases r
    obtain ⟨hs', hgd, hx, es, ep, vs, hdt, hsz, kv, hm'⟩ := I1.frzK hd
    refine enum_begins1 (begins_keys d o es ep hs' hx hdt) hgd fun h' he hit hsz2 hk => wpAny_pyIter_enum he ?_
    have I2 : Inv X pins σ H1 { s1 with heap := h' } := I1.kept (t' := s1.toks) hk
    have hdl : d < s1.heap.objs.size := Heap.lt_size hgd
    refine ⟨s1.heap.objs.size + 1, [s1.heap.objs.size + 1, s1.heap.objs.size], _, _, H1, rfl, I2, turn_enumK (s1.heap.objs.size + 1) s1.heap.objs.size hdt hsz (Nat.ne_of_lt (Nat.lt_succ_of_lt hdl)) (Nat.ne_of_lt hdl), ⟨⟨.none, he⟩, ⟨_, hit, rfl, rfl⟩, Nat.succ_ne_self _⟩, fun b hb => ?_, q⟩
    have e' : b = s1.heap.objs.size + 1 ∨ b = s1.heap.objs.size := by simpa using hb
    have hle : s1.heap.objs.size ≤ b := by
      rcases e' with z | z
      · rw [z]; exact Nat.le_add_right _ _
      · rw [z]; exact Nat.le_refl _
    exact I1.fpOk hle (I1.hok.fresh hle)
theorem walk_enumK {d : Addr} {o : Obj} {kvs : List (Key × V)} : Walk (Itke d o kvs) kvs.length (fun H => H d = some (.frz o (.dK kvs))) (YPair (fun i => some (.int (i : Nat))) (fun i => kvs[i]?.map fun kv => kV kv.1)) := by
  refine ⟨fun _ _ hi q => ⟨q, hi⟩, fun _ q => ⟨q, Nat.le_refl _⟩, fun i H x H' _ _ y => ?_⟩
  obtain ⟨T, k, v, h1, h2, h3, h4⟩ := y
  exact ⟨T, .int (i : Nat), kV k, h2, h3, h4, rfl, by simp [h1]⟩
end SC

set_option Elab.async false
set_option linter.all false
set_option maxRecDepth 100000
set_option maxHeartbeats 4000000
/-! Schemacheck: list(enumerate(xs)). -/
namespace SC
open PySem L2 PySem.Spec PyProof.Rows
open Sem (wp)
theorem enum_no_len : typeLookup (.type "enumerate") "__len__" = pure none := by rw [typeLookup_type, builtinLookup_eq_fast]; kernel_rfl
theorem enum_no_hint : typeLookup (.type "enumerate") "__length_hint__" = pure none := by rw [typeLookup_type, builtinLookup_eq_fast]; kernel_rfl
/-- an enumerate at its i-th turn, whose pairs are kept -/
structure EnSt (e it l S : Addr) (i : Nat) (h : Heap) : Prop where
  li : h.IsListIter it l i
  ne : e ≠ it
  st : (∃ old, IsEnum h e it ((i : Nat) : Int) old) ∨ ∃ old T f oT, IsEnumHeld h e it ((i : Nat) : Int) old T f ∧ h.get? T = some oT ∧ T ≠ e ∧ T ≠ it ∧ T ≠ S
/-- the pairs so far -/
def EnRows (H1 H : Hp) (S : Addr) (xs : List V) (ts : List Addr) : Prop := Keep [S] H1 H ∧ H S = some (.lst (ts.map V.ref)) ∧ ∀ (j : Nat) (T : Addr), ts[j]? = some T → ∃ x, xs[j]? = some x ∧ H T = some (.tup [.int (j : Nat), x]) ∧ H1 T = none
theorem sql_ne {K : PySem.W.Frag} {H : Hp} {l S : Addr} {o : HO} {xs : List V} (h : SqL K H l xs) (hn : l ≠ S) : SqL K (upd H S o) l xs := by
  rcases h with (h | ⟨u, h⟩) | h
  · exact .inl (.inl (by rw [upd_ne hn]; exact h))
  · exact .inl (.inr ⟨u, by rw [upd_ne hn]; exact h⟩)
  · exact .inr h
theorem sql_new {K : PySem.W.Frag} {H : Hp} {l S : Addr} {o : HO} {xs : List V} (h : SqL K H l xs) (hn : H S = none) : SqL K (upd H S o) l xs := (same_new hn o).seq h
theorem lst_there {X : Cx} {pins : List (Addr × Obj)} {σ : L2.St} {H : Hp} {s : Shared} {S : Addr} {xs : List V} (I : Inv X pins σ H s) (h : H S = some (.lst xs)) : s.heap.get? S = some (lstObj ((I.hok S _ h).2.choose).toArray ((I.hok S _ h).2.choose_spec.choose)) := (I.hok S _ h).2.choose_spec.choose_spec.2
section
variable {X : Cx} {pins : List (Addr × Obj)} {σ : L2.St} {A : Around} {R : Result → Shared → Prop} {res : Value} {e it l S : Addr} {xs : List V} {H1 : Hp}
theorem enum_loop (hh : A.in1.handled = none) (hel : l ≠ e) (hil : l ≠ it) (hSe : S ≠ e) (hSi : S ≠ it) (hlS : l ≠ S) (hsz : xs.length < sizeLine) (hl1 : SqL X.K H1 l xs) (hS1 : H1 S = some (.lst []))
    (hend : ∀ s' H' ts, Inv X pins σ H' s' → EnRows H1 H' S xs ts → ts.length = xs.length → R (.ok (.ret res)) s') :
    ∀ (k i : Nat) (s : Shared) (H : Hp) (ts : List Addr), xs.length - i = k → i ≤ xs.length → Inv X pins σ H s → EnRows H1 H S xs ts → ts.length = i → SqL X.K H l xs → EnSt e it l S i s.heap → (∀ b ∈ [e, it], FpOk X pins H b) →
      codeAny (model X.prog X.w) A (.builtin "list.extend.loop" ⟨[.ref S, .ref e, res], []⟩) R s := by
  intro k
  induction k with
  | zero =>
    intro i s H ts hk hi I hrow hlen hq st hf
    have hin : i = xs.length := by omega
    refine codeAny_builtin F.entry_extend_loop ?_
    rw [Around.under_plainId F.plain_extend_loop _]
    show wpAny _ A.in1 (pyNext (.ref e) >>= _) _ _ s
    obtain ⟨its, rv, p, hz⟩ := I.list hq
    have hx : its.toArray[i]? = none := by
      have := rv.length
      simp
      omega
    have fin : ∀ h', Heap.ExtBut it s.heap h' → R (.ok (.ret res)) { s with heap := h' } := fun h' eb => by
      obtain ⟨f0, f1, f2, f3, f4, f5⟩ := hf it (by simp)
      exact hend _ H ts (I.turned (t' := s.toks) (fun b o hb q => eb b o hb q) f0 f1 f3 f4 f5) hrow (by omega)
    rcases st.st with ⟨old, he⟩ | ⟨old, T, f, oT, he, hT, r1, r2, r3⟩
    · exact wpAny_bind (wpAny_pyNext_enum_end hh he st.li p.isList hx fun h' eb => wpAny_pure (fin h' eb))
    · exact wpAny_bind (wpAny_pyNext_enum_end_held hh he st.li p.isList hx fun h' eb => wpAny_pure (fin h' eb))
  | succ k ih =>
    intro i s H ts hk hi I hrow hlen hq st hf
    have hlt : i < xs.length := by omega
    refine codeAny_builtin F.entry_extend_loop ?_
    rw [Around.under_plainId F.plain_extend_loop _]
    show wpAny _ A.in1 (pyNext (.ref e) >>= _) _ _ s
    obtain ⟨its, rv, p, hz⟩ := I.list hq
    have hx : xs[i]? = some xs[i] := List.getElem?_eq_getElem hlt
    obtain ⟨u, hu, ru⟩ := rv.get hx
    have hu' : its.toArray[i]? = some u := by simpa using hu
    have hil' : it < s.heap.objs.size := by obtain ⟨_, q, _⟩ := st.li; exact Heap.lt_size q
    -- one turn
    have go : ∀ (h' : Heap) (old : Value) (T : Addr) (f : Bool) (oT : Obj), IsEnumHeld h' e it (((i + 1 : Nat)) : Int) old T f → h'.get? T = some oT → T ≠ e → T ≠ it → T ≠ S → h'.IsListIter it l (i + 1) →
        h'.get? s.heap.objs.size = some { cls := .type "tuple", data := .seq #[.int i s.toks, u] } → (∀ b o, b ≠ e → b ≠ it → s.heap.get? b = some o → h'.get? b = some o) →
        wpAny (model X.prog X.w) A.in1 (updateSeq S (·.push (.ref s.heap.objs.size)) >>= fun _ => again (.builtin "list.extend.loop" ⟨[.ref S, .ref e, res], []⟩))
          (fun fin s' => match fin with | .done f => R (.ok f) s' | .again c' => c'.quiet = true ∧ codeAny (model X.prog X.w) A c' R s') (fun e s' => R (.error e) s') { s with heap := h', toks := s.toks + 1 } := by
      intro h' old T f oT ho hT r1 r2 r3 hit' hT2 hkp
      have hel' : e < s.heap.objs.size := by
        rcases st.st with ⟨_, he⟩ | ⟨_, _, _, _, he, _⟩ <;> exact Heap.lt_size he
      have new : ObjOk X.prog X.w (upd H s.heap.objs.size (.tup [.int (i : Nat), xs[i]])) h' s.heap.objs.size (.tup [.int (i : Nat), xs[i]]) :=
        ⟨by show 2 ≤ sizeLine; decide, [.int i s.toks, u], .cons ⟨_, rfl⟩ (.cons ru .nil), ⟨_, hT2, rfl, _, rfl⟩⟩
      have I1 : Inv X pins σ (upd H s.heap.objs.size (.tup [.int (i : Nat), xs[i]])) { s with heap := h', toks := s.toks + 1 } :=
        I.turnedNew (ch := [e, it]) (fun b ob hb q => hkp b ob (fun z => hb (by simp [z])) (fun z => hb (by simp [z])) q) hf (Nat.le_refl _) new
      have hfr : H s.heap.objs.size = none := I.hok.fresh (Nat.le_refl _)
      have hSz : S ≠ s.heap.objs.size := ne_of_none hrow.2.1 hfr
      have hS2 : upd H s.heap.objs.size (.tup [.int (i : Nat), xs[i]]) S = some (.lst (ts.map V.ref)) := by rw [upd_ne hSz]; exact hrow.2.1
      obtain ⟨hl3, acc, c, r3', hS3⟩ := I1.hok S _ hS2
      have hal : acc.length = i := by rw [← r3'.length, List.length_map, hlen]
      have hlH : SqL X.K (upd H s.heap.objs.size (.tup [.int (i : Nat), xs[i]])) l xs := sql_new hq hfr
      have hupd : ∀ b o, b ≠ S → h'.get? b = some o → (h'.update S (Obj.mapSeq (·.push (.ref s.heap.objs.size)))).get? b = some o := fun b o hb q => (Heap.get?_update_other _ _ (Ne.symm hb)).trans q
      have hself := Heap.get?_update_self (Obj.mapSeq (·.push (Value.ref s.heap.objs.size))) hS3 rfl
      have I2 : Inv X pins σ (upd (upd H s.heap.objs.size (.tup [.int (i : Nat), xs[i]])) S (.lst ((ts ++ [s.heap.objs.size]).map V.ref))) { s with heap := h'.update S (Obj.mapSeq (·.push (.ref s.heap.objs.size))), toks := s.toks + 1 } := by
        have := I1.lset (its' := acc ++ [.ref s.heap.objs.size]) hS2 hS3 (f := (·.push (.ref s.heap.objs.size))) (t' := s.toks + 1) (by simp) (ys := ts.map V.ref ++ [V.ref s.heap.objs.size]) (r3'.append (Paired.cons (show RelV (V.ref s.heap.objs.size) (Value.ref s.heap.objs.size) from rfl) .nil)) (by simp; omega)
        rw [List.map_append]
        exact this
      refine wpAny_bind (wpAny_updateSeq hS3 rfl (wpAny_pure ⟨plainId_quiet F.plain_extend_loop _, ih (i + 1) _ _ (ts ++ [s.heap.objs.size]) (by omega) hlt I2 ⟨(hrow.1.new hfr).mut (by simp), upd_same, ?_⟩ (by simp [hlen]) (sql_ne hlH hlS) ⟨hit'.at fun o q => hupd _ _ hSi.symm q, st.ne, .inr ⟨old, T, f, oT, hupd _ _ hSe.symm ho, hupd _ _ r3 hT, r1, r2, r3⟩⟩ fun b hb => ?_⟩) (by simp; omega) (by simp; omega))
      · intro j T' hj
        by_cases hji : j < ts.length
        · rw [List.getElem?_append_left hji] at hj
          obtain ⟨x, h1, h2, h3⟩ := hrow.2.2 j T' hj
          refine ⟨x, h1, ?_, h3⟩
          rw [upd_ne (ne_of h2 hrow.2.1 (by intro z; cases z)), upd_ne (ne_of_none h2 hfr)]
          exact h2
        · have hj2 : j = i := by
            have := (List.getElem?_eq_some_iff.mp hj).1
            simp at this
            omega
          subst hj2
          rw [← hlen, List.getElem?_append_right (Nat.le_refl _)] at hj
          simp at hj
          subst hj
          exact ⟨xs[j], hx, by rw [upd_ne (Ne.symm hSz), upd_same], hrow.1.free hfr (by simp [Ne.symm hSz])⟩
      · have hb2 : b < s.heap.objs.size ∧ b ≠ S := by
          have e' : b = e ∨ b = it := by simpa using hb
          rcases e' with z | z
          · rw [z]; exact ⟨hel', hSe.symm⟩
          · rw [z]; exact ⟨hil', hSi.symm⟩
        obtain ⟨f0, f1⟩ := hf b hb
        refine ⟨?_, f1⟩
        rw [upd_ne hb2.2, upd_ne (Nat.ne_of_lt hb2.1)]
        exact f0
    rcases st.st with ⟨old, he⟩ | ⟨old, T, f, oT, he, hT, r1, r2, r3⟩
    · refine wpAny_bind (wpAny_pyNext_enum_item he st.li p.isList hu' st.ne fun h' ho hit' hT hs2 hkp => ?_)
      have hel' : e < s.heap.objs.size := Heap.lt_size he
      have hSl : S < s.heap.objs.size := Heap.lt_size (lst_there I hrow.2.1)
      exact go h' _ s.heap.objs.size false _ (by rw [show ((i + 1 : Nat) : Int) = (i : Int) + 1 by omega]; exact ho) hT (Nat.ne_of_gt hel') (Nat.ne_of_gt hil') (Nat.ne_of_gt hSl) hit' hT hkp
    · refine wpAny_bind (wpAny_pyNext_enum_item_held he hT r1 r2 st.li p.isList hu' st.ne fun h' ho hit' hT' hs2 hkp => ?_)
      exact go h' old T true oT (by rw [show ((i + 1 : Nat) : Int) = (i : Int) + 1 by omega]; exact ho) (hkp _ _ r1 r2 hT) r1 r2 r3 hit' hT' hkp
end
/-- list(enumerate(xs)) -/
def tListEn (K : PySem.W.Frag) (te : TE) : TE := fun σ H Q => te σ H fun x H1 => ∃ a xs, x = .ref a ∧ SqL K H1 a xs ∧ xs.length < sizeLine ∧
  ∀ (S : Addr) (ts : List Addr) (H2 : Hp), H1 S = none → Same H1 H2 → H2 S = some (.lst (ts.map V.ref)) → ts.length = xs.length → (∀ (j : Nat) (T : Addr), ts[j]? = some T → ∃ x, xs[j]? = some x ∧ H2 T = some (.tup [.int (j : Nat), x]) ∧ H1 T = none) → Q (.ref S) H2
theorem pe_listEn {X : Cx} {e : Expr} {te : TE} {p p2 pos pos2 : Pos} {K : PySem.W.Frag} (hK : X.K = K) (hc : X.calm = true) (he : PE X e te) (hg1 : Gl X "list") (hm1 : X.mg "list" = none) (hg : Gl X "enumerate") (hm : X.mg "enumerate" = none)
    (hs1 : starEach [.Call (.Name "enumerate" p2) [e] [] pos2] X.env = (false, eval (.Call (.Name "enumerate" p2) [e] [] pos2) X.env) :: starEach [] X.env := by rfl) (hs : starEach [e] X.env = (false, eval e X.env) :: starEach [] X.env := by rfl) :
    PE X (.Call (.Name "list" p) [.Call (.Name "enumerate" p2) [e] [] pos2] [] pos) (tListEn K te) := by
  subst hK
  refine ⟨fun pins s σ H Q I h => ?_⟩
  refine wpAny_Call_Name_kw (ld_blt (u := .type "list") I hg1 hm1 (by decide +kernel) ?_)
  refine PyProof.Rows.callWith_type1 ?_ hs1 rfl
  rw [hs1]
  show wpAny _ _ (spliced ((false, eval (.Call (.Name "enumerate" p2) [e] [] pos2) X.env) :: backTo pos (starEach [] X.env))) _ _ s
  refine Calls.spliced_cons ?_
  refine wpAny_Call_Name_kw (ld_blt I hg hm boot_enumerate ?_)
  refine PyProof.Rows.callWith_type1 ?_ hs rfl
  rw [hs]
  show wpAny _ _ (spliced ((false, eval e X.env) :: backTo pos2 (starEach [] X.env))) _ _ s
  refine Calls.spliced_cons (thn (he.run pins s σ H _ I h) fun u s1 ⟨x, H1, I1, r1, q1⟩ => ?_)
  refine Calls.spliced_nil ?_
  obtain ⟨l, xs, rfl, hq, hz, q⟩ := q1
  cases r1
  obtain ⟨its, rv, p', hz'⟩ := I1.list hq
  refine call_enumerate_list p'.isList fun h2 hen hit hsz hk => ?_
  refine Calls.spliced_nil ?_
  have I2 : Inv X pins σ H1 { s1 with heap := h2 } := I1.kept (t' := s1.toks) hk
  have hll : l < s1.heap.objs.size := by obtain ⟨_, q, _⟩ := p'.isList; exact Heap.lt_size q
  have hh : X.A.handled = none := I1.ok.hd hc
  obtain ⟨z, ez⟩ : ∃ z, z = s1.heap.objs.size := ⟨_, rfl⟩
  rw [← ez] at hen hit hsz hll
  have hS0 : h2.objs.size = z + 2 := hsz
  refine callType_codes (Q₁ := fun obj s₁ => obj = .ref h2.objs.size ∧ s₁ = { s1 with heap := h2.push { cls := .type "list", data := .seq #[] } }) F.called_list (F.typeCall_list_1 _) F.entry_list_init
    (code_list_new _ ⟨rfl, rfl⟩) fun obj s₁ h₁ => ?_
  obtain ⟨rfl, rfl⟩ := h₁
  have hS : (h2.push { cls := .type "list", data := .seq #[] }).get? h2.objs.size = some { cls := .type "list", data := .seq #[] } := Heap.get?_push_size _ rfl
  refine ⟨⟨_, hS, rfl⟩, F.args_list_init_2 _ _, ?_⟩
  rw [← ez]
  show wpAny _ X.A.in1.in1 (do let old ← Builtin.List.listItems (.ref h2.objs.size); Builtin.List.listUpdate (.ref h2.objs.size) (fun _ => #[]); letGo old.toList.reverse; Builtin.List.listExtendWith (.ref h2.objs.size) (.ref (z + 1)) .none) _ _ _
  refine wpAny_bind ?_
  unfold Builtin.List.listItems
  refine wpAny_bind (wpAny_seqItems hS rfl (wpAny_pure ?_))
  show wpAny _ X.A.in1.in1 (updateSeq h2.objs.size (fun _ => #[]) >>= fun _ => letGo (#[] : Array Value).toList.reverse >>= fun _ => Builtin.List.listExtendWith (.ref h2.objs.size) (.ref (z + 1)) .none) _ _ _
  refine wpAny_bind (wpAny_updateSeq hS rfl ?_)
  have hS2 := Heap.get?_update_self (Obj.mapSeq (fun _ => (#[] : Array Value))) hS rfl
  refine wpAny_bind (wpAny_letGo ?_)
  unfold Builtin.List.listExtendWith
  have up : ∀ (h : Heap) (f : Obj → Obj), (∀ b o, h2.get? b = some o → h.get? b = some o) → ∀ b o, h2.get? b = some o → (h.update h2.objs.size f).get? b = some o := fun h f q b o e =>
    (Heap.get?_update_other _ _ (Ne.symm (Nat.ne_of_lt (Heap.lt_size e)))).trans (q b o e)
  have k1 : ∀ b o, h2.get? b = some o → (h2.push { cls := .type "list", data := .seq #[] }).get? b = some o := fun b o e => Heap.get?_push_of_some _ e
  have k2 := up _ (Obj.mapSeq (fun _ => (#[] : Array Value))) k1
  have ty : ∀ {h : Heap} {tk : Nat}, (∀ b o, h2.get? b = some o → h.get? b = some o) → ({ s1 with heap := h, toks := tk } : Shared).TypeIs (.ref (z + 1)) "enumerate" := fun {h tk} q => ⟨_, q _ _ hen, rfl⟩
  have hSa : h2.objs.size ≠ z + 1 := by rw [hS0]; exact Nat.succ_ne_self _
  refine wpAny_bind (wpAny_typeOf (ty k2) ?_)
  have h1 : Builtin.List.listSameRef (.ref h2.objs.size) (.ref (z + 1)) = false := by simp [Builtin.List.listSameRef, hSa]
  have h2' : (Value.type "enumerate" == Value.type "list") = false := by decide
  have h3 : (Value.type "enumerate" == Value.type "tuple") = false := by decide
  simp only [h1, h2', h3, Bool.or_false, Bool.false_eq_true, if_false]
  refine wpAny_bind (wpAny_pyIter_enum (k2 _ _ hen) ?_)
  refine wpAny_bind (wpAny_holding ?_)
  unfold Builtin.List.listLengthHint
  refine wpAny_bind (wpAny_specialOf (ty k2) enum_no_len ?_)
  show wpAny _ X.A.in1.in1 (specialOf (Value.ref (z + 1)) (Str.ofString "__length_hint__") >>= _) _ _ _
  refine wpAny_bind (wpAny_specialOf (ty k2) enum_no_hint ?_)
  refine wpAny_pure ?_
  show wpAny _ X.A.in1.in1 (rule "list.extend.makes-room" >>= fun _ => Builtin.List.listTouch (.ref h2.objs.size) >>= fun _ =>
    again (.builtin "list.extend.loop" ⟨[.ref h2.objs.size, .ref (z + 1), .none], []⟩)) _ _ _
  refine wpAny_bind (wpAny_rule ?_)
  refine wpAny_bind ?_
  show wpAny _ X.A.in1.in1 (updateSeq h2.objs.size (·.push .none) >>= fun _ => updateSeq h2.objs.size (·.pop)) _ _ _
  refine wpAny_bind (wpAny_updateSeq hS2 rfl ?_)
  have hS3 := Heap.get?_update_self (Obj.mapSeq (·.push Value.none)) hS2 rfl
  refine wpAny_updateSeq (hz := by seq_fits) hS3 rfl ?_
  have hS4 := Heap.get?_update_self (Obj.mapSeq (·.pop)) hS3 rfl
  have k4 := up _ (Obj.mapSeq (·.pop)) (up _ (Obj.mapSeq (·.push Value.none)) k2)
  refine wpAny_pure ⟨plainId_quiet F.plain_extend_loop _, ?_⟩
  have hn1 : H1 h2.objs.size = none := I2.hok.fresh (Nat.le_refl _)
  have I4 : Inv X pins σ (upd H1 h2.objs.size (.lst [])) { s1 with heap := _ } := I2.laid (t' := s1.toks) k4 (Nat.le_refl _) ⟨Nat.zero_le _, [], _, .nil, hS4⟩
  have hsq : SqL X.K (upd H1 h2.objs.size (.lst [])) l xs := sql_new hq hn1
  have n0 : ∀ b, z ≤ b → b < h2.objs.size → upd H1 h2.objs.size (.lst []) b = none := fun b h1 h2 => by
    rw [upd_ne (Nat.ne_of_lt h2)]
    exact I1.hok.fresh (by rw [← ez]; exact h1)
  have hzS : z < h2.objs.size := by rw [hS0]; exact Nat.lt_add_of_pos_right (by decide)
  have a1 : l ≠ z + 1 := Nat.ne_of_lt (Nat.lt_succ_of_lt hll)
  have a2 : l ≠ z := Nat.ne_of_lt hll
  have a3 : h2.objs.size ≠ z := Nat.ne_of_gt hzS
  have a4 : l ≠ h2.objs.size := Nat.ne_of_lt (Nat.lt_trans hll hzS)
  have hfp : ∀ b ∈ [z + 1, z], FpOk X pins (upd H1 h2.objs.size (.lst [])) b := fun b hb => by
    have e' : b = z + 1 ∨ b = z := by simpa using hb
    rcases e' with rfl | rfl
    · exact I1.fpOk (by rw [← ez]; exact Nat.le_succ _) (n0 _ (Nat.le_succ _) (by rw [hS0]; exact Nat.lt_succ_self _))
    · exact I1.fpOk (by rw [← ez]; exact Nat.le_refl _) (n0 _ (Nat.le_refl _) hzS)
  refine enum_loop (A := X.A.in1) (X := X) (pins := pins) (σ := σ) (H1 := upd H1 h2.objs.size (.lst [])) (l := l) (it := z) (xs := xs) hh a1 a2 hSa a3 a4 hz hsq upd_same (fun s' H' ts I' hrow hlen => ?_)
    xs.length 0 _ _ [] (Nat.sub_zero _) (Nat.zero_le _) I4 ⟨Keep.refl _ _, upd_same, by simp⟩ rfl hsq ⟨hit.at fun o q => k4 _ _ q, Nat.succ_ne_self _, .inl ⟨_, k4 _ _ hen⟩⟩ hfp
  refine ⟨rfl, .ref h2.objs.size, H', I', rfl, ?_⟩
  refine q _ ts H' hn1 (fun b o eb => hrow.1 b o (by rw [upd_ne (ne_of_none eb hn1)]; exact eb) (by simp [ne_of_none eb hn1])) hrow.2.1 hlen fun j T hj => ?_
  obtain ⟨x, b1, b2, b3⟩ := hrow.2.2 j T hj
  refine ⟨x, b1, b2, ?_⟩
  rw [upd_ne fun y => by rw [y, upd_same] at b3; cases b3] at b3
  exact b3
/-- [e for k in d], d not locked -/
theorem lcU_keys {a : Addr} {kvs : List (Key × V)} {te : TE} {i j : Nat} {σ : L2.St} {H : Hp} {Q : VK} (ha : H a = some (.dK kvs)) (hi : σ[i]? = some (some (.ref a)))
    (ys : List V) (hl : ys.length = kvs.length) (hz : kvs.length ≤ 100000)
    (step : ∀ (i : Nat) k v y H' (N : VK), kvs[i]? = some (k, v) → ys[i]? = some y → LSame H H' → Rd H' a (.dK kvs) → (∀ H4, Same H' H4 → N y H4) → te ((wipe σ [j]).set j (some (kV k))) H' N)
    (done : ∀ D H', H D = none → Same H H' → H' D = some (.lst ys) → Q (.ref D) H') : tLockE (tLc (iKeys (tVar i)) (gName j) tYes te [j]) σ H Q := by
  refine ⟨a, .dK kvs, ha, trivial, fun od => ?_⟩
  have e1 : upd H a (.frz od (.dK kvs)) a = some (.frz od (.dK kvs)) := upd_same
  have ls : LSame H (upd H a (.frz od (.dK kvs))) := fun b o e => by
    by_cases hb : b = a
    · subst hb
      rw [ha] at e
      cases e
      exact .inr ⟨kvs, od, rfl, upd_same⟩
    · exact .inl (by rw [upd_ne hb]; exact e)
  rw [tLc_eq]
  refine ⟨_, hi, a, od, rfl, .inl ⟨kvs, e1, lcP_keys e1 ys hl hz ?_ ?_⟩⟩
  · intro i k v y H' N hk hy s N'
    exact step i k v y H' N hk hy (ls.trans (.of s)) (.inr ⟨od, s _ _ e1⟩) N'
  · intro D H' nD s e
    have hDa : D ≠ a := fun z => by rw [z, upd_same] at nD; cases nD
    have nD' : H D = none := by rw [upd_ne hDa] at nD; exact nD
    exact ⟨s _ _ e1, done D _ nD' (same_lock ha s) (by rw [upd_ne hDa]; exact e)⟩
theorem ps_never {X : Cx} {st : Stmt} : PS X st (fun _ _ _ => False) := ⟨fun _ _ _ _ _ _ h => h.elim⟩
theorem pe_gint {X : Cx} {x : Str} {z : Int} {t : Tok} {pos : Pos} (hg : Gl X x) (hm : X.mg x = some (.int z t)) (hd : (x == ("__debug__" : Str)) = false := by decide) : PE X (.Name x pos) (tC (.int z)) := pe_glob (v := .int z) hg hm ⟨t, rfl⟩ hd
/-! ### the first wrong place of a datum -/
/-- no text is longer than this -/
def smallD : Nat → PyData → Prop
  | 0, _ => True
  | n + 1, .list ds => ∀ d ∈ ds, smallD n d
  | n + 1, .tuple ds => ∀ d ∈ ds, smallD n d
  | n + 1, .dict es => es.length ≤ 60 ∧ ∀ e ∈ es, (∀ x, e.1 = .str x → x.length ≤ 1000 ∧ AsciiS x) ∧ smallD n e.2
  | _ + 1, .str x => x.length ≤ 1000
  | _ + 1, _ => True
def isTextD : PyData → Bool
  | .str x => decide (x.length ≤ 60)
  | _ => false
def isIntD : PyData → Bool
  | .int _ => true
  | _ => false
def fstR (f : PyData → Option (List Key)) : List (Key × PyData) → Option (List Key)
  | [] => none
  | (k, d) :: r => match f d with
    | some p => some (k :: p)
    | none => fstR f r
def rowsL (ds : List PyData) : List (Key × PyData) := ds.zipIdx.map fun p => (.inl (p.2 : Int), p.1)
def rowsD (es : List (PyData × PyData)) : List (Key × PyData) := (srt (keysD es)).map fun x => (.inr x, (dget es x).getD .none)
def fwN : Nat → PyData → Option (List Key)
  | 0, _ => none
  | n + 1, .list ds => fstR (fwN n) (rowsL ds)
  | n + 1, .dict es => if es.all (fun e => isTextD e.1) then fstR (fwN n) (rowsD es) else some []
  | _ + 1, .none => none
  | _ + 1, .bool _ => none
  | _ + 1, .str x => if x.length ≤ 60 then none else some []
  | _ + 1, .int i => if -10 ^ 30 ≤ i ∧ i ≤ 10 ^ 30 then none else some []
  | _ + 1, .tuple _ => some []
theorem fstR_at {f : PyData → Option (List Key)} : ∀ {rs : List (Key × PyData)} {i : Nat} {k : Key} {d : PyData} {p : List Key}, (∀ j < i, ∀ q, rs[j]? = some q → f q.2 = none) → rs[i]? = some (k, d) → f d = some p → fstR f rs = some (k :: p)
  | [], _, _, _, _, _, h, _ => by simp at h
  | q :: r, 0, k, d, p, _, h, g => by
    simp at h; subst h
    simp [fstR, g]
  | q :: r, i + 1, k, d, p, h0, h, g => by
    obtain ⟨k0, d0⟩ := q
    have h1 := h0 0 (by omega) (k0, d0) rfl
    simp only at h1
    simp only [fstR, h1]
    exact fstR_at (i := i) (fun j hj q hq => h0 (j + 1) (by omega) q (by simpa using hq)) (by simpa using h) g
theorem fstR_none {f : PyData → Option (List Key)} : ∀ {rs : List (Key × PyData)}, (∀ q ∈ rs, f q.2 = none) → fstR f rs = none
  | [], _ => rfl
  | (k, d) :: r, h => by
    have h1 := h (k, d) (by simp)
    simp only at h1
    simp only [fstR, h1]
    exact fstR_none fun q hq => h q (by simp [hq])
theorem fstR_congr {f g : PyData → Option (List Key)} : ∀ {rs : List (Key × PyData)}, (∀ q ∈ rs, f q.2 = g q.2) → fstR f rs = fstR g rs
  | [], _ => rfl
  | (k, d) :: r, h => by
    have h1 := h (k, d) (by simp)
    simp only at h1
    simp only [fstR, h1]
    cases g d with
    | some p => rfl
    | none => exact fstR_congr fun q hq => h q (by simp [hq])
theorem fstR_inv {f : PyData → Option (List Key)} : ∀ {rs : List (Key × PyData)} {p : List Key}, fstR f rs = some p → ∃ k d q, (k, d) ∈ rs ∧ f d = some q ∧ p = k :: q
  | [], _, h => by cases h
  | (k, d) :: r, p, h => by
    cases hf : f d with
    | some q =>
      simp only [fstR, hf] at h
      cases h
      exact ⟨k, d, q, by simp, hf, rfl⟩
    | none =>
      simp only [fstR, hf] at h
      obtain ⟨k2, d2, q, h1, h2, h3⟩ := fstR_inv h
      exact ⟨k2, d2, q, by simp [h1], h2, h3⟩
theorem fwN_len : ∀ {n : Nat} {d : PyData} {p : List Key}, fwN n d = some p → p.length ≤ n
  | 0, _, _, h => by cases h
  | n + 1, .list ds, p, h => by
    obtain ⟨k, d, q, _, h2, rfl⟩ := fstR_inv h
    have := fwN_len h2
    simp; omega
  | n + 1, .dict es, p, h => by
    simp only [fwN] at h
    split at h
    · obtain ⟨k, d, q, _, h2, rfl⟩ := fstR_inv h
      have := fwN_len h2
      simp; omega
    · cases h; simp
  | n + 1, .none, p, h => by cases h
  | n + 1, .bool _, p, h => by cases h
  | n + 1, .str x, p, h => by simp only [fwN] at h; split at h <;> cases h; simp
  | n + 1, .int x, p, h => by simp only [fwN] at h; split at h <;> cases h; simp
  | n + 1, .tuple _, p, h => by cases h; simp
theorem small_up {G : Hp} : ∀ {n : Nat} {v : V} {d : PyData}, smallD n d → Re G n v d → smallD (n + 1) d
  | 0, _, _, _, r => r.elim
  | n + 1, v, .list ds, h, ⟨a, xs, _, _, _, hp⟩ => fun d hd => by
    obtain ⟨x, _, hx⟩ := pd_memR hp hd
    exact small_up (h d hd) hx
  | n + 1, v, .tuple ds, h, ⟨a, xs, _, _, _, hp⟩ => fun d hd => by
    obtain ⟨x, _, hx⟩ := pd_memR hp hd
    exact small_up (h d hd) hx
  | n + 1, v, .dict es, h, ⟨a, xs, _, _, _, _, hp⟩ => ⟨h.1, fun e he => by
    obtain ⟨x, _, hx⟩ := pd_memR hp he
    exact ⟨(h.2 e he).1, small_up (h.2 e he).2 hx.2⟩⟩
  | n + 1, v, .none, _, _ => trivial
  | n + 1, v, .bool _, _, _ => trivial
  | n + 1, v, .int _, _, _ => trivial
  | n + 1, v, .str _, h, _ => h
/-! paths -/
/-- what it hands back -/
def pathV (r : Option (List Key)) (H : Hp) (v : V) : Prop := match r with
  | none => v = .non
  | some p => ∃ t, v = .ref t ∧ H t = some (.tup (p.map kV))
theorem pathV.imp {r : Option (List Key)} {H H' : Hp} {v : V} (h : pathV r H v) (s : Same H H') : pathV r H' v := by
  cases r with
  | none => exact h
  | some p => obtain ⟨t, h1, h2⟩ := h; exact ⟨t, h1, s _ _ h2⟩
theorem fwN_ok {G : Hp} : ∀ {n : Nat} {v : V} {d : PyData} {p : List Key}, Re G n v d → smallD n d → fwN n d = some p → ∀ k ∈ p, leafD (kD k)
  | 0, _, _, _, r, _, _ => r.elim
  | n + 1, v, .list ds, p, ⟨a, xs, _, _, hb, hp⟩, sm, h => by
    obtain ⟨k, d, q, hm, h2, rfl⟩ := fstR_inv h
    obtain ⟨⟨d', i⟩, hz, he⟩ := List.mem_map.mp hm
    cases he
    have hi := List.mem_zipIdx' hz
    have hd : d' ∈ ds := by rw [hi.2]; exact List.getElem_mem _
    obtain ⟨x, _, hx⟩ := pd_memR hp hd
    intro k hk
    rcases List.mem_cons.mp hk with rfl | hk
    · have := hi.1
      have hl := pd_len hp
      exact ⟨by omega, by omega⟩
    · exact fwN_ok hx (sm d' hd) h2 k hk
  | n + 1, v, .dict es, p, ⟨a, xs, _, _, hb, hn, hp⟩, sm, h => by
    simp only [fwN] at h
    split at h
    · rename_i hall
      obtain ⟨k, d, q, hm, h2, rfl⟩ := fstR_inv h
      obtain ⟨x, hx, he⟩ := List.mem_map.mp hm
      cases he
      obtain ⟨e, he, hxe⟩ := List.mem_map.mp (mem_srt.mp hx)
      have ht := List.all_eq_true.mp hall e he
      obtain ⟨y, hy⟩ : ∃ y, e.1 = .str y := by
        cases h : e.1 with
        | str y => exact ⟨y, rfl⟩
        | _ => rw [h] at ht; cases ht
      rw [hy] at ht hxe
      have hxe : y = x := hxe
      subst hxe
      cases hg : dget es y with
      | none => exact absurd (mem_srt.mp hx) (dget_none hg)
      | some d2 =>
        rw [hg] at h2
        obtain ⟨e2, he2, rfl, _⟩ := dget_mem hg
        obtain ⟨z, _, hz⟩ := pd_memR hp he2
        intro k hk
        rcases List.mem_cons.mp hk with rfl | hk
        · exact ⟨of_decide_eq_true ht, ((sm.2 e he).1 y hy).2⟩
        · exact fwN_ok hz.2 (sm.2 e2 he2).2 h2 k hk
    · cases h; intro k hk; cases hk
  | n + 1, v, .none, p, _, _, h => by cases h
  | n + 1, v, .bool _, p, _, _, h => by cases h
  | n + 1, v, .str x, p, _, _, h => by
    simp only [fwN] at h
    split at h <;> cases h
    intro k hk; cases hk
  | n + 1, v, .int x, p, _, _, h => by
    simp only [fwN] at h
    split at h <;> cases h
    intro k hk; cases hk
  | n + 1, v, .tuple _, p, _, _, h => by cases h; intro k hk; cases hk
theorem fine_path {p : List Key} (h : ∀ k ∈ p, leafD (kD k)) : Fine (.tuple (p.map kD)) := Fine.tuple fun d hd => by
  obtain ⟨k, hk, rfl⟩ := List.mem_map.mp hd
  exact Fine.leaf (h k hk)
theorem cnt_keys : ∀ p : List Key, cntAll (p.map kD) = p.length
  | [] => rfl
  | k :: r => by
    simp only [List.map_cons, cntAll, List.length_cons]
    rw [cnt_keys r]
    cases k <;> simp [kD, cnt] <;> omega
theorem Rp_path {H : Hp} {t : Addr} {p : List Key} (h : H t = some (.tup (p.map kV))) (hl : p.length ≤ 1000) : Rp H 2 (.ref t) (.tuple (p.map kD)) := by
  refine ⟨t, _, rfl, h, by simp; omega, ?_⟩
  clear h
  induction p with
  | nil => exact .nil
  | cons k r ih => exact .cons (by cases k <;> rfl) (ih (by simp at hl; omega))
/-- a path, shown -/
def showP : Option (List Key) → Str
  | none => PyData.shown .none
  | some p => PyData.shown (.tuple (p.map kD))
theorem repr_path {H : Hp} {v : V} {r : Option (List Key)} {Q : VK} (h : pathV r H v) (hk : ∀ p, r = some p → p.length ≤ 1000 ∧ ∀ k ∈ p, leafD (kD k)) (q : Q (.str (showP r)) H) : rRepr [v] H Q := by
  cases r with
  | none =>
    cases h
    exact repr1 (n := 1) (d := .none) rfl (by omega) (Fine.leaf trivial) (by simp [cnt]) q
  | some p =>
    obtain ⟨t, rfl, ht⟩ := h
    obtain ⟨h1, h2⟩ := hk p rfl
    exact repr1 (Rp_path ht h1) (by omega) (fine_path h2) (by simp only [cnt]; rw [cnt_keys]; omega) q
/-! fuel -/
theorem fw_up {G : Hp} : ∀ {n : Nat} {v : V} {d : PyData}, Re G n v d → fwN (n + 1) d = fwN n d
  | 0, _, _, r => r.elim
  | n + 1, v, .list ds, ⟨a, xs, _, _, hb, hp⟩ => by
    simp only [fwN]
    exact fstR_congr fun q hq => by
      obtain ⟨⟨d', i⟩, hz, he⟩ := List.mem_map.mp hq
      cases he
      have hi := List.mem_zipIdx' hz
      have hd : d' ∈ ds := by rw [hi.2]; exact List.getElem_mem _
      obtain ⟨x, _, hx⟩ := pd_memR hp hd
      exact fw_up hx
  | n + 1, v, .dict es, ⟨a, xs, _, _, hb, hn, hp⟩ => by
    simp only [fwN]
    split
    · exact fstR_congr fun q hq => by
        obtain ⟨x, hx, he⟩ := List.mem_map.mp hq
        cases he
        cases hg : dget es x with
        | none => exact absurd (mem_srt.mp hx) (dget_none hg)
        | some d2 =>
          obtain ⟨e2, he2, rfl, _⟩ := dget_mem hg
          obtain ⟨z, _, hz⟩ := pd_memR hp he2
          exact fw_up hz.2
    · rfl
  | n + 1, v, .none, _ => rfl
  | n + 1, v, .bool _, _ => rfl
  | n + 1, v, .str x, _ => rfl
  | n + 1, v, .int x, _ => rfl
  | n + 1, v, .tuple _, _ => rfl
/-- xs[::2], xs of five -/
theorem pick2 (u0 u1 u2 u3 u4 : Value) : slicePick [u0, u1, u2, u3, u4].toArray none none (some 2) = [u0, u2, u4].toArray := by
  have e : sliceRange 0 5 2 = [0, 2, 4] := by decide +kernel
  show ((sliceRange 0 5 2).filterMap ([u0, u1, u2, u3, u4].toArray[·]?)).toArray = _
  rw [e]
  rfl
def tTwo5 (K : PySem.W.Frag) (te : TE) : TE := fun σ H Q => te σ H fun x H1 => ∃ a y0 y1 y2 y3 y4, x = .ref a ∧ SqL K H1 a [y0, y1, y2, y3, y4] ∧ ∀ p, H1 p = none → Q (.ref p) (upd H1 p (.lst [y0, y2, y4]))
theorem pe_two5 {X : Cx} {K : PySem.W.Frag} {e : Expr} {te : TE} {k : Nat} {p1 p3 pos : Pos} (hK : X.K = K) (he : PE X e te) : PE X (.Subscript e (.Slice none none (some (.Constant (.int 2) k p1)) p3) pos) (tTwo5 K te) := by
  subst hK
  refine ⟨fun pins s σ H Q I h => ?_⟩
  refine Subscript_ (thn (he.run pins s σ H _ I h) fun v s1 ⟨x, H1, I1, r1, q1⟩ => ?_)
  obtain ⟨a, y0, y1, y2, y3, y4, ex, hx, q⟩ := q1
  subst ex
  cases r1
  have hst : PO X (some (.Constant (.int 2) k p1)) (tPart (tC (.int 2))) := po_some pe_int
  refine wpAny_Slice (thn (po_none.run pins s1 σ H1 (fun o H2 => o = none ∧ H2 = H1) I1 ⟨rfl, rfl⟩) fun vl s2 ⟨l, H2, I2, pl, el, e2⟩ => ?_)
  subst el e2
  refine thn (po_none.run pins s2 σ H2 (fun o H3 => o = none ∧ H3 = H2) I2 ⟨rfl, rfl⟩) fun vu s3 ⟨u, H3, I3, pu, eu, e3⟩ => ?_
  subst eu e3
  refine thn (hst.run pins s3 σ H3 (fun o H4 => o = some 2 ∧ H4 = H3) I3 ⟨2, rfl, rfl, rfl⟩) fun vs s4 ⟨o, H4, I4, ps, eo, e4⟩ => ?_
  subst eo e4
  have I5 : Inv X pins σ H4 { s4 with heap := s4.heap.push { cls := .type "slice", data := .fields #[vl, vu, vs] } } := I4.kept (t' := s4.toks) fun b ob q => Heap.get?_push_of_some _ q
  obtain ⟨its, r, ht, hz⟩ := I5.list hx
  have hlen := r.length
  show wpAny (model X.prog X.w) X.A (subscriptTail e (.Slice none none (some (.Constant (.int 2) k p1)) p3) (.ref a) (.ref s4.heap.objs.size)) (EP X pins σ Q) X.xe { s4 with heap := s4.heap.push { cls := .type "slice", data := .fields #[vl, vu, vs] } }
  refine tail_any (ops := [.ref a, .ref s4.heap.objs.size]) ht.isList.typeIs (PySem.slot_list_getitem.lookup) ?_ (by with_unfolding_all rfl)
  refine wpAny_getItem_list_slice ht.isList (Heap.IsSliceOf.new _ vl vu vs) pl pu ps (by decide) ?_ (by rw [List.size_toArray]; omega)
  cases r with
  | cons a0 r => cases r with
    | cons a1 r => cases r with
      | cons a2 r => cases r with
        | cons a3 r => cases r with
          | cons a4 r =>
            cases r
            rw [pick2]
            refine ⟨.ref _, _, I5.laid (t' := s4.toks) (o := .lst [y0, y2, y4]) (fun b ob q => Heap.get?_push_of_some _ q) (Nat.le_refl _) ?_, rfl, q _ (I5.hok.fresh (Nat.le_refl _))⟩
            exact ⟨sz5 (by simp), _, 0, .cons a0 (.cons a2 (.cons a4 .nil)), Heap.get?_push_size _ rfl⟩
theorem op_catAK {X : Cx} {K : PySem.W.Frag} (h : X.K = K) : OpR X (binaryOp .Add) (rCatA K) := by subst h; exact op_catA
end SC

set_option Elab.async false
set_option linter.all false
set_option maxRecDepth 100000
set_option maxHeartbeats 4000000
/-! data of its own: no part of it is shared -/
namespace SC
open PySem L2
/-- the part of a heap with the colour i -/
def sel (G : Hp) (c : Addr → Nat) (i : Nat) : Hp := fun b => if c b = i then G b else none
theorem sel_sub {G : Hp} {c : Addr → Nat} {i : Nat} : Same (sel G c i) G := fun b o e => by
  unfold sel at e
  split at e
  · exact e
  · cases e
theorem sel_at {G : Hp} {c : Addr → Nat} {i : Nat} {b : Addr} {o : HO} (e : sel G c i b = some o) : c b = i ∧ G b = some o := by
  unfold sel at e
  split at e
  · exact ⟨‹_›, e⟩
  · cases e
theorem sel_of {G : Hp} {c : Addr → Nat} {i : Nat} {b : Addr} {o : HO} (h : c b = i) (e : G b = some o) : sel G c i b = some o := by
  unfold sel
  rw [if_pos h]; exact e
theorem sel_mono {G G' : Hp} {c : Addr → Nat} {i : Nat} (s : Same G G') : Same (sel G c i) (sel G' c i) := fun b o e => by
  obtain ⟨h, e⟩ := sel_at e
  exact sel_of h (s _ _ e)
/-- rows whose parts have colours of their own -/
def OwP {A B : Type} (F : Hp → A → B → Prop) (G : Hp) (c : Addr → Nat) (xs : List A) (ds : List B) : Prop := xs.length = ds.length ∧ ∀ i x d, xs[i]? = some x → ds[i]? = some d → F (sel G c i) x d
theorem OwP.imp {A B : Type} {F F' : Hp → A → B → Prop} {G G' : Hp} {c c' : Addr → Nat} {xs : List A} {ds : List B} (h : OwP F G c xs ds) (s : ∀ i < xs.length, Same (sel G c i) (sel G' c' i)) (f : ∀ g g' x d, x ∈ xs → d ∈ ds → Same g g' → F g x d → F' g' x d) : OwP F' G' c' xs ds :=
  ⟨h.1, fun i x d hx hd => f _ _ x d (List.mem_of_getElem? hx) (List.mem_of_getElem? hd) (s i (List.getElem?_eq_some_iff.mp hx).1) (h.2 i x d hx hd)⟩
theorem pd_of {A B : Type} {F : A → B → Prop} : ∀ {xs : List A} {ds : List B}, xs.length = ds.length → (∀ (i : Nat) (x : A) (d : B), xs[i]? = some x → ds[i]? = some d → F x d) → Paired F xs ds
  | [], [], _, _ => .nil
  | [], _ :: _, h, _ => by simp at h
  | _ :: _, [], h, _ => by simp at h
  | x :: xs, d :: ds, h, f => .cons (f 0 x d rfl rfl) (pd_of (by simpa using h) fun i y e hy he => f (i + 1) y e (by simpa using hy) (by simpa using he))
/-- data in G, each list and dict in one place only -/
def Ow : Nat → Hp → V → PyData → Prop
  | 0, _, _, _ => False
  | _ + 1, _, v, .none => v = .non
  | _ + 1, _, v, .bool b => v = .bl b
  | _ + 1, _, v, .int i => v = .int i
  | _ + 1, _, v, .str x => v = .str x
  | n + 1, G, v, .list ds => ∃ a xs c, v = .ref a ∧ G a = some (.lst xs) ∧ xs.length ≤ 10000 ∧ xs.length ≤ c a ∧ OwP (Ow n) G c xs ds
  | n + 1, G, v, .dict es => ∃ a kvs c, v = .ref a ∧ G a = some (.dK kvs) ∧ kvs.length ≤ 10000 ∧ (kvs.map (·.1)).Nodup ∧ kvs.length ≤ c a ∧ OwP (fun g => KvR (Ow n g)) G c kvs es
  | _ + 1, _, _, .tuple _ => False
theorem Ow.imp : ∀ {n : Nat} {G G' : Hp} {v : V} {d : PyData}, Same G G' → Ow n G v d → Ow n G' v d
  | 0, _, _, _, _, _, h => h
  | n + 1, _, _, v, .none, _, h => h
  | n + 1, _, _, v, .bool _, _, h => h
  | n + 1, _, _, v, .int _, _, h => h
  | n + 1, _, _, v, .str _, _, h => h
  | n + 1, _, _, v, .tuple _, _, h => h
  | n + 1, _, _, v, .list ds, s, ⟨a, xs, c, h1, h2, hb, hc, h3⟩ => ⟨a, xs, c, h1, s _ _ h2, hb, hc, h3.imp (fun _ _ => sel_mono s) fun _ _ _ _ _ _ s' q => Ow.imp s' q⟩
  | n + 1, _, _, v, .dict es, s, ⟨a, xs, c, h1, h2, hb, hn, hc, h3⟩ => ⟨a, xs, c, h1, s _ _ h2, hb, hn, hc, h3.imp (fun _ _ => sel_mono s) fun _ _ _ _ _ _ s' q => ⟨q.1, Ow.imp s' q.2⟩⟩
theorem Ow.re : ∀ {n : Nat} {G : Hp} {v : V} {d : PyData}, Ow n G v d → Re G n v d
  | 0, _, _, _, h => h
  | n + 1, _, v, .none, h => h
  | n + 1, _, v, .bool _, h => h
  | n + 1, _, v, .int _, h => h
  | n + 1, _, v, .str _, h => h
  | n + 1, _, v, .tuple _, h => h.elim
  | n + 1, G, v, .list ds, ⟨a, xs, c, h1, h2, hb, hc, h3⟩ => ⟨a, xs, h1, h2, hb, pd_of h3.1 fun i x d hx hd => (h3.2 i x d hx hd).re.imp sel_sub⟩
  | n + 1, G, v, .dict es, ⟨a, xs, c, h1, h2, hb, hn, hc, h3⟩ => ⟨a, xs, h1, h2, hb, hn, pd_of h3.1 fun i x d hx hd => ⟨(h3.2 i x d hx hd).1, (h3.2 i x d hx hd).2.re.imp sel_sub⟩⟩
theorem Ow.up1 : ∀ {n : Nat} {G : Hp} {v : V} {d : PyData}, Ow n G v d → Ow (n + 1) G v d
  | 0, _, _, _, h => h.elim
  | n + 1, _, v, .none, h => h
  | n + 1, _, v, .bool _, h => h
  | n + 1, _, v, .int _, h => h
  | n + 1, _, v, .str _, h => h
  | n + 1, _, v, .tuple _, h => h.elim
  | n + 1, G, v, .list ds, ⟨a, xs, c, h1, h2, hb, hc, h3⟩ => ⟨a, xs, c, h1, h2, hb, hc, h3.1, fun i x d hx hd => (h3.2 i x d hx hd).up1⟩
  | n + 1, G, v, .dict es, ⟨a, xs, c, h1, h2, hb, hn, hc, h3⟩ => ⟨a, xs, c, h1, h2, hb, hn, hc, h3.1, fun i x d hx hd => ⟨(h3.2 i x d hx hd).1, (h3.2 i x d hx hd).2.up1⟩⟩
theorem Ow.up {n m : Nat} {G : Hp} {v : V} {d : PyData} (h : Ow n G v d) (hl : n ≤ m) : Ow m G v d := by
  induction hl with
  | refl => exact h
  | step _ ih => exact ih.up1
theorem Ow.leaf {G : Hp} {n : Nat} {v : V} {d : PyData} (hd : leafD d) (h : Rp G n v d) : Ow n G v d := by
  cases n with
  | zero => exact h.elim
  | succ n => cases d <;> first | exact h | exact hd.elim
theorem OwP.nil {A B : Type} {F : Hp → A → B → Prop} {G : Hp} {c : Addr → Nat} : OwP F G c ([] : List A) ([] : List B) := ⟨rfl, fun i x d h => by simp at h⟩
/-- one row more, made anew -/
theorem OwP.snoc {A B : Type} {F : Hp → A → B → Prop} (hF : ∀ g g' x d, Same g g' → F g x d → F g' x d) {S : List Addr} {Hx H1 H4 : Hp} {D : Addr} {o : HO} {c : Addr → Nat} {xs : List A} {ds : List B} {x : A} {d : B}
    (k1 : Keep S Hx H1) (k2 : Keep S H1 H4) (hx : ∀ a ∈ S, Hx a ≠ none) (h1 : ∀ a ∈ S, H1 a ≠ none) (hD : D ∈ S) (h : OwP F (news Hx H1) c xs ds) (hv : F (news H1 H4) x d) : ∃ c', OwP F (news Hx (upd H4 D o)) c' (xs ++ [x]) (ds ++ [d]) := by
  have g := grow (o := o) k1 k2 hx h1 hD
  refine ⟨fun b => match H1 b with | none => xs.length | some _ => c b, by simp [h.1], fun i y e hy he => ?_⟩
  by_cases hi : i < xs.length
  · rw [List.getElem?_append_left hi] at hy
    rw [List.getElem?_append_left (by rw [← h.1]; exact hi)] at he
    refine hF _ _ y e (fun b u q => ?_) (h.2 i y e hy he)
    obtain ⟨hc, q⟩ := sel_at q
    have e1 := news_sub _ _ _ _ q
    exact sel_of (by simp only [e1]; exact hc) (g.1 _ _ q)
  · have hl : i = xs.length := by
      have := (List.getElem?_eq_some_iff.mp hy).1
      simp at this
      omega
    subst hl
    rw [List.getElem?_append_right (Nat.le_refl _), Nat.sub_self] at hy
    rw [h.1, List.getElem?_append_right (Nat.le_refl _), Nat.sub_self] at he
    cases hy
    cases he
    refine hF _ _ x d (fun b u q => ?_) hv
    have e1 : H1 b = none := by
      cases e : H1 b with
      | none => rfl
      | some z => rw [news_no e] at q; cases q
    exact sel_of (by simp only [e1]) (g.2 _ _ q)
theorem OwP.more {A B : Type} {F : Hp → A → B → Prop} (hF : ∀ g g' x d, Same g g' → F g x d → F g' x d) {Hx H H' : Hp} {D : Addr} {c : Addr → Nat} {xs : List A} {ds : List B} (hDx : Hx D ≠ none) (hn : Same (news Hx H') (news H H')) (h : OwP F (news Hx H') c xs ds) :
    ∃ c', xs.length ≤ c' D ∧ OwP F (news H H') c' xs ds := by
  refine ⟨fun b => if b = D then xs.length else c b, by simp, h.1, fun i x d hx hd => hF _ _ x d (fun b u q => ?_) (h.2 i x d hx hd)⟩
  obtain ⟨hc, q⟩ := sel_at q
  have hb : b ≠ D := fun z => by
    rw [z] at q
    cases e : Hx D with
    | none => exact hDx e
    | some w => rw [news_no e] at q; cases q
  exact sel_of (by rw [if_neg hb]; exact hc) (hn _ _ q)
theorem Ow.mkL {n : Nat} {Hx H H' : Hp} {D : Addr} {c : Addr → Nat} {vs : List V} {ds : List PyData} (hDH : H D = none) (hDx : Hx D ≠ none) (hn : Same (news Hx H') (news H H')) (e : H' D = some (.lst vs)) (hl : vs.length ≤ 10000) (h : OwP (Ow n) (news Hx H') c vs ds) :
    Ow (n + 1) (news H H') (.ref D) (.list ds) := by
  obtain ⟨c', h1, h2⟩ := OwP.more (F := Ow n) (fun _ _ _ _ s q => Ow.imp s q) hDx hn h
  exact ⟨D, vs, c', rfl, by rw [news_at hDH]; exact e, hl, h1, h2⟩
theorem Ow.mkD {n : Nat} {Hx H H' : Hp} {D : Addr} {c : Addr → Nat} {kvs : List (Key × V)} {es : List (PyData × PyData)} (hDH : H D = none) (hDx : Hx D ≠ none) (hn : Same (news Hx H') (news H H')) (e : H' D = some (.dK kvs)) (hl : kvs.length ≤ 10000) (hk : (kvs.map (·.1)).Nodup) (h : OwP (fun g => KvR (Ow n g)) (news Hx H') c kvs es) :
    Ow (n + 1) (news H H') (.ref D) (.dict es) := by
  obtain ⟨c', h1, h2⟩ := OwP.more (F := fun g => KvR (Ow n g)) (fun _ _ _ _ s q => ⟨q.1, Ow.imp s q.2⟩) hDx hn h
  exact ⟨D, kvs, c', rfl, by rw [news_at hDH]; exact e, hl, hk, h1, h2⟩
theorem news_upd {Hx H' : Hp} {p : Addr} {o : HO} (h : Hx p ≠ none) : news Hx (upd H' p o) = news Hx H' := by
  funext b
  by_cases hb : b = p
  · subst hb
    cases e : Hx b with
    | none => exact absurd e h
    | some z => rw [news_no e, news_no e]
  · cases e : Hx b with
    | none => rw [news_at e, news_at e, upd_ne hb]
    | some z => rw [news_no e, news_no e]
/-- a part of an unlocked datum stands beside its whole -/
theorem Re.part {H : Hp} {a : Addr} {m n : Nat} {v : V} {d D : PyData} (hD : Re H m (.ref a) D) (hs : sizeOf d < sizeOf D) (h : Re H n v d) : Re (SC.del H a) n v d := Re.of (del_sub H a) h (Rp.del hD.rp hs h.rp)
/-- either of two readings -/
theorem pe_either {X : Cx} {e : Expr} {t u : TE} (h : PE X e t) (g : PE X e u) : PE X e (fun σ H Q => t σ H Q ∨ u σ H Q) :=
  ⟨fun pins s σ H Q I z => z.elim (h.run pins s σ H Q I) (g.run pins s σ H Q I)⟩
/-- isinstance(xs, T), xs a list -/
theorem isiL {K : PySem.W.Frag} {H : Hp} {a : Addr} {xs : List V} (T : Ty) {Q : VK} (h : H a = some (.lst xs)) (q : Q (.bl (isT T (.list []))) H) : rIsi K [.ref a, .ty T.nm] H Q :=
  ⟨.ref a, .ty T.nm, _, _, isT T (.list []), rfl, .ty T.nm, .base (.lst h), kit_ty (kit_isT T (.list [])), q⟩
theorem sameN_refl : ∀ {n : Nat} {d : PyData}, docD n d → ndD n d → sameN n d d = true
  | 0, _, h, _ => h.elim
  | n + 1, .list ds, h, g => by
    simp only [sameN, List.zipWith_self, Bool.and_eq_true, decide_true, List.all_eq_true, List.mem_map, true_and]
    rintro _ ⟨d, hd, rfl⟩
    exact sameN_refl (h.2 d hd) (g d hd)
  | n + 1, .dict es, h, g => by
    simp only [sameN, Bool.and_eq_true, decide_true, List.all_eq_true, List.mem_map, true_and]
    rintro _ ⟨e, he, rfl⟩
    rw [dget_nd g.1 he]
    exact sameN_refl (h.2 e he).2 (g.2 e he)
  | n + 1, .none, h, _ => sameL_refl h
  | n + 1, .bool _, h, _ => sameL_refl h
  | n + 1, .int i, h, _ => sameL_refl h
  | n + 1, .str x, h, _ => sameL_refl h
  | n + 1, .tuple _, h, _ => h.elim
theorem news_inv {H H' : Hp} {b : Addr} {o : HO} (e : news H H' b = some o) : H b = none ∧ H' b = some o := by
  cases h : H b with
  | none => exact ⟨rfl, news_sub _ _ _ _ e⟩
  | some z => rw [news_no h] at e; cases e
theorem same_none {H H' : Hp} {b : Addr} (s : Same H H') (h : H' b = none) : H b = none := by
  cases e : H b with
  | none => rfl
  | some z => rw [s _ _ e] at h; cases h
/-- one step of a path -/
def stepN : PyData → Key → Option PyData
  | .list ds, .inl i => if 0 ≤ i then ds[i.toNat]? else none
  | .dict es, .inr x => dget es x
  | _, _ => none
def walkD : PyData → List Key → Option PyData
  | d, [] => some d
  | d, k :: r => (stepN d k).bind fun e => walkD e r
theorem walk_app : ∀ (p r : List Key) (d : PyData), walkD d (p ++ r) = (walkD d p).bind fun e => walkD e r
  | [], r, d => rfl
  | k :: p, r, d => by
    simp only [List.cons_append, walkD]
    cases stepN d k with
    | none => rfl
    | some e => exact walk_app p r e
section
variable {J : It} {n : Nat} {G : Hp → Prop} {Y : Nat → Hp → V → Hp → Prop}
/-- {k: v for ..} -/
theorem dc_itR (w : Walk J n G Y) {g : TG} {tt : TT} {tk tv : TE} {vs : List Nat} {σ : L2.St} {H1 : Hp} {Q : VK} (Pv : Addr → Nat → Hp → Prop) (h0 : ∀ D, H1 D = none → Pv D 0 (upd H1 D (.dK []))) (hG : ∀ D i H, H1 D = none → i ≤ n → Pv D i H → G H)
    (hs : ∀ D i x H H', H1 D = none → i < n → Pv D i H → Y i H x H' → g x (wipe σ vs) H' fun σ2 H2 => wipe σ2 vs = wipe σ vs ∧ tt σ2 H2 fun b H3 =>
      if b = true then tk σ2 H3 fun y H4 => tv σ2 H4 fun z H5 => ∃ kvs k, y = kV k ∧ H5 D = some (.dK kvs) ∧ kvs.length < sizeLine ∧ Pv D (i + 1) (upd H5 D (.dK (putK kvs k z))) else Pv D (i + 1) H3)
    (hd : ∀ D H, H1 D = none → Pv D n H → Q (.ref D) H) : DcR J g tt tk tv vs σ H1 Q := fun D hD => by
  refine ⟨fun i m H => m = n - i ∧ i ≤ n ∧ Pv D i H, ⟨n, by simp, Nat.zero_le _, h0 D hD⟩, ?_⟩
  rintro i m H ⟨rfl, hi, p⟩
  have q := hG D i H hD hi p
  by_cases hlt : i < n
  · refine .inr ⟨w.goes i H hlt q, Pv D (i + 1), fun H' p' => ⟨n - (i + 1), by omega, rfl, hlt, p'⟩, fun x H' y => hs D i x H H' hD hlt p (w.yields i H x H' hlt q y)⟩
  · have e : i = n := by omega
    subst e
    exact .inl ⟨w.stops H q, hd D H hD p⟩
end
end SC

set_option Elab.async false
set_option linter.all false
set_option maxRecDepth 100000
set_option maxHeartbeats 4000000
namespace SC
open PySem L2
local macro_rules | `(tactic| walk_at "rd") => `(tactic| simp only [tLock_asg, tListEn, tTwo5, iZip, tM1, tM0, tFmt, tJs, tRevL, tPar3, tSeq, tNext, tIfS, tB, tTest, tCB, tCons, tC, tNil, tVar, tRet, tRetN, tAsg, gName, tOp, tUn, tAnd, tOr, tNot, tAndV, tOrV, tNotV, tIf, tDrop, tCall, tCallK, rI, rI0, rU, rEq, rNe, tPar, tAug, ipI, tLst, tTup, tDNewK, tDGet, tDIn, tDNotIn, sDPut, tBM, tBM0, gSub, rSetL, tChain, gTup, gCons, gNil, tYes, tBreak, tCont, tDisp, tPairs, rLenK, rLenA, rListK, L2.start, L2.wipe, cx_K, tFor_eq, tLc_eq, tDc_eq, tSl, tPart, tNoPart, iList, iTup, iRng1, iRng2, iKeys, iStr, iEnum, iEnumK, List.map_cons, List.map_nil, List.length_cons, List.length_nil, Nat.reduceAdd, Nat.reduceSub, List.reduceReplicate, List.replicate_zero, List.append_nil, List.nil_append, List.cons_append, List.getElem?_cons_zero, List.getElem?_cons_succ, Option.some.injEq, exists_eq_left', exists_eq_left, exists_eq', exists_eq, exists_and_left, V.int.injEq, V.ref.injEq, V.str.injEq, V.bl.injEq, List.cons.injEq, and_true, true_and, and_assoc, Bool.false_eq_true, ↓reduceIte, List.set_cons_zero, List.set_cons_succ, decide_eq_true_eq, Bool.not_eq_true', decide_eq_false_iff_not, Nat.zero_add, Nat.zero_sub, Nat.sub_self, Nat.sub_zero])

def top (i : Nat) : Stmt := PySem.Challenge.pw_schemacheck_k18_whole_notations_of_a_yea.main.body.getD i (.Pass ⟨0, 0, 0, 0⟩)
/-! ### _law_begun, _law_draw, _law_pick -/
abbrev mkv (a b c d : V) : List (Key × V) := [(Sum.inr "great", a), (Sum.inr "seed", b), (Sum.inr "spot", c), (Sum.inr "room", d)]
theorem kn1 : ¬ Str.ofString "great" = Str.ofString "spot" := by decide +kernel
theorem kn2 : ¬ Str.ofString "seed" = Str.ofString "spot" := by decide +kernel
theorem kn3 : ¬ Str.ofString "great" = Str.ofString "seed" := by decide +kernel
theorem kn4 : ¬ Str.ofString "room" = Str.ofString "spot" := by decide +kernel
theorem kn5 : ¬ Str.ofString "great" = Str.ofString "room" := by decide +kernel
theorem kn6 : ¬ Str.ofString "seed" = Str.ofString "room" := by decide +kernel
theorem kn7 : ¬ Str.ofString "spot" = Str.ofString "room" := by decide +kernel
theorem mk_merge (a b c d : V) : mergeK [] [((Sum.inr "great" : Key), a), (Sum.inr "seed", b), (Sum.inr "spot", c), (Sum.inr "room", d)] = mkv a b c d := by
  simp [mergeK, putK, kn1, kn2, kn3, kn5, kn6, kn7, mkv]
theorem mv_great (a b c d : V) : valV (mkv a b c d) (Sum.inr "great") = some a := by simp [valV]
theorem mv_seed (a b c d : V) : valV (mkv a b c d) (Sum.inr "seed") = some b := by simp [valV, kn3]
theorem mv_spot (a b c d : V) : valV (mkv a b c d) (Sum.inr "spot") = some c := by simp [valV, kn1, kn2]
theorem mp_spot (a b c d e : V) : putK (mkv a b c d) (Sum.inr "spot") e = mkv a b e d := by
  unfold putK
  simp [kn1, kn2, kn4, mkv]
theorem layAll_ints : ∀ xs : List Int, PyData.canLayAll0 (xs.map .int) = true
  | [] => rfl
  | x :: r => by
    rw [List.map_cons, PyData.canLayAll0, layAll_ints r]
    rfl
theorem depth_ints : ∀ xs : List Int, PyData.depthAll (xs.map .int) = 0
  | [] => rfl
  | x :: r => by
    rw [List.map_cons, PyData.depthAll, depth_ints r]
    rfl
theorem shaped_ints (xs : List Int) : SeqAt.shaped (.list (xs.map .int)) = true := by
  show (PyData.canLayAll0 (xs.map .int) && decide (PyData.depthAll (xs.map .int) + 1 ≤ 64)) = true
  rw [layAll_ints, depth_ints]
  rfl
theorem Dp_ints {K : PySem.W.Frag} {H : Hp} {a : Addr} {xs : List Int} (h : H a = some (.lst (xs.map V.int))) : Dp K H (.ref a) (.list (xs.map .int)) := by
  refine .lst (SqL.of h) ?_
  have : ∀ l : List Int, DpAll K H (l.map V.int) (l.map PyData.int) := by
    intro l
    induction l with
    | nil => exact .nil
    | cons x r ih => exact .cons (.int x) ih
  exact this xs
theorem eqv_nilI (xs : List Int) : PyData.eqv (.list (xs.map .int)) (.list []) = decide (xs = []) := by
  cases xs with
  | nil => rfl
  | cons x r => rfl
def MSt (H : Hp) (m g : Addr) (b : Int) : Prop := m ≠ g ∧ ∃ (gs : List Int) (sd k rm : Int), H m = some (.dK (mkv (.ref g) (.int sd) (.int k) (.int rm))) ∧ H g = some (.lst (gs.map V.int)) ∧ gs.length ≤ 63 ∧ (∀ x ∈ gs, 0 ≤ x) ∧ 0 ≤ sd ∧ 0 ≤ k ∧ k ≤ b
theorem MSt.up {H : Hp} {m g : Addr} {b c : Int} (h : MSt H m g b) (l : b ≤ c) : MSt H m g c := by
  obtain ⟨h0, gs, sd, k, rm, h1, h2, h3, h4, h5, h6, h7⟩ := h
  exact ⟨h0, gs, sd, k, rm, h1, h2, h3, h4, h5, h6, by omega⟩
theorem MSt.same {H H' : Hp} {m g : Addr} {b : Int} (h : MSt H m g b) (s : Same H H') : MSt H' m g b := by
  obtain ⟨h0, gs, sd, k, rm, h1, h2, h3⟩ := h
  exact ⟨h0, gs, sd, k, rm, s _ _ h1, s _ _ h2, h3⟩
theorem MSt.here {H : Hp} {m g : Addr} {b : Int} (h : MSt H m g b) : ∀ a ∈ [m, g], H a ≠ none := by
  obtain ⟨h0, gs, sd, k, rm, h1, h2, h3⟩ := h
  simp [h1, h2]
theorem MSt.ne {H : Hp} {m g p : Addr} {b : Int} (h : MSt H m g b) (n : H p = none) : p ∉ [m, g] := fun e => h.here p e n
def sp_begun (K : PySem.W.Frag) : Sp := fun vs H Q _ => ∃ a ns, vs = [.ref a] ∧ Scr K H a ns ∧ ns.length ≤ 63 ∧ ∀ m g H', Same H H' → H m = none → H g = none → MSt H' m g 0 → Q (.ref m) H'
def sp_draw : Sp := fun vs H Q _ => ∃ m g b lim, vs = [.ref m, .int lim] ∧ MSt H m g b ∧ b < 2 ^ 60 ∧ 0 < lim ∧ lim < 1073741824 ∧ ∀ n H', 0 ≤ n → n < lim → Keep [m, g] H H' → MSt H' m g (b + 1) → Q (.int n) H'
def sp_pick : Sp := fun vs H Q _ => ∃ m g b s xs, vs = [.ref m, .ref s] ∧ MSt H m g b ∧ b < 2 ^ 60 ∧ H s = some (.lst xs) ∧ s ∉ [m, g] ∧ 0 < xs.length ∧ xs.length ≤ 1000 ∧ ∀ v H', v ∈ xs → Keep [m, g] H H' → MSt H' m g (b + 1) → Q v H'
abbrev s_law_begun : Stmt := top 8
theorem sc_law_begun : FnScope ["_law_script", "_law_seed", "_law_cell"] ["_law_script"] (defScope s_law_begun) := ⟨rfl, rfl, rfl, by decide +kernel, rfl, by decide +kernel, by decide +kernel⟩
abbrev s_law_draw : Stmt := top 9
theorem sc_law_draw : FnScope ["_law_m", "_law_limit", "_law_spot", "_law_at", "_law_cell", "_law_number"] ["_law_m", "_law_limit"] (defScope s_law_draw) := ⟨rfl, rfl, rfl, by decide +kernel, rfl, by decide +kernel, by decide +kernel⟩
abbrev s_law_pick : Stmt := top 10
theorem sc_law_pick : FnScope ["_law_m", "_law_some"] ["_law_m", "_law_some"] (defScope s_law_pick) := ⟨rfl, rfl, rfl, by decide +kernel, rfl, by decide +kernel, by decide +kernel⟩
theorem draw_end (x lim : Int) (h : 0 < lim) : 0 ≤ x % lim ∧ x % lim < lim := ⟨Int.emod_nonneg _ (by omega), Int.emod_lt_of_pos _ h⟩
theorem ixN_nat {n j : Nat} (h : j < n) : ixN n (j : Int) = some j := by
  unfold ixN
  simp
  omega
section
variable {P : Program} {w : World} {K : PySem.W.Frag} {mg : Str → Option Value} {base : Heap} {f : Addr} {fd : FuncData}
theorem ok_begun (D : Def K mg "_law_begun" s_law_begun f fd) (B : Blt mg) : FnOk P w K mg base CX0 1 f fd ["_law_script"] (sp_begun K) := by
  refine D.1.ok sc_law_begun (fun vs H Q E h => ?_) (fun cdv A outer s H vs Q E hr h => ?_)
  · obtain ⟨a, ns, rfl, _⟩ := h
    rfl
  obtain ⟨a, ns, rfl, hs, h63, q⟩ := h
  have hu := hu_of hr
  refine ⟨_, (pss_cons (ps_set (i := 1) sc_law_begun.nd rfl (by first | exact Or.inl rfl | exact Or.inr rfl) pe_int)
  (pss_cons (ps_for PassesOwn.never rfl (pi_list (pv 0)) (pg_name (i := 2) sc_law_begun.nd rfl (by first | exact Or.inl rfl | exact Or.inr rfl))
   (pss_one (ps_set (i := 1) sc_law_begun.nd rfl (by first | exact Or.inl rfl | exact Or.inr rfl) (pe_op op_mod (pe_op op_add (pe_op op_mul (pv 1) pe_int) (pv 2)) pe_int))))
  (pss_one (ps_ret (pe_disp (pps_cons pe_str (pe_lc (own := [("_law_cell", 2)]) (by rfl) sc_law_begun.nd (pi_list (pv 0)) (blkOk_by (own := [("_law_cell", 2)]) (N := ["_law_script", "_law_seed", "_law_cell"]) (sc := defScope s_law_begun) (by decide +kernel)) (fun _ _ _ _ _ => (pg_name (i := 2) sc_law_begun.nd rfl (by first | exact Or.inl rfl | exact Or.inr rfl))) (fun _ _ _ _ _ => pts_nil) (fun _ _ _ _ _ => (pe_ifExp (pt_cmpR op_ge (pv 2) (pe_op op_pow pe_int pe_int) (nomark _)) (pv 2) pe_int))) (pps_cons pe_str (pv 1) (pps_cons pe_str pe_int (pps_cons pe_str pe_int pps_nil)))) (by rfl) (by rfl) (fun z => by cases z) (by decide)))))), ?_⟩
  walk_at "rd"
  refine ⟨⟨_, hs.sq⟩, ?_⟩
  refine fo_it (walk_list (xs := ns.map V.int)) (fun _ σ' H' => H' = H ∧ ∃ (sd : Int) (z : Option V), 0 ≤ sd ∧ sd < 2147483647 ∧ σ' = [some (V.ref a), some (V.int sd), z]) ⟨rfl, 17, none, by decide, by decide, rfl⟩ (fun _ _ _ _ h => by rw [h.1]; exact hs.sq) ?_ ?_
  · rintro i x σ' H1 H2 hi ⟨rfl, sd, z, h0, h1, rfl⟩ ⟨rfl, hx⟩
    rw [List.getElem?_map, Option.map_eq_some_iff] at hx
    obtain ⟨x, hx, rfl⟩ := hx
    walk_at "rd"
    have m1 := mod_in (sd * 69621 + x) (m := 2147483647) (by decide)
    exact ⟨.inr (by decide), by decide, _, m1.1, m1.2, rfl⟩
  · rintro σ' H1 ⟨rfl, sd, z, h0, h1, rfl⟩
    walk_at "rd"
    intro p np
    have s0 := same_new np (.dK [])
    have hs1 := hs.same s0
    refine ⟨⟨_, hs1.sq⟩, ?_⟩
    refine lcP_list hs1.sq ((ns.map fun x => if 10 ^ 18 ≤ x then x else 0).map V.int) (by simp) (by simp; omega) ?_ ?_
    · intro i x y H' N hx hy s' N'
      rw [List.getElem?_map, Option.map_eq_some_iff] at hx
      obtain ⟨x, hx, rfl⟩ := hx
      simp only [List.getElem?_map, hx, Option.map_some, Option.some.injEq] at hy
      subst hy
      walk_at "rd"
      refine ⟨⟨by decide, by decide, by decide⟩, ?_⟩
      have e18 : (10 : Int) ^ Int.toNat 18 = 10 ^ 18 := by decide
      rw [e18]
      have hN := N' _ (Same.refl _)
      split
      · rename_i h; rw [if_pos h] at hN; exact hN
      · rename_i h; rw [if_neg h] at hN; exact hN
    · intro D' H' nD s' e
      have hDp : D' ≠ p := fun z => by rw [z, upd_same] at nD; cases nD
      have nD1 : H1 D' = none := by rw [upd_ne hDp] at nD; exact nD
      refine ⟨s' _ _ upd_same, [(Sum.inr "great", .ref D'), (Sum.inr "seed", .int sd), (Sum.inr "spot", .int 0), (Sum.inr "room", .int 0)], rfl, by simp, ?_⟩
      rw [mk_merge]
      refine q p D' _ (same_mut (s0.trans s') np) np nD1 ⟨hDp.symm, _, sd, 0, 0, upd_same, by rw [upd_ne hDp]; exact e, by simp; omega, fun x hx => ?_, h0, by omega, by omega⟩
      obtain ⟨y, hy, rfl⟩ := List.mem_map.mp hx
      split <;> omega
theorem ok_draw (D : Def K mg "_law_draw" s_law_draw f fd) (B : Blt mg) : FnOk P w K mg base CX0 1 f fd ["_law_m", "_law_limit"] sp_draw := by
  refine D.1.ok sc_law_draw (fun vs H Q E h => ?_) (fun cdv A outer s H vs Q E hr h => ?_)
  · obtain ⟨m, g, b, lim, rfl, _⟩ := h
    rfl
  obtain ⟨m, g, b, lim, rfl, ⟨hne, gs, sd, k, rm, hm, hg, hl, hpos, hsd, hk, hkb⟩, hb, h0, h1, q⟩ := h
  have hu := hu_of hr
  refine ⟨_, (pss_cons (ps_set (i := 2) sc_law_draw.nd rfl (by first | exact Or.inl rfl | exact Or.inr rfl) (pe_dget hu (pv 0) pe_str (fun _ _ => rfl)))
  (pss_cons (ps_dput hu (pv 0) pe_str (pe_op op_add (pv 2) pe_int) rfl)
  (pss_cons (ps_if (pt_cmpR (neDK (K := K) rfl hr.units) (pe_dget hu (pv 0) pe_str (fun _ _ => rfl)) (pe_lst pa_nil) (nomark _))
   (pss_cons (ps_set (i := 3) sc_law_draw.nd rfl (by first | exact Or.inl rfl | exact Or.inr rfl) (pe_op op_mod (pv 2) (pe_callB (lenK (K := K) rfl) (by rfl) B.b_len (by decide +kernel) (pa_cons (pe_dget hu (pv 0) pe_str (fun _ _ => rfl)) pa_nil))))
  (pss_cons (ps_set (i := 4) sc_law_draw.nd rfl (by first | exact Or.inl rfl | exact Or.inr rfl) (pe_ix (ixLK (K := K) rfl) (pe_dget hu (pv 0) pe_str (fun _ _ => rfl)) (pv 3) (fun _ _ => rfl)))
  (pss_one (ps_if (pt_cmpR op_gt (pv 4) pe_int (nomark _))
   (pss_cons (ps_asg (pe_op op_fdiv (pv 4) (pv 1)) (pg_sub (pe_dget hu (pv 0) pe_str (fun _ _ => rfl)) (pv 3) set_list))
  (pss_one (ps_ret (pe_op op_mod (pv 4) (pv 1)))))
   pss_nil))))
   pss_nil)
  (pss_cons (ps_set (i := 5) sc_law_draw.nd rfl (by first | exact Or.inl rfl | exact Or.inr rfl) (pe_op op_mod (pe_op op_add (pe_op op_add (pe_op op_add (pe_dget hu (pv 0) pe_str (fun _ _ => rfl)) (pe_op op_mul (pe_op op_mul pe_int (pv 2)) (pv 2))) (pe_op op_mul pe_int (pv 2))) pe_int) pe_int))
  (pss_one (ps_ret (pe_op op_mod (pe_op op_fdiv (pe_op op_mod (pe_op op_pow (pe_op op_mod (pe_op op_mul (pv 5) pe_int) pe_int) pe_int) pe_int) pe_int) (pv 1)))))))), ?_⟩
  refine cutM (fun σ' H' => H' = H ∧ σ' = [some (V.ref m), some (V.int lim), some (V.int k), none, none, none]) (fun N hN => ?_) ?_
  · walk_at "rd"
    exact ⟨_, .inl ⟨_, Sum.inr "spot", .inl hm, rfl, (mv_spot _ _ _ _).symm⟩, hN _ _ ⟨rfl, rfl⟩⟩
  rintro σ' H9 ⟨e9, rfl⟩
  rw [e9]
  clear e9 H9
  obtain ⟨H1, eH1⟩ : ∃ H1, H1 = upd H m (.dK (mkv (.ref g) (.int sd) (.int (k + 1)) (.int rm))) := ⟨_, rfl⟩
  have hm1 : H1 m = some (.dK (mkv (.ref g) (.int sd) (.int (k + 1)) (.int rm))) := by rw [eH1, upd_same]
  have hg1 : H1 g = some (.lst (gs.map V.int)) := by rw [eH1, upd_ne hne.symm]; exact hg
  have K1 : Keep [m, g] H H1 := by rw [eH1]; exact (Keep.refl _ _).mut (by simp)
  refine cutM (fun σ' H' => H' = H1 ∧ σ' = [some (V.ref m), some (V.int lim), some (V.int k), none, none, none]) (fun N hN => ?_) ?_
  · walk_at "rd"
    refine ⟨_, DPut.k (k := Sum.inr "spot") hm (sz5l (by simp)), hN _ _ ⟨?_, rfl⟩⟩
    rw [mp_spot, eH1]
  rintro σ' H9 ⟨e9, rfl⟩
  rw [e9]
  clear e9 H9
  have hG : ∀ {H' : Hp}, Same H1 H' → DGet H' m (V.str (Str.ofString "great")) (some (.ref g)) := fun s => .inl ⟨_, Sum.inr "great", .inl (s _ _ hm1), rfl, (mv_great _ _ _ _).symm⟩
  have hS : ∀ {H' : Hp}, Same H1 H' → DGet H' m (V.str (Str.ofString "seed")) (some (.int sd)) := fun s => .inl ⟨_, Sum.inr "seed", .inl (s _ _ hm1), rfl, (mv_seed _ _ _ _).symm⟩
  have fin : ∀ (H' : Hp) (x : Int), Keep [m, g] H H' → MSt H' m g (b + 1) → Q (.int (x % lim)) H' := fun H' x kk mm => q _ H' (draw_end x lim h0).1 (draw_end x lim h0).2 kk mm
  have mst : ∀ {H' : Hp}, Same H1 H' → MSt H' m g (b + 1) := fun s => ⟨hne, gs, sd, k + 1, rm, s _ _ hm1, s _ _ hg1, hl, hpos, hsd, by omega, by omega⟩
  have pw : ∀ x : Int, CPow (x % 2147483647) 3 := fun x => by
    have := mod_in x (m := 2147483647) (by decide)
    exact ⟨by decide, by decide, by omega⟩
  walk_at "rd"
  refine ⟨_, hG (Same.refl _), Nat.zero_le _, fun p np => ?_⟩
  have s1 := same_new np (.lst [])
  refine ⟨_, _, Dp_ints (s1 _ _ hg1), Dp_ints (xs := []) upd_same, shaped_ints _, rfl, ?_⟩
  rw [show (PyData.list (List.map PyData.int [])) = .list [] from rfl, eqv_nilI]
  have K2 : Keep [m, g] H (upd H1 p (.lst [])) := K1.trans (.of s1)
  have rest : ∀ H', Keep [m, g] H H' → Same H1 H' → (∃ x_8, DGet H' m (V.str (Str.ofString "seed")) (some x_8) ∧ CMul 104729 k ∧ CMul (104729 * k) k ∧ ∃ i, x_8 = V.int i ∧ CMul 7919 k ∧ 0 < (2147483647 : Int) ∧ CMul ((i + 104729 * k * k + 7919 * k + 31) % 2147483647) 48271 ∧ 0 < (2147483647 : Int) ∧ CPow ((i + 104729 * k * k + 7919 * k + 31) % 2147483647 * 48271 % 2147483647) 3 ∧ 0 < (2147483629 : Int) ∧ CDiv (((i + 104729 * k * k + 7919 * k + 31) % 2147483647 * 48271 % 2147483647) ^ Int.toNat 3 % 2147483629) 7 ∧ 0 < lim ∧ Q (V.int (((i + 104729 * k * k + 7919 * k + 31) % 2147483647 * 48271 % 2147483647) ^ Int.toNat 3 % 2147483629 / 7 % lim)) H') := fun H' kk ss =>
    ⟨_, hS ss, .inl (by decide), .inr (by omega), sd, rfl, .inl (by decide), by decide, .inr (by decide), by decide, pw _, by decide, ⟨by decide, by decide⟩, h0, fin H' _ kk (mst ss)⟩
  refine ⟨_, rfl, ite2 (fun hn => ?_) fun hn => rest _ K2 s1⟩
  have hnil : gs ≠ [] := by simpa using hn
  have hlp : 0 < gs.length := List.length_pos_iff.mpr hnil
  have hml : ((gs.map V.int).length : Int) = gs.length := by simp
  have mm := mod_in k (m := (gs.length : Int)) (by omega)
  obtain ⟨j, hj⟩ : ∃ j : Nat, k % (gs.length : Int) = (j : Int) := ⟨(k % (gs.length : Int)).toNat, by omega⟩
  have hjl : j < gs.length := by omega
  have hx : (gs.map V.int)[j]? = some (.int gs[j]) := by rw [List.getElem?_map, List.getElem?_eq_getElem hjl]; rfl
  refine ⟨_, hG s1, _, .inl ⟨_, SqL.of (s1 _ _ hg1), rfl⟩, by simp; omega, _, hG s1, g, _, _, .int gs[j], rfl, rfl, SqL.of (s1 _ _ hg1), by rw [hml, hj]; exact atI_nat hx, gs[j], rfl, ?_⟩
  refine ite2 (fun hp => ?_) fun hp => rest _ K2 s1
  refine ⟨_, rfl, ⟨h0, h1⟩, _, hG s1, g, rfl, _, s1 _ _ hg1, j, by rw [hml, hj]; exact ixN_nat (by simpa using hjl), _, rfl, h0, fin _ _ (K2.mut (by simp)) ?_⟩
  refine ⟨hne, gs.set j (gs[j] / lim), sd, k + 1, rm, by rw [upd_ne hne]; exact s1 _ _ hm1, by rw [upd_same, List.map_set], by simp; omega, fun x hx => ?_, hsd, by omega, by omega⟩
  rcases List.mem_or_eq_of_mem_set hx with hx | rfl
  · exact hpos x hx
  · exact Int.ediv_nonneg (by omega) (by omega)
theorem ok_pick (D : Def K mg "_law_pick" s_law_pick f fd) (B : Blt mg) (R_law_draw : Rdy P w K mg base 1 "_law_draw" ["_law_m", "_law_limit"] sp_draw) : FnOk P w K mg base CX0 2 f fd ["_law_m", "_law_some"] sp_pick := by
  refine D.1.ok sc_law_pick (fun vs H Q E h => ?_) (fun cdv A outer s H vs Q E hr h => ?_)
  · obtain ⟨m, g, b, s, xs, rfl, _⟩ := h
    rfl
  obtain ⟨m, g, b, s', xs, rfl, hm, hb, hs, n1, hp, hl, q⟩ := h
  have hu := hu_of hr
  refine ⟨_, (pss_one (ps_ret (pe_ix (ixLK (K := K) rfl) (pv 1) (pe_c R_law_draw hr rfl (pa_cons (pv 0) (pa_cons (pe_callB (lenK (K := K) rfl) (by rfl) B.b_len (by decide +kernel) (pa_cons (pv 1) pa_nil)) pa_nil))) (fun _ _ => rfl)))), ?_⟩
  walk_at "rd"
  refine ⟨_, .inl ⟨_, SqL.of hs, rfl⟩, m, g, b, _, rfl, hm, hb, by omega, by omega, fun n H' n0 n1' k' m' => ?_⟩
  exact ix_any (k' _ _ hs n1) n0 n1' fun v hv => q v H' hv k' m'
end

/-! ### days_in, is_day, has_notation -/
def letters : Str := "abcdefghijklmnopqrstuvwxyzABCDEFGHIJKLMNOPQRSTUVWXYZ"
def digits : Str := "0123456789"
def longM : List V := [.int 1, .int 3, .int 5, .int 7, .int 8, .int 10, .int 12]
theorem pe_gref {X : Cx} {x : Str} {a : Addr} {pos : Pos} (hg : Gl X x) (hm : X.mg x = some (.ref a)) (hd : (x == ("__debug__" : Str)) = false := by decide) : PE X (.Name x pos) (tC (.ref a)) := pe_glob (v := .ref a) hg hm rfl hd
def isLeap (y : Int) : Bool := decide (y % 4 = 0) && (decide (y % 100 ≠ 0) || decide (y % 400 = 0))
def daysIn (y m : Int) : Int := if m = 2 then (if isLeap y then 29 else 28) else if m = 1 ∨ m = 3 ∨ m = 5 ∨ m = 7 ∨ m = 8 ∨ m = 10 ∨ m = 12 then 31 else 30
def dig (c : Nat) : Bool := decide (c ∈ digits.cps.toList)
def dv (l : List Nat) : Int := (NumText.digitsVal l : Nat)
def dayL (l : List Nat) : Bool := decide (0 < dv (l.take 4)) && (decide (1 ≤ dv ((l.drop 5).take 2)) && (decide (dv ((l.drop 5).take 2) ≤ 12) && (decide (1 ≤ dv (l.drop 8)) && decide (dv (l.drop 8) ≤ daysIn (dv (l.take 4)) (dv ((l.drop 5).take 2))))))
def isDay (x : Str) : Bool := decide (x.cps.toList.length = 10) && (decide (x.cps.toList[4]? = some 45) && (decide (x.cps.toList[7]? = some 45) && ((x.cps.toList.take 4 ++ (x.cps.toList.drop 5).take 2 ++ x.cps.toList.drop 8).all dig && dayL x.cps.toList)))
def nameC (c : Nat) : Bool := decide (c ∈ letters.cps.toList) || decide (c ∈ digits.cps.toList) || decide (c = 95)
def isDigs (x : Str) : Bool := match x.cps.toList with
  | [] => false
  | l => l.all dig
def isNm (x : Str) : Bool := match x.cps.toList with
  | [] => false
  | c :: r => decide (c ∈ letters.cps.toList) && (c :: r).all nameC
def sp_days : Sp := fun vs H Q _ => ∃ y m : Int, vs = [.int y, .int m] ∧ Q (.int (daysIn y m)) H
def sp_isday : Sp := fun vs H Q _ => ∃ x, vs = [.str x] ∧ x.length ≤ 1000 ∧ ∀ H', Same H H' → Q (.bl (isDay x)) H'
def sp_hasn : Sp := fun vs H Q _ => ∃ x n, vs = [.str x, .str n] ∧ x.length ≤ 1000 ∧ ((n = Str.ofString "day" ∧ ∀ H', Same H H' → Q (.bl (isDay x)) H') ∨ (n = Str.ofString "digits" ∧ ∀ H', Same H H' → Q (.bl (isDigs x)) H') ∨ (n = Str.ofString "name" ∧ ∀ H', Same H H' → Q (.bl (isNm x)) H'))
theorem inL (m : Int) : inV (.int m) longM = decide (m = 1 ∨ m = 3 ∨ m = 5 ∨ m = 7 ∨ m = 8 ∨ m = 10 ∨ m = 12) := by
  rw [Bool.eq_iff_iff, decide_eq_true_eq]
  simp [inV, longM, eqV]
  omega
theorem cut_cps (x : Str) (lo hi : Option Int) : (cutS x lo hi).cps.toList = (x.cps.toList.drop (HT.sIx x.cps.toList.length 0 lo)).take (HT.sIx x.cps.toList.length x.cps.toList.length hi - HT.sIx x.cps.toList.length 0 lo) := by
  rfl
theorem one_min (c : Nat) : (⟨#[c]⟩ : Str) = Str.ofString "-" ↔ c = 45 := by
  constructor
  · intro e
    have := congrArg (fun z : Str => z.cps.toList) e
    exact (List.cons.inj (this.trans (by decide +kernel : (Str.ofString "-").cps.toList = [45]))).1
  · intro e; subst e; decide +kernel
theorem dig_in {c : Nat} (h : dig c = true) : 48 ≤ c ∧ c ≤ 57 := by
  have h1 : ∀ c ∈ digits.cps.toList, 48 ≤ c ∧ c ≤ 57 := by decide +kernel
  exact h1 c (of_decide_eq_true h)
theorem int_digs {z : Str} (h : z.cps.toList.all dig = true) (hne : z.cps.toList ≠ []) (hl : z.cps.toList.length ≤ 600) : PySem.intText? z = some (dv z.cps.toList) := by
  exact intText_digits (fun c hc => dig_in (List.all_eq_true.mp h c hc)) hne (by show z.cps.size ≤ _; rw [← Array.length_toList]; omega)
abbrev s_days_in : Stmt := top 4
theorem sc_days_in : FnScope ["year", "month"] ["year", "month"] (defScope s_days_in) := ⟨rfl, rfl, rfl, by decide +kernel, rfl, by decide +kernel, by decide +kernel⟩
abbrev s_is_day : Stmt := top 5
theorem sc_is_day : FnScope ["text", "year", "month", "day", "sign"] ["text"] (defScope s_is_day) := ⟨rfl, rfl, rfl, by decide +kernel, rfl, by decide +kernel, by decide +kernel⟩
abbrev s_has_notation : Stmt := top 6
theorem sc_has_notation : FnScope ["text", "notation", "sign"] ["text", "notation"] (defScope s_has_notation) := ⟨rfl, rfl, rfl, by decide +kernel, rfl, by decide +kernel, by decide +kernel⟩
section
variable {P : Program} {w : World} {K : PySem.W.Frag} {mg : Str → Option Value} {base : Heap} {f : Addr} {fd : FuncData}
theorem ok_days (D : Def K mg "days_in" s_days_in f fd) (B : Blt mg) {tL : Addr} (g_LONG_MONTHS : mg "LONG_MONTHS" = some (.ref tL)) (hL : ∀ H : Hp, SqT K H tL longM) : FnOk P w K mg base CX0 1 f fd ["year", "month"] sp_days := by
  refine D.1.ok sc_days_in (fun vs H Q E h => ?_) (fun cdv A outer s H vs Q E hr h => ?_)
  · obtain ⟨y, m, rfl, _⟩ := h
    rfl
  obtain ⟨y, m, rfl, q⟩ := h
  refine ⟨_, (pss_cons (ps_if (pt_cmpR op_eq (pv 1) pe_int (nomark _))
   (pss_one (ps_ret (pe_ifExp (PW.pt (pw_and (pt_cmpR op_eq (pe_op op_mod (pv 0) pe_int) pe_int (nomark _)) (pw_and1 (PW.pt (pw_or (pt_cmpR op_ne (pe_op op_mod (pv 0) pe_int) pe_int (nomark _)) (pw_or1 (pt_cmpR op_eq (pe_op op_mod (pv 0) pe_int) pe_int (nomark _)))))))) pe_int pe_int)))
   pss_nil)
  (pss_one (ps_ret (pe_ifExp (pt_cmpR (inK (K := K) rfl) (pv 1) (pe_gref (by rfl) g_LONG_MONTHS) rfl) pe_int pe_int)))), ?_⟩
  walk_at "rd"
  refine ⟨rfl, ite2 (fun h2 => ⟨by decide, rfl, ?_⟩) fun h2 => ⟨tL, longM, rfl, .inr (hL H), rfl, rfl, _, rfl, ?_⟩⟩
  · simp only [daysIn, if_pos h2, isLeap] at q
    refine ite2 (fun h4 => ⟨by decide, rfl, ite2 (fun h1 => ?_) fun h1 => ⟨by decide, rfl, ite2 (fun h0 => ?_) fun h0 => ?_⟩⟩) fun h4 => ?_
    · simpa [h4, h1] using q
    · simpa [h4, h0] using q
    · simp only [Decidable.not_not] at h1
      simpa [h4, h1, h0] using q
    · simpa [h4] using q
  · simp only [daysIn, if_neg h2] at q
    simp only [Bool.false_eq_true, if_false, inL]
    refine ite2 (fun h => ?_) fun h => ?_
    · rw [if_pos (of_decide_eq_true h)] at q; exact q
    · rw [if_neg (fun z => h (decide_eq_true z))] at q; exact q
theorem ok_isday (D : Def K mg "is_day" s_is_day f fd) (B : Blt mg) {t2 : Tok} (g_DIGITS : mg "DIGITS" = some (.str digits t2)) (R_days_in : Rdy P w K mg base 1 "days_in" ["year", "month"] sp_days) : FnOk P w K mg base CX0 2 f fd ["text"] sp_isday := by
  refine D.1.ok sc_is_day (fun vs H Q E h => ?_) (fun cdv A outer s H vs Q E hr h => ?_)
  · obtain ⟨x, rfl, _⟩ := h
    rfl
  obtain ⟨x, rfl, hx, q⟩ := h
  refine ⟨_, (pss_cons (ps_if (PW.pt (pw_or (pt_cmpR op_ne (pe_callB (lenK (K := K) rfl) (by rfl) B.b_len (by decide +kernel) (pa_cons (pv 0) pa_nil)) pe_int (nomark _)) (pw_or (pt_cmpR op_ne (pe_ix ix_str (pv 0) pe_int (fun _ _ => rfl)) pe_str (nomark _)) (pw_or1 (pt_cmpR op_ne (pe_ix ix_str (pv 0) pe_int (fun _ _ => rfl)) pe_str (nomark _))))))
   (pss_one (ps_ret pe_bl))
   pss_nil)
  (pss_cons (ps_if (pt_not (pt_val (pe_callB (allK (K := K) rfl rfl) (by rfl) B.b_all (by decide +kernel) (pa_cons (pe_lc (own := [("sign", 4)]) (by rfl) sc_is_day.nd (pi_str (pe_op op_add_str (pe_op op_add_str (pe_slice sl_str (pv 0) po_none (po_some pe_int)) (pe_slice sl_str (pv 0) (po_some pe_int) (po_some pe_int))) (pe_slice sl_str (pv 0) (po_some pe_int) po_none))) (blkOk_by (own := [("sign", 4)]) (N := ["text", "year", "month", "day", "sign"]) (sc := defScope s_is_day) (by decide +kernel)) (fun _ _ _ _ _ => (pg_name (i := 4) sc_is_day.nd rfl (by first | exact Or.inl rfl | exact Or.inr rfl))) (fun _ _ _ _ _ => pts_nil) (fun _ _ _ _ _ => (pe_cmpR op_in_sign (pv 4) (pe_gstr (by rfl) g_DIGITS) rfl))) pa_nil))))
   (pss_one (ps_ret pe_bl))
   pss_nil)
  (pss_cons (ps_par3 (i := 1) (j := 2) (l := 3) (by rfl) sc_is_day.nd rfl rfl rfl (by decide) (by decide) (by decide) rfl rfl rfl (pa_cons (pe_callTy call_int_str (by rfl) B.b_int (by decide +kernel) (pa_cons (pe_slice sl_str (pv 0) po_none (po_some pe_int)) pa_nil)) (pa_cons (pe_callTy call_int_str (by rfl) B.b_int (by decide +kernel) (pa_cons (pe_slice sl_str (pv 0) (po_some pe_int) (po_some pe_int)) pa_nil)) (pa_cons (pe_callTy call_int_str (by rfl) B.b_int (by decide +kernel) (pa_cons (pe_slice sl_str (pv 0) (po_some pe_int) po_none) pa_nil)) pa_nil))) (by rfl))
  (pss_one (ps_ret (pe_and (pe_cmpR op_gt (pv 1) pe_int (nomark _)) (pe_and (pe_chain op_le op_le pe_int (pv 2) pe_int) (pe_one (pe_chain op_le op_le pe_int (pv 3) (pe_c R_days_in hr rfl (pa_cons (pv 1) (pa_cons (pv 2) pa_nil)))))))))))), ?_⟩
  walk_at "rd"
  have hl : x.cps.toList.length = x.length := rfl
  refine ⟨_, ⟨sz5 (by omega), rfl⟩, rfl, ite2 (fun h1 => ?_) fun h1 => ?_⟩
  · have := q _ (Same.refl _)
    rw [isDay, show decide (x.cps.toList.length = 10) = false from decide_eq_false (by omega)] at this
    exact this
  have h10 : x.cps.toList.length = 10 := by omega
  have h4 : x.cps.toList[4]? = some (x.cps.toList[4]'(by omega)) := List.getElem?_eq_getElem _
  have h7 : x.cps.toList[7]? = some (x.cps.toList[7]'(by omega)) := List.getElem?_eq_getElem _
  refine ⟨x, 4, _, rfl, rfl, sz5 (by omega), atI_nat (j := 4) h4, rfl, ite2 (fun h2 => ?_) fun h2 => ?_⟩
  · have := q _ (Same.refl _)
    rw [V.str.injEq, one_min] at h2
    rw [isDay, h4, show decide (some (x.cps.toList[4]'(by omega)) = some 45) = false from decide_eq_false (by simpa using h2)] at this
    simpa using this
  refine ⟨x, 7, _, rfl, rfl, sz5 (by omega), atI_nat (j := 7) h7, rfl, ite2 (fun h3 => ?_) fun h3 => ?_⟩
  · have := q _ (Same.refl _)
    rw [V.str.injEq, one_min] at h3
    rw [isDay, h7, show decide (some (x.cps.toList[7]'(by omega)) = some 45) = false from decide_eq_false (by simpa using h3)] at this
    simpa using this
  rw [V.str.injEq, one_min, Decidable.not_not] at h2 h3
  have e4 : x.cps.toList[4]? = some 45 := by rw [h4, h2]
  have e7 : x.cps.toList[7]? = some 45 := by rw [h7, h3]
  have hA : (x.cps.toList.take 4).length = 4 := by rw [List.length_take, h10]; rfl
  have hB : ((x.cps.toList.drop 5).take 2).length = 2 := by rw [List.length_take, List.length_drop, h10]; rfl
  have hC : (x.cps.toList.drop 8).length = 2 := by rw [List.length_drop, h10]
  have hne : ∀ {l : List Nat} {n : Nat}, l.length = n + 1 → l ≠ [] := fun {l n} h z => by rw [z] at h; cases h
  have ca : (cutS x none (some 4)).cps.toList = x.cps.toList.take 4 := by rw [cut_cps, h10]; rfl
  have cb : (cutS x (some 5) (some 7)).cps.toList = (x.cps.toList.drop 5).take 2 := by rw [cut_cps, h10]; rfl
  have cc : (cutS x (some 8) none).cps.toList = x.cps.toList.drop 8 := by
    rw [cut_cps, h10]
    show (x.cps.toList.drop 8).take 2 = _
    rw [List.take_of_length_le (by omega)]
  have la : (cutS x none (some 4)).length = 4 := by rw [show (cutS x none (some 4)).length = (cutS x none (some 4)).cps.toList.length from rfl, ca]; exact hA
  have lb : (cutS x (some 5) (some 7)).length = 2 := by rw [show (cutS x (some 5) (some 7)).length = (cutS x (some 5) (some 7)).cps.toList.length from rfl, cb]; exact hB
  have lc : (cutS x (some 8) none).length = 2 := by rw [show (cutS x (some 8) none).length = (cutS x (some 8) none).cps.toList.length from rfl, cc]; exact hC
  refine ⟨x, rfl, sz5 (by omega), x, rfl, sz5 (by omega), _, rfl, _, rfl, sz5 (by omega), x, rfl, sz5 (by omega), _, rfl, sz5 (by rw [len_app]; omega), ?_⟩
  have ecat : (cutS x none (some 4) ++ cutS x (some 5) (some 7) ++ cutS x (some 8) none).cps.toList = x.cps.toList.take 4 ++ (x.cps.toList.drop 5).take 2 ++ x.cps.toList.drop 8 := by rw [app_cps, app_cps, ca, cb, cc]
  have lcat : (cutS x none (some 4) ++ cutS x (some 5) (some 7) ++ cutS x (some 8) none).length = 8 := by rw [len_app, len_app]; omega
  refine lcP_str (((x.cps.toList.take 4 ++ (x.cps.toList.drop 5).take 2 ++ x.cps.toList.drop 8).map dig).map V.bl) (by rw [List.length_map, List.length_map, List.length_append, List.length_append, hA, hB, hC, lcat]) (by omega) ?_ ?_
  · intro i c y H' N hi hy s' N'
    rw [ecat] at hi
    simp only [List.getElem?_map, hi, Option.map_some, Option.some.injEq] at hy
    subst hy
    walk_at "rd"
    exact ⟨c, rfl, N' _ (Same.refl _)⟩
  · intro D' H' nD s' e
    refine ⟨D', _, rfl, SqL.of e, _, rfl, ite2 (fun hn => ?_) fun hn => ?_⟩
    · have := q _ s'
      rw [List.all_map] at hn
      have hn' : ((x.cps.toList.take 4 ++ (x.cps.toList.drop 5).take 2 ++ x.cps.toList.drop 8).all dig) = false := hn
      rw [isDay, hn'] at this
      simpa using this
    have hd : ((x.cps.toList.take 4 ++ (x.cps.toList.drop 5).take 2 ++ x.cps.toList.drop 8).all dig) = true := by
      rw [List.all_map] at hn
      simpa using hn
    have ed : isDay x = dayL x.cps.toList := by
      rw [isDay, hd, decide_eq_true h10, decide_eq_true e4, decide_eq_true e7]
      rfl
    rw [List.all_append, List.all_append, Bool.and_eq_true, Bool.and_eq_true] at hd
    have ia := int_digs (z := cutS x none (some 4)) (by rw [ca]; exact hd.1.1) (by rw [ca]; exact hne hA) (by rw [ca, hA]; decide)
    have ib := int_digs (z := cutS x (some 5) (some 7)) (by rw [cb]; exact hd.1.2) (by rw [cb]; exact hne hB) (by rw [cb, hB]; decide)
    have ic := int_digs (z := cutS x (some 8) none) (by rw [cc]; exact hd.2) (by rw [cc]; exact hne hC) (by rw [cc, hC]; decide)
    rw [ca] at ia
    rw [cb] at ib
    rw [cc] at ic
    have q' := q _ s'
    rw [ed, dayL] at q'
    refine ⟨x, rfl, sz5 (by omega), _, rfl, _, ia, by omega, x, rfl, sz5 (by omega), _, rfl, _, ib, by omega, x, rfl, sz5 (by omega), _, rfl, _, ic, by omega, ?_⟩
    refine ite2 (fun g1 => ite2 (fun g2 => ite2 (fun g3 => ite2 (fun g4 => ⟨_, _, rfl, _, rfl, ?_⟩) fun g4 => ?_) fun g3 => ?_) fun g2 => ?_) fun g1 => ?_
    · rw [decide_eq_true g1, decide_eq_true g2, decide_eq_true g3, decide_eq_true g4] at q'
      exact q'
    · rw [decide_eq_true g1, decide_eq_true g2, decide_eq_true g3, decide_eq_false g4] at q'
      exact q'
    · rw [decide_eq_true g1, decide_eq_true g2, decide_eq_false g3] at q'
      exact q'
    · rw [decide_eq_true g1, decide_eq_false g2] at q'
      exact q'
    · rw [decide_eq_false g1] at q'
      exact q'
theorem ok_hasn (D : Def K mg "has_notation" s_has_notation f fd) (B : Blt mg) {t1 t2 : Tok} (g_LETTERS : mg "LETTERS" = some (.str letters t1)) (g_DIGITS : mg "DIGITS" = some (.str digits t2)) (R_is_day : Rdy P w K mg base 2 "is_day" ["text"] sp_isday) : FnOk P w K mg base CX0 3 f fd ["text", "notation"] sp_hasn := by
  refine D.1.ok sc_has_notation (fun vs H Q E h => ?_) (fun cdv A outer s H vs Q E hr h => ?_)
  · obtain ⟨x, n, rfl, _⟩ := h
    rfl
  obtain ⟨x, n, rfl, hx, q⟩ := h
  refine ⟨_, (pss_cons (ps_if (pt_cmpR op_eq (pv 1) pe_str (nomark _))
   (pss_one (ps_ret (pe_c R_is_day hr rfl (pa_cons (pv 0) pa_nil))))
   pss_nil)
  (pss_cons (ps_if (pt_cmpR op_eq (pv 1) pe_str (nomark _))
   (pss_one (ps_ret (pe_and (pe_cmpR op_ne (pv 0) pe_str (nomark _)) (pe_one (pe_callB (allK (K := K) rfl rfl) (by rfl) B.b_all (by decide +kernel) (pa_cons (pe_lc (own := [("sign", 2)]) (by rfl) sc_has_notation.nd (pi_str (pv 0)) (blkOk_by (own := [("sign", 2)]) (N := ["text", "notation", "sign"]) (sc := defScope s_has_notation) (by decide +kernel)) (fun _ _ _ _ _ => (pg_name (i := 2) sc_has_notation.nd rfl (by first | exact Or.inl rfl | exact Or.inr rfl))) (fun _ _ _ _ _ => pts_nil) (fun _ _ _ _ _ => (pe_cmpR op_in_sign (pv 2) (pe_gstr (by rfl) g_DIGITS) rfl))) pa_nil))))))
   pss_nil)
  (pss_one (ps_ret (pe_and (pe_cmpR op_ne (pv 0) pe_str (nomark _)) (pe_and (pe_cmpR op_in_sign (pe_ix ix_str (pv 0) pe_int (fun _ _ => rfl)) (pe_gstr (by rfl) g_LETTERS) rfl) (pe_one (pe_callB (allK (K := K) rfl rfl) (by rfl) B.b_all (by decide +kernel) (pa_cons (pe_lc (own := [("sign", 2)]) (by rfl) sc_has_notation.nd (pi_str (pv 0)) (blkOk_by (own := [("sign", 2)]) (N := ["text", "notation", "sign"]) (sc := defScope s_has_notation) (by decide +kernel)) (fun _ _ _ _ _ => (pg_name (i := 2) sc_has_notation.nd rfl (by first | exact Or.inl rfl | exact Or.inr rfl))) (fun _ _ _ _ _ => pts_nil) (fun _ _ _ _ _ => (pe_cmpR op_in_sign (pv 2) (pe_op op_add_str (pe_op op_add_str (pe_gstr (by rfl) g_LETTERS) (pe_gstr (by rfl) g_DIGITS)) pe_str) rfl))) pa_nil))))))))), ?_⟩
  have nd1 : ¬ Str.ofString "digits" = Str.ofString "day" := by decide +kernel
  have nd2 : ¬ Str.ofString "name" = Str.ofString "day" := by decide +kernel
  have nd3 : ¬ Str.ofString "name" = Str.ofString "digits" := by decide +kernel
  have ee : (Str.ofString "").cps.toList = [] := by decide +kernel
  have hl : x.cps.toList.length = x.length := rfl
  walk_at "rd"
  rcases q with ⟨rfl, q⟩ | ⟨rfl, q⟩ | ⟨rfl, q⟩
  · exact ⟨rfl, iteT' rfl ⟨x, rfl, hx, q⟩⟩
  · refine ⟨rfl, iteF' nd1 ⟨rfl, iteT' rfl ⟨rfl, ite2 (fun h => ?_) fun h => ?_⟩⟩⟩
    · cases hc : x.cps.toList with
      | nil => exact absurd (str_nil hc) h
      | cons c0 r0 =>
      refine lcP_str ((x.cps.toList.map dig).map V.bl) (by rw [List.length_map, List.length_map]; rfl) (by omega) ?_ ?_
      · intro i c y H' N hi hy s' N'
        simp only [List.getElem?_map, hi, Option.map_some, Option.some.injEq] at hy
        subst hy
        walk_at "rd"
        exact ⟨c, rfl, N' _ (Same.refl _)⟩
      · intro D' H' nD s' e
        refine ⟨D', _, rfl, SqL.of e, ?_⟩
        have := q _ s'
        rw [isDigs, hc] at this
        rw [List.all_map, hc]
        exact this
    · have e : x = Str.ofString "" := Decidable.not_not.mp h
      have := q _ (Same.refl _)
      rw [isDigs, e, ee] at this
      exact this
  · refine ⟨rfl, iteF' nd2 ⟨rfl, iteF' nd3 ⟨rfl, ite2 (fun h => ?_) fun h => ?_⟩⟩⟩
    · cases hc : x.cps.toList with
      | nil => exact absurd (str_nil hc) h
      | cons c0 r0 =>
      refine ⟨x, 0, c0, rfl, rfl, sz5 (by omega), by rw [hc]; exact atI_nat (j := 0) rfl, c0, rfl, ite2 (fun h1 => ?_) fun h1 => ?_⟩
      · refine lcP_str ((x.cps.toList.map nameC).map V.bl) (by rw [List.length_map, List.length_map]; rfl) (by omega) ?_ ?_
        · intro i c y H' N hi hy s' N'
          simp only [List.getElem?_map, hi, Option.map_some, Option.some.injEq] at hy
          subst hy
          walk_at "rd"
          refine ⟨by decide +kernel, by decide +kernel, c, rfl, ?_⟩
          have hN := N' _ (Same.refl _)
          have e2 : decide (c ∈ (letters ++ digits ++ Str.ofString "_").cps.toList) = nameC c := by
            rw [app_cps, app_cps, show (Str.ofString "_").cps.toList = [95] by decide +kernel, nameC]
            rw [Bool.eq_iff_iff]
            simp only [List.mem_append, List.mem_singleton, decide_eq_true_eq, Bool.or_eq_true]
          rw [e2]
          exact hN
        · intro D' H' nD s' e
          refine ⟨D', _, rfl, SqL.of e, ?_⟩
          have := q _ s'
          rw [isNm, hc] at this
          simp only [h1, decide_true, Bool.true_and] at this
          rw [List.all_map, hc]
          exact this
      · have := q _ (Same.refl _)
        rw [isNm, hc] at this
        simp only [h1, decide_false, Bool.false_and] at this
        exact this
    · have e : x = Str.ofString "" := Decidable.not_not.mp h
      have := q _ (Same.refl _)
      rw [isNm, e, ee] at this
      exact this
end

/-! ### the law's own texts -/
def pad (n k : Int) : Str := Txt.mul (Str.ofString "0") (k - ((Str.ofString (toString n)).length : Nat)) ++ Str.ofString (toString n)
def ldays (y m : Int) : Int := if 1 ≤ m ∧ m ≤ 12 then daysIn y m else 0
def yearsN (y : Int) : Int := 365 * y + y / 4 - y / 100 + y / 400
theorem mul0 : ∀ k : Fin 11, (Txt.mul (Str.ofString "0") ((k.1 : Nat) : Int)).cps.toList = List.replicate k.1 48 := by decide +kernel
theorem dig_of {c : Nat} (h : 48 ≤ c ∧ c ≤ 57) : dig c = true := by
  have h1 : ∀ k : Fin 10, dig (48 + k.1) = true := by decide +kernel
  have h2 := h1 ⟨c - 48, by omega⟩
  have e : 48 + (c - 48) = c := by omega
  simp only [e] at h2
  exact h2
theorem num_cps (n : Nat) : (Str.ofString (toString ((n : Nat) : Int))).cps.toList = TL.numL n := TL.tl_num n
theorem dv_zeros (l : List Nat) : ∀ j : Nat, NumText.digitsVal (List.replicate j 48 ++ l) = NumText.digitsVal l
  | 0 => by simp
  | j + 1 => by
    have h := dv_zeros l j
    unfold NumText.digitsVal at h ⊢
    rw [List.replicate_succ, List.cons_append, List.foldl_cons]
    exact h
/-- a number padded -/
theorem pad_ok {n k : Nat} (hk : 0 < k) (hk2 : k ≤ 10) (h : n < 10 ^ k) : (pad n k).cps.toList.length = k ∧ (pad n k).cps.toList.all dig = true ∧ dv (pad n k).cps.toList = n ∧ MulOk (Str.ofString "0") ((k : Int) - ((Str.ofString (toString ((n : Nat) : Int))).length : Nat)) ∧ (Str.ofString (toString ((n : Nat) : Int))).length ≤ k := by
  have hl : (Str.ofString (toString ((n : Nat) : Int))).length = (TL.numL n).length := by
    show (Str.ofString (toString ((n : Nat) : Int))).cps.size = _
    rw [← Array.length_toList, num_cps]
  have hle := TL.numL_len hk h
  have e : ((k : Int) - ((Str.ofString (toString ((n : Nat) : Int))).length : Nat)) = ((k - (TL.numL n).length : Nat) : Int) := by rw [hl]; omega
  have hm := mul0 ⟨k - (TL.numL n).length, by omega⟩
  simp only at hm
  have ec : (pad n k).cps.toList = List.replicate (k - (TL.numL n).length) 48 ++ TL.numL n := by
    unfold pad
    rw [app_cps, e, hm, num_cps]
  refine ⟨?_, ?_, ?_, ?_, by omega⟩
  · rw [ec, List.length_append, List.length_replicate]; omega
  · rw [ec, List.all_append, Bool.and_eq_true]
    constructor
    · rw [List.all_eq_true]
      intro c hc
      rw [(List.mem_replicate.mp hc).2]
      exact dig_of ⟨by decide, by decide⟩
    · rw [List.all_eq_true]
      intro c hc
      exact dig_of (TL.numL_digits n c hc)
  · rw [ec]
    unfold dv
    rw [dv_zeros, TL.numL_val]
  · exact mul_ok (by decide +kernel) (by omega) (by omega)
def lineS (y m d : Int) : Str := pad y 4 ++ Str.ofString "-" ++ pad m 2 ++ Str.ofString "-" ++ pad d 2
def dueB (y m d : Int) : Bool := decide (0 < y) && (decide (1 ≤ d) && decide (d ≤ ldays y m))
theorem line_cps {y m d : Nat} (hy : y < 10000) (hm : m < 100) (hd : d < 100) : ∃ A B C : List Nat, (lineS y m d).cps.toList = A ++ 45 :: (B ++ 45 :: C) ∧ A.length = 4 ∧ B.length = 2 ∧ C.length = 2 ∧ A.all dig = true ∧ B.all dig = true ∧ C.all dig = true ∧ dv A = y ∧ dv B = m ∧ dv C = d := by
  obtain ⟨a1, a2, a3, _⟩ := pad_ok (n := y) (k := 4) (by decide) (by decide) hy
  obtain ⟨b1, b2, b3, _⟩ := pad_ok (n := m) (k := 2) (by decide) (by decide) hm
  obtain ⟨c1, c2, c3, _⟩ := pad_ok (n := d) (k := 2) (by decide) (by decide) hd
  refine ⟨_, _, _, ?_, a1, b1, c1, a2, b2, c2, a3, b3, c3⟩
  unfold lineS
  rw [app_cps, app_cps, app_cps, app_cps, show (Str.ofString "-").cps.toList = [45] by decide +kernel]
  simp
theorem line_len {y m d : Nat} (hy : y < 10000) (hm : m < 100) (hd : d < 100) : (lineS y m d).length = 10 := by
  obtain ⟨A, B, C, e, a, b, c, _⟩ := line_cps hy hm hd
  show (lineS y m d).cps.size = 10
  rw [← Array.length_toList, e]
  simp [a, b, c]
theorem line_day {y m d : Nat} (hy : y < 10000) (hm : m < 100) (hd : d < 100) : isDay (lineS y m d) = dueB y m d := by
  obtain ⟨A, B, C, e, a, b, c, a2, b2, c2, a3, b3, c3⟩ := line_cps hy hm hd
  match A, a with
  | [a0, a1, a2', a3'], _ =>
    match B, b with
    | [b0, b1], _ =>
      match C, c with
      | [c0, c1], _ =>
        unfold isDay
        rw [e]
        simp only [List.cons_append, List.nil_append, List.length_cons, List.length_nil, List.getElem?_cons_succ, List.getElem?_cons_zero, List.take_succ_cons, List.take_zero, List.drop_succ_cons, List.drop_zero, decide_true, Bool.true_and]
        have hall : ([a0, a1, a2', a3', b0, b1, c0, c1].all dig) = true := by
          simp only [List.all_cons, List.all_nil, Bool.and_true, Bool.and_eq_true] at a2 b2 c2 ⊢
          simp [a2, b2, c2]
        rw [hall, Bool.true_and]
        unfold dayL
        simp only [List.take_succ_cons, List.take_zero, List.drop_succ_cons, List.drop_zero, a3, b3, c3]
        unfold dueB ldays
        by_cases h1 : 1 ≤ (m : Int) <;> by_cases h2 : (m : Int) ≤ 12
        · rw [if_pos ⟨h1, h2⟩]; simp [h1, h2]
        · rw [if_neg (fun z => h2 z.2)]; simp [h2]; omega
        · rw [if_neg (fun z => h1 z.1)]; simp [h1]; omega
        · rw [if_neg (fun z => h1 z.1)]; simp [h1]; omega
theorem dig45 : dig 45 = false := by decide +kernel
theorem name45 : nameC 45 = false := by decide +kernel
theorem line_digs {y m d : Nat} (hy : y < 10000) (hm : m < 100) (hd : d < 100) : isDigs (lineS y m d) = false ∧ isNm (lineS y m d) = false := by
  obtain ⟨A, B, C, e, a, _⟩ := line_cps hy hm hd
  match A, a with
  | a0 :: A', _ =>
    unfold isDigs isNm
    rw [e]
    simp [dig45, name45]
theorem line_asc {x : Str} (h : ∀ c ∈ x.cps.toList, c = 45 ∨ dig c = true) : AsciiS x := fun c hc => by
  rcases h c hc with rfl | h
  · decide
  · have := dig_in h; omega
def sp_padded : Sp := fun vs H Q _ => ∃ n k : Nat, vs = [.int n, .int k] ∧ 0 < k ∧ k ≤ 10 ∧ n < 10 ^ k ∧ Q (.str (pad n k)) H
def sp_ldays : Sp := fun vs H Q _ => ∃ y m : Int, vs = [.int y, .int m] ∧ ∀ H', Same H H' → Q (.int (ldays y m)) H'
def sp_years : Sp := fun vs H Q _ => ∃ y : Int, vs = [.int y] ∧ Q (.int (yearsN y)) H
def sp_lett : Sp := fun vs H Q _ => vs = [] ∧ Q (.str letters) H
def sp_isdig : Sp := fun vs H Q _ => ∃ x, vs = [.str x] ∧ x.length ≤ 1000 ∧ AsciiS x ∧ ∀ H', Same H H' → Q (.bl (isDigs x)) H'
def sp_isnm : Sp := fun vs H Q _ => ∃ x, vs = [.str x] ∧ x.length ≤ 1000 ∧ AsciiS x ∧ ∀ H', Same H H' → Q (.bl (isNm x)) H'
def sp_lright : Sp := fun vs H Q _ => ∃ x, vs = [.str x] ∧ x.length ≤ 1000 ∧ AsciiS x ∧ isDay x = false ∧ ∀ H', Same H H' → Q (.bl true) H'
def sp_yright : Sp := fun vs H Q _ => ∃ y : Nat, vs = [.int y] ∧ y < 10000 ∧ ∀ H', Same H H' → Q (.bl true) H'
theorem asc_char {x : Str} {p : Nat → Bool} (ha : AsciiS x) : ∀ z ∈ ((x.cps.toList.filter p).map fun c => (⟨#[c]⟩ : Str)), AsciiS z := fun z hz => by
  obtain ⟨c3, h3, rfl⟩ := List.mem_map.mp hz
  intro c4 h4
  have : c4 = c3 := by simpa using h4
  rw [this]
  exact ha _ (List.mem_filter.mp h3).1
theorem filt_nil {x : Str} {p : Nat → Bool} : decide (((x.cps.toList.filter fun c => !p c).map fun c => (⟨#[c]⟩ : Str)) = []) = x.cps.toList.all p := by
  rw [Bool.eq_iff_iff, decide_eq_true_eq, List.map_eq_nil_iff, List.filter_eq_nil_iff, List.all_eq_true]
  simp
abbrev s_law_padded : Stmt := top 11
theorem sc_law_padded : FnScope ["_law_number", "_law_size"] ["_law_number", "_law_size"] (defScope s_law_padded) := ⟨rfl, rfl, rfl, by decide +kernel, rfl, by decide +kernel, by decide +kernel⟩
abbrev s_law_days : Stmt := top 12
theorem sc_law_days : FnScope ["_law_year", "_law_month", "_law_is_long"] ["_law_year", "_law_month"] (defScope s_law_days) := ⟨rfl, rfl, rfl, by decide +kernel, rfl, by decide +kernel, by decide +kernel⟩
abbrev s_law_years : Stmt := top 13
theorem sc_law_years : FnScope ["_law_year"] ["_law_year"] (defScope s_law_years) := ⟨rfl, rfl, rfl, by decide +kernel, rfl, by decide +kernel, by decide +kernel⟩
abbrev s_law_year_right : Stmt := top 14
theorem sc_law_year_right : FnScope ["_law_year", "_law_found", "_law_month", "_law_day", "_law_line", "_law_due", "_law_told"] ["_law_year"] (defScope s_law_year_right) := ⟨rfl, rfl, rfl, by decide +kernel, rfl, by decide +kernel, by decide +kernel⟩
abbrev s_law_letters : Stmt := top 15
theorem sc_law_letters : FnScope [] [] (defScope s_law_letters) := ⟨rfl, rfl, rfl, by decide +kernel, rfl, by decide +kernel, by decide +kernel⟩
abbrev s_law_is_digits : Stmt := top 16
theorem sc_law_is_digits : FnScope ["_law_line", "_law_sign"] ["_law_line"] (defScope s_law_is_digits) := ⟨rfl, rfl, rfl, by decide +kernel, rfl, by decide +kernel, by decide +kernel⟩
abbrev s_law_is_name : Stmt := top 17
theorem sc_law_is_name : FnScope ["_law_line", "_law_sign"] ["_law_line"] (defScope s_law_is_name) := ⟨rfl, rfl, rfl, by decide +kernel, rfl, by decide +kernel, by decide +kernel⟩
abbrev s_law_line_right : Stmt := top 18
theorem sc_law_line_right : FnScope ["_law_line", "_law_told"] ["_law_line"] (defScope s_law_line_right) := ⟨rfl, rfl, rfl, by decide +kernel, rfl, by decide +kernel, by decide +kernel⟩
abbrev s_law_joined_right : Stmt := top 19
theorem sc_law_joined_right : FnScope ["_law_m", "_law_some", "_law_whole", "_law_numbers", "_law_word", "_law_joined", "_law_turn"] ["_law_m"] (defScope s_law_joined_right) := ⟨rfl, rfl, rfl, by decide +kernel, rfl, by decide +kernel, by decide +kernel⟩
abbrev s_law_spoilt_right : Stmt := top 20
theorem sc_law_spoilt_right : FnScope ["_law_m", "_law_front", "_law_back", "_law_some", "_law_line"] ["_law_m"] (defScope s_law_spoilt_right) := ⟨rfl, rfl, rfl, by decide +kernel, rfl, by decide +kernel, by decide +kernel⟩
abbrev s_law : Stmt := top 21
theorem sc_law : FnScope ["_law_script", "_law_m", "_law_bout", "_law_year", "_law_turn", "_law_marks", "_law_sign", "_law_line"] ["_law_script"] (defScope s_law) := ⟨rfl, rfl, rfl, by decide +kernel, rfl, by decide +kernel, by decide +kernel⟩
section
variable {P : Program} {w : World} {K : PySem.W.Frag} {mg : Str → Option Value} {base : Heap} {f : Addr} {fd : FuncData}
theorem ok_padded (D : Def K mg "_law_padded" s_law_padded f fd) (B : Blt mg) : FnOk P w K mg base CX0 1 f fd ["_law_number", "_law_size"] sp_padded := by
  refine D.1.ok sc_law_padded (fun vs H Q E h => ?_) (fun cdv A outer s H vs Q E hr h => ?_)
  · obtain ⟨y, m, rfl, _⟩ := h
    rfl
  obtain ⟨n, k, rfl, h0, h1, h2, q⟩ := h
  refine ⟨_, (pss_one (ps_ret (pe_op op_add_str (pe_op op_mul_str pe_str (pe_op op_sub (pv 1) (pe_callB (lenK (K := K) rfl) (by rfl) B.b_len (by decide +kernel) (pa_cons (pe_callTy call_str_int (by rfl) B.b_str (by decide +kernel) (pa_cons (pv 0) pa_nil)) pa_nil)))) (pe_callTy call_str_int (by rfl) B.b_str (by decide +kernel) (pa_cons (pv 0) pa_nil))))), ?_⟩
  walk_at "rd"
  obtain ⟨e1, e2, e3, e4, e5⟩ := pad_ok h0 h1 h2
  have hb : n < 10 ^ 10 := Nat.lt_of_lt_of_le h2 (Nat.pow_le_pow_right (by decide) h1)
  have hlog := int_log (i := (n : Int)) (by omega)
  refine ⟨hlog, _, ⟨sz5 (by omega), rfl⟩, e4, hlog, sz5 ?_, q⟩
  rw [← len_app]
  show (pad n k).length ≤ _
  show (pad n k).cps.size ≤ _
  rw [← Array.length_toList, e1]
  omega
theorem ok_ldays (D : Def K mg "_law_days" s_law_days f fd) (B : Blt mg) : FnOk P w K mg base CX0 1 f fd ["_law_year", "_law_month"] sp_ldays := by
  refine D.1.ok sc_law_days (fun vs H Q E h => ?_) (fun cdv A outer s H vs Q E hr h => ?_)
  · obtain ⟨y, m, rfl, _⟩ := h
    rfl
  obtain ⟨y, m, rfl, q⟩ := h
  refine ⟨_, (pss_cons (ps_if (PW.pt (pw_or (pt_cmpR op_lt (pv 1) pe_int (nomark _)) (pw_or1 (pt_cmpR op_gt (pv 1) pe_int (nomark _)))))
   (pss_one (ps_ret pe_int))
   pss_nil)
  (pss_cons (ps_set (i := 2) sc_law_days.nd rfl (by first | exact Or.inl rfl | exact Or.inr rfl) (pe_or (pe_cmpR op_eq (pe_op op_mod (pv 0) pe_int) pe_int (nomark _)) (pe_one (pe_and (pe_cmpR op_eq (pe_op op_mod (pv 0) pe_int) pe_int (nomark _)) (pe_one (pe_cmpR op_gt (pe_op op_mod (pv 0) pe_int) pe_int (nomark _)))))))
  (pss_one (ps_ret (pe_ix (ixLK (K := K) rfl) (pe_lst (pa_cons pe_int (pa_cons (pe_op op_add pe_int (pe_callTy call_int1 (by rfl) B.b_int (by decide +kernel) (pa_cons (pv 2) pa_nil))) (pa_cons pe_int (pa_cons pe_int (pa_cons pe_int (pa_cons pe_int (pa_cons pe_int (pa_cons pe_int (pa_cons pe_int (pa_cons pe_int (pa_cons pe_int (pa_cons pe_int pa_nil))))))))))))) (pe_op op_sub (pv 1) pe_int) (fun _ _ => rfl)))))), ?_⟩
  walk_at "rd"
  refine ite2 (fun h1 => ?_) fun h1 => ite2 (fun h2 => ?_) fun h2 => ?_
  · have := q _ (Same.refl _)
    rw [ldays, if_neg (fun z => by omega)] at this
    exact this
  · have := q _ (Same.refl _)
    rw [ldays, if_neg (fun z => by omega)] at this
    exact this
  have key : ∀ b : Bool, isLeap y = b → ∀ p : Addr, H p = none → rIxL K (V.ref p) (V.int (m - 1)) (upd H p (HO.lst [V.int 31, V.int (28 + if b then 1 else 0), V.int 31, V.int 30, V.int 31, V.int 30, V.int 31, V.int 31, V.int 30, V.int 31, V.int 30, V.int 31])) Q := by
    intro b hb p np
    have q' := q _ (same_new np (HO.lst [V.int 31, V.int (28 + if b then 1 else 0), V.int 31, V.int 30, V.int 31, V.int 30, V.int 31, V.int 31, V.int 30, V.int 31, V.int 30, V.int 31]))
    rw [ldays, if_pos ⟨by omega, by omega⟩, daysIn, hb] at q'
    have hm : m = 1 ∨ m = 2 ∨ m = 3 ∨ m = 4 ∨ m = 5 ∨ m = 6 ∨ m = 7 ∨ m = 8 ∨ m = 9 ∨ m = 10 ∨ m = 11 ∨ m = 12 := by omega
    rcases hm with rfl | rfl | rfl | rfl | rfl | rfl | rfl | rfl | rfl | rfl | rfl | rfl <;> refine ⟨p, _, _, _, rfl, rfl, SqL.of upd_same, rfl, ?_⟩ <;> (try exact q')
    cases b <;> exact q'
  have hiff : isLeap y = true ↔ (y % 4 = 0 ∧ (¬ y % 100 = 0 ∨ y % 400 = 0)) := by simp [isLeap]
  refine ⟨by decide, rfl, ite2 (fun h400 => .inr ⟨sz5 (by omega), key true (hiff.mpr ⟨by omega, .inr h400⟩)⟩) fun h400 => ⟨by decide, rfl, ite2 (fun h4 => ⟨by decide, .inr ⟨sz5 (by omega), ?_⟩⟩) fun h4 => .inr ⟨sz5 (by omega), key false (Bool.eq_false_iff.mpr fun z => h4 (hiff.mp z).1)⟩⟩⟩
  by_cases h100 : 0 < y % 100
  · rw [if_pos h100]
    exact key true (hiff.mpr ⟨h4, .inl (by omega)⟩)
  · rw [if_neg h100]
    have := mod_in y (m := 100) (by decide)
    refine key false (Bool.eq_false_iff.mpr fun z => ?_)
    rcases (hiff.mp z).2 with h | h
    · omega
    · exact h400 h
theorem ok_years (D : Def K mg "_law_years" s_law_years f fd) (B : Blt mg) : FnOk P w K mg base CX0 1 f fd ["_law_year"] sp_years := by
  refine D.1.ok sc_law_years (fun vs H Q E h => ?_) (fun cdv A outer s H vs Q E hr h => ?_)
  · obtain ⟨y, rfl, _⟩ := h
    rfl
  obtain ⟨y, rfl, q⟩ := h
  refine ⟨_, (pss_one (ps_ret (pe_op op_add (pe_op op_sub (pe_op op_add (pe_op op_mul pe_int (pv 0)) (pe_op op_fdiv (pv 0) pe_int)) (pe_op op_fdiv (pv 0) pe_int)) (pe_op op_fdiv (pv 0) pe_int)))), ?_⟩
  walk_at "rd"
  exact ⟨.inl (by decide), ⟨by decide, by decide⟩, ⟨by decide, by decide⟩, ⟨by decide, by decide⟩, q⟩
theorem ok_letters (D : Def K mg "_law_letters" s_law_letters f fd) (B : Blt mg) : FnOk P w K mg base CX0 1 f fd [] sp_lett := by
  refine D.1.ok sc_law_letters (fun vs H Q E h => ?_) (fun cdv A outer s H vs Q E hr h => ?_)
  · obtain ⟨rfl, _⟩ := h
    rfl
  obtain ⟨rfl, q⟩ := h
  refine ⟨_, (pss_one (ps_ret pe_str)), ?_⟩
  walk_at "rd"
  exact q
theorem ok_isdigits (D : Def K mg "_law_is_digits" s_law_is_digits f fd) (B : Blt mg) : FnOk P w K mg base CX0 1 f fd ["_law_line"] sp_isdig := by
  refine D.1.ok sc_law_is_digits (fun vs H Q E h => ?_) (fun cdv A outer s H vs Q E hr h => ?_)
  · obtain ⟨x, rfl, _⟩ := h
    rfl
  obtain ⟨x, rfl, hx, ha, q⟩ := h
  have hu := Room.u100 hr
  refine ⟨_, (pss_one (ps_ret (pe_and (pe_cmpR op_ne (pv 0) pe_str (nomark _)) (pe_one (pe_cmpR (eqDK (K := K) rfl hr.units) (pe_lc (own := [("_law_sign", 1)]) (by rfl) sc_law_is_digits.nd (pi_str (pv 0)) (blkOk_by (own := [("_law_sign", 1)]) (N := ["_law_line", "_law_sign"]) (sc := defScope s_law_is_digits) (by decide +kernel)) (fun _ _ _ _ _ => (pg_name (i := 1) sc_law_is_digits.nd rfl (by first | exact Or.inl rfl | exact Or.inr rfl))) (fun _ _ _ _ _ => (pts_one (pt_cmpR op_notIn_sign (pv 1) pe_str rfl))) (fun _ _ _ _ _ => (pv 1))) (pe_lst pa_nil) (nomark _)))))), ?_⟩
  walk_at "rd"
  have ee : (Str.ofString "").cps.toList = [] := by decide +kernel
  refine ⟨rfl, ite2 (fun h => ?_) fun h => ?_⟩
  · cases hc : x.cps.toList with
    | nil => exact absurd (str_nil hc) h
    | cons c0 r0 =>
    refine lcF_str (fun c => !dig c) (by omega) (by simp) ?_ ?_
    · intro c2 H' N hc2 s' hN
      walk_at "rd"
      exact ⟨c2, rfl, hN⟩
    · intro D' H' nD s' e
      refine ⟨Nat.zero_le _, fun p np => ⟨_, _, Dp_strs ((same_new np _) _ _ e), Dp_strs (xs := []) upd_same, shaped_strs (asc_char ha), shaped_strs (by simp), ?_⟩⟩
      rw [eqv_strs, filt_nil]
      have := q _ (s'.trans (same_new (o := .lst []) np))
      rw [isDigs, hc] at this
      rw [hc]
      exact this
  · have e : x = Str.ofString "" := Decidable.not_not.mp h
    have := q _ (Same.refl _)
    rw [isDigs, e, ee] at this
    exact this
theorem ok_isname (D : Def K mg "_law_is_name" s_law_is_name f fd) (B : Blt mg) (R_law_letters : Rdy P w K mg base 1 "_law_letters" [] sp_lett) : FnOk P w K mg base CX0 2 f fd ["_law_line"] sp_isnm := by
  refine D.1.ok sc_law_is_name (fun vs H Q E h => ?_) (fun cdv A outer s H vs Q E hr h => ?_)
  · obtain ⟨x, rfl, _⟩ := h
    rfl
  obtain ⟨x, rfl, hx, ha, q⟩ := h
  have hu := Room.u100 hr
  refine ⟨_, (pss_cons (ps_if (PW.pt (pw_or (pt_cmpR op_eq (pv 0) pe_str (nomark _)) (pw_or1 (pt_cmpR op_notIn_sign (pe_ix ix_str (pv 0) pe_int (fun _ _ => rfl)) (pe_c0 R_law_letters hr rfl) rfl))))
   (pss_one (ps_ret pe_bl))
   pss_nil)
  (pss_one (ps_ret (pe_cmpR (eqDK (K := K) rfl hr.units) (pe_lc (own := [("_law_sign", 1)]) (by rfl) sc_law_is_name.nd (pi_str (pv 0)) (blkOk_by (own := [("_law_sign", 1)]) (N := ["_law_line", "_law_sign"]) (sc := defScope s_law_is_name) (by decide +kernel)) (fun _ _ _ _ _ => (pg_name (i := 1) sc_law_is_name.nd rfl (by first | exact Or.inl rfl | exact Or.inr rfl))) (fun _ _ _ _ _ => (pts_one (pt_cmpR op_notIn_sign (pv 1) (pe_op op_add_str (pe_c0 R_law_letters hr rfl) pe_str) rfl))) (fun _ _ _ _ _ => (pv 1))) (pe_lst pa_nil) (nomark _))))), ?_⟩
  walk_at "rd"
  have ee : (Str.ofString "").cps.toList = [] := by decide +kernel
  refine ⟨rfl, ite2 (fun h => ?_) fun h => ?_⟩
  · have := q _ (Same.refl _)
    rw [isNm, h, ee] at this
    exact this
  cases hc : x.cps.toList with
  | nil => exact absurd (str_nil hc) h
  | cons c0 r0 =>
  refine ⟨x, 0, c0, rfl, rfl, sz5 (by omega), by rw [hc]; exact atI_nat (j := 0) rfl, rfl, c0, rfl, _, rfl, ite2 (fun h1 => ?_) fun h1 => ?_⟩
  · have := q _ (Same.refl _)
    rw [isNm, hc] at this
    simp only [h1, decide_false, Bool.false_and] at this
    exact this
  · have h1' : c0 ∈ letters.cps.toList := Decidable.not_not.mp h1
    refine lcF_str (fun c => !nameC c) (by omega) (by simp) ?_ ?_
    · intro c2 H' N hc2 s' hN
      walk_at "rd"
      refine ⟨rfl, letters, rfl, by decide +kernel, c2, rfl, ?_⟩
      have e2 : decide (c2 ∈ (letters ++ Str.ofString "0123456789_").cps.toList) = nameC c2 := by
        rw [app_cps, show (Str.ofString "0123456789_").cps.toList = digits.cps.toList ++ [95] by decide +kernel, nameC, Bool.eq_iff_iff]
        simp only [List.mem_append, List.mem_singleton, decide_eq_true_eq, Bool.or_eq_true, or_assoc]
      rw [e2]
      exact hN
    · intro D' H' nD s' e
      refine ⟨Nat.zero_le _, fun p np => ⟨_, _, Dp_strs ((same_new np _) _ _ e), Dp_strs (xs := []) upd_same, shaped_strs (asc_char ha), shaped_strs (by simp), ?_⟩⟩
      rw [eqv_strs, filt_nil]
      have := q _ (s'.trans (same_new (o := .lst []) np))
      rw [isNm, hc] at this
      simp only [h1', decide_true, Bool.true_and] at this
      rw [hc]
      exact this
end

/-! ### lines, years -/
def cntM (y : Int) : Nat → Int
  | 0 => 0
  | m + 1 => cntM y m + (if 0 < y then ldays y m else 0)
def inn (y m : Int) (j : Int) : Int := if 0 < y then (if j ≤ 1 then 0 else if j - 1 ≤ ldays y m then j - 1 else ldays y m) else 0
theorem ldays_le (y m : Int) : 0 ≤ ldays y m ∧ ldays y m ≤ 31 := by
  unfold ldays daysIn
  repeat' split
  all_goals omega
theorem inn_step (y m : Int) (j : Int) (hj : 0 ≤ j) : inn y m (j + 1) = inn y m j + (if dueB y m j = true then 1 else 0) := by
  have hl := ldays_le y m
  unfold inn dueB
  generalize ldays y m = L at hl
  simp only [Bool.and_eq_true, decide_eq_true_eq]
  repeat' split
  all_goals omega
theorem inn_end (y m : Int) : inn y m 33 = (if 0 < y then ldays y m else 0) := by
  have hl := ldays_le y m
  unfold inn
  generalize ldays y m = L at hl
  repeat' split
  all_goals omega
theorem cntM_end (y : Int) : cntM y 14 = if 0 < y then yearsN y - yearsN (y - 1) else 0 := by
  by_cases h : 0 < y
  · rw [if_pos h]
    have e : cntM y 14 = 337 + daysIn y 2 := by
      simp only [cntM, if_pos h, ldays, daysIn]
      simp
      omega
    rw [e]
    have hiff : isLeap y = true ↔ (y % 4 = 0 ∧ (¬ y % 100 = 0 ∨ y % 400 = 0)) := by simp [isLeap]
    unfold daysIn yearsN
    rw [if_pos rfl]
    by_cases hl : isLeap y = true
    · rw [if_pos hl]
      have := hiff.mp hl
      omega
    · rw [if_neg hl]
      have : ¬ (y % 4 = 0 ∧ (¬ y % 100 = 0 ∨ y % 400 = 0)) := fun z => hl (hiff.mpr z)
      omega
  · simp [cntM, h]
section
variable {P : Program} {w : World} {K : PySem.W.Frag} {mg : Str → Option Value} {base : Heap} {f : Addr} {fd : FuncData}
theorem ok_lright (D : Def K mg "_law_line_right" s_law_line_right f fd) (B : Blt mg) (hsys : ∃ o, base.get? sysModules = some o) (R_has_notation : Rdy P w K mg base 3 "has_notation" ["text", "notation"] sp_hasn) (R_law_is_digits : Rdy P w K mg base 1 "_law_is_digits" ["_law_line"] sp_isdig) (R_law_is_name : Rdy P w K mg base 2 "_law_is_name" ["_law_line"] sp_isnm) : FnG P w K mg base 4 f fd ["_law_line"] sp_lright := by
  refine okG D.1 sc_law_line_right (fun vs H Q E h => ?_) (fun cdv A outer s H vs Q E hgd hr h => ?_)
  · obtain ⟨x, rfl, _⟩ := h
    rfl
  obtain ⟨x, rfl, hx, ha, hd, q⟩ := h
  have hr1 : Room 1 _ := hr.mono (by omega)
  have hr2 : Room 2 _ := hr.mono (by omega)
  refine ⟨_, (pss_cons (ps_set (i := 1) sc_law_line_right.nd rfl (by first | exact Or.inl rfl | exact Or.inr rfl) (pe_lst (pa_cons (pe_c R_has_notation hr rfl (pa_cons (pv 0) (pa_cons pe_str pa_nil))) (pa_cons (pe_c R_has_notation hr rfl (pa_cons (pv 0) (pa_cons pe_str pa_nil))) (pa_cons (pe_c R_has_notation hr rfl (pa_cons (pv 0) (pa_cons pe_str pa_nil))) pa_nil)))))
  (pss_one (ps_ret (pe_cmpR op_eq (pe_callB (call_repr hgd hsys (Room.u100 hr)) (by rfl) B.b_repr (by decide +kernel) (pa_cons (pv 1) pa_nil)) (pe_callB (call_repr hgd hsys (Room.u100 hr)) (by rfl) B.b_repr (by decide +kernel) (pa_cons (pe_lst (pa_cons (pe_c R_law_is_digits hr1 rfl (pa_cons (pv 0) pa_nil)) (pa_cons (pe_c R_law_is_name hr2 rfl (pa_cons (pv 0) pa_nil)) (pa_cons pe_bl pa_nil)))) pa_nil)) (nomark _))))), ?_⟩
  walk_at "rd"
  refine ⟨x, _, rfl, hx, .inr (.inl ⟨rfl, fun H1 s1 => ?_⟩)⟩
  refine ⟨x, _, rfl, hx, .inr (.inr ⟨rfl, fun H2 s2 => ?_⟩)⟩
  refine ⟨x, _, rfl, hx, .inl ⟨rfl, fun H3 s3 => ⟨sz5 (by omega), fun l1 nl1 => ?_⟩⟩⟩
  have s4 := (s1.trans s2).trans (s3.trans (same_new nl1 (.lst [V.bl (isDigs x), V.bl (isNm x), V.bl (isDay x)])))
  refine repr_bls (xs := [isDigs x, isNm x, isDay x]) upd_same (by simp) ?_
  refine ⟨x, rfl, hx, ha, fun H5 s5 => ⟨x, rfl, hx, ha, fun H6 s6 => ⟨sz5 (by omega), fun l2 nl2 => ?_⟩⟩⟩
  refine repr_bls (xs := [isDigs x, isNm x, false]) upd_same (by simp) ⟨rfl, ?_⟩
  rw [hd, decide_eq_true rfl]
  exact q _ (s4.trans ((s5.trans s6).trans (same_new nl2 _)))
theorem ok_yright (D : Def K mg "_law_year_right" s_law_year_right f fd) (B : Blt mg) (hsys : ∃ o, base.get? sysModules = some o) (R_has_notation : Rdy P w K mg base 3 "has_notation" ["text", "notation"] sp_hasn) (R_law_padded : Rdy P w K mg base 1 "_law_padded" ["_law_number", "_law_size"] sp_padded) (R_law_days : Rdy P w K mg base 1 "_law_days" ["_law_year", "_law_month"] sp_ldays) (R_law_years : Rdy P w K mg base 1 "_law_years" ["_law_year"] sp_years) : FnG P w K mg base 4 f fd ["_law_year"] sp_yright := by
  refine okG D.1 sc_law_year_right (fun vs H Q E h => ?_) (fun cdv A outer s H vs Q E hgd hr h => ?_)
  · obtain ⟨x, rfl, _⟩ := h
    rfl
  obtain ⟨y, rfl, hy, q⟩ := h
  have hr1 : Room 1 _ := hr.mono (by omega)
  refine ⟨_, (pss_cons (ps_set (i := 1) sc_law_year_right.nd rfl (by first | exact Or.inl rfl | exact Or.inr rfl) pe_int)
  (pss_cons (ps_for PassesOwn.never rfl (pi_range1 (by rfl) B.b_range (pa_cons pe_int pa_nil)) (pg_name (i := 2) sc_law_year_right.nd rfl (by first | exact Or.inl rfl | exact Or.inr rfl))
   (pss_one (ps_for PassesOwn.never rfl (pi_range1 (by rfl) B.b_range (pa_cons pe_int pa_nil)) (pg_name (i := 3) sc_law_year_right.nd rfl (by first | exact Or.inl rfl | exact Or.inr rfl))
   (pss_cons (ps_set (i := 4) sc_law_year_right.nd rfl (by first | exact Or.inl rfl | exact Or.inr rfl) (pe_op op_add_str (pe_op op_add_str (pe_op op_add_str (pe_op op_add_str (pe_c R_law_padded hr1 rfl (pa_cons (pv 0) (pa_cons pe_int pa_nil))) pe_str) (pe_c R_law_padded hr1 rfl (pa_cons (pv 2) (pa_cons pe_int pa_nil)))) pe_str) (pe_c R_law_padded hr1 rfl (pa_cons (pv 3) (pa_cons pe_int pa_nil)))))
  (pss_cons (ps_set (i := 5) sc_law_year_right.nd rfl (by first | exact Or.inl rfl | exact Or.inr rfl) (pe_and (pe_cmpR op_gt (pv 0) pe_int (nomark _)) (pe_one (pe_chain op_le op_le pe_int (pv 3) (pe_c R_law_days hr1 rfl (pa_cons (pv 0) (pa_cons (pv 2) pa_nil)))))))
  (pss_cons (ps_set (i := 6) sc_law_year_right.nd rfl (by first | exact Or.inl rfl | exact Or.inr rfl) (pe_lst (pa_cons (pe_c R_has_notation hr rfl (pa_cons (pv 4) (pa_cons pe_str pa_nil))) (pa_cons (pe_c R_has_notation hr rfl (pa_cons (pv 4) (pa_cons pe_str pa_nil))) (pa_cons (pe_c R_has_notation hr rfl (pa_cons (pv 4) (pa_cons pe_str pa_nil))) pa_nil)))))
  (pss_cons (ps_if (pt_cmpR op_ne (pe_callB (call_repr hgd hsys (Room.u100 hr)) (by rfl) B.b_repr (by decide +kernel) (pa_cons (pv 6) pa_nil)) (pe_callB (call_repr hgd hsys (Room.u100 hr)) (by rfl) B.b_repr (by decide +kernel) (pa_cons (pe_lst (pa_cons (pv 5) (pa_cons pe_bl (pa_cons pe_bl pa_nil)))) pa_nil)) (nomark _))
   (pss_one (ps_ret pe_bl))
   pss_nil)
  (pss_one (ps_set (i := 1) sc_law_year_right.nd rfl (by first | exact Or.inl rfl | exact Or.inr rfl) (pe_op op_add (pv 1) (pe_callTy call_int1 (by rfl) B.b_int (by decide +kernel) (pa_cons (pv 5) pa_nil))))))))))))
  (pss_one (ps_ret (pe_cmpR op_eq (pv 1) (pe_ifExp (pt_cmpR op_gt (pv 0) pe_int (nomark _)) (pe_op op_sub (pe_c R_law_years hr1 rfl (pa_cons (pv 0) pa_nil)) (pe_c R_law_years hr1 rfl (pa_cons (pe_op op_sub (pv 0) pe_int) pa_nil))) pe_int) (nomark _)))))), ?_⟩
  walk_at "rd"
  refine ⟨by decide, by decide, ?_⟩
  refine fo_it walk_range (fun i σ' H' => Same H H' ∧ ∃ z2 z3 z4 z5 z6, σ' = [some (V.int y), some (V.int (cntM y i)), z2, z3, z4, z5, z6]) ⟨Same.refl _, _, _, _, _, _, rfl⟩ (fun _ _ _ _ _ => trivial) ?_ ?_
  · rintro i v σ' H1 H2 hi ⟨s1, z2, z3, z4, z5, z6, rfl⟩ ⟨rfl, rfl⟩
    walk_at "rd"
    refine ⟨by decide, by decide, ?_⟩
    have hi' : i < 14 := hi
    refine fo_it walk_range (fun j σ' H' => Same H H' ∧ ∃ z3 z4 z5 z6, σ' = [some (V.int y), some (V.int (cntM y i + inn y i j)), some (V.int (0 + i)), z3, z4, z5, z6]) ⟨s1, z3, z4, z5, z6, by rw [show inn y i ((0 : Nat) : Int) = 0 by unfold inn; simp, Int.add_zero]⟩ (fun _ _ _ _ _ => trivial) ?_ ?_
    · rintro j v2 σ' H3 H4 hj ⟨s3, z3, z4, z5, z6, rfl⟩ ⟨rfl, rfl⟩
      have hj' : j < 33 := hj
      have ed := line_day hy (m := i) (d := j) (by omega) (by omega)
      have en := line_digs hy (m := i) (d := j) (by omega) (by omega)
      have el := line_len hy (m := i) (d := j) (by omega) (by omega)
      have pa := (pad_ok (n := y) (k := 4) (by decide) (by decide) hy).1
      have pb := (pad_ok (n := i) (k := 2) (by decide) (by decide) (by omega)).1
      have pc := (pad_ok (n := j) (k := 2) (by decide) (by decide) (by omega)).1
      have la : (pad y ((4 : Nat) : Int)).length = 4 := pa
      have lb : (pad i ((2 : Nat) : Int)).length = 2 := pb
      have lc : (pad j ((2 : Nat) : Int)).length = 2 := pc
      have ld : (Str.ofString "-").length = 1 := by decide +kernel
      simp only [gName, Int.zero_add, List.set_cons_succ, List.set_cons_zero]
      refine cutM (fun σ' H' => H' = H4 ∧ σ' = [some (V.int y), some (V.int (cntM y i + inn y i j)), some (V.int i), some (V.int j), some (V.str (lineS y i j)), z5, z6]) (fun N hN => ?_) ?_
      · walk_at "rd"
        refine ⟨y, 4, rfl, by decide, by decide, hy, _, rfl, sz5 (by omega), i, 2, rfl, by decide, by decide, by omega, _, rfl, sz5 (by rw [len_app]; omega), sz5 (by rw [len_app, len_app]; omega), j, 2, rfl, by decide, by decide, by omega, _, rfl, sz5 (by rw [len_app, len_app, len_app]; omega), hN _ _ ⟨rfl, by rw [lineS]; rfl⟩⟩
      rintro σ' H9 ⟨e9, rfl⟩
      rw [e9]
      clear e9 H9
      refine cutM (fun σ' H' => Same H4 H' ∧ σ' = [some (V.int y), some (V.int (cntM y i + inn y i j)), some (V.int i), some (V.int j), some (V.str (lineS y i j)), some (V.bl (dueB y i j)), z6]) (fun N hN => ?_) ?_
      · walk_at "rd"
        refine ite2 (fun g1 => ite2 (fun g2 => ⟨_, _, rfl, fun H5 s5 => ⟨_, rfl, hN _ _ ⟨s5, ?_⟩⟩⟩) fun g2 => hN _ _ ⟨Same.refl _, ?_⟩) fun g1 => hN _ _ ⟨Same.refl _, ?_⟩
        · rw [show dueB y i j = decide ((j : Int) ≤ ldays y i) by rw [dueB, decide_eq_true g1, decide_eq_true g2]; rfl]
        · rw [show dueB y i j = false by rw [dueB, decide_eq_false g2, Bool.false_and, Bool.and_false]]
        · rw [show dueB y i j = false by rw [dueB, decide_eq_false g1, Bool.false_and]]
      rintro σ' H5 ⟨s5, rfl⟩
      have estep : cntM y i + inn y i j + (if dueB y i j = true then 1 else 0) = cntM y i + inn y i ((j + 1 : Nat) : Int) := by
        rw [show ((j + 1 : Nat) : Int) = (j : Int) + 1 by omega, inn_step y i j (by omega)]
        omega
      clear pa pb pc la lb lc
      generalize dueB y i j = db at ed estep ⊢
      generalize lineS y i j = ls at ed en el ⊢
      walk_at "rd"
      refine ⟨_, _, rfl, by omega, .inl ⟨rfl, fun H6 s6 => ⟨_, _, rfl, by omega, .inr (.inl ⟨rfl, fun H7 s7 => ⟨_, _, rfl, by omega, .inr (.inr ⟨rfl, fun H8 s8 => ⟨sz5 (by omega), fun l1 nl1 => ?_⟩⟩)⟩⟩)⟩⟩⟩
      rw [ed, en.1, en.2]
      refine repr_bls (xs := [db, false, false]) upd_same (by simp) ⟨sz5 (by omega), fun l2 nl2 => ?_⟩
      refine repr_bls (xs := [db, false, false]) upd_same (by simp) ⟨rfl, iteF' (by simp) (.inr ?_)⟩
      exact ⟨s3.trans (s5.trans (s6.trans (s7.trans (s8.trans ((same_new nl1 _).trans (same_new nl2 _)))))), estep⟩
    · rintro σ' H3 ⟨s3, z3, z4, z5, z6, rfl⟩
      have e : cntM y (i + 1) = cntM y i + inn y i ((Int.toNat 33 : Nat) : Int) := by
        show cntM y i + _ = _
        rw [show ((Int.toNat 33 : Nat) : Int) = 33 by decide, inn_end]
      exact ⟨s3, _, _, _, _, _, by rw [e]⟩
  · rintro σ' H1 ⟨s1, z2, z3, z4, z5, z6, rfl⟩
    walk_at "rd"
    have e14 := cntM_end y
    rw [show (Int.toNat 14) = 14 by decide]
    refine ite2 (fun h => ?_) fun h => ?_
    · rw [if_pos h] at e14
      refine ⟨_, rfl, _, rfl, _, rfl, _, rfl, rfl, ?_⟩
      rw [decide_eq_true e14]
      exact q _ s1
    · rw [if_neg h] at e14
      refine ⟨rfl, ?_⟩
      rw [decide_eq_true e14]
      exact q _ s1
end

/-! ### text[::-1] -/
def revS (z : Str) : Str := ⟨z.cps.toList.reverse.toArray⟩
theorem picked_all (c : Array Nat) : (Builtin.Str.strSliceIndices none none (-1) c.size).filterMap (c[·]?) = c.toList.reverse := by
  rw [PyProof.Rows.picked_rev, PyProof.Rows.filterMap_get]
  · apply List.ext_getElem
    · simp
    · intro k h1 h2
      have hk : k < c.size := by simpa using h1
      have hc : c.size - 1 - k < c.size := by omega
      simp [Array.getD, hc]
  · intro i hi
    obtain ⟨k, hk, rfl⟩ := List.mem_map.mp hi
    have hk' := List.mem_range.mp hk
    omega
def tRevS (te : TE) : TE := fun σ H Q => te σ H fun x H1 => ∃ z, x = .str z ∧ z.length ≤ sizeLine ∧ Q (.str (revS z)) H1
section
open PySem.Spec PyProof.Rows
theorem pe_revS {X : Cx} {e : Expr} {te : TE} {k : Nat} {p1 p2 p3 pos : Pos} (he : PE X e te) : PE X (.Subscript e (.Slice none none (some (.UnaryOp .USub (.Constant (.int 1) k p1) p2)) p3) pos) (tRevS te) := by
  refine ⟨fun pins s σ H Q I h => ?_⟩
  refine Subscript_ (thn (he.run pins s σ H _ I h) fun v s1 ⟨x, H1, I1, r1, q1⟩ => ?_)
  obtain ⟨z, ex, hz, q⟩ := q1
  subst ex
  obtain ⟨t, rfl⟩ := r1
  have hst : PO X (some (.UnaryOp .USub (.Constant (.int 1) k p1) p2)) (tPart (tUn (rU fun i => .int (-i)) (tC (.int 1)))) := po_some (pe_un un_neg pe_int)
  refine wpAny_Slice (thn (po_none.run pins s1 σ H1 (fun o H2 => o = none ∧ H2 = H1) I1 ⟨rfl, rfl⟩) fun vl s2 ⟨l, H2, I2, pl, el, e2⟩ => ?_)
  subst el e2
  refine thn (po_none.run pins s2 σ H2 (fun o H3 => o = none ∧ H3 = H2) I2 ⟨rfl, rfl⟩) fun vu s3 ⟨u, H3, I3, pu, eu, e3⟩ => ?_
  subst eu e3
  refine thn (hst.run pins s3 σ H3 (fun o H4 => o = some (-1) ∧ H4 = H3) I3 ⟨1, rfl, -1, rfl, rfl, rfl⟩) fun vs s4 ⟨o, H4, I4, ps, eo, e4⟩ => ?_
  subst eo e4
  have I5 : Inv X pins σ H4 { s4 with heap := s4.heap.push { cls := .type "slice", data := .fields #[vl, vu, vs] } } := I4.kept (t' := s4.toks) fun b ob q => Heap.get?_push_of_some _ q
  have hsl : (s4.heap.push { cls := .type "slice", data := .fields #[vl, vu, vs] }).IsSliceOf s4.heap.objs.size vl vu vs := Heap.IsSliceOf.new _ vl vu vs
  obtain ⟨l, rfl, hl⟩ := IsPart.raw pl
  obtain ⟨u, rfl, hu⟩ := IsPart.raw pu
  obtain ⟨st, rfl, hs⟩ := IsPart.raw ps
  obtain rfl : l = none := by cases l <;> first | rfl | cases hl
  obtain rfl : u = none := by cases u <;> first | rfl | cases hu
  obtain ⟨tk, rfl⟩ : ∃ tk, st = some (-1, tk) := by
    cases st with
    | none => cases hs
    | some p => obtain ⟨a, b⟩ := p; cases hs; exact ⟨b, rfl⟩
  show wpAny (model X.prog X.w) X.A (subscriptTail e (.Slice none none (some (.UnaryOp .USub (.Constant (.int 1) k p1) p2)) p3) (.str z t) (.ref s4.heap.objs.size)) (EP X pins σ Q) X.xe { s4 with heap := s4.heap.push { cls := .type "slice", data := .fields #[partValue none, partValue none, partValue (some (-1, tk))] } }
  refine tail_any (ops := [.str z t, .ref s4.heap.objs.size]) (typeIs_str _ _ _) F.slot_str_getitem.lookup ?_ (by with_unfolding_all rfl)
  obtain ⟨os, hos, hcs, hds⟩ := hsl
  refine wpAny_getItem_str_slice (l := none) (u := none) (st := some (-1, tk)) ⟨os, hos, hcs, hds⟩ rfl ?_
  show Made.post (if (((-1 : Int)) == 1 && (Builtin.Str.strSliceIndices none none (-1) z.length).length == z.length) = true then Made.val (.str z t)
    else Made.str ⟨((Builtin.Str.strSliceIndices none none (-1) z.length).filterMap (z.cps[·]?)).toArray⟩) (EP X pins σ Q) _
  rw [if_neg (fun h => by rw [show ((-1 : Int) == 1) = false from rfl, Bool.false_and] at h; cases h)]
  have e9 : (⟨((Builtin.Str.strSliceIndices none none (-1) z.length).filterMap (z.cps[·]?)).toArray⟩ : Str) = revS z := by
    unfold revS
    rw [← picked_all]
    rfl
  rw [e9]
  have hl9 : (revS z).length = z.length := by
    show (z.cps.toList.reverse.toArray).size = z.cps.size
    simp
  exact ⟨by rw [hl9]; exact hz, .str _, H4, I5.tok _, ⟨_, rfl⟩, q⟩
end

/-! ### e.replace of written texts, behind a written text -/
section
open PySem.Spec PyProof.Rows
def PEK (X : Cx) (e : Expr) (t : TE) : Prop := ∀ (pins : List (Addr × Obj)) (s : Shared) (σ : L2.St) (H : Hp) (Q : VK), Inv X pins σ H s → t σ H Q → wpAny (model X.prog X.w) X.A (eval e X.env) (fun v s' => 1 ≤ s'.toks ∧ EP X pins σ Q v s') X.xe s
variable {X : Cx}
theorem pek_str {c : Str} {j : Nat} {p : Pos} : PEK X (.Constant (.str c) j p) (tC (.str c)) := fun pins s σ H Q I h =>
  Calls.Constant_str ⟨Nat.le_add_left _ _, .str c, H, I.tok _, ⟨_, rfl⟩, h⟩
theorem pek_op {op : Operator} {r : R2} {e f : Expr} {te tf : TE} {pos : Pos} (ho : OpR X (binaryOp op) r) (ha : PEK X e te) (hb : PE X f tf) : PEK X (.BinOp e op f pos) (tOp r te tf) := by
  intro pins s σ H Q I h
  refine wpAny_BinOp (wpAny_mono (ha pins s σ H _ I h) (fun v s1 q => ?_) fun _ _ z => z)
  obtain ⟨hk, x, H1, I1, r1, q1⟩ := q
  refine wpAny_mono (PySem.wpAny_toks (hb.run pins s1 σ H1 _ I1 q1)) (fun u s2 q => ?_) fun _ _ z => z.2
  obtain ⟨hk2, y, H2, I2, r2, q2⟩ := q
  refine wpAny_mono (PySem.wpAny_toks (ho pins s2 σ H2 x y v u Q I2 r1 r2 q2)) (fun _ s3 q => ⟨?_, q.2⟩) fun _ _ z => z.2
  have := q.1
  omega
theorem pss_lstK {i : Nat} {x : Str} {e : Expr} {es : List Expr} {te : TE} {ta : TA} {rest : List Stmt} {u : TS} {p pos' pos : Pos} (hN : X.N.Nodup) (hi : X.N[i]? = some x) (hx : Loc X.env.scope x) (ha : PEK X e te) (hr : PAT X es ta) (h2 : PSsT X rest u)
    (hs0 : starEach (e :: es) X.env = (false, eval e X.env) :: starEach es X.env := by rfl) (hs : swapsWith (.List (e :: es) p) (some (.Name x pos')) pos.line X.env = pure false := by rfl) (hf : X.fn x = true ∨ X.env.scope.names.lookup x = some .local := by first | exact .inl rfl | exact .inr rfl | assumption) :
    PSs X (.Assign [.Name x pos'] (.List (e :: es) p) pos :: rest) (tSeq (tAsg (tLst (tCons te ta)) (gName i)) u) := by
  refine ⟨fun pins s σ H D I h => ?_⟩
  refine wpAny_execs_cons (wpAny_Assign_Name (wpAny_List_spliced ?_) hs)
  rw [hs0]
  show wpAny _ _ (spliced ((false, eval e X.env) :: backTo p (starEach es X.env))) _ _ s
  refine Calls.spliced_cons (wpAny_mono (ha pins s σ H _ I h) (fun v s1 q => ?_) fun _ _ z => z)
  obtain ⟨hk, y, H1, I1, r1, q1⟩ := q
  refine wpAny_mono (PySem.wpAny_toks (hr p pins s1 σ H1 _ hk I1 q1)) (fun us s2 q => ?_) fun _ _ z => z.2
  obtain ⟨hk2, xs, H2, I2, r2, z, q2⟩ := q
  have r3 : Vals (y :: xs) (v :: us) := .cons r1 r2
  refine ⟨by rw [← r3.length]; exact z, ?_⟩
  have hf2 : H2 s2.heap.objs.size = none := I2.hok.fresh (Nat.le_refl _)
  have I3 : Inv X pins σ (upd H2 s2.heap.objs.size (.lst (y :: xs))) { s2 with heap := _ } := I2.laid (t' := s2.toks) (fun b u e => Heap.get?_push_of_some _ e) (Nat.le_refl _) ⟨z, v :: us, 0, r3, Heap.get?_push_size _ rfl⟩
  refine wpAny_mono (PySem.wpAny_toks (store_ok (v := V.ref s2.heap.objs.size) (u := Value.ref s2.heap.objs.size) (Q := fun _ s3 => Inv X pins (σ.set i (some (V.ref s2.heap.objs.size))) (upd H2 s2.heap.objs.size (.lst (y :: xs))) s3) I3 hN hi hx rfl (fun _ I4 => I4) hf)) (fun _ s3 q => ?_) fun _ _ z => z.2
  have hk3 : s2.toks ≤ s3.toks := q.1
  exact h2 pins s3 _ _ D (by omega) q.2 (q2 _ hf2)
theorem pst_set {i : Nat} {x : Str} {e : Expr} {te : TE} {pos' pos : Pos} (hN : X.N.Nodup) (hi : X.N[i]? = some x) (hx : Loc X.env.scope x) (he : PET X e te)
    (hs : swapsWith e (some (.Name x pos')) pos.line X.env = pure false := by rfl) (hf : X.fn x = true ∨ X.env.scope.names.lookup x = some .local := by first | exact .inl rfl | exact .inr rfl | assumption) :
    PST X (.Assign [.Name x pos'] e pos) (tAsg te (gName i)) := by
  intro pins s σ H D h0 I h
  refine wpAny_Assign_Name (thn (he pins s σ H _ h0 I h) fun v s1 ⟨y, H1, I1, r1, q1⟩ => ?_) hs
  exact store_ok I1 hN hi hx r1 (fun s' I' => ⟨_, H1, I', q1⟩) hf
end

abbrev onlyK {α : Type} : List α → List α → List α := fun us ws => match us, ws with | [], ws => ws | _ :: _, _ => []
abbrev swap2 {α : Type} : List α → List α → List α := fun us ws => match us, ws with | [], [a, b] => [b, a] | us, ws => us ++ ws
section
variable {P : Program} {w : World} {K : PySem.W.Frag} {mg : Str → Option Value} {base : Heap} {f : Addr} {fd : FuncData}
def sp_mright : Sp := fun vs H Q _ => ∃ m g b, vs = [.ref m] ∧ MSt H m g b ∧ b < 2 ^ 50 ∧ ∀ H', Keep [m, g] H H' → MSt H' m g (b + 100) → Q (.bl true) H'
def pieces : List Str := [Str.ofString "7", Str.ofString "0", Str.ofString "a", Str.ofString "Z", Str.ofString "_", Str.ofString "-", Str.ofString " ", Str.ofString ".", Str.ofString "x9", Str.ofString "12"]
def wrds : List Str := [Str.ofString "a", Str.ofString "Zz_", Str.ofString "x_1", Str.ofString "q"]
theorem piece_ok : ∀ p ∈ pieces, p.cps.toList.length ≤ 2 ∧ (p.cps.toList.length = 2 → 45 ∉ p.cps.toList) ∧ ∀ c ∈ p.cps.toList, c < 128 := by decide +kernel
theorem wrd_ok : ∀ p ∈ wrds, p.length ≤ 3 ∧ isNm p = true ∧ isNm (p ++ p) = true := by decide +kernel
def flat (xs : List Str) : List Nat := xs.flatMap fun x => x.cps.toList
theorem fold_cps : ∀ (xs : List Str) (a : Str), (xs.foldl (· ++ ·) a).cps.toList = a.cps.toList ++ flat xs
  | [], a => by simp [flat]
  | x :: r, a => by
    rw [List.foldl_cons, fold_cps r, app_cps]
    simp [flat]
theorem join_cps (xs : List Str) : (Txt.join (Str.ofString "") xs).cps.toList = flat xs := by
  have h := join_foldl xs Str.empty
  rw [emp_app] at h
  rw [h, fold_cps]
  rfl
theorem flat_ok : ∀ {xs : List Str}, (∀ x ∈ xs, x ∈ pieces) → (flat xs).length ≤ 2 * xs.length ∧ ((flat xs).length = 2 * xs.length → 45 ∉ flat xs) ∧ ∀ c ∈ flat xs, c < 128
  | [], _ => by simp [flat]
  | x :: r, h => by
    obtain ⟨h1, h2, h3⟩ := flat_ok (xs := r) fun y hy => h y (by simp [hy])
    obtain ⟨g1, g2, g3⟩ := piece_ok x (h x (by simp))
    have e : flat (x :: r) = x.cps.toList ++ flat r := by simp [flat]
    rw [e, List.length_append, List.length_cons]
    refine ⟨by omega, fun hl => ?_, fun c hc => ?_⟩
    · rw [List.mem_append]
      rintro (hc | hc)
      · exact g2 (by omega) hc
      · exact h2 (by omega) hc
    · rcases List.mem_append.mp hc with hc | hc
      · exact g3 c hc
      · exact h3 c hc
theorem day_no {x : Str} (h : x.cps.toList.length = 10 → 45 ∉ x.cps.toList) : isDay x = false := by
  by_cases hl : x.cps.toList.length = 10
  · have : ¬ x.cps.toList[4]? = some 45 := fun e => h hl (List.mem_of_getElem? e)
    rw [isDay, decide_eq_false this]
    simp
  · rw [isDay, decide_eq_false hl, Bool.false_and]
theorem day_twice (x : Str) : isDay (x ++ x) = false := by
  unfold isDay
  rw [app_cps]
  by_cases hl : (x.cps.toList ++ x.cps.toList).length = 10
  · have h5 : x.cps.toList.length = 5 := by rw [List.length_append] at hl; omega
    generalize x.cps.toList = l at h5
    match l, h5 with
    | [a, b, c, d, e], _ =>
      simp only [List.cons_append, List.nil_append, List.getElem?_cons_succ, List.getElem?_cons_zero, List.take_succ_cons, List.take_zero, List.all_cons]
      by_cases h7 : some c = some 45
      · rw [show dig c = false by rw [Option.some.inj h7]; exact dig45]
        simp
      · rw [decide_eq_false h7]
        simp
  · rw [decide_eq_false hl, Bool.false_and]
theorem num_digs (n : Nat) : (Str.ofString (toString (n : Int))).cps.toList ≠ [] ∧ (Str.ofString (toString (n : Int))).cps.toList.all dig = true := by
  rw [num_cps]
  refine ⟨TL.numL_ne n, ?_⟩
  rw [List.all_eq_true]
  exact fun c hc => dig_of (TL.numL_digits n c hc)
theorem dig_name {c : Nat} (h : dig c = true) : nameC c = true ∧ c ∉ letters.cps.toList := by
  have h1 : ∀ k : Fin 10, nameC (48 + k.1) = true ∧ (48 + k.1) ∉ letters.cps.toList := by decide +kernel
  have h2 := dig_in h
  have h3 := h1 ⟨c - 48, by omega⟩
  have e : 48 + (c - 48) = c := by omega
  simp only [e] at h3
  exact h3
theorem digs_app {x y : Str} (h0 : x.cps.toList ≠ []) (hx : x.cps.toList.all dig = true) (hy : y.cps.toList.all dig = true) : isDigs (x ++ y) = true := by
  unfold isDigs
  rw [app_cps]
  cases hc : x.cps.toList with
  | nil => exact absurd hc h0
  | cons c r =>
    rw [hc] at hx
    show ((c :: r) ++ y.cps.toList).all dig = true
    rw [List.all_append, hx, hy]
    rfl
theorem nm_app {x y : Str} (hx : isNm x = true) (hy : y.cps.toList.all dig = true) : isNm (x ++ y) = true := by
  unfold isNm at hx ⊢
  rw [app_cps]
  cases hc : x.cps.toList with
  | nil => rw [hc] at hx; cases hx
  | cons c r =>
    rw [hc] at hx
    simp only [Bool.and_eq_true] at hx
    show (decide (c ∈ letters.cps.toList) && ((c :: r) ++ y.cps.toList).all nameC) = true
    rw [List.all_append, hx.1, hx.2, Bool.true_and, Bool.true_and, List.all_eq_true]
    exact fun d hd => (dig_name (List.all_eq_true.mp hy d hd)).1
theorem nm_no {x y : Str} (h0 : x.cps.toList ≠ []) (hx : x.cps.toList.all dig = true) : isNm (x ++ y) = false := by
  unfold isNm
  rw [app_cps]
  cases hc : x.cps.toList with
  | nil => exact absurd hc h0
  | cons c r =>
    rw [hc, List.all_cons, Bool.and_eq_true] at hx
    show (decide (c ∈ letters.cps.toList) && _) = false
    rw [decide_eq_false (dig_name hx.1).2, Bool.false_and]
structure JoI (m g : Addr) (b : Int) (H1 : Hp) (D : Addr) (i : Nat) (H' : Hp) : Prop where
  li : ∃ xs : List Str, xs.length = i ∧ (∀ x ∈ xs, x ∈ pieces) ∧ H' D = some (.lst (xs.map V.str)) ∧ Keep [m, g] H1 H' ∧ MSt H' m g (b + i)
theorem ok_joined (D : Def K mg "_law_joined_right" s_law_joined_right f fd) (B : Blt mg) (R_has_notation : Rdy P w K mg base 3 "has_notation" ["text", "notation"] sp_hasn) (RK_has_notation : RdyK P w K mg base 3 "has_notation" ["text", "notation"] ["text", "notation"] (fun vs zs => onlyK vs zs) sp_hasn) (RK2_has_notation : RdyK P w K mg base 3 "has_notation" ["text", "notation"] ["notation", "text"] (fun vs zs => swap2 vs zs) sp_hasn) (R_law_pick : Rdy P w K mg base 2 "_law_pick" ["_law_m", "_law_some"] sp_pick) (R_law_draw : Rdy P w K mg base 1 "_law_draw" ["_law_m", "_law_limit"] sp_draw) (R_law_line_right : RdyG P w K mg base 4 "_law_line_right" ["_law_line"] sp_lright) : FnG P w K mg base 5 f fd ["_law_m"] sp_mright := by
  refine okG D.1 sc_law_joined_right (fun vs H Q E h => ?_) (fun cdv A outer s H vs Q E hgd hr h => ?_)
  · obtain ⟨m, g, b, rfl, _⟩ := h
    rfl
  obtain ⟨m, g, b, rfl, hm, hb, q⟩ := h
  have hu := Room.u100 hr
  have hr1 : Room 1 _ := hr.mono (by omega)
  have hr2 : Room 2 _ := hr.mono (by omega)
  have hr3 : Room 3 _ := hr.mono (by omega)
  refine ⟨_, (pss_cons (ps_setLc (i := 1) (own := [("_law_turn", 6)]) (by rfl) sc_law_joined_right.nd rfl rfl (sw_true rfl rfl rfl (by decide +kernel)) (pi_range1 (by rfl) B.b_range (pa_cons (pe_c R_law_draw hr1 rfl (pa_cons (pv 0) (pa_cons pe_int pa_nil))) pa_nil)) (blkOk_by (own := [("_law_turn", 6)]) (N := ["_law_m", "_law_some", "_law_whole", "_law_numbers", "_law_word", "_law_joined", "_law_turn"]) (sc := defScope s_law_joined_right) (by decide +kernel)) (fun _ _ _ _ _ => (pg_name (i := 6) sc_law_joined_right.nd rfl (by first | exact Or.inl rfl | exact Or.inr rfl))) (fun _ _ _ _ _ => pts_nil) (fun _ _ _ _ _ => (pe_c R_law_pick hr2 rfl (pa_cons (pv 0) (pa_cons (pe_lst (pa_cons pe_str (pa_cons pe_str (pa_cons pe_str (pa_cons pe_str (pa_cons pe_str (pa_cons pe_str (pa_cons pe_str (pa_cons pe_str (pa_cons pe_str (pa_cons pe_str pa_nil))))))))))) pa_nil)))))
  (pss_cons (ps_set (i := 2) sc_law_joined_right.nd rfl (by first | exact Or.inl rfl | exact Or.inr rfl) (joinK (K := K) rfl pe_str (pv 1)))
  (pss_cons (ps_if (PW.pt (pw_or (pt_not (pt_val (pe_cg R_law_line_right hgd hr rfl (pa_cons (pv 2) pa_nil)))) (pw_or (pt_not (pt_val (pe_cg R_law_line_right hgd hr rfl (pa_cons (pe_revS (pv 2)) pa_nil)))) (pw_or1 (pt_not (pt_val (pe_cg R_law_line_right hgd hr rfl (pa_cons (pe_op op_add_str (pv 2) (pv 2)) pa_nil))))))))
   (pss_one (ps_ret pe_bl))
   pss_nil)
  (pss_cons (ps_par (i := 3) (j := 4) (by rfl) sc_law_joined_right.nd rfl rfl (by decide) rfl rfl (pa_cons (pe_callTy call_str_int (by rfl) B.b_str (by decide +kernel) (pa_cons (pe_c R_law_draw hr1 rfl (pa_cons (pv 0) (pa_cons pe_int pa_nil))) pa_nil)) (pa_cons (pe_c R_law_pick hr2 rfl (pa_cons (pv 0) (pa_cons (pe_lst (pa_cons pe_str (pa_cons pe_str (pa_cons pe_str (pa_cons pe_str pa_nil))))) pa_nil))) pa_nil)) (by rfl))
  (pss_cons (ps_if (pt_cmpR op_notBl (pe_ck0 R_has_notation hr3 rfl RK_has_notation (pk_cons (pe_op op_add_str (pv 3) (pv 3)) (pk_cons pe_str pk_nil))) pe_bl (nomark _))
   (pss_one (ps_ret pe_bl))
   pss_nil)
  (pss_cons (ps_set (i := 5) sc_law_joined_right.nd rfl (by first | exact Or.inl rfl | exact Or.inr rfl) (pe_lst (pa_cons (pe_c R_has_notation hr3 rfl (pa_cons (pe_op op_add_str (pv 4) (pv 3)) (pa_cons pe_str pa_nil))) (pa_cons (pe_c R_has_notation hr3 rfl (pa_cons (pe_op op_add_str (pv 4) (pv 4)) (pa_cons pe_str pa_nil))) pa_nil))))
  (pss_cons (ps_expr (pe_bm PySem.F.plainAttrs_list PySem.F.slot_list_append PySem.F.type_list_append mt_append (pv 5) (pa_cons (pe_c R_has_notation hr3 rfl (pa_cons (pe_op op_add_str (pv 3) (pv 4)) (pa_cons pe_str pa_nil))) pa_nil)))
  (pss_one (ps_ret (pe_and (pe_cmpR (eqDK (K := K) rfl hr.units) (pv 5) (pe_lst (pa_cons pe_bl (pa_cons pe_bl (pa_cons pe_bl pa_nil)))) (nomark _)) (pe_one (pe_cmpR op_isBl (pe_ck0 R_has_notation hr3 rfl RK2_has_notation (pk_cons (pe_str) (pk_cons (pv 4) pk_nil))) pe_bl (nomark _))))))))))))), ?_⟩
  refine cutM (fun σ' H' => ∃ (r : Addr) (xs : List Str), σ' = [some (V.ref m), some (V.ref r), none, none, none, none, none] ∧ xs.length ≤ 5 ∧ (∀ x ∈ xs, x ∈ pieces) ∧ H' r = some (.lst (xs.map V.str)) ∧ Keep [m, g] H H' ∧ MSt H' m g (b + 10)) (fun N hN => ?_) ?_
  · walk_at "rd"
    refine ⟨m, g, b, 6, rfl, hm, by omega, by decide, by decide, fun n H1 n0 n1 k1 m1 => ⟨n, rfl, by omega, by omega, ?_⟩⟩
    refine lc_itR walk_range (fun D i H' => JoI m g (b + 1) H1 D i H') (fun D hD => ⟨⟨[], rfl, by simp, upd_same, Keep.fresh (Keep.refl _ _) hD, by simpa using m1.same (same_new hD _)⟩⟩) (fun _ _ _ _ _ _ => trivial) ?_ ?_
    · rintro D i x H2 H3 hD hi ⟨⟨xs, hl, hx, eD, k3, m3⟩⟩ ⟨rfl, rfl⟩
      have hi' : i < 6 := by omega
      walk_at "rd"
      refine ⟨sz5 (by omega), fun p np => ⟨m, g, b + 1 + i, p, _, rfl, m3.same (same_new np _), by omega, upd_same, m3.ne np, by simp, by simp, fun v H4 hv k4 m4 => ?_⟩⟩
      obtain ⟨y, hy, rfl⟩ : ∃ y, y ∈ pieces ∧ v = .str y := by
        simp only [List.mem_cons, List.not_mem_nil, or_false] at hv
        rcases hv with rfl | rfl | rfl | rfl | rfl | rfl | rfl | rfl | rfl | rfl <;> exact ⟨_, by simp [pieces], rfl⟩
      have nD := m1.ne hD
      have eD4 : H4 D = some (.lst (xs.map V.str)) := k4 _ _ ((same_new np _) _ _ eD) nD
      refine ⟨_, eD4, sz5l (by simp; omega), ⟨⟨xs ++ [y], by simp [hl], ?_, by rw [upd_same]; simp, Keep.fresh ((k3.trans (.of (same_new np _))).trans k4) hD, ?_⟩⟩⟩
      · intro z hz
        rcases List.mem_append.mp hz with hz | hz
        · exact hx z hz
        · simp at hz; subst hz; exact hy
      · have m5 := m4.up (c := b + 1 + ((i + 1 : Nat) : Int)) (by omega)
        obtain ⟨a0, gs, sd, kk, rm, a1, a2, a3⟩ := m5
        have n1 : m ≠ D := fun z => nD (by simp [← z])
        have n2 : g ≠ D := fun z => nD (by simp [← z])
        exact ⟨a0, gs, sd, kk, rm, by rw [upd_ne n1]; exact a1, by rw [upd_ne n2]; exact a2, a3⟩
    · rintro D H' hD ⟨⟨xs, hl, hx, eD, k3, m3⟩⟩
      exact hN _ _ ⟨D, xs, rfl, by omega, hx, eD, k1.trans k3, m3.up (by omega)⟩
  rintro σ' H1 ⟨r, xs, rfl, hl5, hxp, er, k1, m1⟩
  obtain ⟨f1, f2, f3⟩ := flat_ok hxp
  have ew := join_cps xs
  have hsum : ∀ ys : List Str, (ys.map (·.length)).sum = (flat ys).length := by
    intro ys
    induction ys with
    | nil => rfl
    | cons y r ih =>
      rw [List.map_cons, List.sum_cons, ih, show flat (y :: r) = y.cps.toList ++ flat r by simp [flat], List.length_append]
      rfl
  have lw : (Txt.join (Str.ofString "") xs).length = (flat xs).length := by
    show (Txt.join (Str.ofString "") xs).cps.size = _
    rw [← Array.length_toList, ew]
  have le0 : (Str.ofString "").length = 0 := by decide +kernel
  refine cutM (fun σ' H' => H' = H1 ∧ ∃ x : Str, σ' = [some (V.ref m), some (V.ref r), some (V.str x), none, none, none, none] ∧ x.cps.toList = flat xs ∧ x.length ≤ 10) (fun N hN => ?_) ?_
  · walk_at "rd"
    exact ⟨_, r, xs, rfl, rfl, .inl (SqL.of er), by rw [hsum, le0]; omega, hN _ _ ⟨rfl, _, rfl, ew, by omega⟩⟩
  rintro σ' H9 ⟨e9, x, rfl, ex, lx⟩
  rw [e9]
  clear e9 H9 ew lw
  have ax : AsciiS x := fun c hc => f3 c (by rw [← ex]; exact hc)
  have lxl : x.cps.toList.length = x.length := rfl
  have dx : isDay x = false := day_no fun h => by rw [ex] at h ⊢; exact f2 (by omega)
  have er1 : (revS x).cps.toList = x.cps.toList.reverse := by simp [revS]
  have lrx : (revS x).length = x.length := by
    show (revS x).cps.size = _
    rw [← Array.length_toList, er1, List.length_reverse]
    rfl
  have drx : isDay (revS x) = false := day_no fun h => by
    rw [er1, List.mem_reverse]
    rw [er1, List.length_reverse] at h
    rw [ex] at h ⊢
    exact f2 (by omega)
  have arx : AsciiS (revS x) := fun c hc => by
    rw [er1, List.mem_reverse] at hc
    exact ax c hc
  have axx : AsciiS (x ++ x) := fun c hc => by
    rw [app_cps] at hc
    rcases List.mem_append.mp hc with hc | hc <;> exact ax c hc
  refine cutM (fun σ' H' => Same H1 H' ∧ σ' = [some (V.ref m), some (V.ref r), some (V.str x), none, none, none, none]) (fun N hN => ?_) ?_
  · walk_at "rd"
    refine ⟨x, rfl, by omega, ax, dx, fun H2 s2 => ⟨_, rfl, iteF' (by simp) ⟨_, rfl, x, rfl, sz5 (by omega), revS x, rfl, by omega, arx, drx, fun H3 s3 => ⟨_, rfl, iteF' (by simp) ⟨sz5 (by omega), x ++ x, rfl, by rw [len_app]; omega, axx, day_twice x, fun H4 s4 => ⟨_, rfl, iteF' (by simp) (hN _ _ ⟨(s2.trans s3).trans s4, rfl⟩)⟩⟩⟩⟩⟩⟩
  rintro σ' H2 ⟨s2, rfl⟩
  have m2 := m1.same s2
  have k2 := k1.trans (.of (S := [m, g]) s2)
  walk_at "rd"
  refine ⟨m, g, b + 10, 100000, rfl, m2, by omega, by decide, by decide, fun n H3 n0 n1 k3 m3 => ⟨n, rfl, ?_⟩⟩
  obtain ⟨n, rfl⟩ : ∃ j : Nat, n = j := ⟨n.toNat, by omega⟩
  obtain ⟨g1, g2⟩ := num_digs n
  have ln := int_len (i := (n : Int)) (by omega)
  refine ⟨int_log (by omega), sz5 (by omega), fun p np => ⟨m, g, b + 11, p, _, rfl, (m3.same (same_new np _)).up (by omega), by omega, upd_same, m3.ne np, by simp, by simp, fun v H4 hv k4 m4 => ?_⟩⟩
  obtain ⟨y, hy, rfl⟩ : ∃ y, y ∈ wrds ∧ v = .str y := by
    simp only [List.mem_cons, List.not_mem_nil, or_false] at hv
    rcases hv with rfl | rfl | rfl | rfl <;> exact ⟨_, by simp [wrds], rfl⟩
  obtain ⟨w1, w2, w3⟩ := wrd_ok y hy
  generalize Str.ofString (toString (n : Int)) = z at g1 g2 ln ⊢
  have k5 : Keep [m, g] H H4 := (k2.trans k3).trans ((Keep.of (same_new np _)).trans k4)
  refine ⟨sz5 (by omega), ?_⟩
  refine ⟨_, _, rfl, by rw [len_app]; omega, .inr (.inl ⟨rfl, fun H5 s5 => ⟨_, _, rfl, rfl, _, rfl, ?_⟩⟩)⟩
  rw [digs_app g1 g2 g2]
  refine iteF' (by simp) ⟨y, rfl, sz5 (by omega), _, _, rfl, by rw [len_app]; omega, .inr (.inr ⟨rfl, fun H6 s6 => ?_⟩)⟩
  rw [nm_app w2 g2]
  refine ⟨y, rfl, y, rfl, sz5 (by omega), _, _, rfl, by rw [len_app]; omega, .inr (.inr ⟨rfl, fun H7 s7 => ⟨sz5 (by omega), fun p1 np1 => ?_⟩⟩)⟩
  rw [w3]
  refine ⟨.inl ⟨rfl, _, SqL.of upd_same⟩, y, rfl, sz5 (by omega), _, _, rfl, by rw [len_app]; omega, .inr (.inr ⟨rfl, fun H8 s8 => ?_⟩)⟩
  rw [nm_no g1 g2]
  have e8 := s8 _ _ (upd_same (H := H7) (a := p1) (o := .lst [V.bl true, V.bl true]))
  refine ⟨p1, _, _, rfl, rfl, e8, sz5l (by simp), sz5 (by omega), fun p2 np2 => ?_⟩
  have e9 := (same_new np2 (.lst [V.bl true, V.bl true, V.bl false])) _ _ (upd_same (H := H8) (a := p1) (o := .lst ([V.bl true, V.bl true] ++ [V.bl false])))
  refine ⟨_, _, Dp_bls (xs := [true, true, false]) e9, Dp_bls (xs := [true, true, false]) upd_same, by decide +kernel, by decide +kernel, _, rfl, iteT' (by decide +kernel) ⟨y, _, rfl, by omega, .inr (.inr ⟨rfl, fun H9 s9 => ⟨_, _, rfl, rfl, ?_⟩⟩)⟩⟩
  rw [w2]
  have sE := same_mut (o := .lst ([V.bl true, V.bl true] ++ [V.bl false])) (((s5.trans s6).trans s7).trans ((same_new np1 _).trans s8)) (same_none ((s5.trans s6).trans s7) np1)
  have sF := (sE.trans (same_new np2 _)).trans s9
  exact q _ (k5.trans (.of sF)) ((m4.same sF).up (by omega))
def fronts : List Str := [Str.ofString "2024", Str.ofString "0400", Str.ofString "1999", Str.ofString "9999"]
def backs : List Str := [Str.ofString "-02-28", Str.ofString "-12-31", Str.ofString "-01-01"]
theorem fr_len : ∀ x ∈ fronts, x.length = 4 := by decide +kernel
theorem bk_len : ∀ x ∈ backs, x.length = 6 := by decide +kernel
def okLine (x : Str) : Bool := !isDay x && (decide (x.length ≤ 1000) && x.cps.toList.all fun c => decide (c < 128))
def linesOf (f b : Str) : List Str := [Str.ofString " " ++ f ++ b, f ++ b ++ Str.ofString " ", Str.ofString "0" ++ f ++ b, cutS f (some 1) none ++ b, f ++ cutS b none (some 4), f] ++
  [f ++ Txt.replace b (Str.ofString "-") (Str.ofString "/"), f ++ Txt.replace b (Str.ofString "-") (Str.ofString ""), f ++ b ++ Str.ofString "-01", Str.ofString "-" ++ b] ++
  [f ++ Str.ofString "-1-01", f ++ Str.ofString "-01-1", f ++ cutS b none (some 4) ++ Str.ofString "x1", Str.ofString "a" ++ cutS f (some 1) none ++ b] ++ [Str.ofString "+" ++ cutS f (some 1) none ++ b]
theorem rep_len : ∀ b ∈ backs, (Txt.replace b (Str.ofString "-") (Str.ofString "/")).length ≤ 10 ∧ (Txt.replace b (Str.ofString "-") (Str.ofString "")).length ≤ 10 := by decide +kernel
theorem spoilt_all : ∀ f ∈ fronts, ∀ b ∈ backs, ((linesOf f b).all okLine && isDay (f ++ b)) = true := by decide +kernel
theorem ok_spoilt (D : Def K mg "_law_spoilt_right" s_law_spoilt_right f fd) (B : Blt mg) (R_has_notation : Rdy P w K mg base 3 "has_notation" ["text", "notation"] sp_hasn) (R_law_pick : Rdy P w K mg base 2 "_law_pick" ["_law_m", "_law_some"] sp_pick) (R_law_line_right : RdyG P w K mg base 4 "_law_line_right" ["_law_line"] sp_lright) : FnG P w K mg base 5 f fd ["_law_m"] sp_mright := by
  refine okG D.1 sc_law_spoilt_right (fun vs H Q E h => ?_) (fun cdv A outer s H vs Q E hgd hr h => ?_)
  · obtain ⟨m, g, b, rfl, _⟩ := h
    rfl
  obtain ⟨m, g, b, rfl, hm, hb, q⟩ := h
  have hu := Room.u100 hr
  have hr2 : Room 2 _ := hr.mono (by omega)
  have hr3 : Room 3 _ := hr.mono (by omega)
  refine ⟨_, (pss_cons (ps_par (i := 1) (j := 2) (by rfl) sc_law_spoilt_right.nd rfl rfl (by decide) rfl rfl (pa_cons (pe_c R_law_pick hr2 rfl (pa_cons (pv 0) (pa_cons (pe_lst (pa_cons pe_str (pa_cons pe_str (pa_cons pe_str (pa_cons pe_str pa_nil))))) pa_nil))) (pa_cons (pe_c R_law_pick hr2 rfl (pa_cons (pv 0) (pa_cons (pe_lst (pa_cons pe_str (pa_cons pe_str (pa_cons pe_str pa_nil)))) pa_nil))) pa_nil)) (by rfl))
  (pss_lstK (i := 3) sc_law_spoilt_right.nd rfl (by first | exact Or.inl rfl | exact Or.inr rfl) (pek_op op_add_str (pek_op op_add_str pek_str (pv 1)) (pv 2)) (pat_cons (CwR.PET.of (pe_op op_add_str (pe_op op_add_str (pv 1) (pv 2)) pe_str)) (pat_cons (CwR.PET.of (pe_op op_add_str (pe_op op_add_str pe_str (pv 1)) (pv 2))) (pat_cons (CwR.PET.of (pe_op op_add_str (pe_slice sl_str (pv 1) (po_some pe_int) po_none) (pv 2))) (pat_cons (CwR.PET.of (pe_op op_add_str (pv 1) (pe_slice sl_str (pv 2) po_none (po_some pe_int)))) (pat_cons (CwR.PET.of (pv 1)) pat_nil)))))
  (psst_cons (pst_set (i := 3) sc_law_spoilt_right.nd rfl (by first | exact Or.inl rfl | exact Or.inr rfl) (CwR.pet_op op_cat (CwR.PET.of (pv 3)) (pet_lst (pat_cons (CwR.pet_op op_add_str (CwR.PET.of (pv 1)) (CwR.pet_replC (pv 2))) (pat_cons (CwR.pet_op op_add_str (CwR.PET.of (pv 1)) (CwR.pet_replC (pv 2))) (pat_cons (CwR.PET.of (pe_op op_add_str (pe_op op_add_str (pv 1) (pv 2)) pe_str)) (pat_cons (CwR.PET.of (pe_op op_add_str pe_str (pv 2))) pat_nil)))))))
  (PSsT.of (pss_cons (ps_set (i := 3) sc_law_spoilt_right.nd rfl (by first | exact Or.inl rfl | exact Or.inr rfl) (pe_op op_cat (pv 3) (pe_lst (pa_cons (pe_op op_add_str (pv 1) pe_str) (pa_cons (pe_op op_add_str (pv 1) pe_str) (pa_cons (pe_op op_add_str (pe_op op_add_str (pv 1) (pe_slice sl_str (pv 2) po_none (po_some pe_int))) pe_str) (pa_cons (pe_op op_add_str (pe_op op_add_str pe_str (pe_slice sl_str (pv 1) (po_some pe_int) po_none)) (pv 2)) pa_nil)))))))
  (pss_cons (ps_expr (pe_bm PySem.F.plainAttrs_list PySem.F.slot_list_append PySem.F.type_list_append mt_append (pv 3) (pa_cons (pe_op op_add_str (pe_op op_add_str pe_str (pe_slice sl_str (pv 1) (po_some pe_int) po_none)) (pv 2)) pa_nil)))
  (pss_one (ps_ret (pe_and (pe_cmpR (eqDK (K := K) rfl hr.units) (pe_lc (own := [("_law_line", 4)]) (by rfl) sc_law_spoilt_right.nd (pi_list (pv 3)) (blkOk_by (own := [("_law_line", 4)]) (N := ["_law_m", "_law_front", "_law_back", "_law_some", "_law_line"]) (sc := defScope s_law_spoilt_right) (by decide +kernel)) (fun _ _ _ _ _ => (pg_name (i := 4) sc_law_spoilt_right.nd rfl (by first | exact Or.inl rfl | exact Or.inr rfl))) (fun _ _ _ _ _ => (pts_one (pt_not (pt_val (pe_cg R_law_line_right hgd hr rfl (pa_cons (pv 4) pa_nil)))))) (fun _ _ _ _ _ => pe_int)) (pe_lst pa_nil) (nomark _)) (pe_one (pe_cmpR op_isBl (pe_c R_has_notation hr3 rfl (pa_cons (pe_op op_add_str (pv 1) (pv 2)) (pa_cons pe_str pa_nil))) pe_bl (nomark _)))))))))))), ?_⟩
  refine cutM (fun σ' H' => ∃ fr bk, fr ∈ fronts ∧ bk ∈ backs ∧ σ' = [some (V.ref m), some (V.str fr), some (V.str bk), none, none] ∧ Keep [m, g] H H' ∧ MSt H' m g (b + 2)) (fun N hN => ?_) ?_
  · walk_at "rd"
    refine ⟨sz5 (by omega), fun p np => ⟨m, g, b, p, _, rfl, hm.same (same_new np _), by omega, upd_same, hm.ne np, by simp, by simp, fun v H1 hv k1 m1 => ⟨sz5 (by omega), fun p2 np2 => ⟨m, g, b + 1, p2, _, rfl, m1.same (same_new np2 _), by omega, upd_same, m1.ne np2, by simp, by simp, fun v2 H2 hv2 k2 m2 => ?_⟩⟩⟩⟩
    obtain ⟨fr, hf, rfl⟩ : ∃ fr, fr ∈ fronts ∧ v = .str fr := by
      simp only [List.mem_cons, List.not_mem_nil, or_false] at hv
      rcases hv with rfl | rfl | rfl | rfl <;> exact ⟨_, by simp [fronts], rfl⟩
    obtain ⟨bk, hk, rfl⟩ : ∃ bk, bk ∈ backs ∧ v2 = .str bk := by
      simp only [List.mem_cons, List.not_mem_nil, or_false] at hv2
      rcases hv2 with rfl | rfl | rfl <;> exact ⟨_, by simp [backs], rfl⟩
    exact hN _ _ ⟨fr, bk, hf, hk, rfl, ((Keep.of (same_new np _)).trans k1).trans ((Keep.of (same_new np2 _)).trans k2), by rw [show b + 2 = b + 1 + 1 by omega]; exact m2⟩
  rintro σ' H1 ⟨fr, bk, hf, hk, rfl, k1, m1⟩
  have lf := fr_len fr hf
  have lk := bk_len bk hk
  have hall := spoilt_all fr hf bk hk
  have lr := rep_len bk hk
  have c1 := cutS_length fr (some 1) none
  have c2 := cutS_length bk none (some 4)
  have e1 : (Str.ofString " ").length = 1 := by decide +kernel
  have e2 : (Str.ofString "0").length = 1 := by decide +kernel
  have e3 : (Str.ofString "-01").length = 3 := by decide +kernel
  have e4 : (Str.ofString "-").length = 1 := by decide +kernel
  have e5 : (Str.ofString "-1-01").length = 5 := by decide +kernel
  have e6 : (Str.ofString "-01-1").length = 5 := by decide +kernel
  have e7 : (Str.ofString "x1").length = 2 := by decide +kernel
  have e8 : (Str.ofString "a").length = 1 := by decide +kernel
  have e9 : (Str.ofString "+").length = 1 := by decide +kernel
  have e10 : (Str.ofString "/").length = 1 := by decide +kernel
  have e11 : (Str.ofString "").length = 0 := by decide +kernel
  walk_at "rd"
  refine ⟨sz5 (by (try simp only [len_app, List.length_cons, List.length_nil]); omega), sz5 (by (try simp only [len_app, List.length_cons, List.length_nil]); omega), sz5 (by (try simp only [len_app, List.length_cons, List.length_nil]); omega), sz5 (by (try simp only [len_app, List.length_cons, List.length_nil]); omega), sz5 (by (try simp only [len_app, List.length_cons, List.length_nil]); omega), sz5 (by (try simp only [len_app, List.length_cons, List.length_nil]); omega), fr, rfl, sz5 (by (try simp only [len_app, List.length_cons, List.length_nil]); omega), _, rfl, sz5 (by (try simp only [len_app, List.length_cons, List.length_nil]); omega), bk, rfl, sz5 (by (try simp only [len_app, List.length_cons, List.length_nil]); omega), _, rfl, sz5 (by (try simp only [len_app, List.length_cons, List.length_nil]); omega), sz5 (by (try simp only [len_app, List.length_cons, List.length_nil]); omega), fun p np => ?_⟩
  refine ⟨_, rfl, bk, rfl, by rw [lk, e10]; decide, _, rfl, sz5 (by (try simp only [len_app, List.length_cons, List.length_nil]); omega), _, rfl, bk, rfl, by rw [lk, e11]; decide, _, rfl, sz5 (by (try simp only [len_app, List.length_cons, List.length_nil]); omega), sz5 (by (try simp only [len_app, List.length_cons, List.length_nil]); omega), sz5 (by (try simp only [len_app, List.length_cons, List.length_nil]); omega), sz5 (by (try simp only [len_app, List.length_cons, List.length_nil]); omega), sz5 (by (try simp only [len_app, List.length_cons, List.length_nil]); omega), fun p1 np1 => ?_⟩
  have s1 := same_new np1 (.lst [V.str (fr ++ Txt.replace bk (Str.ofString "-") (Str.ofString "/")), V.str (fr ++ Txt.replace bk (Str.ofString "-") (Str.ofString "")), V.str (fr ++ bk ++ Str.ofString "-01"), V.str (Str.ofString "-" ++ bk)])
  refine ⟨p, p1, _, _, rfl, rfl, s1 _ _ upd_same, upd_same, sz5 (by (try simp only [len_app, List.length_cons, List.length_nil]); omega), fun r nr => ?_⟩
  refine ⟨sz5 (by (try simp only [len_app, List.length_cons, List.length_nil]); omega), sz5 (by (try simp only [len_app, List.length_cons, List.length_nil]); omega), bk, rfl, sz5 (by (try simp only [len_app, List.length_cons, List.length_nil]); omega), _, rfl, sz5 (by (try simp only [len_app, List.length_cons, List.length_nil]); omega), sz5 (by (try simp only [len_app, List.length_cons, List.length_nil]); omega), fr, rfl, sz5 (by (try simp only [len_app, List.length_cons, List.length_nil]); omega), _, rfl, sz5 (by (try simp only [len_app, List.length_cons, List.length_nil]); omega), sz5 (by (try simp only [len_app, List.length_cons, List.length_nil]); omega), sz5 (by (try simp only [len_app, List.length_cons, List.length_nil]); omega), fun p2 np2 => ?_⟩
  have s2 := same_new np2 (.lst [V.str (fr ++ Str.ofString "-1-01"), V.str (fr ++ Str.ofString "-01-1"), V.str (fr ++ cutS bk none (some 4) ++ Str.ofString "x1"), V.str (Str.ofString "a" ++ cutS fr (some 1) none ++ bk)])
  refine ⟨r, p2, _, _, rfl, rfl, s2 _ _ upd_same, upd_same, sz5 (by simp), fun r2 nr2 => ⟨.inl ⟨rfl, _, SqL.of upd_same⟩, fr, rfl, sz5 (by (try simp only [len_app, List.length_cons, List.length_nil]); omega), _, rfl, sz5 (by (try simp only [len_app, List.length_cons, List.length_nil]); omega), sz5 (by (try simp only [len_app, List.length_cons, List.length_nil]); omega), r2, _, _, rfl, rfl, upd_same, sz5l (by simp), r2, rfl, ?_⟩⟩
  have sC := ((same_new np _).trans s1).trans ((same_new nr _).trans s2)
  have sD := same_mut (p := r2) (sC.trans (same_new nr2 (.lst ([V.str (Str.ofString " " ++ fr ++ bk), V.str (fr ++ bk ++ Str.ofString " "), V.str (Str.ofString "0" ++ fr ++ bk), V.str (cutS fr (some 1) none ++ bk), V.str (fr ++ cutS bk none (some 4)), V.str fr] ++ [V.str (fr ++ Txt.replace bk (Str.ofString "-") (Str.ofString "/")), V.str (fr ++ Txt.replace bk (Str.ofString "-") (Str.ofString "")), V.str (fr ++ bk ++ Str.ofString "-01"), V.str (Str.ofString "-" ++ bk)] ++ [V.str (fr ++ Str.ofString "-1-01"), V.str (fr ++ Str.ofString "-01-1"), V.str (fr ++ cutS bk none (some 4) ++ Str.ofString "x1"), V.str (Str.ofString "a" ++ cutS fr (some 1) none ++ bk)])))) (o := .lst ((linesOf fr bk).map V.str)) (same_none sC nr2)
  have key : ∀ Hx : Hp, Same H1 Hx → Hx r2 = some (.lst ((linesOf fr bk).map V.str)) → (∃ xs, SqL K Hx r2 xs) ∧ LcR (Itl K r2) (gName 4) (tNot (tB (tCall sp_lright [] E0 (tCons (tVar 4) tNil)))) (tC (V.int 1)) [4] [some (V.ref m), some (V.str fr), some (V.str bk), some (V.ref r2), none] Hx fun x H1 =>
      0 ≤ sizeLine ∧ ∀ (p : Addr), H1 p = none → rEqD K x (V.ref p) (upd H1 p (HO.lst [])) fun x H1 => ∃ c, x = V.bl c ∧ if c = true then fr.length + bk.length ≤ sizeLine ∧ sp_hasn [V.str (fr ++ bk), V.str (Str.ofString "day")] H1 (fun x H1 => rIsB x (V.bl true) H1 Q) E0 else Q (V.bl false) H1 := by
    intro Hx sx ex
    refine ⟨⟨_, SqL.of ex⟩, ?_⟩
    refine lc_itR (walk_list (xs := (linesOf fr bk).map V.str)) (fun D i H' => Same Hx H' ∧ H' D = some (.lst [])) (fun D hD => ⟨same_new hD _, upd_same⟩) (fun D i H' _ _ h => SqL.of (h.1 _ _ ex)) ?_ ?_
    · rintro D i x H2 H3 hD hi ⟨s3, eD⟩ ⟨rfl, hx⟩
      rw [List.getElem?_map, Option.map_eq_some_iff] at hx
      obtain ⟨y, hy, rfl⟩ := hx
      have ho := List.all_eq_true.mp (Bool.and_eq_true_iff.mp hall).1 y (List.mem_of_getElem? hy)
      simp only [okLine, Bool.and_eq_true, Bool.not_eq_true', decide_eq_true_eq, List.all_eq_true] at ho
      walk_at "rd"
      refine ⟨y, rfl, ho.2.1, fun c hc => ho.2.2 c hc, ho.1, fun H4 s4 => ⟨_, rfl, ?_⟩⟩
      exact iteF' (by simp) ⟨s3.trans s4, s4 _ _ eD⟩
    · rintro D H' hD ⟨s3, eD⟩
      refine ⟨Nat.zero_le _, fun p np => ⟨_, _, Dp_strs (xs := []) ((same_new np _) _ _ eD), Dp_strs (xs := []) upd_same, rfl, rfl, _, rfl, iteT' rfl ⟨sz5 (by (try simp only [len_app, List.length_cons, List.length_nil]); omega), _, _, rfl, by (try simp only [len_app]); omega, .inl ⟨rfl, fun H4 s4 => ⟨_, _, rfl, rfl, ?_⟩⟩⟩⟩⟩
      rw [(Bool.and_eq_true_iff.mp hall).2]
      have k5 := k1.trans (.of (S := [m, g]) ((sx.trans s3).trans ((same_new np _).trans s4)))
      exact q _ k5 ((m1.same ((sx.trans s3).trans ((same_new np _).trans s4))).up (by omega))
  exact key _ sD upd_same
end

/-! ### law -/
def sp_law (K : PySem.W.Frag) : Sp := fun vs H Q _ => ∃ a ns, vs = [.ref a] ∧ Scr K H a ns ∧ ns.length ≤ 63 ∧ ∀ H', Q (.bl true) H'
section
variable {P : Program} {w : World} {K : PySem.W.Frag} {mg : Str → Option Value} {base : Heap} {f : Addr} {fd : FuncData}
theorem ok_law (D : Def K mg "law" s_law f fd) (B : Blt mg) (R_law_begun : Rdy P w K mg base 1 "_law_begun" ["_law_script"] (sp_begun K)) (R_law_pick : Rdy P w K mg base 2 "_law_pick" ["_law_m", "_law_some"] sp_pick) (R_law_draw : Rdy P w K mg base 1 "_law_draw" ["_law_m", "_law_limit"] sp_draw) (R_law_letters : Rdy P w K mg base 1 "_law_letters" [] sp_lett)
    (R_law_year_right : RdyG P w K mg base 4 "_law_year_right" ["_law_year"] sp_yright) (R_law_line_right : RdyG P w K mg base 4 "_law_line_right" ["_law_line"] sp_lright) (R_law_joined_right : RdyG P w K mg base 5 "_law_joined_right" ["_law_m"] sp_mright) (R_law_spoilt_right : RdyG P w K mg base 5 "_law_spoilt_right" ["_law_m"] sp_mright) : FnG P w K mg base 6 f fd ["_law_script"] (sp_law K) := by
  refine okG D.1 sc_law (fun vs H Q E h => ?_) (fun cdv A outer s H vs Q E hgd hr h => ?_)
  · obtain ⟨a, ns, rfl, _⟩ := h
    rfl
  obtain ⟨a, ns, rfl, hs, h63, q⟩ := h
  have hu := Room.u100 hr
  have hr1 : Room 1 _ := hr.mono (by omega)
  have hr2 : Room 2 _ := hr.mono (by omega)
  have hr4 : Room 4 _ := hr.mono (by omega)
  refine ⟨_, (pss_cons (ps_set (i := 1) sc_law.nd rfl (by first | exact Or.inl rfl | exact Or.inr rfl) (pe_c R_law_begun hr1 rfl (pa_cons (pv 0) pa_nil)))
  (pss_cons (ps_for PassesOwn.never rfl (pi_range1 (by rfl) B.b_range (pa_cons (pe_op op_add pe_int (pe_callB (call_min2 rfl) (by rfl) B.b_min (by decide +kernel) (pa_cons pe_int (pa_cons (pe_callB (lenK (K := K) rfl) (by rfl) B.b_len (by decide +kernel) (pa_cons (pv 0) pa_nil)) pa_nil)))) pa_nil)) (pg_name (i := 2) sc_law.nd rfl (by first | exact Or.inl rfl | exact Or.inr rfl))
   (pss_cons (ps_set (i := 3) sc_law.nd rfl (by first | exact Or.inl rfl | exact Or.inr rfl) (pe_c R_law_pick hr2 rfl (pa_cons (pv 1) (pa_cons (pe_lst (pa_cons pe_int (pa_cons pe_int (pa_cons pe_int (pa_cons pe_int (pa_cons pe_int (pa_cons pe_int (pa_cons pe_int (pa_cons pe_int (pa_cons pe_int (pa_cons (pe_c R_law_draw hr1 rfl (pa_cons (pv 1) (pa_cons pe_int pa_nil))) pa_nil))))))))))) pa_nil))))
  (pss_cons (ps_if (pt_not (pt_val (pe_cg R_law_year_right hgd hr4 rfl (pa_cons (pv 3) pa_nil))))
   (pss_one (ps_ret pe_bl))
   pss_nil)
  (pss_one (ps_for PassesOwn.never rfl (pi_range1 (by rfl) B.b_range (pa_cons pe_int pa_nil)) (pg_name (i := 4) sc_law.nd rfl (by first | exact Or.inl rfl | exact Or.inr rfl))
   (pss_one (ps_if (PW.pt (pw_or (pt_not (pt_val (pe_cg R_law_joined_right hgd hr rfl (pa_cons (pv 1) pa_nil)))) (pw_or1 (pt_not (pt_val (pe_cg R_law_spoilt_right hgd hr rfl (pa_cons (pv 1) pa_nil)))))))
   (pss_one (ps_ret pe_bl))
   pss_nil)))))))
  (pss_cons (ps_set (i := 5) sc_law.nd rfl (by first | exact Or.inl rfl | exact Or.inr rfl) (pe_op op_add_str pe_str (pe_c0 R_law_letters hr1 rfl)))
  (pss_cons (ps_for PassesOwn.never rfl (pi_str (pv 5)) (pg_name (i := 6) sc_law.nd rfl (by first | exact Or.inl rfl | exact Or.inr rfl))
   (pss_one (ps_if (pt_cmpR (neDK (K := K) rfl hr.units) (pe_lc (own := [("_law_line", 7)]) (by rfl) sc_law.nd (pi_tup (pe_tup (pa_cons (pv 6) (pa_cons (pe_op op_add_str pe_str (pv 6)) (pa_cons (pe_op op_add_str (pv 6) pe_str) (pa_cons (pe_op op_add_str pe_str (pv 6)) (pa_cons (pe_op op_add_str (pv 6) pe_str) pa_nil))))))) (blkOk_by (own := [("_law_line", 7)]) (N := ["_law_script", "_law_m", "_law_bout", "_law_year", "_law_turn", "_law_marks", "_law_sign", "_law_line"]) (sc := defScope s_law) (by decide +kernel)) (fun _ _ _ _ _ => (pg_name (i := 7) sc_law.nd rfl (by first | exact Or.inl rfl | exact Or.inr rfl))) (fun _ _ _ _ _ => (pts_one (pt_not (pt_val (pe_cg R_law_line_right hgd hr4 rfl (pa_cons (pv 7) pa_nil)))))) (fun _ _ _ _ _ => pe_int)) (pe_lst pa_nil) (nomark _))
   (pss_one (ps_ret pe_bl))
   pss_nil)))
  (pss_cons (ps_if (PW.pt (pw_or (pt_not (pt_val (pe_cg R_law_year_right hgd hr4 rfl (pa_cons pe_int pa_nil)))) (pw_or (pt_not (pt_val (pe_cg R_law_year_right hgd hr4 rfl (pa_cons pe_int pa_nil)))) (pw_or1 (pt_not (pt_val (pe_cg R_law_line_right hgd hr4 rfl (pa_cons pe_str pa_nil))))))))
   (pss_one (ps_ret pe_bl))
   pss_nil)
  (pss_one (ps_ret (pe_and (pe_cg R_law_line_right hgd hr4 rfl (pa_cons pe_str pa_nil)) (pe_and (pe_cg R_law_line_right hgd hr4 rfl (pa_cons (pe_op op_mul_str pe_str pe_int) pa_nil)) (pe_one (pe_cg R_law_line_right hgd hr4 rfl (pa_cons (pe_op op_mul_str pe_str pe_int) pa_nil)))))))))))), ?_⟩
  walk_at "rd"
  refine ⟨a, ns, rfl, hs, h63, fun m g H1 s1 nm ng m1 => ⟨_, .inl ⟨_, (hs.same s1).sq, rfl⟩, ?_⟩⟩
  rw [List.length_map]
  have hmin : (0 : Int) ≤ (if (ns.length : Int) < 3 then (ns.length : Int) else 3) ∧ (if (ns.length : Int) < 3 then (ns.length : Int) else 3) ≤ 3 := by split <;> omega
  generalize (if (ns.length : Int) < 3 then (ns.length : Int) else 3) = mm at hmin ⊢
  refine ⟨by omega, by omega, ?_⟩
  obtain ⟨t, ht⟩ : ∃ t : Nat, (2 + mm).toNat = t := ⟨_, rfl⟩
  rw [ht]
  have ht2 : t ≤ 5 := by omega
  refine fo_it walk_range (fun i σ' H' => MSt H' m g (10000 * i) ∧ ∃ v2 v3 v4 v5 v6 v7, σ' = [some (V.ref a), some (V.ref m), v2, v3, v4, v5, v6, v7]) ⟨by simpa using m1, none, none, none, none, none, none, rfl⟩ (fun _ _ _ _ _ => trivial) ?_ ?_
  · rintro i y σ' H2 H3 hi ⟨m2, v2, v3, v4, v5, v6, v7, rfl⟩ ⟨rfl, rfl⟩
    refine cutM (fun σ' H' => MSt H' m g (10000 * i + 2) ∧ ∃ y : Nat, y < 10000 ∧ σ' = [some (V.ref a), some (V.ref m), some (.int (0 + i)), some (.int y), v4, v5, v6, v7]) (fun N hN => ?_) ?_
    · walk_at "rd"
      refine ⟨m, g, 10000 * i, 10000, rfl, m2, by omega, by decide, by decide, fun n H4 n0 n1 k4 m4 => ⟨sz5 (by omega), fun p np => ⟨m, g, 10000 * i + 1, p, _, rfl, m4.same (same_new np _), by omega, upd_same, m4.ne np, by simp, by simp, fun v H5 hv k5 m5 => ?_⟩⟩⟩
      obtain ⟨y, hy, rfl⟩ : ∃ y : Nat, y < 10000 ∧ v = .int y := by
        simp only [List.mem_cons, List.not_mem_nil, or_false] at hv
        rcases hv with rfl | rfl | rfl | rfl | rfl | rfl | rfl | rfl | rfl | rfl
        · exact ⟨0, by decide, rfl⟩
        · exact ⟨1, by decide, rfl⟩
        · exact ⟨4, by decide, rfl⟩
        · exact ⟨100, by decide, rfl⟩
        · exact ⟨400, by decide, rfl⟩
        · exact ⟨1900, by decide, rfl⟩
        · exact ⟨2000, by decide, rfl⟩
        · exact ⟨2024, by decide, rfl⟩
        · exact ⟨9999, by decide, rfl⟩
        · exact ⟨n.toNat, by omega, by rw [show ((n.toNat : Nat) : Int) = n by omega]⟩
      exact hN _ _ ⟨m5.up (by omega), y, hy, rfl⟩
    rintro σ' H4 ⟨m4, y, hy, rfl⟩
    refine cutM (fun σ' H' => MSt H' m g (10000 * i + 2) ∧ σ' = [some (V.ref a), some (V.ref m), some (.int (0 + i)), some (.int y), v4, v5, v6, v7]) (fun N hN => ?_) ?_
    · walk_at "rd"
      exact ⟨y, rfl, hy, fun H5 s5 => ⟨_, rfl, iteF' (by simp) (hN _ _ ⟨m4.same s5, rfl⟩)⟩⟩
    rintro σ' H5 ⟨m5, rfl⟩
    walk_at "rd"
    refine ⟨by decide, by decide, ?_⟩
    refine fo_it walk_range (fun j σ' H' => MSt H' m g (10000 * i + 2 + 200 * j) ∧ ∃ v4, σ' = [some (V.ref a), some (V.ref m), some (.int (0 + i)), some (.int y), v4, v5, v6, v7]) ⟨by simpa using m5, _, rfl⟩ (fun _ _ _ _ _ => trivial) ?_ ?_
    · rintro j y2 σ' H6 H7 hj ⟨m7, v4, rfl⟩ ⟨rfl, rfl⟩
      have hj' : j < 8 := hj
      walk_at "rd"
      refine ⟨m, g, _, rfl, m7, by omega, fun H8 k8 m8 => ⟨_, rfl, iteF' (by simp) ⟨m, g, _, rfl, m8, by omega, fun H9 k9 m9 => ⟨_, rfl, iteF' (by simp) ?_⟩⟩⟩⟩
      exact m9.up (by omega)
    · rintro σ' H6 ⟨m6, v4, rfl⟩
      exact ⟨m6.up (by omega), _, _, _, _, _, _, rfl⟩
  · rintro σ' H2 ⟨m2, v2, v3, v4, v5, v6, v7, rfl⟩
    dsimp only
    refine cutM (fun σ' H' => ∃ x : Str, (∀ c ∈ x.cps.toList, c < 128) ∧ x.length ≤ 1000 ∧ σ' = [some (V.ref a), some (V.ref m), v2, v3, v4, some (V.str x), v6, v7]) (fun N hN => ?_) ?_
    · walk_at "rd"
      exact ⟨rfl, _, rfl, by decide +kernel, hN _ _ ⟨_, by decide +kernel, by decide +kernel, rfl⟩⟩
    rintro σ' H3 ⟨x, hx, lx, rfl⟩
    refine cutM (fun σ' H' => ∃ v6 v7, σ' = [some (V.ref a), some (V.ref m), v2, v3, v4, some (V.str x), v6, v7]) (fun N hN => ?_) ?_
    · walk_at "rd"
      refine fo_it walk_str (fun i σ' H' => ∃ v6 v7, σ' = [some (V.ref a), some (V.ref m), v2, v3, v4, some (V.str x), v6, v7]) ⟨_, _, rfl⟩ (fun _ _ _ _ _ => trivial) ?_ (fun σ' H' h => hN _ _ h)
      rintro i y σ' H4 H5 hi ⟨v6, v7, rfl⟩ ⟨rfl, c, hc, rfl⟩
      have hc' : c < 128 := hx c (List.mem_of_getElem? (by rw [Array.getElem?_toList]; exact hc))
      have la : (Str.ofString "a").length = 1 := by decide +kernel
      have l5 : (Str.ofString "5").length = 1 := by decide +kernel
      have aa : AsciiS (Str.ofString "a") := by unfold AsciiS; decide +kernel
      have a5 : AsciiS (Str.ofString "5") := by unfold AsciiS; decide +kernel
      have lc : (⟨#[c]⟩ : Str).length = 1 := rfl
      have ac : AsciiS (⟨#[c]⟩ : Str) := fun d hd => by
        have : d = c := by simpa using hd
        rw [this]; exact hc'
      have hap : ∀ {u v : Str}, AsciiS u → AsciiS v → AsciiS (u ++ v) := fun {u v} hu hv d hd => by
        rw [app_cps] at hd
        rcases List.mem_append.mp hd with hd | hd
        · exact hu d hd
        · exact hv d hd
      walk_at "rd"
      refine ⟨sz5 (by omega), sz5 (by omega), sz5 (by omega), sz5 (by omega), sz5 (by omega), fun p np => ⟨⟨_, SqT.of upd_same⟩, ?_⟩⟩
      generalize (⟨#[c]⟩ : Str) = z at lc ac np ⊢
      have hfive : ∀ y ∈ [z, Str.ofString "a" ++ z, z ++ Str.ofString "a", Str.ofString "5" ++ z, z ++ Str.ofString "5"], y.length ≤ 2 ∧ AsciiS y := by
        intro y hy
        simp only [List.mem_cons, List.not_mem_nil, or_false] at hy
        rcases hy with rfl | rfl | rfl | rfl | rfl
        · exact ⟨by omega, ac⟩
        · exact ⟨by rw [len_app]; omega, hap aa ac⟩
        · exact ⟨by rw [len_app]; omega, hap ac aa⟩
        · exact ⟨by rw [len_app]; omega, hap a5 ac⟩
        · exact ⟨by rw [len_app]; omega, hap ac a5⟩
      refine lc_itR (walk_tup (xs := [z, Str.ofString "a" ++ z, z ++ Str.ofString "a", Str.ofString "5" ++ z, z ++ Str.ofString "5"].map V.str)) (fun D i H' => Same (upd H5 p (.tup ([z, Str.ofString "a" ++ z, z ++ Str.ofString "a", Str.ofString "5" ++ z, z ++ Str.ofString "5"].map V.str))) H' ∧ H' D = some (.lst [])) (fun D hD => ⟨same_new hD _, upd_same⟩) (fun D i H' _ _ h => SqT.of (h.1 _ _ upd_same)) ?_ ?_
      · rintro D i2 x2 H6 H7 hD hi2 ⟨s7, eD⟩ ⟨rfl, hx2⟩
        rw [List.getElem?_map, Option.map_eq_some_iff] at hx2
        obtain ⟨y2, hy2, rfl⟩ := hx2
        obtain ⟨h1, h2⟩ := hfive y2 (List.mem_of_getElem? hy2)
        walk_at "rd"
        refine ⟨y2, rfl, by omega, h2, day_no fun h => ?_, fun H8 s8 => ⟨_, rfl, iteF' (by simp) ⟨s7.trans s8, s8 _ _ eD⟩⟩⟩
        have : y2.cps.toList.length = y2.length := rfl
        omega
      · rintro D H' hD ⟨s7, eD⟩
        refine ⟨Nat.zero_le _, fun p3 np3 => ⟨_, _, Dp_strs (xs := []) ((same_new np3 _) _ _ eD), Dp_strs (xs := []) upd_same, rfl, rfl, ?_⟩⟩
        exact ⟨_, rfl, iteF' (by decide +kernel) trivial⟩
    rintro σ' H4 ⟨v6, v7, rfl⟩
    walk_at "rd"
    have okl : ∀ x : Str, okLine x = true → x.length ≤ 1000 ∧ AsciiS x ∧ isDay x = false := fun x ho => by
      simp only [okLine, Bool.and_eq_true, Bool.not_eq_true', decide_eq_true_eq, List.all_eq_true] at ho
      exact ⟨ho.2.1, fun c hc => ho.2.2 c hc, ho.1⟩
    have o1 := okl (Str.ofString "0000-01-01") (by decide +kernel)
    have o2 := okl (Str.ofString "") (by decide +kernel)
    have o3 := okl (Txt.mul (Str.ofString "a") 60) (by decide +kernel)
    have o4 := okl (Txt.mul (Str.ofString "5") 60) (by decide +kernel)
    refine ⟨1900, rfl, by decide, fun H5 s5 => ⟨_, rfl, iteF' (by simp) ⟨2000, rfl, by decide, fun H6 s6 => ⟨_, rfl, iteF' (by simp) ⟨_, rfl, o1.1, o1.2.1, o1.2.2, fun H7 s7 => ⟨_, rfl, iteF' (by simp) ⟨_, rfl, o2.1, o2.2.1, o2.2.2, fun H8 s8 => ⟨_, rfl, iteT' rfl ⟨mul_ok (by decide +kernel) (by decide) (by decide), _, rfl, o3.1, o3.2.1, o3.2.2, fun H9 s9 => ⟨_, rfl, iteT' rfl ⟨mul_ok (by decide +kernel) (by decide) (by decide), _, rfl, o4.1, o4.2.1, o4.2.2, fun H10 s10 => q _⟩⟩⟩⟩⟩⟩⟩⟩⟩⟩⟩
end

abbrev LVL : Nat := 6
theorem vals_only : ∀ {vs zs : List V} {us ws : List Value}, Vals vs us → Vals zs ws → Vals (onlyK vs zs) (onlyK us ws) := by
  intro vs zs us ws a b
  cases a with
  | nil => exact b
  | cons a1 a2 => exact .nil
theorem vals_swap : ∀ {vs zs : List V} {us ws : List Value}, Vals vs us → Vals zs ws → Vals (swap2 vs zs) (swap2 us ws) := by
  intro vs zs us ws a b
  cases a with
  | nil => cases b with
    | nil => exact .nil
    | cons b1 b2 => cases b2 with
      | nil => exact .cons b1 .nil
      | cons b2 b3 => cases b3 with
        | nil => exact .cons b2 (.cons b1 .nil)
        | cons b3 b4 => exact .cons b1 (.cons b2 (.cons b3 b4))
  | cons a1 a2 => exact vals_app (.cons a1 a2) b
theorem all_mk {l : PySem.W.OpenLaw} {w : World} {K : PySem.W.Frag} {h : Heap} {mg : Str → Option Value} {fa f0 f1 f2 f3 f4 f5 f6 f7 f8 f9 f10 f11 f12 f13 f14 f15 f16 : Addr} (X : K.In h) (G : h.Ns mainGlobals mg) (hfa : mg "law" = some (.ref fa))
    {od0 an0 : Option Addr} {sl0 : Array (Option Value)} {oc0 kV0 dc0 pm0 cd0 ct0 : Value}
    (a0 : PySem.W.nsIn K mainGlobals "days_in" = some (some (.ref f0)))
    (l0 : K.lookup f0 = some ⟨oc0, od0, .func (PySem.W.fnOf "days_in" "days_in" (defArgs s_days_in) (defBody s_days_in) (defScope s_days_in) .none kV0 dc0 pm0 an0 cd0 ct0), sl0⟩)
    (c0 : PySem.W.codeIn K cd0 "days_in" = true) (k0 : PySem.W.keepIn K (.ref f0) = true)
    {od1 an1 : Option Addr} {sl1 : Array (Option Value)} {oc1 kV1 dc1 pm1 cd1 ct1 : Value}
    (a1 : PySem.W.nsIn K mainGlobals "is_day" = some (some (.ref f1)))
    (l1 : K.lookup f1 = some ⟨oc1, od1, .func (PySem.W.fnOf "is_day" "is_day" (defArgs s_is_day) (defBody s_is_day) (defScope s_is_day) .none kV1 dc1 pm1 an1 cd1 ct1), sl1⟩)
    (c1 : PySem.W.codeIn K cd1 "is_day" = true) (k1 : PySem.W.keepIn K (.ref f1) = true)
    {od2 an2 : Option Addr} {sl2 : Array (Option Value)} {oc2 kV2 dc2 pm2 cd2 ct2 : Value}
    (a2 : PySem.W.nsIn K mainGlobals "has_notation" = some (some (.ref f2)))
    (l2 : K.lookup f2 = some ⟨oc2, od2, .func (PySem.W.fnOf "has_notation" "has_notation" (defArgs s_has_notation) (defBody s_has_notation) (defScope s_has_notation) .none kV2 dc2 pm2 an2 cd2 ct2), sl2⟩)
    (c2 : PySem.W.codeIn K cd2 "has_notation" = true) (k2 : PySem.W.keepIn K (.ref f2) = true)
    {od3 an3 : Option Addr} {sl3 : Array (Option Value)} {oc3 kV3 dc3 pm3 cd3 ct3 : Value}
    (a3 : PySem.W.nsIn K mainGlobals "_law_begun" = some (some (.ref f3)))
    (l3 : K.lookup f3 = some ⟨oc3, od3, .func (PySem.W.fnOf "_law_begun" "_law_begun" (defArgs s_law_begun) (defBody s_law_begun) (defScope s_law_begun) .none kV3 dc3 pm3 an3 cd3 ct3), sl3⟩)
    (c3 : PySem.W.codeIn K cd3 "_law_begun" = true) (k3 : PySem.W.keepIn K (.ref f3) = true)
    {od4 an4 : Option Addr} {sl4 : Array (Option Value)} {oc4 kV4 dc4 pm4 cd4 ct4 : Value}
    (a4 : PySem.W.nsIn K mainGlobals "_law_draw" = some (some (.ref f4)))
    (l4 : K.lookup f4 = some ⟨oc4, od4, .func (PySem.W.fnOf "_law_draw" "_law_draw" (defArgs s_law_draw) (defBody s_law_draw) (defScope s_law_draw) .none kV4 dc4 pm4 an4 cd4 ct4), sl4⟩)
    (c4 : PySem.W.codeIn K cd4 "_law_draw" = true) (k4 : PySem.W.keepIn K (.ref f4) = true)
    {od5 an5 : Option Addr} {sl5 : Array (Option Value)} {oc5 kV5 dc5 pm5 cd5 ct5 : Value}
    (a5 : PySem.W.nsIn K mainGlobals "_law_pick" = some (some (.ref f5)))
    (l5 : K.lookup f5 = some ⟨oc5, od5, .func (PySem.W.fnOf "_law_pick" "_law_pick" (defArgs s_law_pick) (defBody s_law_pick) (defScope s_law_pick) .none kV5 dc5 pm5 an5 cd5 ct5), sl5⟩)
    (c5 : PySem.W.codeIn K cd5 "_law_pick" = true) (k5 : PySem.W.keepIn K (.ref f5) = true)
    {od6 an6 : Option Addr} {sl6 : Array (Option Value)} {oc6 kV6 dc6 pm6 cd6 ct6 : Value}
    (a6 : PySem.W.nsIn K mainGlobals "_law_padded" = some (some (.ref f6)))
    (l6 : K.lookup f6 = some ⟨oc6, od6, .func (PySem.W.fnOf "_law_padded" "_law_padded" (defArgs s_law_padded) (defBody s_law_padded) (defScope s_law_padded) .none kV6 dc6 pm6 an6 cd6 ct6), sl6⟩)
    (c6 : PySem.W.codeIn K cd6 "_law_padded" = true) (k6 : PySem.W.keepIn K (.ref f6) = true)
    {od7 an7 : Option Addr} {sl7 : Array (Option Value)} {oc7 kV7 dc7 pm7 cd7 ct7 : Value}
    (a7 : PySem.W.nsIn K mainGlobals "_law_days" = some (some (.ref f7)))
    (l7 : K.lookup f7 = some ⟨oc7, od7, .func (PySem.W.fnOf "_law_days" "_law_days" (defArgs s_law_days) (defBody s_law_days) (defScope s_law_days) .none kV7 dc7 pm7 an7 cd7 ct7), sl7⟩)
    (c7 : PySem.W.codeIn K cd7 "_law_days" = true) (k7 : PySem.W.keepIn K (.ref f7) = true)
    {od8 an8 : Option Addr} {sl8 : Array (Option Value)} {oc8 kV8 dc8 pm8 cd8 ct8 : Value}
    (a8 : PySem.W.nsIn K mainGlobals "_law_years" = some (some (.ref f8)))
    (l8 : K.lookup f8 = some ⟨oc8, od8, .func (PySem.W.fnOf "_law_years" "_law_years" (defArgs s_law_years) (defBody s_law_years) (defScope s_law_years) .none kV8 dc8 pm8 an8 cd8 ct8), sl8⟩)
    (c8 : PySem.W.codeIn K cd8 "_law_years" = true) (k8 : PySem.W.keepIn K (.ref f8) = true)
    {od9 an9 : Option Addr} {sl9 : Array (Option Value)} {oc9 kV9 dc9 pm9 cd9 ct9 : Value}
    (a9 : PySem.W.nsIn K mainGlobals "_law_year_right" = some (some (.ref f9)))
    (l9 : K.lookup f9 = some ⟨oc9, od9, .func (PySem.W.fnOf "_law_year_right" "_law_year_right" (defArgs s_law_year_right) (defBody s_law_year_right) (defScope s_law_year_right) .none kV9 dc9 pm9 an9 cd9 ct9), sl9⟩)
    (c9 : PySem.W.codeIn K cd9 "_law_year_right" = true) (k9 : PySem.W.keepIn K (.ref f9) = true)
    {od10 an10 : Option Addr} {sl10 : Array (Option Value)} {oc10 kV10 dc10 pm10 cd10 ct10 : Value}
    (a10 : PySem.W.nsIn K mainGlobals "_law_letters" = some (some (.ref f10)))
    (l10 : K.lookup f10 = some ⟨oc10, od10, .func (PySem.W.fnOf "_law_letters" "_law_letters" (defArgs s_law_letters) (defBody s_law_letters) (defScope s_law_letters) .none kV10 dc10 pm10 an10 cd10 ct10), sl10⟩)
    (c10 : PySem.W.codeIn K cd10 "_law_letters" = true) (k10 : PySem.W.keepIn K (.ref f10) = true)
    {od11 an11 : Option Addr} {sl11 : Array (Option Value)} {oc11 kV11 dc11 pm11 cd11 ct11 : Value}
    (a11 : PySem.W.nsIn K mainGlobals "_law_is_digits" = some (some (.ref f11)))
    (l11 : K.lookup f11 = some ⟨oc11, od11, .func (PySem.W.fnOf "_law_is_digits" "_law_is_digits" (defArgs s_law_is_digits) (defBody s_law_is_digits) (defScope s_law_is_digits) .none kV11 dc11 pm11 an11 cd11 ct11), sl11⟩)
    (c11 : PySem.W.codeIn K cd11 "_law_is_digits" = true) (k11 : PySem.W.keepIn K (.ref f11) = true)
    {od12 an12 : Option Addr} {sl12 : Array (Option Value)} {oc12 kV12 dc12 pm12 cd12 ct12 : Value}
    (a12 : PySem.W.nsIn K mainGlobals "_law_is_name" = some (some (.ref f12)))
    (l12 : K.lookup f12 = some ⟨oc12, od12, .func (PySem.W.fnOf "_law_is_name" "_law_is_name" (defArgs s_law_is_name) (defBody s_law_is_name) (defScope s_law_is_name) .none kV12 dc12 pm12 an12 cd12 ct12), sl12⟩)
    (c12 : PySem.W.codeIn K cd12 "_law_is_name" = true) (k12 : PySem.W.keepIn K (.ref f12) = true)
    {od13 an13 : Option Addr} {sl13 : Array (Option Value)} {oc13 kV13 dc13 pm13 cd13 ct13 : Value}
    (a13 : PySem.W.nsIn K mainGlobals "_law_line_right" = some (some (.ref f13)))
    (l13 : K.lookup f13 = some ⟨oc13, od13, .func (PySem.W.fnOf "_law_line_right" "_law_line_right" (defArgs s_law_line_right) (defBody s_law_line_right) (defScope s_law_line_right) .none kV13 dc13 pm13 an13 cd13 ct13), sl13⟩)
    (c13 : PySem.W.codeIn K cd13 "_law_line_right" = true) (k13 : PySem.W.keepIn K (.ref f13) = true)
    {od14 an14 : Option Addr} {sl14 : Array (Option Value)} {oc14 kV14 dc14 pm14 cd14 ct14 : Value}
    (a14 : PySem.W.nsIn K mainGlobals "_law_joined_right" = some (some (.ref f14)))
    (l14 : K.lookup f14 = some ⟨oc14, od14, .func (PySem.W.fnOf "_law_joined_right" "_law_joined_right" (defArgs s_law_joined_right) (defBody s_law_joined_right) (defScope s_law_joined_right) .none kV14 dc14 pm14 an14 cd14 ct14), sl14⟩)
    (c14 : PySem.W.codeIn K cd14 "_law_joined_right" = true) (k14 : PySem.W.keepIn K (.ref f14) = true)
    {od15 an15 : Option Addr} {sl15 : Array (Option Value)} {oc15 kV15 dc15 pm15 cd15 ct15 : Value}
    (a15 : PySem.W.nsIn K mainGlobals "_law_spoilt_right" = some (some (.ref f15)))
    (l15 : K.lookup f15 = some ⟨oc15, od15, .func (PySem.W.fnOf "_law_spoilt_right" "_law_spoilt_right" (defArgs s_law_spoilt_right) (defBody s_law_spoilt_right) (defScope s_law_spoilt_right) .none kV15 dc15 pm15 an15 cd15 ct15), sl15⟩)
    (c15 : PySem.W.codeIn K cd15 "_law_spoilt_right" = true) (k15 : PySem.W.keepIn K (.ref f15) = true)
    {od16 an16 : Option Addr} {sl16 : Array (Option Value)} {oc16 kV16 dc16 pm16 cd16 ct16 : Value}
    (a16 : PySem.W.nsIn K mainGlobals "law" = some (some (.ref f16)))
    (l16 : K.lookup f16 = some ⟨oc16, od16, .func (PySem.W.fnOf "law" "law" (defArgs s_law) (defBody s_law) (defScope s_law) .none kV16 dc16 pm16 an16 cd16 ct16), sl16⟩)
    (c16 : PySem.W.codeIn K cd16 "law" = true) (k16 : PySem.W.keepIn K (.ref f16) = true)
    {tk_LETTERS : Tok} (g_LETTERS : PySem.W.nsIn K mainGlobals "LETTERS" = some (some (.str letters tk_LETTERS)))
    {tk_DIGITS : Tok} (g_DIGITS : PySem.W.nsIn K mainGlobals "DIGITS" = some (some (.str digits tk_DIGITS)))
    {ta_LONG_MONTHS : Addr} {td_LONG_MONTHS : Option Addr} {tn_LONG_MONTHS : Nat} {ts_LONG_MONTHS : Array (Option Value)} {tk0_LONG_MONTHS tk1_LONG_MONTHS tk2_LONG_MONTHS tk3_LONG_MONTHS tk4_LONG_MONTHS tk5_LONG_MONTHS tk6_LONG_MONTHS : Tok} (g_LONG_MONTHS : PySem.W.nsIn K mainGlobals "LONG_MONTHS" = some (some (.ref ta_LONG_MONTHS))) (l_LONG_MONTHS : K.lookup ta_LONG_MONTHS = some ⟨.type "tuple", td_LONG_MONTHS, .seq #[.int 1 tk0_LONG_MONTHS, .int 3 tk1_LONG_MONTHS, .int 5 tk2_LONG_MONTHS, .int 7 tk3_LONG_MONTHS, .int 8 tk4_LONG_MONTHS, .int 10 tk5_LONG_MONTHS, .int 12 tk6_LONG_MONTHS] tn_LONG_MONTHS, ts_LONG_MONTHS⟩)
    (z_len : PySem.W.nsIn K mainGlobals "len" = some none)
    (z_range : PySem.W.nsIn K mainGlobals "range" = some none)
    (z_isinstance : PySem.W.nsIn K mainGlobals "isinstance" = some none)
    (z_max : PySem.W.nsIn K mainGlobals "max" = some none)
    (z_min : PySem.W.nsIn K mainGlobals "min" = some none)
    (z_list : PySem.W.nsIn K mainGlobals "list" = some none)
    (z_dict : PySem.W.nsIn K mainGlobals "dict" = some none)
    (z_int : PySem.W.nsIn K mainGlobals "int" = some none)
    (z_str : PySem.W.nsIn K mainGlobals "str" = some none)
    (z_bool : PySem.W.nsIn K mainGlobals "bool" = some none)
    (z_tuple : PySem.W.nsIn K mainGlobals "tuple" = some none)
    (z_sorted : PySem.W.nsIn K mainGlobals "sorted" = some none)
    (z_enumerate : PySem.W.nsIn K mainGlobals "enumerate" = some none)
    (z_repr : PySem.W.nsIn K mainGlobals "repr" = some none)
    (z_all : PySem.W.nsIn K mainGlobals "all" = some none)
    (z_any : PySem.W.nsIn K mainGlobals "any" = some none)
    (z_zip : PySem.W.nsIn K mainGlobals "zip" = some none)
    (z_set : PySem.W.nsIn K mainGlobals "set" = some none)
    (z_sum : PySem.W.nsIn K mainGlobals "sum" = some none)
    : ∃ fd : FuncData, (∀ (s : Shared) (v : Value), BindsTo s fd ⟨[v], []⟩ [("_law_script", v)]) ∧ ∀ base : Heap, K.In base → base.Ns mainGlobals mg → (∃ o, base.get? sysModules = some o) → FnG l.prog w K mg base LVL fa fd ["_law_script"] (sp_law K) := by
  have e := hfa.symm.trans (PySem.W.mg_of X G a16)
  cases e
  have D_days_in : Def K mg "days_in" s_days_in _ _ := ⟨fun_mk (st := s_days_in) l0 c0 k0, PySem.W.mg_of X G a0⟩
  have D_is_day : Def K mg "is_day" s_is_day _ _ := ⟨fun_mk (st := s_is_day) l1 c1 k1, PySem.W.mg_of X G a1⟩
  have D_has_notation : Def K mg "has_notation" s_has_notation _ _ := ⟨fun_mk (st := s_has_notation) l2 c2 k2, PySem.W.mg_of X G a2⟩
  have D_law_begun : Def K mg "_law_begun" s_law_begun _ _ := ⟨fun_mk (st := s_law_begun) l3 c3 k3, PySem.W.mg_of X G a3⟩
  have D_law_draw : Def K mg "_law_draw" s_law_draw _ _ := ⟨fun_mk (st := s_law_draw) l4 c4 k4, PySem.W.mg_of X G a4⟩
  have D_law_pick : Def K mg "_law_pick" s_law_pick _ _ := ⟨fun_mk (st := s_law_pick) l5 c5 k5, PySem.W.mg_of X G a5⟩
  have D_law_padded : Def K mg "_law_padded" s_law_padded _ _ := ⟨fun_mk (st := s_law_padded) l6 c6 k6, PySem.W.mg_of X G a6⟩
  have D_law_days : Def K mg "_law_days" s_law_days _ _ := ⟨fun_mk (st := s_law_days) l7 c7 k7, PySem.W.mg_of X G a7⟩
  have D_law_years : Def K mg "_law_years" s_law_years _ _ := ⟨fun_mk (st := s_law_years) l8 c8 k8, PySem.W.mg_of X G a8⟩
  have D_law_year_right : Def K mg "_law_year_right" s_law_year_right _ _ := ⟨fun_mk (st := s_law_year_right) l9 c9 k9, PySem.W.mg_of X G a9⟩
  have D_law_letters : Def K mg "_law_letters" s_law_letters _ _ := ⟨fun_mk (st := s_law_letters) l10 c10 k10, PySem.W.mg_of X G a10⟩
  have D_law_is_digits : Def K mg "_law_is_digits" s_law_is_digits _ _ := ⟨fun_mk (st := s_law_is_digits) l11 c11 k11, PySem.W.mg_of X G a11⟩
  have D_law_is_name : Def K mg "_law_is_name" s_law_is_name _ _ := ⟨fun_mk (st := s_law_is_name) l12 c12 k12, PySem.W.mg_of X G a12⟩
  have D_law_line_right : Def K mg "_law_line_right" s_law_line_right _ _ := ⟨fun_mk (st := s_law_line_right) l13 c13 k13, PySem.W.mg_of X G a13⟩
  have D_law_joined_right : Def K mg "_law_joined_right" s_law_joined_right _ _ := ⟨fun_mk (st := s_law_joined_right) l14 c14 k14, PySem.W.mg_of X G a14⟩
  have D_law_spoilt_right : Def K mg "_law_spoilt_right" s_law_spoilt_right _ _ := ⟨fun_mk (st := s_law_spoilt_right) l15 c15 k15, PySem.W.mg_of X G a15⟩
  have D_law : Def K mg "law" s_law _ _ := ⟨fun_mk (st := s_law) l16 c16 k16, PySem.W.mg_of X G a16⟩
  have g_LETTERS := PySem.W.mg_of X G g_LETTERS
  have g_DIGITS := PySem.W.mg_of X G g_DIGITS
  have g_LONG_MONTHS := PySem.W.mg_of X G g_LONG_MONTHS
  have B : Blt mg := ⟨PySem.W.mg_none_of X G z_len, PySem.W.mg_none_of X G z_range, PySem.W.mg_none_of X G z_isinstance, PySem.W.mg_none_of X G z_max, PySem.W.mg_none_of X G z_min, PySem.W.mg_none_of X G z_list, PySem.W.mg_none_of X G z_dict, PySem.W.mg_none_of X G z_int, PySem.W.mg_none_of X G z_str, PySem.W.mg_none_of X G z_bool, PySem.W.mg_none_of X G z_tuple, PySem.W.mg_none_of X G z_sorted, PySem.W.mg_none_of X G z_enumerate, PySem.W.mg_none_of X G z_repr, PySem.W.mg_none_of X G z_all, PySem.W.mg_none_of X G z_any, PySem.W.mg_none_of X G z_zip, PySem.W.mg_none_of X G z_set, PySem.W.mg_none_of X G z_sum⟩
  refine ⟨PySem.W.fnOf "law" "law" (defArgs s_law) (defBody s_law) (defScope s_law) .none kV16 dc16 pm16 an16 cd16 ct16, fun s v => .of_eq rfl, fun base _ _ hsys => ?_⟩
  have hL : ∀ H : Hp, SqT K H ta_LONG_MONTHS longM := fun H => .inr ⟨_, _, _, l_LONG_MONTHS, rfl, rfl, sz5 (show 7 ≤ 100000 by decide), .cons ⟨_, rfl⟩ (.cons ⟨_, rfl⟩ (.cons ⟨_, rfl⟩ (.cons ⟨_, rfl⟩ (.cons ⟨_, rfl⟩ (.cons ⟨_, rfl⟩ (.cons ⟨_, rfl⟩ .nil))))))⟩
  have R_days := D_days_in.rdy (P := l.prog) (w := w) (base := base) (fun _ _ _ _ _ _ us hl => match us, hl with | [_, _], _ => rfl) (ok_days D_days_in B g_LONG_MONTHS hL)
  have R_isday := D_is_day.rdy (P := l.prog) (w := w) (base := base) (fun _ _ _ _ _ _ us hl => match us, hl with | [_], _ => rfl) (ok_isday D_is_day B g_DIGITS R_days)
  have R_hasn := D_has_notation.rdy (P := l.prog) (w := w) (base := base) (fun _ _ _ _ _ _ us hl => match us, hl with | [_, _], _ => rfl) (ok_hasn D_has_notation B g_LETTERS g_DIGITS R_isday)
  have RK_hasn := D_has_notation.rdyK (P := l.prog) (w := w) (base := base) ["text", "notation"] (fun vs zs => onlyK vs zs) vals_only (fun _ _ _ _ _ _ us ws hl => by match us, ws, hl with | [], [_, _], _ => rfl | [], [], hl => cases hl | [], [_], hl => cases hl | [], _ :: _ :: _ :: _, hl => (simp at hl) | _ :: _, _, hl => cases hl) (ok_hasn D_has_notation B g_LETTERS g_DIGITS R_isday)
  have RK2_hasn := D_has_notation.rdyK (P := l.prog) (w := w) (base := base) ["notation", "text"] (fun vs zs => swap2 vs zs) vals_swap (fun _ _ _ _ _ _ us ws hl => match us, ws, hl with | [], [_, _], _ => rfl | [_], [_], _ => rfl | [_, _], [], _ => rfl) (ok_hasn D_has_notation B g_LETTERS g_DIGITS R_isday)
  have R_begun := D_law_begun.rdy (P := l.prog) (w := w) (base := base) (fun _ _ _ _ _ _ us hl => match us, hl with | [_], _ => rfl) (ok_begun D_law_begun B)
  have R_draw := D_law_draw.rdy (P := l.prog) (w := w) (base := base) (fun _ _ _ _ _ _ us hl => match us, hl with | [_, _], _ => rfl) (ok_draw D_law_draw B)
  have R_pick := D_law_pick.rdy (P := l.prog) (w := w) (base := base) (fun _ _ _ _ _ _ us hl => match us, hl with | [_, _], _ => rfl) (ok_pick D_law_pick B R_draw)
  have R_padded := D_law_padded.rdy (P := l.prog) (w := w) (base := base) (fun _ _ _ _ _ _ us hl => match us, hl with | [_, _], _ => rfl) (ok_padded D_law_padded B)
  have R_ldays := D_law_days.rdy (P := l.prog) (w := w) (base := base) (fun _ _ _ _ _ _ us hl => match us, hl with | [_, _], _ => rfl) (ok_ldays D_law_days B)
  have R_years := D_law_years.rdy (P := l.prog) (w := w) (base := base) (fun _ _ _ _ _ _ us hl => match us, hl with | [_], _ => rfl) (ok_years D_law_years B)
  have R_letters := D_law_letters.rdy (P := l.prog) (w := w) (base := base) (fun _ _ _ _ _ _ us hl => match us, hl with | [], _ => rfl) (ok_letters D_law_letters B)
  have R_isdigits := D_law_is_digits.rdy (P := l.prog) (w := w) (base := base) (fun _ _ _ _ _ _ us hl => match us, hl with | [_], _ => rfl) (ok_isdigits D_law_is_digits B)
  have R_isname := D_law_is_name.rdy (P := l.prog) (w := w) (base := base) (fun _ _ _ _ _ _ us hl => match us, hl with | [_], _ => rfl) (ok_isname D_law_is_name B R_letters)
  have R_lright := D_law_line_right.rdyG (P := l.prog) (w := w) (base := base) (fun _ _ _ _ _ _ us hl => match us, hl with | [_], _ => rfl) (ok_lright D_law_line_right B hsys R_hasn R_isdigits R_isname)
  have R_yright := D_law_year_right.rdyG (P := l.prog) (w := w) (base := base) (fun _ _ _ _ _ _ us hl => match us, hl with | [_], _ => rfl) (ok_yright D_law_year_right B hsys R_hasn R_padded R_ldays R_years)
  have R_joined := D_law_joined_right.rdyG (P := l.prog) (w := w) (base := base) (fun _ _ _ _ _ _ us hl => match us, hl with | [_], _ => rfl) (ok_joined D_law_joined_right B R_hasn RK_hasn RK2_hasn R_pick R_draw R_lright)
  have R_spoilt := D_law_spoilt_right.rdyG (P := l.prog) (w := w) (base := base) (fun _ _ _ _ _ _ us hl => match us, hl with | [_], _ => rfl) (ok_spoilt D_law_spoilt_right B R_hasn R_pick R_lright)
  exact ok_law D_law B R_begun R_pick R_draw R_letters R_yright R_lright R_joined R_spoilt
theorem walk {l : PySem.W.OpenLaw} {q : Program} {loose : List Str} {XP : (Str → Option Value) → Heap → Prop} {YP : World → Heap → Prop} {d : DefRec} {K : Params → PySem.W.Frag} (hn : l.most = some 63) (hdf : d.params.defaults = [])
    (hq : PyProof.Rows.importsNone q = true) (hY : ∀ (w : World) (h : Heap), YP w h → (K w.params).In h)
    (F : ∀ (w : World) (mg : Str → Option Value) (fa : Addr) (h : Heap), (K w.params).In h → h.Ns mainGlobals mg → mg d.name = some (.ref fa) →
      ∃ fd : FuncData, (∀ (s : Shared) (u : Value), BindsTo s fd ⟨[u], []⟩ [("_law_script", u)]) ∧ ∀ base : Heap, (K w.params).In base → base.Ns mainGlobals mg → (∃ o, base.get? sysModules = some o) → FnG l.prog w (K w.params) mg base LVL fa fd ["_law_script"] (sp_law (K w.params))) :
    PySem.W.WalkO q loose XP YP l.row.toRowW d [] (fun f vs => PySem.call f vs) :=
  SC.walkG (n := 63) (k := LVL) (x := "_law_script") (sp := sp_law) hn (by decide) hdf ⟨rfl, by decide, by decide⟩ hq hY F fun K H a ns hl hO hS => ⟨a, ns, rfl, Scr.of hS hO, hl, fun _ => rfl⟩

end SC
open PySem PySem.W PyProof.Rows
set_option maxRecDepth 100000 in
set_option maxHeartbeats 0 in
theorem PySem.Challenge.cw_schemacheck_k18_whole_notations_of_a_yea_holds : PySem.Challenge.rw_schemacheck_k18_whole_notations_of_a_yea.Holds := by
  w_on; o_law; k_head; (case hw => w_witness2)
  k_fill
  refine SC.walk (l := PySem.Challenge.rw_schemacheck_k18_whole_notations_of_a_yea) rfl rfl (by decide +kernel) (fun w h Y => PySem.W.kIn_of Y) ?F
  case F =>
    intro w mg fa h KX G hmg
    refine' SC.all_mk KX G hmg ?a0 ?l0 ?c0 ?k0 ?a1 ?l1 ?c1 ?k1 ?a2 ?l2 ?c2 ?k2 ?a3 ?l3 ?c3 ?k3 ?a4 ?l4 ?c4 ?k4 ?a5 ?l5 ?c5 ?k5 ?a6 ?l6 ?c6 ?k6 ?a7 ?l7 ?c7 ?k7 ?a8 ?l8 ?c8 ?k8 ?a9 ?l9 ?c9 ?k9 ?a10 ?l10 ?c10 ?k10 ?a11 ?l11 ?c11 ?k11 ?a12 ?l12 ?c12 ?k12 ?a13 ?l13 ?c13 ?k13 ?a14 ?l14 ?c14 ?k14 ?a15 ?l15 ?c15 ?k15 ?a16 ?l16 ?c16 ?k16 ?g_LETTERS ?g_DIGITS ?g_LONG_MONTHS ?l_LONG_MONTHS ?z_len ?z_range ?z_isinstance ?z_max ?z_min ?z_list ?z_dict ?z_int ?z_str ?z_bool ?z_tuple ?z_sorted ?z_enumerate ?z_repr ?z_all ?z_any ?z_zip ?z_set ?z_sum
    (case a0 => k_is)
    (case l0 => k_is)
    (case c0 => k_is)
    (case k0 => k_is)
    (case a1 => k_is)
    (case l1 => k_is)
    (case c1 => k_is)
    (case k1 => k_is)
    (case a2 => k_is)
    (case l2 => k_is)
    (case c2 => k_is)
    (case k2 => k_is)
    (case a3 => k_is)
    (case l3 => k_is)
    (case c3 => k_is)
    (case k3 => k_is)
    (case a4 => k_is)
    (case l4 => k_is)
    (case c4 => k_is)
    (case k4 => k_is)
    (case a5 => k_is)
    (case l5 => k_is)
    (case c5 => k_is)
    (case k5 => k_is)
    (case a6 => k_is)
    (case l6 => k_is)
    (case c6 => k_is)
    (case k6 => k_is)
    (case a7 => k_is)
    (case l7 => k_is)
    (case c7 => k_is)
    (case k7 => k_is)
    (case a8 => k_is)
    (case l8 => k_is)
    (case c8 => k_is)
    (case k8 => k_is)
    (case a9 => k_is)
    (case l9 => k_is)
    (case c9 => k_is)
    (case k9 => k_is)
    (case a10 => k_is)
    (case l10 => k_is)
    (case c10 => k_is)
    (case k10 => k_is)
    (case a11 => k_is)
    (case l11 => k_is)
    (case c11 => k_is)
    (case k11 => k_is)
    (case a12 => k_is)
    (case l12 => k_is)
    (case c12 => k_is)
    (case k12 => k_is)
    (case a13 => k_is)
    (case l13 => k_is)
    (case c13 => k_is)
    (case k13 => k_is)
    (case a14 => k_is)
    (case l14 => k_is)
    (case c14 => k_is)
    (case k14 => k_is)
    (case a15 => k_is)
    (case l15 => k_is)
    (case c15 => k_is)
    (case k15 => k_is)
    (case a16 => k_is)
    (case l16 => k_is)
    (case c16 => k_is)
    (case k16 => k_is)
    (case g_LETTERS => k_is)
    (case g_DIGITS => k_is)
    (case g_LONG_MONTHS => k_is)
    (case l_LONG_MONTHS => k_is)
    (case z_len => k_is)
    (case z_range => k_is)
    (case z_isinstance => k_is)
    (case z_max => k_is)
    (case z_min => k_is)
    (case z_list => k_is)
    (case z_dict => k_is)
    (case z_int => k_is)
    (case z_str => k_is)
    (case z_bool => k_is)
    (case z_tuple => k_is)
    (case z_sorted => k_is)
    (case z_enumerate => k_is)
    (case z_repr => k_is)
    (case z_all => k_is)
    (case z_any => k_is)
    (case z_zip => k_is)
    (case z_set => k_is)
    (case z_sum => k_is)
#print axioms PySem.Challenge.cw_schemacheck_k18_whole_notations_of_a_yea_holds
