import PyProof.Rows.All
import Wide.All
import OpenK.AllK
import Wide.FinOn
import HandS.ForMost
import HandS.IsInst
import HandS.DictComp
import HandS.Flow
import HandS.Walk
import HandS.More
import HandS.Style
import HandS.FStr
import HandS.Text
import KE.GoesEnum
import KE.KDictZip
import PyProof.ListNew
import HandS.GenList
import HandS.TupAny
import PySem.Challenge.RW_schemacheck_k87_whole_documents_wrapped
set_option Elab.async false
set_option linter.all false
set_option maxRecDepth 100000
set_option maxHeartbeats 4000000
/-! Schemacheck: data as trees over the abstract heap. -/
namespace SC
open PySem L2

/-! ### pairs -/
theorem pd_len {A B : Type} {F : A → B → Prop} {xs : List A} {ys : List B} (h : Paired F xs ys) : xs.length = ys.length := by
  induction h with
  | nil => rfl
  | cons _ _ ih => simp [ih]
theorem pd_imp {A B : Type} {F G : A → B → Prop} {xs : List A} {ys : List B} (h : Paired F xs ys) (f : ∀ a b, a ∈ xs → b ∈ ys → F a b → G a b) : Paired G xs ys := by
  induction h with
  | nil => exact .nil
  | cons r _ ih => exact .cons (f _ _ (by simp) (by simp) r) (ih fun a b ha hb q => f a b (by simp [ha]) (by simp [hb]) q)
theorem pd_app {A B : Type} {F : A → B → Prop} {xs zs : List A} {ys ws : List B} (h : Paired F xs ys) (g : Paired F zs ws) : Paired F (xs ++ zs) (ys ++ ws) := by
  induction h with
  | nil => exact g
  | cons r _ ih => exact .cons r ih
theorem pd_get {A B : Type} {F : A → B → Prop} {xs : List A} {ys : List B} (h : Paired F xs ys) : ∀ {i : Nat} {x : A}, xs[i]? = some x → ∃ y, ys[i]? = some y ∧ F x y := by
  induction h with
  | nil => intro i x e; simp at e
  | cons r _ ih =>
    intro i x e
    cases i with
    | zero => simp at e; subst e; exact ⟨_, rfl, r⟩
    | succ i => simp at e; obtain ⟨y, h1, h2⟩ := ih e; exact ⟨y, by simpa using h1, h2⟩
theorem pd_memR {A B : Type} {F : A → B → Prop} {xs : List A} {ys : List B} (h : Paired F xs ys) : ∀ {y : B}, y ∈ ys → ∃ x, x ∈ xs ∧ F x y := by
  induction h with
  | nil => intro y e; simp at e
  | cons r _ ih =>
    intro y e
    rcases List.mem_cons.mp e with rfl | e
    · exact ⟨_, by simp, r⟩
    · obtain ⟨x, h1, h2⟩ := ih e; exact ⟨x, by simp [h1], h2⟩
theorem pd_eq {A B : Type} {F G : A → B → Prop} {xs : List A} {ys zs : List B} (h : Paired F xs ys) (g : Paired G xs zs) (f : ∀ a b c, b ∈ ys → c ∈ zs → F a b → G a c → b = c) : ys = zs := by
  induction h generalizing zs with
  | nil => cases g; rfl
  | cons r _ ih =>
    cases g with
    | cons r2 g2 =>
      rw [f _ _ _ (by simp) (by simp) r r2, ih g2 fun a b c hb hc => f a b c (by simp [hb]) (by simp [hc])]

/-! ### a value stands for a datum, at most n deep -/
def kD : Key → PyData
  | .inl i => .int i
  | .inr x => .str x
theorem kD_inj {a b : Key} (h : kD a = kD b) : a = b := by
  cases a <;> cases b <;> simp [kD] at h <;> simp [h]
def Rp (H : Hp) : Nat → V → PyData → Prop
  | 0, _, _ => False
  | _ + 1, v, .none => v = .non
  | _ + 1, v, .bool b => v = .bl b
  | _ + 1, v, .int i => v = .int i
  | _ + 1, v, .str x => v = .str x
  | n + 1, v, .list ds => ∃ a xs, v = .ref a ∧ H a = some (.lst xs) ∧ xs.length ≤ 10000 ∧ Paired (Rp H n) xs ds
  | n + 1, v, .tuple ds => ∃ a xs, v = .ref a ∧ H a = some (.tup xs) ∧ xs.length ≤ 10000 ∧ Paired (Rp H n) xs ds
  | n + 1, v, .dict es => ∃ a kvs, v = .ref a ∧ Rd H a (.dK kvs) ∧ kvs.length ≤ 10000 ∧ (kvs.map (·.1)).Nodup ∧ Paired (fun (p : Key × V) (q : PyData × PyData) => q.1 = kD p.1 ∧ Rp H n p.2 q.2) kvs es
theorem rd_same {H H' : Hp} {a : Addr} {u : HO} (e : Same H H') (h : Rd H a u) : Rd H' a u := by
  rcases h with h | ⟨o, h⟩
  · exact .inl (e _ _ h)
  · exact .inr ⟨o, e _ _ h⟩
/-- all is as it was, but dicts may be locked -/
def LSame (H H' : Hp) : Prop := ∀ b o, H b = some o → H' b = some o ∨ ∃ kvs od, o = .dK kvs ∧ H' b = some (.frz od (.dK kvs))
theorem LSame.of {H H' : Hp} (h : Same H H') : LSame H H' := fun b o e => .inl (h b o e)
theorem LSame.refl (H : Hp) : LSame H H := fun b o e => .inl e
theorem LSame.trans {H H1 H2 : Hp} (a : LSame H H1) (b : LSame H1 H2) : LSame H H2 := fun c o e => by
  rcases a c o e with h | ⟨kvs, od, h1, h2⟩
  · exact b c o h
  · rcases b c _ h2 with h | ⟨_, _, h3, _⟩
    · exact .inr ⟨kvs, od, h1, h⟩
    · cases h3
theorem LSame.lst {H H' : Hp} {a : Addr} {xs : List V} (h : LSame H H') (e : H a = some (.lst xs)) : H' a = some (.lst xs) := by
  rcases h a _ e with q | ⟨_, _, q, _⟩
  · exact q
  · cases q
theorem LSame.tup {H H' : Hp} {a : Addr} {xs : List V} (h : LSame H H') (e : H a = some (.tup xs)) : H' a = some (.tup xs) := by
  rcases h a _ e with q | ⟨_, _, q, _⟩
  · exact q
  · cases q
theorem LSame.rdk {H H' : Hp} {a : Addr} {kvs : List (Key × V)} (h : LSame H H') (e : Rd H a (.dK kvs)) : Rd H' a (.dK kvs) := by
  rcases e with e | ⟨od, e⟩
  · rcases h a _ e with q | ⟨k2, od, q, q2⟩
    · exact .inl q
    · cases q; exact .inr ⟨od, q2⟩
  · rcases h a _ e with q | ⟨_, _, q, _⟩
    · exact .inr ⟨od, q⟩
    · cases q
theorem Rp.imp {H H' : Hp} : ∀ {n : Nat} {v : V} {d : PyData}, Same H H' → Rp H n v d → Rp H' n v d
  | 0, _, _, _, h => h
  | n + 1, v, .none, _, h => h
  | n + 1, v, .bool _, _, h => h
  | n + 1, v, .int _, _, h => h
  | n + 1, v, .str _, _, h => h
  | n + 1, v, .list ds, e, ⟨a, xs, h1, h2, hb, h3⟩ => ⟨a, xs, h1, e _ _ h2, hb, pd_imp h3 fun _ _ _ _ q => Rp.imp e q⟩
  | n + 1, v, .tuple ds, e, ⟨a, xs, h1, h2, hb, h3⟩ => ⟨a, xs, h1, e _ _ h2, hb, pd_imp h3 fun _ _ _ _ q => Rp.imp e q⟩
  | n + 1, v, .dict es, e, ⟨a, xs, h1, h2, hb, hn, h3⟩ => ⟨a, xs, h1, rd_same e h2, hb, hn, pd_imp h3 fun _ _ _ _ q => ⟨q.1, Rp.imp e q.2⟩⟩
theorem Rp.up1 {H : Hp} : ∀ {n : Nat} {v : V} {d : PyData}, Rp H n v d → Rp H (n + 1) v d
  | 0, _, _, h => h.elim
  | n + 1, v, .none, h => h
  | n + 1, v, .bool _, h => h
  | n + 1, v, .int _, h => h
  | n + 1, v, .str _, h => h
  | n + 1, v, .list ds, ⟨a, xs, h1, h2, hb, h3⟩ => ⟨a, xs, h1, h2, hb, pd_imp h3 fun _ _ _ _ q => Rp.up1 q⟩
  | n + 1, v, .tuple ds, ⟨a, xs, h1, h2, hb, h3⟩ => ⟨a, xs, h1, h2, hb, pd_imp h3 fun _ _ _ _ q => Rp.up1 q⟩
  | n + 1, v, .dict es, ⟨a, xs, h1, h2, hb, hn, h3⟩ => ⟨a, xs, h1, h2, hb, hn, pd_imp h3 fun _ _ _ _ q => ⟨q.1, Rp.up1 q.2⟩⟩
theorem Rp.up {H : Hp} {n m : Nat} {v : V} {d : PyData} (h : Rp H n v d) (hl : n ≤ m) : Rp H m v d := by
  induction hl with
  | refl => exact h
  | step _ ih => exact ih.up1
theorem Rp.pos {H : Hp} {n : Nat} {v : V} {d : PyData} (h : Rp H n v d) : 0 < n := by
  cases n with
  | zero => exact h.elim
  | succ n => omega
theorem Rp.lk {H H' : Hp} : ∀ {n : Nat} {v : V} {d : PyData}, LSame H H' → Rp H n v d → Rp H' n v d
  | 0, _, _, _, h => h
  | n + 1, v, .none, _, h => h
  | n + 1, v, .bool _, _, h => h
  | n + 1, v, .int _, _, h => h
  | n + 1, v, .str _, _, h => h
  | n + 1, v, .list ds, e, ⟨a, xs, h1, h2, hb, h3⟩ => ⟨a, xs, h1, e.lst h2, hb, pd_imp h3 fun _ _ _ _ q => Rp.lk e q⟩
  | n + 1, v, .tuple ds, e, ⟨a, xs, h1, h2, hb, h3⟩ => ⟨a, xs, h1, e.tup h2, hb, pd_imp h3 fun _ _ _ _ q => Rp.lk e q⟩
  | n + 1, v, .dict es, e, ⟨a, xs, h1, h2, hb, hn, h3⟩ => ⟨a, xs, h1, e.rdk h2, hb, hn, pd_imp h3 fun _ _ _ _ q => ⟨q.1, Rp.lk e q.2⟩⟩
/-- a value stands for one datum alone -/
theorem rd_one {H : Hp} {a : Addr} {x y : List (Key × V)} (h : Rd H a (.dK x)) (g : Rd H a (.dK y)) : x = y := by
  rcases h with h | ⟨o, h⟩ <;> rcases g with g | ⟨u, g⟩ <;> rw [h] at g <;> cases g <;> rfl
theorem Rp.one {H : Hp} : ∀ {n m : Nat} {v : V} {d e : PyData}, Rp H n v d → Rp H m v e → d = e
  | 0, _, _, _, _, h, _ => h.elim
  | _, 0, _, _, _, _, h => h.elim
  | n + 1, m + 1, v, .none, e, h, g => by
    cases h
    cases e <;> simp [Rp] at g <;> rfl
  | n + 1, m + 1, v, .bool b, e, h, g => by
    cases h
    cases e <;> simp [Rp] at g
    subst g; rfl
  | n + 1, m + 1, v, .int b, e, h, g => by
    cases h
    cases e <;> simp [Rp] at g
    subst g; rfl
  | n + 1, m + 1, v, .str b, e, h, g => by
    cases h
    cases e <;> simp [Rp] at g
    subst g; rfl
  | n + 1, m + 1, v, .list ds, e, ⟨a, xs, h1, h2, hb, h3⟩, g => by
    subst h1
    cases e <;> simp [Rp] at g
    · obtain ⟨ys, g2, gb, g3⟩ := g
      rw [h2] at g2; cases g2
      rw [pd_eq h3 g3 fun _ _ _ _ _ p q => Rp.one p q]
    · rw [h2] at g; simp at g
    · obtain ⟨ys, g2, _⟩ := g
      rcases g2 with g2 | ⟨_, g2⟩ <;> rw [h2] at g2 <;> cases g2
  | n + 1, m + 1, v, .tuple ds, e, ⟨a, xs, h1, h2, hb, h3⟩, g => by
    subst h1
    cases e <;> simp [Rp] at g
    · rw [h2] at g; simp at g
    · obtain ⟨ys, g2, gb, g3⟩ := g
      rw [h2] at g2; cases g2
      rw [pd_eq h3 g3 fun _ _ _ _ _ p q => Rp.one p q]
    · obtain ⟨ys, g2, _⟩ := g
      rcases g2 with g2 | ⟨_, g2⟩ <;> rw [h2] at g2 <;> cases g2
  | n + 1, m + 1, v, .dict es, e, ⟨a, xs, h1, h2, hb, hn, h3⟩, g => by
    subst h1
    cases e <;> simp [Rp] at g
    · obtain ⟨ys, g2, _⟩ := g
      rcases h2 with h2 | ⟨_, h2⟩ <;> rw [h2] at g2 <;> cases g2
    · obtain ⟨ys, g2, _⟩ := g
      rcases h2 with h2 | ⟨_, h2⟩ <;> rw [h2] at g2 <;> cases g2
    · obtain ⟨ys, g2, gb, gn, g3⟩ := g
      cases rd_one h2 g2
      rw [pd_eq h3 g3 fun x b c _ _ p q => by
        obtain ⟨b1, b2⟩ := b
        obtain ⟨c1, c2⟩ := c
        obtain ⟨p1, p2⟩ := p
        obtain ⟨q1, q2⟩ := q
        simp at p1 q1 p2 q2
        rw [p1, q1, Rp.one p2 q2]]
/-- without the place a -/
def del (H : Hp) (a : Addr) : Hp := fun b => if b = a then none else H b
theorem del_ne {H : Hp} {a b : Addr} (h : b ≠ a) : del H a b = H b := if_neg h
theorem del_at {H : Hp} {a : Addr} : del H a a = none := if_pos rfl
theorem del_sub (H : Hp) (a : Addr) : Same (del H a) H := fun b o e => by
  by_cases hb : b = a
  · subst hb; rw [del_at] at e; cases e
  · rw [del_ne hb] at e; exact e
theorem rd_del {H : Hp} {a b : Addr} {u : HO} (hb : b ≠ a) (h : Rd H b u) : Rd (del H a) b u := by
  rcases h with h | ⟨o, h⟩
  · exact .inl (by rw [del_ne hb]; exact h)
  · exact .inr ⟨o, by rw [del_ne hb]; exact h⟩
/-- a smaller datum does not hold a greater one -/
theorem Rp.del {H : Hp} {a : Addr} {m : Nat} {D : PyData} (hD : Rp H m (.ref a) D) : ∀ {n : Nat} {v : V} {d : PyData}, sizeOf d < sizeOf D → Rp H n v d → Rp (del H a) n v d
  | 0, _, _, _, h => h
  | n + 1, v, .none, _, h => h
  | n + 1, v, .bool _, _, h => h
  | n + 1, v, .int _, _, h => h
  | n + 1, v, .str _, _, h => h
  | n + 1, v, .list ds, hs, h => by
    obtain ⟨b, xs, h1, h2, hl, h3⟩ := id h
    have hb : b ≠ a := by
      rintro rfl
      subst h1
      rw [Rp.one h hD] at hs
      exact absurd hs (Nat.lt_irrefl _)
    refine ⟨b, xs, h1, by rw [del_ne hb]; exact h2, hl, pd_imp h3 fun x d _ hd q => Rp.del hD ?_ q⟩
    have := List.sizeOf_lt_of_mem hd
    simp at hs
    omega
  | n + 1, v, .tuple ds, hs, h => by
    obtain ⟨b, xs, h1, h2, hl, h3⟩ := id h
    have hb : b ≠ a := by
      rintro rfl
      subst h1
      rw [Rp.one h hD] at hs
      exact absurd hs (Nat.lt_irrefl _)
    refine ⟨b, xs, h1, by rw [del_ne hb]; exact h2, hl, pd_imp h3 fun x d _ hd q => Rp.del hD ?_ q⟩
    have := List.sizeOf_lt_of_mem hd
    simp at hs
    omega
  | n + 1, v, .dict es, hs, h => by
    obtain ⟨b, xs, h1, h2, hl, hn, h3⟩ := id h
    have hb : b ≠ a := by
      rintro rfl
      subst h1
      rw [Rp.one h hD] at hs
      exact absurd hs (Nat.lt_irrefl _)
    refine ⟨b, xs, h1, rd_del hb h2, hl, hn, pd_imp h3 fun x d _ hd q => ⟨q.1, Rp.del hD ?_ q.2⟩⟩
    have h4 := List.sizeOf_lt_of_mem hd
    obtain ⟨d1, d2⟩ := d
    simp at hs h4
    show sizeOf d2 < _
    omega
/-- nothing is locked -/
def NoFrz (G : Hp) : Prop := ∀ a o u, G a ≠ some (.frz o u)
theorem NoFrz.rd {G : Hp} {a : Addr} {u : HO} (h : NoFrz G) (r : Rd G a u) : G a = some u := by
  rcases r with r | ⟨o, r⟩
  · exact r
  · exact absurd r (h a o u)
theorem NoFrz.del {G : Hp} (h : NoFrz G) (a : Addr) : NoFrz (del G a) := fun b o u e => h b o u (del_sub G a b _ e)
theorem size_kv {es : List (PyData × PyData)} {q : PyData × PyData} (h : q ∈ es) : sizeOf q.2 < sizeOf (PyData.dict es) := by
  have h4 := List.sizeOf_lt_of_mem h
  obtain ⟨d1, d2⟩ := q
  simp at h4
  show sizeOf d2 < _
  simp
  omega
theorem size_item {ds : List PyData} {d : PyData} (h : d ∈ ds) : sizeOf d < sizeOf (PyData.list ds) := by
  have h4 := List.sizeOf_lt_of_mem h
  simp
  omega

/-! ### heaps: all as before, but for some places -/
def Keep (S : List Addr) (H H' : Hp) : Prop := ∀ b o, H b = some o → b ∉ S → H' b = some o
theorem Keep.refl (S : List Addr) (H : Hp) : Keep S H H := fun _ _ h _ => h
theorem Keep.trans {S : List Addr} {H H1 H2 : Hp} (a : Keep S H H1) (b : Keep S H1 H2) : Keep S H H2 := fun c o h n => b c o (a c o h n) n
theorem Keep.sub {S T : List Addr} {H H' : Hp} (a : Keep S H H') (h : ∀ b ∈ S, b ∈ T) : Keep T H H' := fun c o e n => a c o e fun z => n (h c z)
theorem Keep.of {S : List Addr} {H H' : Hp} (a : Same H H') : Keep S H H' := fun c o e _ => a c o e
theorem Keep.same {H H' : Hp} (a : Keep [] H H') : Same H H' := fun c o e => a c o e (by simp)
theorem Keep.new {S : List Addr} {H H' : Hp} {p : Addr} {o : HO} (a : Keep S H H') (h : H' p = none) : Keep S H (upd H' p o) := fun c u e n => by
  rw [upd_ne (ne_of_none (a c u e n) h)]
  exact a c u e n
theorem Keep.mut {S : List Addr} {H H' : Hp} {p : Addr} {o : HO} (a : Keep S H H') (h : p ∈ S) : Keep S H (upd H' p o) := fun c u e n => by
  have hc : c ≠ p := fun z => n (by rw [z]; exact h)
  rw [upd_ne hc]
  exact a c u e n
theorem Keep.fresh {S : List Addr} {H H' : Hp} {p : Addr} {o : HO} (a : Keep S H H') (h : H p = none) : Keep S H (upd H' p o) := fun c u e n => by
  rw [upd_ne (ne_of_none e h)]
  exact a c u e n
theorem Keep.free {S : List Addr} {H H' : Hp} {p : Addr} (a : Keep S H H') (h : H' p = none) (n : p ∉ S) : H p = none := by
  cases e : H p with
  | none => rfl
  | some o =>
    rw [a p o e n] at h
    cases h
theorem same_new {H : Hp} {p : Addr} (h : H p = none) (o : HO) : Same H (upd H p o) := fun b u q => by rw [upd_ne (ne_of_none q h)]; exact q
theorem same_mut {H H' : Hp} {p : Addr} {o : HO} (a : Same H H') (h : H p = none) : Same H (upd H' p o) := fun c u e => by
  rw [upd_ne (ne_of_none e h)]
  exact a c u e
/-- what is new in H' -/
def news (H H' : Hp) : Hp := fun a => match H a with
  | some _ => none
  | none => H' a
theorem news_sub (H H' : Hp) : Same (news H H') H' := fun b o e => by
  unfold news at e
  split at e
  · cases e
  · exact e
theorem news_no {H H' : Hp} {a : Addr} {o : HO} (h : H a = some o) : news H H' a = none := by
  unfold news; rw [h]
theorem news_at {H H' : Hp} {a : Addr} (h : H a = none) : news H H' a = H' a := by
  unfold news; rw [h]
/-- a later heap that keeps all that H1 has outside S, S known in H -/
theorem news_mono {S : List Addr} {H H1 H2 : Hp} (k : Keep S H1 H2) (hs : ∀ a ∈ S, H a ≠ none) : Same (news H H1) (news H H2) := fun b o e => by
  unfold news at e ⊢
  split at e
  · cases e
  · rename_i hb
    exact k b o e fun z => hs b z hb
/-- newer than H1 is newer than H -/
theorem news_more {S : List Addr} {H H1 H2 : Hp} (k : Keep S H H1) (hs : ∀ a ∈ S, H1 a ≠ none) : Same (news H1 H2) (news H H2) := fun b o e => by
  unfold news at e ⊢
  split at e
  · cases e
  · rename_i hb
    split
    · rename_i u hu
      by_cases hz : b ∈ S
      · exact absurd hb (hs b hz)
      · rw [k b _ hu hz] at hb; cases hb
    · exact e

/-- a turn of a loop that makes new data and stores at D -/
theorem grow {S : List Addr} {Hx H1 H4 : Hp} {D : Addr} {o : HO} (k1 : Keep S Hx H1) (k2 : Keep S H1 H4) (hx : ∀ a ∈ S, Hx a ≠ none) (h1 : ∀ a ∈ S, H1 a ≠ none) (hD : D ∈ S) :
    Same (news Hx H1) (news Hx (upd H4 D o)) ∧ Same (news H1 H4) (news Hx (upd H4 D o)) :=
  ⟨news_mono (k2.mut hD) hx, (news_more k1 h1).trans (news_mono (S := S) ((Keep.refl _ _).mut hD) hx)⟩

/-! ### the script, read and never written -/
def Scr (K : PySem.W.Frag) (H : Hp) (a : Addr) (ns : List Int) : Prop := (∃ ob, H a = some (.frz ob (.lst (ns.map V.int)))) ∨ ∀ H' : Hp, SqL K H' a (ns.map V.int)
theorem Scr.of {K : PySem.W.Frag} {H : Hp} {a : Addr} {ns : List Int} (h : SqL K H a (ns.map V.int)) (hO : Only H) : Scr K H a ns := by
  rcases h with (h | ⟨o, h⟩) | h
  · rcases hO a with z | ⟨ob, xs, z⟩
    · rw [z] at h; cases h
    · rw [z] at h; cases h
  · exact .inl ⟨o, h⟩
  · exact .inr fun _ => .inr h
theorem Scr.sq {K : PySem.W.Frag} {H : Hp} {a : Addr} {ns : List Int} (h : Scr K H a ns) : SqL K H a (ns.map V.int) := by
  rcases h with ⟨o, h⟩ | h
  · exact .inl (.inr ⟨o, h⟩)
  · exact h H
theorem Scr.keep {K : PySem.W.Frag} {S : List Addr} {H H' : Hp} {a : Addr} {ns : List Int} (h : Scr K H a ns) (k : Keep S H H') (n : ∀ b ∈ S, ∀ ob u, H b ≠ some (.frz ob u)) : Scr K H' a ns := by
  rcases h with ⟨o, h⟩ | h
  · refine .inl ⟨o, k _ _ h fun z => ?_⟩
    exact n a z _ _ h
  · exact .inr h
theorem Scr.same {K : PySem.W.Frag} {H H' : Hp} {a : Addr} {ns : List Int} (h : Scr K H a ns) (k : Same H H') : Scr K H' a ns := by
  rcases h with ⟨o, h⟩ | h
  · exact .inl ⟨o, k _ _ h⟩
  · exact .inr h
theorem Scr.put {K : PySem.W.Frag} {H : Hp} {a b : Addr} {ns : List Int} {xs : List V} {o : HO} (h : Scr K H a ns) (e : H b = some (.lst xs)) : Scr K (upd H b o) a ns := by
  rcases h with ⟨u, h⟩ | h
  · refine .inl ⟨u, ?_⟩
    rw [upd_ne (ne_of h e (by intro z; cases z))]
    exact h
  · exact .inr h
end SC

set_option Elab.async false
set_option linter.all false
set_option maxRecDepth 100000
set_option maxHeartbeats 4000000
/-! Schemacheck: defs that are ready to be called, built-ins, kinds of values. -/
namespace SC
open PySem L2

/-! ### a def that may be called -/
def Rdy (P : Program) (w : World) (K : PySem.W.Frag) (mg : Str → Option Value) (base : Heap) (k : Nat) (x : Str) (ps : List Str) (sp : Sp) : Prop :=
  ∃ f fd, FnOk P w K mg base CX0 k f fd ps sp ∧ mg x = some (.ref f) ∧ PySem.W.keepIn K (.ref f) = true ∧ Binds K fd ps []
/-- and with keywords ks: gV puts the positional values and the keywords' values in order -/
def RdyK (P : Program) (w : World) (K : PySem.W.Frag) (mg : Str → Option Value) (base : Heap) (k : Nat) (x : Str) (ps ks : List Str) (gV : List V → List V → List V) (sp : Sp) : Prop :=
  ∃ f fd g, FnOk P w K mg base CX0 k f fd ps sp ∧ mg x = some (.ref f) ∧ PySem.W.keepIn K (.ref f) = true ∧ KBinds K fd ps ks g gV
theorem Rdy.mono {P : Program} {w : World} {K : PySem.W.Frag} {mg : Str → Option Value} {base : Heap} {j k : Nat} {x : Str} {ps : List Str} {sp : Sp} (h : Rdy P w K mg base j x ps sp) (l : j ≤ k) : Rdy P w K mg base k x ps sp := by
  obtain ⟨f, fd, h1, h2⟩ := h
  exact ⟨f, fd, h1.mono l, h2⟩
section
variable {X : Cx} {k : Nat} {x : Str} {ps ks : List Str} {sp : Sp} {p pos : Pos} {e : Expr} {es : List Expr} {kws : List Keyword} {t tk : TA} {gV : List V → List V → List V}
theorem pe_c (R : Rdy X.prog X.w X.K X.mg X.base k x ps sp) (hr : Room k X.A) (hg : Gl X x) (ha : PA X (e :: es) t) (hdb : (x == ("__debug__" : Str)) = false := by decide)
    (he : starEach (e :: es) X.env = (false, eval e X.env) :: starEach es X.env := by rfl) (hpl : (backTo pos (starEach es X.env)).any (·.1) = false := by rfl) : PE X (.Call (.Name x p) (e :: es) [] pos) (tCall sp [] E0 t) := by
  obtain ⟨f, fd, h1, h2, h3, h4⟩ := R
  exact pe_call h1 hr hg h2 h3 h4 .nil pass0 ha hdb he hpl
theorem pe_c0 (R : Rdy X.prog X.w X.K X.mg X.base k x ps sp) (hr : Room k X.A) (hg : Gl X x) (hdb : (x == ("__debug__" : Str)) = false := by decide) : PE X (.Call (.Name x p) [] [] pos) (tCall sp [] E0 tNil) := by
  obtain ⟨f, fd, h1, h2, h3, h4⟩ := R
  exact pe_call0 h1 hr hg h2 h3 h4 .nil pass0 hdb
theorem pe_ck (_R : Rdy X.prog X.w X.K X.mg X.base k x ps sp) (hr : Room k X.A) (hg : Gl X x) (R : RdyK X.prog X.w X.K X.mg X.base k x ps ks gV sp) (ha : PA X (e :: es) t) (hkw : PK X kws tk)
    (hall : (backToKw pos (keywordEach kws X.env)).all (·.1.isSome) = true := by rfl) (hks : (backToKw pos (keywordEach kws X.env)).filterMap (·.1) = ks := by rfl) (hdb : (x == ("__debug__" : Str)) = false := by decide)
    (he : starEach (e :: es) X.env = (false, eval e X.env) :: starEach es X.env := by rfl) (hpl : ((backTo pos (starEach (e :: es) X.env)).any (·.1) || (backToKw pos (keywordEach kws X.env)).any (·.1.isNone)) = false := by rfl) :
    PE X (.Call (.Name x p) (e :: es) kws pos) (tCallK sp gV E0 t tk) := by
  obtain ⟨f, fd, g, h1, h2, h3, h4⟩ := R
  exact pe_callK h1 hr hg h2 h3 h4 pass0 ha hkw hall hks hdb he hpl
/-- only keywords -/
theorem pe_ck0 (_R : Rdy X.prog X.w X.K X.mg X.base k x ps sp) (hr : Room k X.A) (hg : Gl X x) (R : RdyK X.prog X.w X.K X.mg X.base k x ps ks gV sp) (hkw : PK X kws tk)
    (hall : (backToKw pos (keywordEach kws X.env)).all (·.1.isSome) = true := by rfl) (hks : (backToKw pos (keywordEach kws X.env)).filterMap (·.1) = ks := by rfl) (hdb : (x == ("__debug__" : Str)) = false := by decide)
    (hpl : ((backTo pos (starEach [] X.env)).any (·.1) || (backToKw pos (keywordEach kws X.env)).any (·.1.isNone)) = false := by rfl) :
    PE X (.Call (.Name x p) [] kws pos) (tCallK sp gV E0 tNil tk) := by
  obtain ⟨f, fd, g, h1, h2, h3, h4⟩ := R
  constructor
  intro pins s σ H Q I h
  apply wpAny_Call_Name_kw
  apply ld_glob I hg h2 _ hdb
  apply PySem.W.callWith_KW0 (h₀ := X.base) I.ok.mod.kin h3 hall _ hpl
  apply thn (hkw.run pos pins s σ H _ I h)
  rintro ws s2 ⟨zs, H2, I2, rz, q2⟩
  constructor
  · exact I2.kIn
  · rw [hks]
    exact run_fnk (us := []) (vs := []) h1 hr h4 pass0 I2 .nil rz q2
end
/-- the def st stands at the name x, with parameters ps -/
def Def (K : PySem.W.Frag) (mg : Str → Option Value) (x : Str) (st : Stmt) (f : Addr) (fd : FuncData) : Prop := Fun K x x st f fd ∧ mg x = some (.ref f)
theorem Def.rdy {P : Program} {w : World} {K : PySem.W.Frag} {mg : Str → Option Value} {base : Heap} {k : Nat} {x : Str} {st : Stmt} {f : Addr} {fd : FuncData} {ps : List Str} {sp : Sp} (D : Def K mg x st f fd)
    (b : ∀ (kV doc pm : Value) (an : Option Addr) (cdv ct : Value) (us : List Value), us.length = ps.length → bindArgs (PySem.W.fnOf x x (defArgs st) (defBody st) (defScope st) .none kV doc pm an cdv ct) ⟨us, []⟩ = pure (ps.zip us))
    (h : FnOk P w K mg base CX0 k f fd ps sp) : Rdy P w K mg base k x ps sp := ⟨f, fd, h, D.2, D.1.kp, D.1.binds b⟩
theorem Def.rdyK {P : Program} {w : World} {K : PySem.W.Frag} {mg : Str → Option Value} {base : Heap} {k : Nat} {x : Str} {st : Stmt} {f : Addr} {fd : FuncData} {ps : List Str} {sp : Sp} (D : Def K mg x st f fd) (ks : List Str) (g : {α : Type} → List α → List α → List α)
    (hrel : ∀ {vs zs : List V} {us ws : List Value}, Vals vs us → Vals zs ws → Vals (g vs zs) (g us ws))
    (b : ∀ (kV doc pm : Value) (an : Option Addr) (cdv ct : Value) (us ws : List Value), (g us ws).length = ps.length → bindArgs (PySem.W.fnOf x x (defArgs st) (defBody st) (defScope st) .none kV doc pm an cdv ct) ⟨us, ks.zip ws⟩ = pure (ps.zip (g us ws)))
    (h : FnOk P w K mg base CX0 k f fd ps sp) : RdyK P w K mg base k x ps ks (fun vs zs => g vs zs) sp := by
  obtain ⟨oc, od, kV, doc, pm, an, cdv, ct, osl, rfl, lk, hcd⟩ := D.1.ex
  exact ⟨f, _, fun us ws => g us ws, h, D.2, D.1.kp, ⟨fun s us ws _ hl => .of_eq (b kV doc pm an cdv ct us ws hl), hrel⟩⟩

theorem vals_app : ∀ {vs zs : List V} {us ws : List Value}, Vals vs us → Vals zs ws → Vals (vs ++ zs) (us ++ ws) := fun a b => a.append b
/-! ### built-ins that the module has not named otherwise -/
structure Blt (mg : Str → Option Value) : Prop where
  b_len : mg "len" = none
  b_range : mg "range" = none
  b_isinstance : mg "isinstance" = none
  b_max : mg "max" = none
  b_min : mg "min" = none
  b_list : mg "list" = none
  b_dict : mg "dict" = none
  b_int : mg "int" = none
  b_str : mg "str" = none
  b_bool : mg "bool" = none
  b_tuple : mg "tuple" = none
  b_sorted : mg "sorted" = none
  b_enumerate : mg "enumerate" = none
  b_repr : mg "repr" = none
  b_all : mg "all" = none
  b_any : mg "any" = none
  b_zip : mg "zip" = none
  b_set : mg "set" = none
  b_sum : mg "sum" = none

/-! ### text * number -/
theorem op_mul_str {X : Cx} : OpR X (binaryOp .Mult) (fun x y H Q => ∃ z n, x = .str z ∧ y = .int n ∧ MulOk z n ∧ Q (.str (Txt.mul z n)) H) := by
  intro pins s σ H x y v u Q I rx ry h
  obtain ⟨z, n, rfl, rfl, hk, q⟩ := h
  obtain ⟨t, rfl⟩ := rx
  obtain ⟨t2, rfl⟩ := ry
  exact SB.mul hk fun a b => ⟨.str (Txt.mul z n), H, I.tok _, ⟨_, rfl⟩, q⟩

/-! ### isinstance of a datum -/
inductive Ty where
  | bool | int | str | list | tuple | dict
def Ty.nm : Ty → String
  | .bool => "bool"
  | .int => "int"
  | .str => "str"
  | .list => "list"
  | .tuple => "tuple"
  | .dict => "dict"
def isT : Ty → PyData → Bool
  | .bool, .bool _ => true
  | .int, .bool _ => true
  | .int, .int _ => true
  | .str, .str _ => true
  | .list, .list _ => true
  | .tuple, .tuple _ => true
  | .dict, .dict _ => true
  | _, _ => false
def tyD : PyData → String
  | .none => "NoneType"
  | .bool _ => "bool"
  | .int _ => "int"
  | .str _ => "str"
  | .list _ => "list"
  | .tuple _ => "tuple"
  | .dict _ => "dict"
theorem Rp.ty {K : PySem.W.Frag} {H : Hp} {n : Nat} {v : V} : ∀ {d : PyData}, Rp H n v d → TyX K H v (.type (tyD d)) := by
  intro d h
  cases n with
  | zero => exact h.elim
  | succ n =>
    cases d with
    | none => cases h; exact .base .non
    | bool b => cases h; exact .base (.bl b)
    | int i => cases h; exact .base (.int i)
    | str x => cases h; exact .base (.str x)
    | list ds => obtain ⟨a, xs, rfl, h2, _⟩ := h; exact .base (.lst h2)
    | tuple ds => obtain ⟨a, xs, rfl, h2, _⟩ := h; exact .base (.tup h2)
    | dict ds =>
      obtain ⟨a, xs, rfl, h2 | ⟨od, h2⟩, _⟩ := h
      · exact .base (.dK h2)
      · exact .fDict h2
theorem kit_isT (T : Ty) (d : PyData) : kitB (tyD d) T.nm = some (isT T d) := by
  cases T <;> cases d <;> (show kitB _ _ = some _; simp only [tyD, isT, Ty.nm]; decide +kernel)
theorem isi1 {K : PySem.W.Frag} {H : Hp} {n : Nat} {v : V} {d : PyData} (T : Ty) {Q : VK} (h : Rp H n v d) (q : Q (.bl (isT T d)) H) : rIsi K [v, .ty T.nm] H Q :=
  ⟨v, .ty T.nm, _, _, isT T d, rfl, .ty T.nm, h.ty, kit_ty (kit_isT T d), q⟩
theorem isi2 {K : PySem.W.Frag} {H : Hp} {n : Nat} {v : V} {d : PyData} {p : Addr} (T U : Ty) {Q : VK} (h : Rp H n v d) (hp : H p = some (.tup [.ty T.nm, .ty U.nm])) (q : Q (.bl (isT T d || isT U d)) H) : rIsiT K [v, .ref p] H Q := by
  refine ⟨v, p, _, _, [.type T.nm, .type U.nm], isT T d || isT U d, rfl, hp, .cons (.ty _) (.cons (.ty _) .nil), h.ty, ?_, q⟩
  refine kitAny_cons (b := isT T d) (kit_ty (kit_isT T d)) (fun e => ?_) (fun e => by rw [e]; rfl)
  rw [e, Bool.false_or]
  exact kitAny_cons (b := isT U d) (kit_ty (kit_isT U d)) (fun e => by rw [e]; exact kitAny_nil) (fun e => e)
end SC

set_option Elab.async false
set_option linter.all false
set_option maxRecDepth 100000
set_option maxHeartbeats 4000000
/-! Schemacheck: loops and comprehensions, read once more. -/
namespace SC
open PySem L2

/-- a for whose walk has begun -/
def FoR (J : It) (g : TG) (tb : TS) (D : Ends) (σ : St) (H : Hp) : Prop := tFor (fun _ G R => R J G) g tb D σ H
theorem tFor_eq (wi : TI) (g : TG) (tb : TS) (D : Ends) (σ : St) (H : Hp) : tFor wi g tb D σ H = wi σ H fun J H1 => FoR J g tb D σ H1 := rfl
/-- a comprehension whose walk has begun -/
def LcR (J : It) (g : TG) (tt : TT) (te : TE) (vs : List Nat) (σ : St) (H : Hp) (Q : VK) : Prop := tLc (fun _ G R => R J G) g tt te vs σ H Q
theorem tLc_eq (wi : TI) (g : TG) (tt : TT) (te : TE) (vs : List Nat) (σ : St) (H : Hp) (Q : VK) : tLc wi g tt te vs σ H Q = wi σ H fun J H1 => LcR J g tt te vs σ H1 Q := rfl
def DcR (J : It) (g : TG) (tt : TT) (tk tv : TE) (vs : List Nat) (σ : St) (H : Hp) (Q : VK) : Prop := tDc (fun _ G R => R J G) g tt tk tv vs σ H Q
theorem tDc_eq (wi : TI) (g : TG) (tt : TT) (tk tv : TE) (vs : List Nat) (σ : St) (H : Hp) (Q : VK) : tDc wi g tt tk tv vs σ H Q = wi σ H fun J H1 => DcR J g tt tk tv vs σ H1 Q := rfl
section
variable {J : It} {n : Nat} {G : Hp → Prop} {Y : Nat → Hp → V → Hp → Prop}
theorem fo_it (w : Walk J n G Y) {g : TG} {tb : TS} {D : Ends} {σ : St} {H : Hp} (Pv : Nat → St → Hp → Prop) (h0 : Pv 0 σ H) (hG : ∀ i σ H, i ≤ n → Pv i σ H → G H)
    (hs : ∀ i x σ H H', i < n → Pv i σ H → Y i H x H' → g x σ H' fun σ2 H2 => tb { nx := Pv (i + 1), rt := D.rt, bk := D.nx, ct := Pv (i + 1) } σ2 H2) (hd : ∀ σ H, Pv n σ H → D.nx σ H) : FoR J g tb D σ H :=
  for_it w Pv h0 hG hs hd
theorem lc_itR (w : Walk J n G Y) {g : TG} {tt : TT} {te : TE} {vs : List Nat} {σ : St} {H1 : Hp} {Q : VK} (Pv : Addr → Nat → Hp → Prop) (h0 : ∀ D, H1 D = none → Pv D 0 (upd H1 D (.lst []))) (hG : ∀ D i H, H1 D = none → i ≤ n → Pv D i H → G H)
    (hs : ∀ D i x H H', H1 D = none → i < n → Pv D i H → Y i H x H' → g x (wipe σ vs) H' fun σ2 H2 => wipe σ2 vs = wipe σ vs ∧ tt σ2 H2 fun b H3 =>
      if b = true then te σ2 H3 fun y H4 => ∃ acc, H4 D = some (.lst acc) ∧ acc.length < sizeLine ∧ Pv D (i + 1) (upd H4 D (.lst (acc ++ [y]))) else Pv D (i + 1) H3)
    (hd : ∀ D H, H1 D = none → Pv D n H → Q (.ref D) H) : LcR J g tt te vs σ H1 Q := fun D hD =>
  lc_it w (Pv D) (h0 D hD) (fun i H => hG D i H hD) (fun i x H H' => hs D i x H H' hD) fun H => hd D H hD
theorem wipe1 {σ : St} {j : Nat} {x : Option V} : wipe ((wipe σ [j]).set j x) [j] = wipe σ [j] := by
  show ((σ.set j none).set j x).set j none = σ.set j none
  rw [List.set_set, List.set_set]
/-- [e for x in ..], each e a value known ahead, the heap only grows -/
theorem lcP_map (w : Walk J n G Y) (X : Nat → V → Prop) (hX : ∀ i H x H', Y i H x H' → H' = H ∧ X i x) {te : TE} {j : Nat} {σ : St} {H1 : Hp} {Q : VK} (hG : ∀ H', Same H1 H' → G H') (ys : List V) (hl : ys.length = n) (hz : n ≤ 100000)
    (step : ∀ i x y H' (N : VK), X i x → ys[i]? = some y → Same H1 H' → (∀ H4, Same H' H4 → N y H4) → te ((wipe σ [j]).set j (some x)) H' N)
    (done : ∀ D H', H1 D = none → Same H1 H' → H' D = some (.lst ys) → Q (.ref D) H') : LcR J (gName j) tYes te [j] σ H1 Q := by
  refine lc_itR w (fun D i H' => Same H1 H' ∧ H' D = some (.lst (ys.take i))) (fun D hD => ⟨same_new hD _, by rw [upd_same, List.take_zero]⟩) (fun D i H _ _ p => hG H p.1) ?_ (fun D H hD p => done D H hD p.1 (by rw [p.2, ← hl, List.take_length]))
  rintro D i x H H' hD hi ⟨s, e⟩ y
  obtain ⟨rfl, hx⟩ := hX _ _ _ _ y
  obtain ⟨z, hz'⟩ : ∃ z, ys[i]? = some z := ⟨ys[i]'(by omega), by rw [List.getElem?_eq_getElem]⟩
  refine ⟨wipe1, ?_⟩
  show te _ _ _
  refine step i x z _ _ hx hz' s fun H4 s4 => ⟨_, s4 _ _ e, ?_, same_mut (s.trans s4) hD, ?_⟩
  · rw [List.length_take]
    exact Nat.lt_of_le_of_lt (Nat.min_le_left _ _) (Nat.lt_of_lt_of_le (Nat.lt_of_lt_of_le hi hz) (by decide))
  · rw [upd_same, List.take_succ, hz']
    rfl
end
/-- a block cut behind its first statement: what holds there, and what follows it -/
theorem cutM {t u : TS} {D : Ends} {σ : St} {H : Hp} (M : St → Hp → Prop) (h1 : ∀ N : St → Hp → Prop, (∀ σ' H', M σ' H' → N σ' H') → t { D with nx := N } σ H) (h2 : ∀ σ' H', M σ' H' → u D σ' H') : tSeq t u D σ H := h1 (u D) h2
/-- the walks -/
theorem lcP_list {K : PySem.W.Frag} {a : Addr} {xs : List V} {te : TE} {j : Nat} {σ : St} {H1 : Hp} {Q : VK} (hS : SqL K H1 a xs) (ys : List V) (hl : ys.length = xs.length) (hz : xs.length ≤ 100000)
    (step : ∀ (i : Nat) x y H' (N : VK), xs[i]? = some x → ys[i]? = some y → Same H1 H' → (∀ H4, Same H' H4 → N y H4) → te ((wipe σ [j]).set j (some x)) H' N)
    (done : ∀ D H', H1 D = none → Same H1 H' → H' D = some (.lst ys) → Q (.ref D) H') : LcR (Itl K a) (gName j) tYes te [j] σ H1 Q :=
  lcP_map (walk_list (xs := xs)) (fun i x => xs[i]? = some x) (fun _ _ _ _ h => h) (fun _ s => s.seq hS) ys hl hz step done
theorem lcP_range {lo : Int} {n : Nat} {te : TE} {j : Nat} {σ : St} {H1 : Hp} {Q : VK} (ys : List V) (hl : ys.length = n) (hz : n ≤ 100000)
    (step : ∀ (i : Nat) x y H' (N : VK), x = V.int (lo + (i : Nat)) → ys[i]? = some y → Same H1 H' → (∀ H4, Same H' H4 → N y H4) → te ((wipe σ [j]).set j (some x)) H' N)
    (done : ∀ D H', H1 D = none → Same H1 H' → H' D = some (.lst ys) → Q (.ref D) H') : LcR (Itr lo n) (gName j) tYes te [j] σ H1 Q :=
  lcP_map walk_range (fun i x => x = V.int (lo + (i : Nat))) (fun _ _ _ _ h => h) (fun _ _ => trivial) ys hl hz step done
theorem lcP_keys {d : Addr} {o : Obj} {kvs : List (Key × V)} {te : TE} {j : Nat} {σ : St} {H1 : Hp} {Q : VK} (hd : H1 d = some (.frz o (.dK kvs))) (ys : List V) (hl : ys.length = kvs.length) (hz : kvs.length ≤ 100000)
    (step : ∀ (i : Nat) k v y H' (N : VK), kvs[i]? = some (k, v) → ys[i]? = some y → Same H1 H' → (∀ H4, Same H' H4 → N y H4) → te ((wipe σ [j]).set j (some (kV k))) H' N)
    (done : ∀ D H', H1 D = none → Same H1 H' → H' D = some (.lst ys) → Q (.ref D) H') : LcR (Itk d o kvs) (gName j) tYes te [j] σ H1 Q :=
  lcP_map walk_keys (fun i x => ∃ k v, kvs[i]? = some (k, v) ∧ x = kV k) (fun _ _ _ _ h => h) (fun _ s => s _ _ hd) ys hl hz (fun i x y H' N ⟨k, v, h1, h2⟩ hy s n => by subst h2; exact step i k v y H' N h1 hy s n) done
/-- under a lock: what was there is there, what the lock hid comes back -/
theorem same_lock {H H' : Hp} {d : Addr} {u : HO} {od : Obj} (hd : H d = some u) (s : Same (upd H d (.frz od u)) H') : Same H (upd H' d u) := fun b o e => by
  by_cases hb : b = d
  · subst hb
    rw [hd] at e
    cases e
    exact upd_same
  · rw [upd_ne hb]
    exact s b o (by rw [upd_ne hb]; exact e)
/-- a dict locked for a walk: it is locked here, or it was before (then some list p is locked in its place) -/
theorem lockE {t : TE} {σ : St} {H : Hp} {Q : VK} {a p : Addr} {kvs : List (Key × V)} {ps : List V} (ha : Rd H a (.dK kvs)) (hp : H p = some (.lst ps))
    (h : ∀ (H1 : Hp) (od : Obj), H1 a = some (.frz od (.dK kvs)) → (∀ b, H1 b = none → H b = none) → (∀ G : Hp, G p = none → Same G H → LSame G H1) →
      ∀ Q' : VK, (∀ v H', Same H1 H' → (∀ H2, Same H H2 → (∀ b, H b = none → H2 b = H' b) → Q v H2) → Q' v H') → t σ H1 Q') : tLockE t σ H Q := by
  have key : ∀ (c : Addr) (u : HO), H c = some u → ∀ (od : Obj) (v : V) (H' : Hp), Same (upd H c (.frz od u)) H' → (∀ H2, Same H H2 → (∀ b, H b = none → H2 b = H' b) → Q v H2) → H' c = some (.frz od u) ∧ Q v (upd H' c u) := by
    intro c u hc od v H' s q
    refine ⟨s _ _ upd_same, q _ (same_lock hc s) ?_⟩
    intro b hb
    rw [upd_ne (fun z => by rw [z, hc] at hb; cases hb)]
  have free : ∀ (c : Addr) (u : HO), H c = some u → ∀ od : Obj, ∀ b, upd H c (.frz od u) b = none → H b = none := by
    intro c u hc od b hb
    by_cases e : b = c
    · rw [e, upd_same] at hb; cases hb
    · rw [upd_ne e] at hb; exact hb
  rcases ha with ha | ⟨od, ha⟩
  · refine ⟨a, .dK kvs, ha, trivial, fun od => h _ od upd_same (free _ _ ha od) ?_ _ (key _ _ ha od)⟩
    intro G _ s b o e
    by_cases hb : b = a
    · subst hb
      have e2 := s _ _ e
      rw [ha] at e2
      cases e2
      exact .inr ⟨kvs, od, rfl, upd_same⟩
    · exact .inl (by rw [upd_ne hb]; exact s _ _ e)
  · have hap : a ≠ p := ne_of ha hp (by intro z; cases z)
    refine ⟨p, .lst ps, hp, trivial, fun od2 => h _ od (by rw [upd_ne hap]; exact ha) (free _ _ hp od2) ?_ _ (key _ _ hp od2)⟩
    intro G hG s b o e
    exact .inl (by rw [upd_ne (ne_of_none e hG)]; exact s _ _ e)
/-- [e for k in d] -/
theorem lcD_keys {a p : Addr} {kvs : List (Key × V)} {ps : List V} {te : TE} {i j : Nat} {σ : St} {H G : Hp} {Q : VK} (ha : Rd H a (.dK kvs)) (hp : H p = some (.lst ps)) (hi : σ[i]? = some (some (.ref a))) (hG : G p = none) (sG : Same G H)
    (ys : List V) (hl : ys.length = kvs.length) (hz : kvs.length ≤ 100000)
    (step : ∀ (i : Nat) k v y H' (N : VK), kvs[i]? = some (k, v) → ys[i]? = some y → LSame G H' → Rd H' a (.dK kvs) → (∀ H4, Same H' H4 → N y H4) → te ((wipe σ [j]).set j (some (kV k))) H' N)
    (done : ∀ D H', H D = none → Same H H' → H' D = some (.lst ys) → Q (.ref D) H') : tLockE (tLc (iKeys (tVar i)) (gName j) tYes te [j]) σ H Q := by
  refine lockE ha hp ?_
  intro H1 od e1 fr ls Q' hQ
  rw [tLc_eq]
  refine ⟨_, hi, a, od, rfl, .inl ⟨kvs, e1, lcP_keys e1 ys hl hz ?_ ?_⟩⟩
  · intro i k v y H' N hk hy s N'
    exact step i k v y H' N hk hy ((ls G hG sG).trans (.of s)) (.inr ⟨od, s _ _ e1⟩) N'
  · intro D H' nD s e
    refine hQ _ _ s ?_
    intro H2 s2 h2
    have hD : H D = none := fr D nD
    exact done D H2 hD s2 (by rw [h2 D hD]; exact e)
/-- a dict's value by its key -/
theorem valV_at {kvs : List (Key × V)} {i : Nat} {k : Key} {v : V} (hn : (kvs.map (·.1)).Nodup) (h : kvs[i]? = some (k, v)) : valV kvs k = some v := by
  induction kvs generalizing i with
  | nil => simp at h
  | cons p r ih =>
    cases i with
    | zero =>
      simp at h
      subst h
      simp [valV]
    | succ i =>
      simp at h
      have hm : (k, v) ∈ r := List.mem_of_getElem? h
      have hne : ¬ p.1 = k := by
        intro e
        simp only [List.map_cons, List.nodup_cons] at hn
        exact hn.1 (List.mem_map.mpr ⟨_, hm, e.symm⟩)
      have := ih (by simp only [List.map_cons, List.nodup_cons] at hn; exact hn.2) h
      simp only [valV, List.find?_cons, decide_eq_false hne] at this ⊢
      exact this
theorem cx_K {CX : CXT} {P : Program} {w : World} {K : PySem.W.Frag} {mg : Str → Option Value} {base : Heap} {N : List Str} {q : Str} {sc : Scope} {f : Addr} {cd : Value} {A : Around} {outer : List Env} {s : Shared} {H : Hp} {E : XK} : (cxOf CX P w K mg base N q sc f cd A outer s H E).K = K := rfl
/-- an item of a written list, whichever -/
theorem ix_any {K : PySem.W.Frag} {H : Hp} {p : Addr} {xs : List V} {i : Int} {Q : VK} (hp : H p = some (.lst xs)) (h0 : 0 ≤ i) (h1 : i < (xs.length : Int)) (q : ∀ v ∈ xs, Q v H) : rIxL K (.ref p) (.int i) H Q := by
  obtain ⟨j, rfl⟩ : ∃ j : Nat, i = j := ⟨i.toNat, by omega⟩
  have hl : j < xs.length := by omega
  exact ⟨p, xs, j, xs[j], rfl, rfl, SqL.of hp, atI_nat (List.getElem?_eq_getElem hl), q _ (List.getElem_mem hl)⟩
theorem mul_ok {x : Str} {n : Int} (hx : x.length = 1) (h0 : -1000 ≤ n) (h1 : n ≤ 1000) : MulOk x n := by
  refine ⟨?_, ?_, ?_⟩
  · rw [decide_eq_false (by omega), decide_eq_false (by omega)]; rfl
  · intro h2 _
    rw [hx]
    have : (2 ^ 63 - 1 : Int) / n ≥ 1 := Int.le_ediv_of_mul_le (by omega) (by omega)
    omega
  · intro h2 _
    rw [hx]
    have h3 : ∀ k : Fin 1001, PySem.Builtin.Str.tooLong (1 * k.1) = false := by decide +kernel
    exact h3 ⟨n.toNat, by omega⟩
theorem erase_map {A B : Type} (f : A → B) : ∀ (l : List A) (k : Nat), (l.map f).eraseIdx k = (l.eraseIdx k).map f
  | [], _ => rfl
  | _ :: _, 0 => rfl
  | x :: r, k + 1 => by simp [List.eraseIdx, erase_map f r k]
theorem erase_perm {A : Type} : ∀ (l : List A) (k : Nat) (x : A), l[k]? = some x → (x :: l.eraseIdx k).Perm l
  | [], _, _, h => by simp at h
  | y :: r, 0, x, h => by simp at h; subst h; exact .refl _
  | y :: r, k + 1, x, h => by
    simp at h
    exact (List.Perm.swap y x _).trans ((erase_perm r k x h).cons y)
theorem seqIx {j n : Nat} (h : j < n) : seqIndex? (j : Int) n = some j := by
  have h1 : ¬ (j : Int) < 0 := by omega
  unfold seqIndex?
  simp only [if_neg h1]
  rw [if_pos (by simp; omega)]
  simp
theorem valV_no {kvs : List (Key × V)} {k : Key} (h : k ∉ kvs.map (·.1)) : valV kvs k = none := by
  unfold valV
  rw [List.find?_eq_none.mpr]
  · rfl
  · intro p hp
    simp only [decide_eq_true_eq]
    intro e
    exact h (List.mem_map.mpr ⟨p, hp, e⟩)
theorem nd_take {A : Type} {xs : List A} {i : Nat} (h : xs.Nodup) (hi : i < xs.length) : xs[i] ∉ xs.take i := by
  intro hm
  rw [← List.take_append_drop i xs] at h
  exact (List.nodup_append.mp h).2.2 _ hm _ (List.mem_of_getElem (i := 0) (h := by rw [List.length_drop]; omega) (by simp)) rfl
theorem iteT' {c A B : Prop} [Decidable c] (hc : c) (h : A) : if c then A else B := by rw [if_pos hc]; exact h
theorem iteF' {c A B : Prop} [Decidable c] (hc : ¬ c) (h : B) : if c then A else B := by rw [if_neg hc]; exact h
theorem mod_in (n : Int) {m : Int} (h : 0 < m) : 0 ≤ n % m ∧ n % m < m := ⟨Int.emod_nonneg _ (by omega), Int.emod_lt_of_pos _ h⟩
theorem sz5 {n : Nat} (h : n ≤ 100000) : n ≤ sizeLine := Nat.le_trans h (by decide)
theorem sz5l {n : Nat} (h : n < 100000) : n < sizeLine := Nat.lt_of_lt_of_le h (by decide)
end SC

set_option Elab.async false
set_option linter.all false
set_option maxRecDepth 100000
set_option maxHeartbeats 4000000
/-! Schemacheck: defs that are called where no repr is under way; repr of data. -/
namespace SC
open PySem L2 PySem.Spec PyProof.Rows

/-- a def keeps its promise wherever nothing is being shown -/
structure FnG (P : Program) (w : World) (K : PySem.W.Frag) (mg : Str → Option Value) (base : Heap) (k : Nat) (f : Addr) (fd : FuncData) (ps : List Str) (sp : Sp) : Prop where
  len : ∀ vs H Q E, sp vs H Q E → vs.length = ps.length
  run : ∀ (A : Around) (outer : List Env) (s : Shared) (H : Hp) (args : Args) (us : List Value) (vs : List V) (Q : VK) (E : XK), A.guards = some [] → Room k A → Env0 P w K mg base A outer s H →
    BindsTo s fd args (ps.zip us) → Vals vs us → sp vs H Q E → codeAny (model P w) A (.call (.ref f) args) (CR CX0 outer P w H s Q E) s
section
variable {P : Program} {w : World} {K : PySem.W.Frag} {mg : Str → Option Value} {base : Heap} {k : Nat} {f : Addr} {fd : FuncData} {ps : List Str} {sp : Sp}
theorem FnG.of (F : FnOk P w K mg base CX0 k f fd ps sp) : FnG P w K mg base k f fd ps sp := ⟨F.len, fun A outer s H args us vs Q E _ => F.run A outer s H args us vs Q E⟩
theorem kinds_ok {N ps : List Str} {sc : Scope} (S : FnScope N ps sc) (us : List Value) : ((ps.zip us).all fun y => sc.names.lookup y.1 == some .local || sc.names.lookup y.1 == some .cell) = true := by
  rw [List.all_eq_true]
  rintro ⟨n, v⟩ hy
  have h1 := S.par n (List.of_mem_zip hy).1
  rcases h1 with q | q
  · simp [q]
  · simp [q]
/-- the rule for a def, as Fun.ok, with the guards known -/
theorem okG {x qual : Str} {st : Stmt} {N : List Str} (F : Fun K x qual st f fd) (S : FnScope N ps (defScope st)) (len : ∀ vs H Q E, sp vs H Q E → vs.length = ps.length)
    (hbody : ∀ (cdv : Value) (A : Around) (outer : List Env) (s : Shared) (H : Hp) (vs : List V) (Q : VK) (E : XK), A.guards = some [] → Room k (A.deeper (envOfC qual (defScope st) s.heap.objs.size f cdv)) → sp vs H Q E →
      ∃ t, PSs (cxOf CX0 P w K mg base N qual (defScope st) f cdv A outer s H E).nox (defBody st) t ∧ t { nx := fun _ H' => Q .non H', rt := Q } (start N vs) H) : FnG P w K mg base (k + 1) f fd ps sp := by
  obtain ⟨oc, od, kV, doc, pm, an, cdv, ct, osl, rfl, lk, hcd⟩ := F.ex
  constructor
  · exact len
  intro A outer s H args us vs Q E hg hr e0 hb r hsp
  obtain ⟨t, ht, hq⟩ := hbody cdv A outer s H vs Q E hg (hr.deeper _) hsp
  have KX : K.In s.heap := e0.mod.kin.keeps (fun b o e => (e0.bs b o e).1)
  have lim : s.heap.NoLimit := e0.mod.nolimit.keeps (fun b o e => (e0.bs b o e).1)
  refine Att.call_fn KX lim lk hcd hr.depth hb (kinds_ok S us) ?_ S.co S.gen S.kind
  intro s1 x
  have I : Inv (cxOf CX0 P w K mg base N qual (defScope st) f cdv A outer s H E) [] (start N vs) H s1 := inv_start S hr.hd e0 (len _ _ _ _ hsp) r x
  have done : ∀ {σ' : L2.St} {H' : Hp} {v : V} {u : Value} {s' : Shared}, Inv (cxOf CX0 P w K mg base N qual (defScope st) f cdv A outer s H E) [] σ' H' s' → RelV v u → Q v H' → CE outer P w H s Q u s' := by
    intro σ' H' v u s' J rv q
    exact ⟨v, H', J.os, J.bare, J.base, J.hok, rv, q⟩
  apply wpAny_mono (ht.nox.run [] s1 (start N vs) H _ I hq)
  · intro fl s' hs
    cases fl
    case ret u =>
      obtain ⟨v, σ', H', J, rv, q⟩ := hs
      exact done J rv q
    case next =>
      obtain ⟨σ', H', J, q⟩ := hs
      exact done (v := .non) (u := .none) J rfl q
    case brk =>
      obtain ⟨_, _, _, q⟩ := hs
      exact q.elim
    case cont =>
      obtain ⟨_, _, _, q⟩ := hs
      exact q.elim
  · intro e s' hs
    exact hs
end
/-! ### calls of such defs -/
def RdyG (P : Program) (w : World) (K : PySem.W.Frag) (mg : Str → Option Value) (base : Heap) (k : Nat) (x : Str) (ps : List Str) (sp : Sp) : Prop :=
  ∃ f fd, FnG P w K mg base k f fd ps sp ∧ mg x = some (.ref f) ∧ PySem.W.keepIn K (.ref f) = true ∧ Binds K fd ps []
theorem Def.rdyG {P : Program} {w : World} {K : PySem.W.Frag} {mg : Str → Option Value} {base : Heap} {k : Nat} {x : Str} {st : Stmt} {f : Addr} {fd : FuncData} {ps : List Str} {sp : Sp} (D : Def K mg x st f fd)
    (b : ∀ (kV doc pm : Value) (an : Option Addr) (cdv ct : Value) (us : List Value), us.length = ps.length → bindArgs (PySem.W.fnOf x x (defArgs st) (defBody st) (defScope st) .none kV doc pm an cdv ct) ⟨us, []⟩ = pure (ps.zip us))
    (h : FnG P w K mg base k f fd ps sp) : RdyG P w K mg base k x ps sp := ⟨f, fd, h, D.2, D.1.kp, D.1.binds b⟩
section
variable {X : Cx} {k : Nat} {x : Str} {ps ks : List Str} {sp : Sp} {p pos : Pos} {e : Expr} {es : List Expr} {t : TA}
theorem run_g {pins : List (Addr × Obj)} {σ : L2.St} {H : Hp} {s : Shared} {Q : VK} {f : Addr} {fd : FuncData} {us : List Value} {vs : List V} (F : FnG X.prog X.w X.K X.mg X.base k f fd ps sp) (hg : X.A.guards = some []) (hr : Room k X.A) (hb : Binds X.K fd ps [])
    (I : Inv X pins σ H s) (r : Vals vs us) (h : sp vs H Q E0) : wpAny (model X.prog X.w) X.A (call (.ref f) us) (EP X pins σ Q) X.xe s := by
  have hl : us.length = ps.length := by
    rw [← r.length]
    exact F.len _ _ _ _ h
  have hb' := hb s us I.kIn (by rw [List.append_nil]; exact hl)
  rw [List.append_nil] at hb'
  apply wpAny_call
  apply codeAny_mono (F.run X.A X.stack s H ⟨us, []⟩ us vs Q E0 hg hr I.env0 hb' r h)
  intro res s' hq
  cases res with
  | error e => exact False.elim hq
  | ok fl =>
    cases fl with
    | ret u => exact I.after hq
    | next => exact False.elim hq
    | brk => exact False.elim hq
    | cont => exact False.elim hq
theorem pe_cg (R : RdyG X.prog X.w X.K X.mg X.base k x ps sp) (hgd : X.A.guards = some []) (hr : Room k X.A) (hg : Gl X x) (ha : PA X (e :: es) t) (hdb : (x == ("__debug__" : Str)) = false := by decide)
    (he : starEach (e :: es) X.env = (false, eval e X.env) :: starEach es X.env := by rfl) (hpl : (backTo pos (starEach es X.env)).any (·.1) = false := by rfl) : PE X (.Call (.Name x p) (e :: es) [] pos) (tCall sp [] E0 t) := by
  obtain ⟨f, fd, h1, h2, h3, h4⟩ := R
  constructor
  intro pins s σ H Q I h
  apply wpAny_Call_Name_kw
  apply ld_glob I hg h2 _ hdb
  refine PySem.W.callWith_K (h₀ := X.base) I.ok.mod.kin h3 ?_ he hpl
  apply thn (ha.run pos pins s σ H _ I h)
  rintro us s1 ⟨vs, H1, I1, r, q⟩
  refine ⟨I1.kIn, run_g h1 hgd hr h4 I1 r ?_⟩
  rw [List.append_nil] at q
  exact q
theorem pe_cg0 (R : RdyG X.prog X.w X.K X.mg X.base k x ps sp) (hgd : X.A.guards = some []) (hr : Room k X.A) (hg : Gl X x) (hdb : (x == ("__debug__" : Str)) = false := by decide) : PE X (.Call (.Name x p) [] [] pos) (tCall sp [] E0 tNil) := by
  obtain ⟨f, fd, h1, h2, h3, h4⟩ := R
  constructor
  intro pins s σ H Q I h
  apply wpAny_Call_Name_kw
  apply ld_glob I hg h2 _ hdb
  exact PySem.W.callWith_K0 I.kIn h3 (run_g (us := []) (vs := []) h1 hgd hr h4 I .nil h)
end
/-! ### repr -/
theorem readsAll_of {h : Heap} {F : V → PyData → Prop} {G : Addr → Prop} (f : ∀ v d u, F v d → RelV v u → ∃ as, Reads h u d as ∧ ∀ b ∈ as, G b) : ∀ {xs : List V} {ds : List PyData} {us : List Value}, Paired F xs ds → Vals xs us → ∃ as, ReadsAll h us ds as ∧ ∀ b ∈ as, G b := by
  intro xs ds us hp
  induction hp generalizing us with
  | nil =>
    intro r
    cases r
    exact ⟨[], .nil, by simp⟩
  | cons q _ ih =>
    intro r
    cases r with
    | cons r1 r2 =>
      obtain ⟨as, h1, g1⟩ := f _ _ _ q r1
      obtain ⟨bs, h2, g2⟩ := ih r2
      refine ⟨_, .cons h1 h2, ?_⟩
      intro b hb
      rcases List.mem_append.mp hb with hb | hb
      · exact g1 b hb
      · exact g2 b hb
theorem reads_key {h : Heap} {k : Key} {v : Value} (hk : keyIs k v = true) : Reads h v (kD k) [] := by
  rcases keyIs_shape hk with ⟨i, t, rfl, rfl⟩ | ⟨x, t, rfl, rfl⟩
  · exact .int i t
  · exact .str x t
theorem readsKv_of {P : Program} {w : World} {h : Heap} {F : V → PyData → Prop} {G : Addr → Prop} (f : ∀ v d u, F v d → RelV v u → ∃ as, Reads h u d as ∧ ∀ b ∈ as, G b) : ∀ {kvs : List (Key × V)} {es : List (PyData × PyData)} {ws : List (Key × Value)} {ds : List DictEntry},
    Paired (fun (p : Key × V) (q : PyData × PyData) => q.1 = kD p.1 ∧ F p.2 q.2) kvs es → KV kvs ws → Pairs (mixKind P w) ds ws →
    (∃ as, ReadsAll h (ds.map (·.key)) (es.map (·.1)) as ∧ as = []) ∧ ∃ bs, ReadsAll h (ds.map (·.val)) (es.map (·.2)) bs ∧ ∀ b ∈ bs, G b := by
  intro kvs es ws ds hp
  induction hp generalizing ws ds with
  | nil =>
    intro r q
    cases r
    cases q
    exact ⟨⟨[], .nil, rfl⟩, [], .nil, by simp⟩
  | cons c _ ih =>
    intro r q
    cases r with
    | cons r1 r2 =>
      cases q with
      | cons q1 q2 q3 =>
        obtain ⟨⟨as, h1, e1⟩, bs, h2, g2⟩ := ih r2 q3
        subst e1
        obtain ⟨cs, h3, g3⟩ := f _ _ _ c.2 r1.2
        have k1 : Reads h _ (kD _) [] := reads_key q1
        rw [← r1.1, ← c.1] at k1
        rw [← q2] at h3
        refine ⟨⟨[] ++ [], ReadsAll.cons k1 h1, rfl⟩, cs ++ bs, ReadsAll.cons h3 h2, ?_⟩
        · intro b hb
          rcases List.mem_append.mp hb with hb | hb
          · exact g3 b hb
          · exact g2 b hb
theorem Rp.reads {P : Program} {w : World} {H : Hp} {h : Heap} (ok : HOk P w H h) : ∀ {n : Nat} {d : PyData} {v : V} {u : Value}, Rp H n v d → RelV v u → ∃ as, Reads h u d as ∧ ∀ b ∈ as, H b ≠ none
  | 0, _, _, _, h, _ => h.elim
  | n + 1, .none, _, _, e, r => by cases e; cases r; exact ⟨[], .none, by simp⟩
  | n + 1, .bool b, _, _, e, r => by cases e; cases r; exact ⟨[], .bool b, by simp⟩
  | n + 1, .int b, _, _, e, r => by cases e; obtain ⟨t, rfl⟩ := r; exact ⟨[], .int b t, by simp⟩
  | n + 1, .str b, _, _, e, r => by cases e; obtain ⟨t, rfl⟩ := r; exact ⟨[], .str b t, by simp⟩
  | n + 1, .list ds, _, _, ⟨a, xs, e, ha, _, hp⟩, r => by
    subst e
    cases r
    obtain ⟨_, its, m, rv, hg⟩ := ok a _ ha
    obtain ⟨as, h1, g1⟩ := readsAll_of (G := fun b => H b ≠ none) (fun v d u q r => Rp.reads ok q r) hp rv
    refine ⟨a :: as, .list hg rfl rfl (by simpa using h1), ?_⟩
    intro b hb
    rcases List.mem_cons.mp hb with rfl | hb
    · rw [ha]; simp
    · exact g1 b hb
  | n + 1, .tuple ds, _, _, ⟨a, xs, e, ha, _, hp⟩, r => by
    subst e
    cases r
    obtain ⟨_, its, rv, o, ho, hc, m, hd⟩ := ok a _ ha
    obtain ⟨as, h1, g1⟩ := readsAll_of (G := fun b => H b ≠ none) (fun v d u q r => Rp.reads ok q r) hp rv
    exact ⟨as, .tuple ho hc hd (by simpa using h1), g1⟩
  | n + 1, .dict es, _, _, ⟨a, kvs, e, ha, _, _, hp⟩, r => by
    subst e
    cases r
    obtain ⟨_, _, ws, rv, o, ds, ep, ho, hx, hd, _, hpr, _⟩ := ha.ok ok
    obtain ⟨⟨as, h1, e1⟩, bs, h2, g2⟩ := readsKv_of (G := fun b => H b ≠ none) (fun v d u q r => Rp.reads ok q r) hp rv hpr
    subst e1
    refine ⟨_, .dict ho hx.1 hd h1 h2, ?_⟩
    intro b hb
    simp only [List.append_nil, List.cons_append, List.nil_append, List.mem_cons] at hb
    rcases hb with rfl | hb
    · rcases ha with ha | ⟨_, ha⟩ <;> rw [ha] <;> simp
    · exact g2 b hb
theorem depthAll_le {n : Nat} : ∀ {ds : List PyData}, (∀ d ∈ ds, d.depth ≤ n) → PyData.depthAll ds ≤ n
  | [], _ => Nat.zero_le _
  | d :: r, h => by
    have h1 := h d (by simp)
    have h2 := depthAll_le (ds := r) fun e he => h e (by simp [he])
    show max _ _ ≤ n
    omega
theorem depthKv_le {n : Nat} : ∀ {es : List (PyData × PyData)}, (∀ e ∈ es, e.1.depth ≤ n ∧ e.2.depth ≤ n) → PyData.depthKv es ≤ n
  | [], _ => Nat.zero_le _
  | (a, b) :: r, h => by
    have h1 := h (a, b) (by simp)
    have h2 := depthKv_le (es := r) fun e he => h e (by simp [he])
    show max (max _ _) _ ≤ n
    simp at h1
    omega
theorem Rp.depth_le {H : Hp} : ∀ {n : Nat} {d : PyData} {v : V}, Rp H n v d → d.depth ≤ n
  | 0, _, _, h => h.elim
  | n + 1, .none, _, _ => Nat.zero_le _
  | n + 1, .bool _, _, _ => Nat.zero_le _
  | n + 1, .int _, _, _ => Nat.zero_le _
  | n + 1, .str _, _, _ => Nat.zero_le _
  | n + 1, .list ds, _, ⟨a, xs, e, ha, _, hp⟩ => by
    show PyData.depthAll ds + 1 ≤ n + 1
    have : PyData.depthAll ds ≤ n := depthAll_le fun d hd => by
      obtain ⟨x, _, r⟩ := pd_memR hp hd
      exact r.depth_le
    omega
  | n + 1, .tuple ds, _, ⟨a, xs, e, ha, _, hp⟩ => by
    show PyData.depthAll ds + 1 ≤ n + 1
    have : PyData.depthAll ds ≤ n := depthAll_le fun d hd => by
      obtain ⟨x, _, r⟩ := pd_memR hp hd
      exact r.depth_le
    omega
  | n + 1, .dict es, _, ⟨a, xs, e, ha, _, _, hp⟩ => by
    show PyData.depthKv es + 1 ≤ n + 1
    have : PyData.depthKv es ≤ n := depthKv_le fun q hq => by
      obtain ⟨x, _, r1, r2⟩ := pd_memR hp hq
      refine ⟨?_, r2.depth_le⟩
      rw [r1]
      cases x.1 <;> exact Nat.zero_le _
    omega
def rRepr : List V → Hp → VK → Prop := fun xs H Q => ∃ v n d, xs = [v] ∧ Rp H n v d ∧ n ≤ 90 ∧ d.showable = true ∧ d.shown.length ≤ sizeLine ∧ Q (.str d.shown) H
theorem call_repr {X : Cx} (hg : X.A.guards = some []) (hsys : ∃ o, X.base.get? sysModules = some o) (hu : X.A.units + 100 < cLine) : CallR X (.builtin "repr") rRepr := by
  intro pins s σ H xs us Q I r h
  obtain ⟨v, n, d, rfl, hd, hn, hs, hz, q⟩ := h
  obtain ⟨u, rfl, rv⟩ := vals1 r
  obtain ⟨o0, hs0⟩ := hsys
  have hsm : H sysModules = none := (I.bs _ _ hs0).2
  obtain ⟨as, rd, g⟩ := hd.reads I.hok rv
  have hdep := hd.depth_le
  have no : sysModules ∉ as := fun hm => g _ hm hsm
  cases rd with
  | none => exact PySem.P.repr_of_none ⟨.str _, H, I.tok _, ⟨_, rfl⟩, q⟩
  | bool b => exact PySem.P.repr_of_bool ⟨.str _, H, I.tok _, ⟨_, rfl⟩, q⟩
  | int i t =>
    have hi : i.natAbs.log2 < 1920 := of_decide_eq_true hs
    exact PySem.P.repr_of_int hi ⟨.str _, H, I.tok _, ⟨_, rfl⟩, q⟩
  | str x t => exact PySem.P.repr_of_str ⟨.str _, H, I.tok _, ⟨_, rfl⟩, q⟩ hz
  | list a1 a2 a3 a4 => exact repr_of_reads' (.list a1 a2 a3 a4) hs (fun _ => no) hg (by omega) (fun b o e => e) (fun h' t tk hk => ⟨.str _, H, I.un (Un.kept hk) (I.hok.kept hk), ⟨_, rfl⟩, q⟩) hz
  | tuple a1 a2 a3 a4 => exact repr_of_reads' (.tuple a1 a2 a3 a4) hs (fun _ => no) hg (by omega) (fun b o e => e) (fun h' t tk hk => ⟨.str _, H, I.un (Un.kept hk) (I.hok.kept hk), ⟨_, rfl⟩, q⟩) hz
  | dict a1 a2 a3 a4 a5 => exact repr_of_reads' (.dict a1 a2 a3 a4 a5) hs (fun _ => no) hg (by omega) (fun b o e => e) (fun h' t tk hk => ⟨.str _, H, I.un (Un.kept hk) (I.hok.kept hk), ⟨_, rfl⟩, q⟩) hz
/-! ### the law's own call -/
section
variable {P : Program} {w : World} {K : PySem.W.Frag} {mg mb : Str → Option Value} {k : Nat} {fa a : Addr} {fd : FuncData} {x : Str} {sp : Sp} {s1 : Shared} {vs : List Value} {ns : List Int}
/-- a dict of the state is not the script's place -/
theorem not_script {h : Heap} {b : Addr} {m : Str → Option Value} (n : h.Ns b m) (ha : h.get? a = some { cls := .type "list", data := .seq vs.toArray }) : b ≠ a := by
  rintro rfl
  obtain ⟨o, es, ep, e, d, _⟩ := n
  rw [ha] at e
  cases e
  cases d
theorem lawH {H : Hp} (KX : K.In s1.heap) (hns : s1.heap.Ns mainGlobals mg) (hb : s1.heap.Ns builtinsNs mb) (hbb : ∀ x : Str, x ≠ "__name__" → mb x = bootBuiltins x) (hlim : s1.heap.NoLimit) (hseer : s1.heap.NoSeer) (hg : s1.gens = #[])
    (ha : s1.heap.get? a = some { cls := .type "list", data := .seq vs.toArray }) (hr : Room k callerA) (hbind : ∀ (s : Shared) (u : Value), BindsTo s fd ⟨[u], []⟩ [(x, u)])
    (F : ∀ base : Heap, K.In base → base.Ns mainGlobals mg → (∃ o, base.get? sysModules = some o) → FnG P w K mg base k fa fd [x] sp)
    (hsp : sp [.ref a] H (fun v _ => v = .bl true) fun _ _ _ => False) (hO : Only H) (hok : HOk P w H s1.heap) (hA : ∀ b, b ≠ a → H b = none) (hK : ∀ o, K.lookup a = some o → H a = none) :
    codeAny (model P w) callerA (.call (.ref fa) ⟨[.ref a], []⟩) (fun r s' => r = .ok (.ret (.bool true)) ∧ OldK s1.heap s'.heap ∧ s'.os = s1.os ∧ AllBare s'.gens) s1 := by
  have toB : ∀ {b : Addr} {o : Obj}, s1.heap.get? b = some o → H b = none → (hidT s1.heap H).get? b = some o := fun e n => hidT_get e n
  have toN : ∀ {b : Addr} {m : Str → Option Value}, s1.heap.Ns b m → (hidT s1.heap H).Ns b m := by
    intro b m n
    have hne := not_script n ha
    obtain ⟨o, es, ep, e, r⟩ := n
    exact ⟨o, es, ep, toB e (hA b hne), r⟩
  have inB : K.In (hidT s1.heap H) := by
    intro b o e
    apply toB (KX b o e)
    by_cases hba : b = a
    · subst hba; exact hK o e
    · exact hA b hba
  have sysB : ∃ o, (hidT s1.heap H).get? sysModules = some o := by
    obtain ⟨mm, n, _⟩ := hseer.mods
    have hne := not_script n ha
    obtain ⟨o, es, ep, e, _⟩ := n
    exact ⟨o, toB e (hA _ hne)⟩
  have limB : (hidT s1.heap H).NoLimit := by
    obtain ⟨mc, h1, h2⟩ := hlim
    exact ⟨mc, toN h1, h2⟩
  have e0 : Env0 P w K mg (hidT s1.heap H) callerA [] s1 H := by
    refine ⟨rfl, ⟨inB, toN hns, ⟨mb, toN hb, hbb⟩, limB⟩, fun b o e => of_hidT e, Nat.le_of_eq (hidT_size _ _), trivial, ?_, hok, .of_eq hg⟩
    intro b hb
    exact absurd (show b ∈ ([] : List Addr) from hb) List.not_mem_nil
  have run := (F _ inB (toN hns) sysB).run callerA [] s1 H ⟨[.ref a], []⟩ [.ref a] [.ref a] _ _ rfl hr e0 (hbind s1 (.ref a)) (.cons rfl .nil) hsp
  refine codeAny_mono run ?_
  intro r s' h
  cases r with
  | error e => exact False.elim h
  | ok fl =>
    cases fl with
    | next => exact False.elim h
    | brk => exact False.elim h
    | cont => exact False.elim h
    | ret u =>
      obtain ⟨v, H', os, bare, un, hok', rv, hv⟩ := h
      obtain rfl : v = .bl true := hv
      obtain rfl : u = Value.bool true := rv
      refine ⟨rfl, OldK.of_keep ?_, os, bare⟩
      intro b o e
      rcases hO b with q | ⟨ob, xs, q⟩
      · exact un.keep b o e q (fun z => absurd (show b ∈ ([] : List Addr) from z) List.not_mem_nil) List.not_mem_nil
      · obtain ⟨e1, _⟩ := hok b _ q
        obtain ⟨e2, _⟩ := hok' b _ (un.frzs b ob _ q)
        rw [e] at e1
        cases e1
        exact e2
theorem lawG (KX : K.In s1.heap) (hns : s1.heap.Ns mainGlobals mg) (hb : s1.heap.Ns builtinsNs mb) (hbb : ∀ x : Str, x ≠ "__name__" → mb x = bootBuiltins x) (hlim : s1.heap.NoLimit) (hseer : s1.heap.NoSeer) (hg : s1.gens = #[])
    (ha : s1.heap.get? a = some { cls := .type "list", data := .seq vs.toArray }) (hi : IntsAre vs ns) (hl : ns.length ≤ sizeLine) (hr : Room k callerA) (hbind : ∀ (s : Shared) (u : Value), BindsTo s fd ⟨[u], []⟩ [(x, u)])
    (F : ∀ base : Heap, K.In base → base.Ns mainGlobals mg → (∃ o, base.get? sysModules = some o) → FnG P w K mg base k fa fd [x] sp)
    (hsp : ∀ H : Hp, Only H → SqL K H a (ns.map V.int) → sp [.ref a] H (fun v _ => v = .bl true) fun _ _ _ => False) :
    codeAny (model P w) callerA (.call (.ref fa) ⟨[.ref a], []⟩) (fun r s' => r = .ok (.ret (.bool true)) ∧ OldK s1.heap s'.heap ∧ s'.os = s1.os ∧ AllBare s'.gens) s1 := by
  have rv := vals_ints hi
  have lv : vs.length = ns.length := hi.length
  by_cases hk : ∃ o, K.lookup a = some o
  · obtain ⟨o, hk⟩ := hk
    have e := KX a o hk
    rw [ha] at e
    cases e
    have O0 : Only (fun _ => none) := fun _ => .inl rfl
    refine lawH KX hns hb hbb hlim hseer hg ha hr hbind F (hsp _ O0 ?_) O0 ?_ (fun _ _ => rfl) (fun _ _ => rfl)
    · refine .inr ⟨_, vs.toArray, _, hk, rfl, rfl, rfl, ?_, by simpa using rv⟩
      rw [List.size_toArray, lv]
      exact hl
    · intro b u z
      cases (show (none : Option HO) = some u from z)
  · let ob : Obj := { cls := .type "list", data := .seq vs.toArray }
    let H : Hp := fun b => if b = a then some (.frz ob (.lst (ns.map V.int))) else none
    have at_a : H a = some (.frz ob (.lst (ns.map V.int))) := if_pos rfl
    have off : ∀ b, b ≠ a → H b = none := fun b h => if_neg h
    have hO : Only H := by
      intro b
      by_cases hb : b = a
      · subst hb; exact .inr ⟨_, _, at_a⟩
      · exact .inl (off b hb)
    refine lawH KX hns hb hbb hlim hseer hg ha hr hbind F (hsp H hO (.inl (.inr ⟨ob, at_a⟩))) hO ?_ off (fun o e => absurd ⟨o, e⟩ hk)
    intro b u z
    by_cases hb : b = a
    · subst hb
      rw [at_a] at z
      cases z
      exact ⟨ha, by rw [List.length_map]; exact hl, vs, _, rv, ha⟩
    · rw [off b hb] at z
      cases z
end
/-- the end of a law row whose defs speak of FnG -/
theorem walkG {l : PySem.W.OpenLaw} {n k : Nat} {q : Program} {loose : List Str} {XP : (Str → Option Value) → Heap → Prop} {YP : World → Heap → Prop} {d : DefRec} {K : Params → PySem.W.Frag} {sp : PySem.W.Frag → Sp} {x : Str}
    (hn : l.most = some n) (hn2 : n ≤ sizeLine) (hdf : d.params.defaults = []) (hr : Room k callerA) (hq : importsNone q = true) (hY : ∀ (w : World) (h : Heap), YP w h → (K w.params).In h)
    (F : ∀ (w : World) (mg : Str → Option Value) (fa : Addr) (h : Heap), (K w.params).In h → h.Ns mainGlobals mg → mg d.name = some (.ref fa) →
      ∃ fd : FuncData, (∀ (s : Shared) (u : Value), BindsTo s fd ⟨[u], []⟩ [(x, u)]) ∧
        ∀ base : Heap, (K w.params).In base → base.Ns mainGlobals mg → (∃ o, base.get? sysModules = some o) → FnG l.prog w (K w.params) mg base k fa fd [x] (sp (K w.params)))
    (hsp : ∀ (K : PySem.W.Frag) (H : Hp) (a : Addr) (ns : List Int), ns.length ≤ n → Only H → SqL K H a (ns.map V.int) → sp K [.ref a] H (fun v _ => v = .bl true) fun _ _ _ => False) :
    PySem.W.WalkO q loose XP YP l.row.toRowW d [] (fun f vs => PySem.call f vs) := by
  apply Att.attach_call hn hdf
  intro w s0 s1 mg mb fa o pm cd doc a vs ns G Y ho hd hcd hmg hobj hints hlen hg
  have KX := hY w _ Y
  obtain ⟨fd, hb, hF⟩ := F w mg fa _ KX G.T.g hmg
  exact lawG KX G.T.g G.T.b G.T.builtins G.T.nolimit (G.T.seer hq) hg hobj hints (Nat.le_trans hlen hn2) hr hb hF fun H hO hS => hsp _ H a ns hlen hO hS
end SC

set_option Elab.async false
set_option linter.all false
set_option maxRecDepth 100000
set_option maxHeartbeats 4000000
/-! Schemacheck: documents, their number of parts, how long they are shown. -/
namespace SC
open PySem L2
def AsciiS (s : Str) : Prop := ∀ c ∈ s.cps.toList, c < 128
def leafD : PyData → Prop
  | .none => True
  | .bool _ => True
  | .int i => -10 ^ 30 ≤ i ∧ i ≤ 10 ^ 30
  | .str s => s.length ≤ 60 ∧ AsciiS s
  | _ => False
def LeafV (v : V) : Prop := ∃ d, leafD d ∧ ∀ G, Rp G 1 v d
theorem leaf_str (x : Str) (h : x.length ≤ 60) (h2 : ∀ c ∈ x.cps.toList, c < 128) : LeafV (.str x) := ⟨.str x, ⟨h, h2⟩, fun _ => rfl⟩
theorem leaf_int (i : Int) (h : -10 ^ 30 ≤ i ∧ i ≤ 10 ^ 30) : LeafV (.int i) := ⟨.int i, h, fun _ => rfl⟩
theorem leaf_bl (b : Bool) : LeafV (.bl b) := ⟨.bool b, trivial, fun _ => rfl⟩
theorem leaf_non : LeafV .non := ⟨.none, trivial, fun _ => rfl⟩
def NameOk (x : Str) : Prop := x.length ≤ 60 ∧ AsciiS x
def docD : Nat → PyData → Prop
  | 0, _ => False
  | n + 1, .list ds => ds.length ≤ 10 ∧ ∀ d ∈ ds, docD n d
  | n + 1, .dict es => es.length ≤ 10 ∧ ∀ e ∈ es, (∃ x, e.1 = .str x ∧ NameOk x) ∧ docD n e.2
  | _ + 1, d => leafD d
theorem docD.leaf {d : PyData} (h : leafD d) (n : Nat) : docD (n + 1) d := by
  cases d <;> first | exact h | exact h.elim
theorem docD.up1 : ∀ {n : Nat} {d : PyData}, docD n d → docD (n + 1) d
  | 0, _, h => h.elim
  | n + 1, .list ds, h => ⟨h.1, fun d hd => (h.2 d hd).up1⟩
  | n + 1, .dict es, h => ⟨h.1, fun e he => ⟨(h.2 e he).1, (h.2 e he).2.up1⟩⟩
  | n + 1, .none, h => h
  | n + 1, .bool _, h => h
  | n + 1, .int _, h => h
  | n + 1, .str _, h => h
  | n + 1, .tuple _, h => h.elim
theorem docD.up {n m : Nat} {d : PyData} (h : docD n d) (hl : n ≤ m) : docD m d := by
  induction hl with
  | refl => exact h
  | step _ ih => exact ih.up1
mutual
/-- the number of parts -/
def cnt : PyData → Nat
  | .list ds => 1 + cntAll ds
  | .tuple ds => 1 + cntAll ds
  | .dict es => 1 + cntKv es
  | .none => 1
  | .bool _ => 1
  | .int _ => 1
  | .str _ => 1
def cntAll : List PyData → Nat
  | [] => 0
  | d :: r => cnt d + cntAll r
def cntKv : List (PyData × PyData) → Nat
  | [] => 0
  | (_, d) :: r => cnt d + cntKv r
end
theorem cntAll_app (xs ys : List PyData) : cntAll (xs ++ ys) = cntAll xs + cntAll ys := by
  induction xs with
  | nil => simp [cntAll]
  | cons d r ih => simp [cntAll, ih]; omega
theorem cntKv_app (xs ys : List (PyData × PyData)) : cntKv (xs ++ ys) = cntKv xs + cntKv ys := by
  induction xs with
  | nil => simp [cntKv]
  | cons d r ih => obtain ⟨a, b⟩ := d; simp [cntKv, ih]; omega
theorem cnt_pos (d : PyData) : 1 ≤ cnt d := by
  cases d <;> simp [cnt] <;> omega
theorem leaf_cnt {d : PyData} (h : leafD d) : cnt d = 1 := by
  cases d <;> first | rfl | exact h.elim
theorem cntAll_mem {d : PyData} {ds : List PyData} (h : d ∈ ds) : cnt d ≤ cntAll ds := by
  induction ds with
  | nil => simp at h
  | cons e r ih =>
    simp only [cntAll]
    rcases List.mem_cons.mp h with rfl | h
    · omega
    · have := ih h; omega
theorem cntKv_mem {q : PyData × PyData} {es : List (PyData × PyData)} (h : q ∈ es) : cnt q.2 ≤ cntKv es := by
  induction es with
  | nil => simp at h
  | cons e r ih =>
    obtain ⟨a, b⟩ := e
    simp only [cntKv]
    rcases List.mem_cons.mp h with rfl | h
    · show cnt b ≤ _; omega
    · have := ih h; omega
theorem ascii_big {x : Str} (h : AsciiS x) : (x.cps.toList.all fun c => decide (c < 16 ^ 8)) = true := by
  rw [List.all_eq_true]
  intro c hc
  have := h c hc
  exact decide_eq_true (by omega)
theorem int30_len {i : Int} (h : -10 ^ 30 ≤ i ∧ i ≤ 10 ^ 30) : (PyData.shown (.int i)).length ≤ 40 := by
  have e := int_text_length_le10 (a := i) (k := 31) (by decide) (by omega)
  show (Str.ofString (toString i)).length ≤ 40
  rw [ofString_length]
  omega
theorem int30_log {i : Int} (h : -10 ^ 30 ≤ i ∧ i ≤ 10 ^ 30) : i.natAbs.log2 < 100 := by
  by_cases h0 : i.natAbs = 0
  · rw [h0]; decide
  · exact (Nat.log2_lt h0).mpr (by have : i.natAbs ≤ 10 ^ 30 := by omega
                                   exact Nat.lt_of_le_of_lt this (by decide))
theorem str60_weight {x : Str} (h : x.length ≤ 60) : PyData.weight (.str x) ≤ 60 := h
/-- a document can be shown, and not too long -/
def Fine (d : PyData) : Prop := d.showable = true ∧ d.leavesShort 40 = true ∧ d.weight + 64 ≤ 165 * cnt d
theorem fine_all {ds : List PyData} (h : ∀ d ∈ ds, Fine d) : PyData.showableAll ds = true ∧ PyData.leavesShortAll 40 ds = true ∧ PyData.weightAll ds ≤ 165 * cntAll ds := by
  induction ds with
  | nil => exact ⟨rfl, rfl, Nat.zero_le _⟩
  | cons d r ih =>
    obtain ⟨a1, a2, a3⟩ := h d (by simp)
    obtain ⟨b1, b2, b3⟩ := ih fun e he => h e (by simp [he])
    refine ⟨?_, ?_, ?_⟩
    · show (_ && _) = true; rw [a1, b1]; rfl
    · show (_ && _) = true; rw [a2, b2]; rfl
    · show PyData.weight d + 1 + PyData.weightAll r ≤ 165 * (cnt d + cntAll r); omega
theorem fine_kv {es : List (PyData × PyData)} (h : ∀ e ∈ es, (∃ x, e.1 = .str x ∧ NameOk x) ∧ Fine e.2) : PyData.showableKv es = true ∧ PyData.leavesShortKv 40 es = true ∧ PyData.weightKv es ≤ 165 * cntKv es := by
  induction es with
  | nil => exact ⟨rfl, rfl, Nat.zero_le _⟩
  | cons e r ih =>
    obtain ⟨k, d⟩ := e
    obtain ⟨⟨x, hx, hx1, hx2⟩, a1, a2, a3⟩ := h (k, d) (by simp)
    obtain ⟨b1, b2, b3⟩ := ih fun e he => h e (by simp [he])
    simp at hx
    subst hx
    have hw := str60_weight hx1
    refine ⟨?_, ?_, ?_⟩
    · show (PyData.showable (.str x) && PyData.showable d && _) = true; rw [a1, b1]; rfl
    · show (PyData.leavesShort 40 (.str x) && PyData.leavesShort 40 d && _) = true; rw [a2, b2]
      show ((x.cps.toList.all fun c => decide (c < 16 ^ 8)) && true && true) = true
      rw [ascii_big hx2]; rfl
    · show PyData.weight (.str x) + PyData.weight d + 2 + PyData.weightKv r ≤ 165 * (cnt d + cntKv r)
      have : PyData.weight d + 64 ≤ 165 * cnt d := a3
      omega
theorem Fine.list {ds : List PyData} (h : ∀ d ∈ ds, Fine d) : Fine (.list ds) := by
  obtain ⟨b1, b2, b3⟩ := fine_all h
  refine ⟨b1, b2, ?_⟩
  show PyData.weightAll ds + 64 ≤ 165 * (1 + cntAll ds)
  omega
theorem Fine.tuple {ds : List PyData} (h : ∀ d ∈ ds, Fine d) : Fine (.tuple ds) := by
  obtain ⟨b1, b2, b3⟩ := fine_all h
  refine ⟨b1, b2, ?_⟩
  show PyData.weightAll ds + 64 ≤ 165 * (1 + cntAll ds)
  omega
theorem Fine.dict {es : List (PyData × PyData)} (h : ∀ e ∈ es, (∃ x, e.1 = .str x ∧ NameOk x) ∧ Fine e.2) : Fine (.dict es) := by
  obtain ⟨b1, b2, b3⟩ := fine_kv h
  refine ⟨b1, b2, ?_⟩
  show PyData.weightKv es + 64 ≤ 165 * (1 + cntKv es)
  omega
theorem Fine.leaf {d : PyData} (h : leafD d) : Fine d := by
  cases d with
  | none => exact ⟨rfl, rfl, by decide⟩
  | bool b => exact ⟨rfl, rfl, by show 0 + 64 ≤ 165 * 1; decide⟩
  | int i =>
    have h1 := int30_len h
    have h2 := int30_log h
    refine ⟨decide_eq_true (show i.natAbs.log2 < 1920 by omega), decide_eq_true h1, ?_⟩
    show (if i == 0 then 0 else i.natAbs.log2 + 1) + 64 ≤ 165 * 1
    split <;> omega
  | str x =>
    have h1 := str60_weight h.1
    exact ⟨rfl, ascii_big h.2, by show PyData.weight (.str x) + 64 ≤ 165 * 1; omega⟩
  | list ds => exact h.elim
  | tuple ds => exact h.elim
  | dict ds => exact h.elim
theorem docD.fine : ∀ {n : Nat} {d : PyData}, docD n d → Fine d
  | 0, _, h => h.elim
  | n + 1, .list ds, h => Fine.list fun d hd => (h.2 d hd).fine
  | n + 1, .dict es, h => Fine.dict fun e he => ⟨(h.2 e he).1, (h.2 e he).2.fine⟩
  | n + 1, .none, h => Fine.leaf h
  | n + 1, .bool _, h => Fine.leaf h
  | n + 1, .int _, h => Fine.leaf h
  | n + 1, .str _, h => Fine.leaf h
  | n + 1, .tuple _, h => h.elim
theorem Fine.fits {d : PyData} (h : Fine d) (hc : cnt d ≤ 2000) : d.shown.length ≤ sizeLine := by
  have h1 := PyData.shown_le 40 (by decide) d h.2.1
  have h2 := h.2.2
  have e : sizeLine = 16777216 := by decide
  omega
/-- repr of a datum -/
theorem repr1 {H : Hp} {v : V} {n : Nat} {d : PyData} {Q : VK} (h : Rp H n v d) (hn : n ≤ 90) (hf : Fine d) (hc : cnt d ≤ 2000) (q : Q (.str d.shown) H) : rRepr [v] H Q := ⟨v, n, d, rfl, h, hn, hf.1, hf.fits hc, q⟩
end SC

set_option Elab.async false
set_option linter.all false
set_option maxRecDepth 100000
set_option maxHeartbeats 4000000
/-! Schemacheck: names in order, documents that are the same. -/
namespace SC
open PySem L2 PyProof.Rows

/-! ### texts in order -/
def leS (a b : Str) : Bool := !PySem.Spec.ltCps b.cps.toList a.cps.toList
theorem leS_iff (a b : Str) : leS a b = true ↔ a.cps.toList ≤ b.cps.toList := by
  unfold leS
  rw [ltCps_eq]
  simp
theorem leS_trans (a b c : Str) (h1 : leS a b = true) (h2 : leS b c = true) : leS a c = true := by
  rw [leS_iff] at *
  exact List.le_trans h1 h2
theorem leS_total (a b : Str) : (leS a b || leS b a) = true := by
  have := List.le_total a.cps.toList b.cps.toList
  rw [Bool.or_eq_true, leS_iff, leS_iff]
  exact this
theorem leS_anti (a b : Str) (h1 : leS a b = true) (h2 : leS b a = true) : a = b := by
  rw [leS_iff] at *
  have e := List.le_antisymm h1 h2
  have e2 : a.cps = b.cps := Array.toList_inj.mp e
  cases a; cases b; simp at e2; rw [e2]
def srt (xs : List Str) : List Str := xs.mergeSort leS
theorem srt_perm (xs : List Str) : (srt xs).Perm xs := List.mergeSort_perm _ _
theorem srt_pw (xs : List Str) : (srt xs).Pairwise (fun a b => leS a b = true) := List.pairwise_mergeSort leS_trans leS_total xs
theorem rising_pw : ∀ {r : List Str} {p : Str}, PyProof.Rows.risingS p r = true → (p :: r).Pairwise (fun a b => leS a b = true)
  | [], p, _ => by simp
  | x :: r, p, h => by
    have h' : (!PySem.Spec.ltCps x.cps.toList p.cps.toList && PyProof.Rows.risingS x r) = true := h
    rw [Bool.and_eq_true] at h'
    have ih := rising_pw h'.2
    refine List.pairwise_cons.mpr ⟨?_, ih⟩
    intro y hy
    rcases List.mem_cons.mp hy with rfl | hy
    · exact h'.1
    · exact leS_trans _ _ _ h'.1 ((List.pairwise_cons.mp ih).1 y hy)
theorem sorted_pw {ys : List Str} (h : PyProof.Rows.sortedS ys = true) : ys.Pairwise (fun a b => leS a b = true) := by
  cases ys with
  | nil => exact .nil
  | cons x r => exact rising_pw h
theorem srt_is {ys xs : List Str} (hp : ys.Perm xs) (hs : PyProof.Rows.sortedS ys = true) : ys = srt xs :=
  List.Perm.eq_of_pairwise (le := fun a b => leS a b = true) (fun a b _ _ h1 h2 => leS_anti a b h1 h2) (sorted_pw hs) (srt_pw xs) (hp.trans (srt_perm xs).symm)
theorem srt_congr {xs ys : List Str} (h : xs.Perm ys) : srt xs = srt ys :=
  List.Perm.eq_of_pairwise (le := fun a b => leS a b = true) (fun a b _ _ h1 h2 => leS_anti a b h1 h2) (srt_pw xs) (srt_pw ys) ((srt_perm xs).trans (h.trans (srt_perm ys).symm))
theorem perm_srt {xs ys : List Str} (h : srt xs = srt ys) : xs.Perm ys := (srt_perm xs).symm.trans (by rw [h]; exact srt_perm ys)
theorem srt_len (xs : List Str) : (srt xs).length = xs.length := (srt_perm xs).length_eq
theorem srt_nd {xs : List Str} (h : xs.Nodup) : (srt xs).Nodup := (srt_perm xs).nodup_iff.mpr h
theorem mem_srt {xs : List Str} {x : Str} : x ∈ srt xs ↔ x ∈ xs := (srt_perm xs).mem_iff

/-! ### dicts by their names -/
def strD : PyData → Str
  | .str x => x
  | _ => Str.empty
def keysD (es : List (PyData × PyData)) : List Str := es.map fun e => strD e.1
def StrKeys (es : List (PyData × PyData)) : Prop := ∀ e ∈ es, ∃ x, e.1 = .str x
def dget (es : List (PyData × PyData)) (x : Str) : Option PyData := (es.find? fun e => decide (strD e.1 = x)).map (·.2)
theorem docD.keys {n : Nat} {es : List (PyData × PyData)} (h : docD (n + 1) (.dict es)) : StrKeys es := fun e he => by
  obtain ⟨⟨x, hx, _⟩, _⟩ := h.2 e he
  exact ⟨x, hx⟩
abbrev KvR (F : V → PyData → Prop) : Key × V → PyData × PyData → Prop := fun p q => q.1 = kD p.1 ∧ F p.2 q.2
theorem keys_of {F : V → PyData → Prop} {kvs : List (Key × V)} {es : List (PyData × PyData)} (hp : Paired (KvR F) kvs es) (hs : StrKeys es) : kvs.map (·.1) = (keysD es).map Sum.inr := by
  induction hp with
  | nil => rfl
  | cons r _ ih =>
    obtain ⟨x, hx⟩ := hs _ (List.mem_cons_self)
    have h1 := ih fun e he => hs e (by simp [he])
    simp only [keysD, List.map_cons, List.map_map] at h1 ⊢
    rw [h1]
    congr 1
    have h2 := r.1
    rw [hx] at h2
    rw [hx]
    rename_i a _ _ _ _
    obtain ⟨k, v⟩ := a
    cases k with
    | inl i => cases h2
    | inr y => cases h2; rfl
theorem keysV_of {F : V → PyData → Prop} {kvs : List (Key × V)} {es : List (PyData × PyData)} (hp : Paired (KvR F) kvs es) (hs : StrKeys es) : (kvs.map fun kv => kV kv.1) = (keysD es).map V.str := by
  have h := congrArg (List.map kV) (keys_of hp hs)
  rw [List.map_map, List.map_map] at h
  exact h
theorem inr_nd {xs : List Str} (h : (xs.map (Sum.inr : Str → Key)).Nodup) : xs.Nodup := by
  induction xs with
  | nil => exact List.nodup_nil
  | cons x r ih =>
    rw [List.map_cons, List.nodup_cons] at h
    rw [List.nodup_cons]
    exact ⟨fun hm => h.1 (List.mem_map.mpr ⟨x, hm, rfl⟩), ih h.2⟩
theorem nd_inr {xs : List Str} (h : xs.Nodup) : (xs.map (Sum.inr : Str → Key)).Nodup := by
  induction xs with
  | nil => exact List.nodup_nil
  | cons x r ih =>
    rw [List.nodup_cons] at h
    rw [List.map_cons, List.nodup_cons]
    refine ⟨fun hm => ?_, ih h.2⟩
    obtain ⟨y, hy, e⟩ := List.mem_map.mp hm
    cases e
    exact h.1 hy
theorem keys_nd {F : V → PyData → Prop} {kvs : List (Key × V)} {es : List (PyData × PyData)} (hp : Paired (KvR F) kvs es) (hs : StrKeys es) (hn : (kvs.map (·.1)).Nodup) : (keysD es).Nodup := by
  rw [keys_of hp hs] at hn
  exact inr_nd hn
/-- what a name leads to, in the heap and in the datum -/
theorem get_of {F : V → PyData → Prop} {kvs : List (Key × V)} {es : List (PyData × PyData)} (hp : Paired (KvR F) kvs es) (hs : StrKeys es) (x : Str) :
    (valV kvs (Sum.inr x) = none ∧ dget es x = none) ∨ ∃ v d, valV kvs (Sum.inr x) = some v ∧ dget es x = some d ∧ F v d := by
  induction hp with
  | nil => exact .inl ⟨rfl, rfl⟩
  | cons r _ ih =>
    obtain ⟨y, hy⟩ := hs _ (List.mem_cons_self)
    have h1 := ih fun e he => hs e (by simp [he])
    rename_i a b l1 l2 _
    obtain ⟨k, v⟩ := a
    obtain ⟨b1, b2⟩ := b
    obtain ⟨r1, r2⟩ := r
    simp at hy r1 r2
    subst hy
    cases k with
    | inl i => cases r1
    | inr z =>
      cases r1
      by_cases hz : y = x
      · subst hz
        refine .inr ⟨v, b2, ?_, ?_, r2⟩
        · simp [valV]
        · simp [dget, strD]
      · have hz' : ¬ (Sum.inr y : Key) = Sum.inr x := fun e => hz (Sum.inr.inj e)
        have e1 : valV ((Sum.inr y, v) :: l1) (Sum.inr x) = valV l1 (Sum.inr x) := by
          simp only [valV, List.find?_cons, decide_eq_false hz']
        have e2 : dget ((PyData.str y, b2) :: l2) x = dget l2 x := by
          have : ¬ strD (.str y) = x := hz
          simp only [dget, List.find?_cons, decide_eq_false this]
        rw [e1, e2]
        exact h1
theorem dget_mem {es : List (PyData × PyData)} {x : Str} {d : PyData} (h : dget es x = some d) : ∃ e ∈ es, e.2 = d ∧ strD e.1 = x := by
  unfold dget at h
  cases e : es.find? fun e => decide (strD e.1 = x) with
  | none => rw [e] at h; cases h
  | some q =>
    rw [e] at h
    cases h
    exact ⟨q, List.mem_of_find?_eq_some e, rfl, by have := List.find?_some e; simpa using this⟩
theorem dget_none {es : List (PyData × PyData)} {x : Str} (h : dget es x = none) : x ∉ keysD es := by
  unfold dget at h
  intro hm
  obtain ⟨e, he, hx⟩ := List.mem_map.mp hm
  cases q : es.find? fun e => decide (strD e.1 = x) with
  | none =>
    have := List.find?_eq_none.mp q e he
    simp at this
    exact this hx
  | some z => rw [q] at h; cases h

/-! ### the same -/
def sameL : PyData → PyData → Bool
  | .none, .none => true
  | .bool a, .bool b => decide (a = b)
  | .int i, .int j => decide (i = j)
  | .str x, .str y => decide (x = y)
  | _, _ => false
def optB (o : Option PyData) (f : PyData → Bool) : Bool := match o with
  | some d => f d
  | none => false
def sameN : Nat → PyData → PyData → Bool
  | 0, _, _ => false
  | n + 1, .list xs, .list ys => decide (xs.length = ys.length) && (List.zipWith (sameN n) xs ys).all id
  | n + 1, .dict es, .dict fs => decide (srt (keysD es) = srt (keysD fs)) && (es.map fun e => optB (dget fs (strD e.1)) (sameN n e.2)).all id
  | _ + 1, d, e => sameL d e
theorem sameL_refl {d : PyData} (h : leafD d) : sameL d d = true := by
  cases d <;> first | exact h.elim | simp [sameL]
/-- names nowhere twice -/
def ndD : Nat → PyData → Prop
  | 0, _ => True
  | n + 1, .list ds => ∀ d ∈ ds, ndD n d
  | n + 1, .dict es => (keysD es).Nodup ∧ ∀ e ∈ es, ndD n e.2
  | _ + 1, _ => True
theorem Rp.nd {H : Hp} : ∀ {n m : Nat} {v : V} {d : PyData}, Rp H n v d → docD m d → ndD m d
  | 0, _, _, _, h, _ => h.elim
  | _, 0, _, _, _, _ => trivial
  | n + 1, m + 1, v, .none, _, _ => trivial
  | n + 1, m + 1, v, .bool _, _, _ => trivial
  | n + 1, m + 1, v, .int _, _, _ => trivial
  | n + 1, m + 1, v, .str _, _, _ => trivial
  | n + 1, m + 1, v, .tuple _, _, _ => trivial
  | n + 1, m + 1, v, .list ds, ⟨a, xs, _, _, _, hp⟩, hd => fun d hm => by
    obtain ⟨x, _, r⟩ := pd_memR hp hm
    exact r.nd (hd.2 d hm)
  | n + 1, m + 1, v, .dict es, ⟨a, kvs, _, _, _, hn, hp⟩, hd => ⟨keys_nd hp hd.keys hn, fun e hm => by
    obtain ⟨x, _, r⟩ := pd_memR hp hm
    exact r.2.nd (hd.2 e hm).2⟩

/-! ### rules that speak of the written part, by its name -/
section
variable {X : Cx} {K : PySem.W.Frag}
theorem ixLK (h : X.K = K) : IxR X (rIxL K) := by subst h; exact ix_list
theorem ixTK (h : X.K = K) : IxR X (rIxT K) := by subst h; exact ix_tup
theorem isiK (h : X.K = K) : CallR X (.builtin "isinstance") (rIsi K) := by subst h; exact call_isi
theorem isiTK (h : X.K = K) : CallR X (.builtin "isinstance") (rIsiT K) := by subst h; exact call_isiT
def rLenK (K : PySem.W.Frag) : List V → Hp → VK → Prop := fun xs H Q => ∃ x n, xs = [x] ∧ LenV K x H n ∧ Q (.int (n : Nat)) H
theorem lenK (h : X.K = K) : CallR X (.builtin "len") (rLenK K) := by subst h; exact call_len
theorem maxK (h : X.K = K) (hc : X.calm = true) : CallR X (.builtin "max") (rMax K) := by subst h; exact cr_max hc
theorem sumK (h : X.K = K) (hc : X.calm = true) : CallR X (.builtin "sum") (rSum K) := by subst h; exact cr_sum hc
theorem allK (h : X.K = K) (hc : X.calm = true) : CallR X (.builtin "all") (rAll K) := by subst h; exact cr_all hc
theorem anyK (h : X.K = K) (hc : X.calm = true) : CallR X (.builtin "any") (rAny K) := by subst h; exact cr_any hc
theorem sortedSK (h : X.K = K) : CallR X (.builtin "sorted") (rSortedS K) := by subst h; exact cr_sortedS
theorem inK (h : X.K = K) : OpR X (compareOp .In) (rIn K false) := by subst h; exact op_in_seq
theorem notInK (h : X.K = K) : OpR X (compareOp .NotIn) (rIn K true) := by subst h; exact op_notIn_seq
theorem eqDK (h : X.K = K) (hu : X.A.units + 64 < cLine) : OpR X (compareOp .Eq) (rEqD K) := by subst h; exact op_eqD hu
theorem neDK (h : X.K = K) (hu : X.A.units + 64 < cLine) : OpR X (compareOp .NotEq) (rNeD K) := by subst h; exact op_neD hu
theorem slLK (h : X.K = K) : SlR X (rSlL K) := by subst h; exact sl_list
theorem slTK (h : X.K = K) : SlR X (rSlT K) := by subst h; exact sl_tup
def rListK (K : PySem.W.Frag) : List V → Hp → VK → Prop := fun xs H Q => ∃ p ys, xs = [.ref p] ∧ (SqL K H p ys ∨ SqT K H p ys) ∧ ∀ l, H l = none → Q (.ref l) (upd H l (.lst ys))
theorem listK (h : X.K = K) : CallR X (.type "list") (rListK K) := by subst h; exact call_list_of
end

/-! ### kinds -/
def kindD : PyData → Str
  | .none => "null"
  | .bool _ => "boolean"
  | .int _ => "integer"
  | .str _ => "string"
  | .list _ => "array"
  | _ => "object"

theorem same_kind {n m : Nat} {d e : PyData} (hd : docD m d) (he : docD m e) (h : ¬ kindD d = kindD e) : sameN (n + 1) d e = false := by
  cases m with
  | zero => exact hd.elim
  | succ m => cases d <;> cases e <;> first | exact hd.elim | exact he.elim | rfl | exact absurd rfl h
theorem kind_inv {m : Nat} {d e : PyData} (hd : docD m d) (he : docD m e) (h : kindD d = kindD e) :
    (d = .none ∧ e = .none) ∨ (∃ a b, d = .bool a ∧ e = .bool b) ∨ (∃ a b, d = .int a ∧ e = .int b) ∨ (∃ a b, d = .str a ∧ e = .str b) ∨ (∃ a b, d = .list a ∧ e = .list b) ∨ ∃ a b, d = .dict a ∧ e = .dict b := by
  cases m with
  | zero => exact hd.elim
  | succ m =>
    cases d <;> cases e <;> first | exact hd.elim | exact he.elim | exact .inl ⟨rfl, rfl⟩ | exact .inr (.inl ⟨_, _, rfl, rfl⟩) | exact .inr (.inr (.inl ⟨_, _, rfl, rfl⟩)) | exact .inr (.inr (.inr (.inl ⟨_, _, rfl, rfl⟩))) | exact .inr (.inr (.inr (.inr (.inl ⟨_, _, rfl, rfl⟩)))) | exact .inr (.inr (.inr (.inr (.inr ⟨_, _, rfl, rfl⟩)))) | exact absurd h (by simp only [kindD]; decide +kernel)
theorem strOk_of {x : Str} (h : AsciiS x) : PyData.strOk x = true := by
  unfold PyData.strOk
  rw [Array.all_eq_true_iff_forall_mem]
  intro c hc
  have := h c (by simpa using hc)
  exact decide_eq_true (by omega)
theorem layAll_strs : ∀ {xs : List Str}, (∀ x ∈ xs, AsciiS x) → PyData.canLayAll0 (xs.map .str) = true
  | [], _ => rfl
  | x :: r, h => by
    show (PyData.strOk x && PyData.canLayAll0 (r.map .str)) = true
    rw [strOk_of (h x (by simp)), layAll_strs fun y hy => h y (by simp [hy])]
    rfl
theorem depth_strs : ∀ xs : List Str, PyData.depthAll (xs.map .str) = 0
  | [] => rfl
  | x :: r => by
    show max 0 (PyData.depthAll (r.map .str)) = 0
    rw [depth_strs r]
    rfl
theorem shaped_strs {xs : List Str} (h : ∀ x ∈ xs, AsciiS x) : SeqAt.shaped (.list (xs.map .str)) = true := by
  have h1 := layAll_strs h
  have h2 := depth_strs xs
  show (PyData.canLayAll0 (xs.map .str) && decide (PyData.depthAll (xs.map .str) + 1 ≤ 64)) = true
  rw [h1, h2]
  rfl
theorem eqv_strs : ∀ xs ys : List Str, PyData.eqv (.list (xs.map .str)) (.list (ys.map .str)) = decide (xs = ys) := by
  have h : ∀ xs ys : List Str, PyData.eqvAll (xs.map .str) (ys.map .str) = decide (xs = ys) := by
    intro xs
    induction xs with
    | nil =>
      intro ys
      cases ys with
      | nil => rfl
      | cons y r => rfl
    | cons x r ih =>
      intro ys
      cases ys with
      | nil => rfl
      | cons y q =>
        show ((x == y) && PyData.eqvAll (r.map .str) (q.map .str)) = _
        rw [ih q]
        by_cases hxy : x = y
        · subst hxy
          simp
        · simp [hxy]
  intro xs ys
  exact h xs ys
theorem Dp_strs {K : PySem.W.Frag} {H : Hp} {a : Addr} {xs : List Str} (h : H a = some (.lst (xs.map V.str))) : Dp K H (.ref a) (.list (xs.map .str)) := by
  refine .lst (SqL.of h) ?_
  induction xs generalizing H with
  | nil => exact .nil
  | cons x r ih =>
    have : ∀ l : List Str, DpAll K H (l.map V.str) (l.map PyData.str) := by
      intro l
      induction l with
      | nil => exact .nil
      | cons y q ih2 => exact .cons (.str y) ih2
    exact this _

/-! ### None, True, False are shown as nothing else is -/
theorem mem_list (ts : List Str) : 93 ∈ (listText ts).cps.toList := by
  unfold listText
  show 93 ∈ ((textFrom 0 "[" ts).cps ++ (Str.ofString "]").cps).toList
  rw [Array.toList_append]
  exact List.mem_append_right _ (by decide +kernel)
theorem mem_dict (ts : List Str) : 125 ∈ (dictText ts).cps.toList := by
  unfold dictText
  show 125 ∈ (_ ++ (Str.ofString "}").cps).toList
  rw [Array.toList_append]
  exact List.mem_append_right _ (by decide +kernel)
theorem mem_str (x : Str) : reprQuote x ∈ (reprText x).cps.toList := by
  unfold reprText
  simp
theorem quote_is (x : Str) : reprQuote x = 39 ∨ reprQuote x = 34 := by
  unfold reprQuote
  split <;> simp
def flatN : PyData → Bool
  | .none => true
  | .bool _ => true
  | _ => false
theorem flat_apart {d e : PyData} (hd : flatN d = true) (he : flatN e = false) (ht : ∀ ds, e ≠ .tuple ds) : d.shown ≠ e.shown := by
  intro h
  have h2 : ∀ c, c ∈ e.shown.cps.toList → c ∈ d.shown.cps.toList := fun c hc => by rw [h]; exact hc
  have h3 : ∀ c, c ∈ d.shown.cps.toList → c ∈ e.shown.cps.toList := fun c hc => by rw [← h]; exact hc
  have no : ∀ c ∈ [93, 125, 39, 34], c ∉ d.shown.cps.toList := by
    cases d with
    | none => decide +kernel
    | bool b => cases b <;> decide +kernel
    | _ => cases hd
  cases e with
  | none => cases he
  | bool b => cases he
  | tuple ds => exact ht ds rfl
  | list ds => exact no 93 (by simp) (h2 _ (mem_list _))
  | dict ds => exact no 125 (by simp) (h2 _ (mem_dict _))
  | str x =>
    rcases quote_is x with q | q
    · exact no 39 (by simp) (h2 _ (by rw [← q]; exact mem_str x))
    · exact no 34 (by simp) (h2 _ (by rw [← q]; exact mem_str x))
  | int i =>
    have hi : ∀ c ∈ [78, 84, 70], c ∉ (PyData.shown (.int i)).cps.toList := by
      intro c hc
      simp only [List.mem_cons, List.not_mem_nil, or_false] at hc
      rcases hc with rfl | rfl | rfl <;> exact PyProof.Rows.int_text_free' _ ⟨by decide, by decide⟩ i
    cases d with
    | none => exact hi 78 (by simp) (h3 78 (by decide +kernel))
    | bool b =>
      cases b
      · exact hi 70 (by simp) (h3 70 (by decide +kernel))
      · exact hi 84 (by simp) (h3 84 (by decide +kernel))
    | _ => cases hd
theorem flat_same {n m : Nat} {d e : PyData} (dd : docD m d) (de : docD m e) (h : flatN d = true ∨ flatN e = true) : decide (d.shown = e.shown) = sameN (n + 1) d e := by
  have nt : ∀ {x : PyData}, docD m x → ∀ ds, x ≠ .tuple ds := by
    intro x hx ds e
    subst e
    cases m with
    | zero => exact hx.elim
    | succ m => exact hx.elim
  by_cases hd : flatN d = true
  · by_cases he : flatN e = true
    · cases d <;> first | cases hd | skip
      all_goals cases e <;> first | cases he | skip
      · rfl
      · rename_i b; cases b <;> (show _ = sameL _ _; decide +kernel)
      · rename_i b; cases b <;> (show _ = sameL _ _; decide +kernel)
      · rename_i a b; cases a <;> cases b <;> (show _ = sameL _ _; decide +kernel)
    · have he' : flatN e = false := by simpa using he
      rw [decide_eq_false (flat_apart hd he' (nt de))]
      cases d <;> first | cases hd | skip
      all_goals cases e <;> first | exact absurd rfl he | rfl
  · have hd' : flatN d = false := by simpa using hd
    have he : flatN e = true := by rcases h with h | h; exact absurd h hd; exact h
    rw [decide_eq_false (fun z => flat_apart he hd' (nt dd) z.symm)]
    cases e <;> first | cases he | skip
    all_goals cases d <;> first | exact absurd rfl hd | rfl
theorem Room.u100 {k : Nat} {A : Around} (r : Room k A) : A.units + 100 < cLine := by have := r.un; omega
theorem flat_iff {H : Hp} {n : Nat} {v : V} {d : PyData} (h : Rp H n v d) : flatN d = true ↔ isT .bool d = true ∨ v = .non := by
  cases n with
  | zero => exact h.elim
  | succ n =>
    cases d with
    | none => cases h; simp [flatN]
    | bool b => cases h; simp [flatN, isT]
    | int b => cases h; simp [flatN, isT]
    | str b => cases h; simp [flatN, isT]
    | list b => obtain ⟨a, xs, rfl, _⟩ := h; simp [flatN, isT]
    | tuple b => obtain ⟨a, xs, rfl, _⟩ := h; simp [flatN, isT]
    | dict b => obtain ⟨a, xs, rfl, _⟩ := h; simp [flatN, isT]
theorem notin_false (bs : List Bool) : (!inV (.bl false) (bs.map V.bl)) = bs.all id := by
  unfold inV
  induction bs with
  | nil => rfl
  | cons b r ih =>
    simp only [List.map_cons, List.any_cons, Bool.not_or, List.all_cons]
    rw [ih]
    cases b <;> rfl
theorem flat_bls (bs : List Bool) : (bs.map V.bl).all flatV = true := by
  rw [List.all_eq_true]
  intro x hx
  obtain ⟨b, _, rfl⟩ := List.mem_map.mp hx
  rfl
/-- name = [.. for k in d], the dict locked -/
theorem tLock_asg (te : TE) (k : Nat) (D : Ends) (σ : L2.St) (H : Hp) : tLock (tAsg te (gName k)) D σ H = tLockE te σ H (fun v H' => D.nx (σ.set k (some v)) H') := rfl
end SC

set_option Elab.async false
set_option linter.all false
set_option maxRecDepth 100000
set_option maxHeartbeats 4000000
/-! Schemacheck: texts; parts of the heap. -/
namespace SC
open PySem L2

/-! ### the heap without some of it -/
def gone (S : List Addr) (H : Hp) : Hp := fun b => if b ∈ S then none else H b
theorem gone_sub (S : List Addr) (H : Hp) : Same (gone S H) H := fun b o e => by
  unfold gone at e
  split at e
  · cases e
  · exact e
theorem gone_at {S : List Addr} {H : Hp} {b : Addr} (h : b ∉ S) : gone S H b = H b := if_neg h
theorem gone_keep {S : List Addr} {H H' : Hp} (k : Keep S H H') : Same (gone S H) (gone S H') := fun b o e => by
  unfold gone at e ⊢
  split at e
  · cases e
  · rename_i h
    rw [if_neg h]
    exact k b o e h
theorem gone_same {S : List Addr} {H H' : Hp} (k : Same H H') : Same (gone S H) (gone S H') := gone_keep (.of k)
theorem gone_less {S T : List Addr} {H : Hp} (h : ∀ b ∈ S, b ∈ T) : Same (gone T H) (gone S H) := fun b o e => by
  unfold gone at e ⊢
  split at e
  · cases e
  · rename_i z
    rw [if_neg fun y => z (h b y)]
    exact e
/-- a new thing is none of the old -/
theorem gone_new {S : List Addr} {H : Hp} {D : Addr} {o : HO} (hD : H D = none) : Same (gone S H) (gone (D :: S) (upd H D o)) := fun b u e => by
  unfold gone at e ⊢
  split at e
  · cases e
  · rename_i z
    have hb : b ≠ D := ne_of_none e hD
    rw [if_neg (by simp [hb, z]), upd_ne hb]
    exact e
theorem gone_mut {S : List Addr} {H : Hp} {D : Addr} {o : HO} (hD : D ∈ S) : gone S (upd H D o) = gone S H := by
  funext b
  unfold gone
  split
  · rfl
  · rename_i z
    exact upd_ne fun e => z (e ▸ hD)
theorem gone_in {S : List Addr} {H H' : Hp} {D : Addr} (k : Same H H') (hD : H D = none) : Same (gone S H) (gone (D :: S) H') := fun b u e => by
  unfold gone at e ⊢
  split at e
  · cases e
  · rename_i z
    have hb : b ≠ D := ne_of_none e hD
    rw [if_neg (by simp [hb, z])]
    exact k _ _ e
theorem not_gone {S : List Addr} {H : Hp} {D : Addr} (hS : ∀ a ∈ S, H a ≠ none) (hD : H D = none) : D ∉ S := fun h => hS D h hD
theorem here_same {S : List Addr} {H H' : Hp} (hS : ∀ a ∈ S, H a ≠ none) (k : Same H H') : ∀ a ∈ S, H' a ≠ none := fun a ha e => by
  cases h : H a with
  | none => exact hS a ha h
  | some o => rw [k _ _ h] at e; cases e
theorem here_cons {S : List Addr} {H : Hp} {D : Addr} {o : HO} (hS : ∀ a ∈ S, H a ≠ none) (hD : H D = some o) : ∀ a ∈ D :: S, H a ≠ none := fun a ha e => by
  rcases List.mem_cons.mp ha with rfl | h
  · rw [hD] at e; cases e
  · exact hS a h e
theorem pd_rev {A B : Type} {F : A → B → Prop} {xs : List A} {ys : List B} (h : Paired F xs ys) : Paired F xs.reverse ys.reverse := by
  induction h with
  | nil => exact .nil
  | cons h1 _ ih => rw [List.reverse_cons, List.reverse_cons]; exact pd_app ih (.cons h1 .nil)
theorem pd_both {A B : Type} {F G K : A → B → Prop} {xs : List A} {ys : List B} (h : Paired F xs ys) (g : Paired G xs ys) (f : ∀ a b, F a b → G a b → K a b) : Paired K xs ys := by
  induction h with
  | nil => exact .nil
  | cons h1 _ ih => cases g with
    | cons g1 g2 => exact .cons (f _ _ h1 g1) (ih g2)
theorem news_gone {S : List Addr} {H H' : Hp} (hs : ∀ a ∈ S, H a ≠ none) : Same (news H H') (gone S H') := fun b o e => by
  unfold news at e
  split at e
  · cases e
  · rename_i h
    rw [gone_at fun z => hs b z h]
    exact e

/-! ### data no part of which is locked -/
def Re (H : Hp) : Nat → V → PyData → Prop
  | 0, _, _ => False
  | _ + 1, v, .none => v = .non
  | _ + 1, v, .bool b => v = .bl b
  | _ + 1, v, .int i => v = .int i
  | _ + 1, v, .str x => v = .str x
  | n + 1, v, .list ds => ∃ a xs, v = .ref a ∧ H a = some (.lst xs) ∧ xs.length ≤ 10000 ∧ Paired (Re H n) xs ds
  | n + 1, v, .tuple ds => ∃ a xs, v = .ref a ∧ H a = some (.tup xs) ∧ xs.length ≤ 10000 ∧ Paired (Re H n) xs ds
  | n + 1, v, .dict es => ∃ a kvs, v = .ref a ∧ H a = some (.dK kvs) ∧ kvs.length ≤ 10000 ∧ (kvs.map (·.1)).Nodup ∧ Paired (KvR (Re H n)) kvs es
theorem Re.imp {H H' : Hp} : ∀ {n : Nat} {v : V} {d : PyData}, Same H H' → Re H n v d → Re H' n v d
  | 0, _, _, _, h => h
  | n + 1, v, .none, _, h => h
  | n + 1, v, .bool _, _, h => h
  | n + 1, v, .int _, _, h => h
  | n + 1, v, .str _, _, h => h
  | n + 1, v, .list ds, e, ⟨a, xs, h1, h2, hb, h3⟩ => ⟨a, xs, h1, e _ _ h2, hb, pd_imp h3 fun _ _ _ _ q => Re.imp e q⟩
  | n + 1, v, .tuple ds, e, ⟨a, xs, h1, h2, hb, h3⟩ => ⟨a, xs, h1, e _ _ h2, hb, pd_imp h3 fun _ _ _ _ q => Re.imp e q⟩
  | n + 1, v, .dict es, e, ⟨a, xs, h1, h2, hb, hn, h3⟩ => ⟨a, xs, h1, e _ _ h2, hb, hn, pd_imp h3 fun _ _ _ _ q => ⟨q.1, Re.imp e q.2⟩⟩
theorem Re.rp {H : Hp} : ∀ {n : Nat} {v : V} {d : PyData}, Re H n v d → Rp H n v d
  | 0, _, _, h => h
  | n + 1, v, .none, h => h
  | n + 1, v, .bool _, h => h
  | n + 1, v, .int _, h => h
  | n + 1, v, .str _, h => h
  | n + 1, v, .list ds, ⟨a, xs, h1, h2, hb, h3⟩ => ⟨a, xs, h1, h2, hb, pd_imp h3 fun _ _ _ _ q => Re.rp q⟩
  | n + 1, v, .tuple ds, ⟨a, xs, h1, h2, hb, h3⟩ => ⟨a, xs, h1, h2, hb, pd_imp h3 fun _ _ _ _ q => Re.rp q⟩
  | n + 1, v, .dict es, ⟨a, xs, h1, h2, hb, hn, h3⟩ => ⟨a, xs, h1, .inl h2, hb, hn, pd_imp h3 fun _ _ _ _ q => ⟨q.1, Re.rp q.2⟩⟩
theorem Re.up1 {H : Hp} : ∀ {n : Nat} {v : V} {d : PyData}, Re H n v d → Re H (n + 1) v d
  | 0, _, _, h => h.elim
  | n + 1, v, .none, h => h
  | n + 1, v, .bool _, h => h
  | n + 1, v, .int _, h => h
  | n + 1, v, .str _, h => h
  | n + 1, v, .list ds, ⟨a, xs, h1, h2, hb, h3⟩ => ⟨a, xs, h1, h2, hb, pd_imp h3 fun _ _ _ _ q => Re.up1 q⟩
  | n + 1, v, .tuple ds, ⟨a, xs, h1, h2, hb, h3⟩ => ⟨a, xs, h1, h2, hb, pd_imp h3 fun _ _ _ _ q => Re.up1 q⟩
  | n + 1, v, .dict es, ⟨a, xs, h1, h2, hb, hn, h3⟩ => ⟨a, xs, h1, h2, hb, hn, pd_imp h3 fun _ _ _ _ q => ⟨q.1, Re.up1 q.2⟩⟩
theorem Re.up {H : Hp} {n m : Nat} {v : V} {d : PyData} (h : Re H n v d) (hl : n ≤ m) : Re H m v d := by
  induction hl with
  | refl => exact h
  | step _ ih => exact ih.up1
theorem Re.leaf {H : Hp} {n : Nat} {v : V} {d : PyData} (hd : leafD d) (h : Rp H n v d) : Re H n v d := by
  cases n with
  | zero => exact h.elim
  | succ n => cases d <;> first | exact h | exact hd.elim
/-- a part of an unlocked datum, in less of the heap -/
theorem Re.of {G H : Hp} (s : Same G H) : ∀ {n m : Nat} {v : V} {d : PyData}, Re H n v d → Rp G m v d → Re G m v d
  | 0, _, _, _, h, _ => h.elim
  | _, 0, _, _, _, h => h.elim
  | n + 1, m + 1, v, .none, h, _ => h
  | n + 1, m + 1, v, .bool _, h, _ => h
  | n + 1, m + 1, v, .int _, h, _ => h
  | n + 1, m + 1, v, .str _, h, _ => h
  | n + 1, m + 1, v, .list ds, ⟨a, xs, h1, h2, hb, h3⟩, ⟨a', xs', g1, g2, gb, g3⟩ => by
    rw [h1] at g1; cases g1
    have e := s _ _ g2
    rw [h2] at e; cases e
    exact ⟨a, xs, h1, g2, hb, pd_both h3 g3 fun _ _ q r => Re.of s q r⟩
  | n + 1, m + 1, v, .tuple ds, ⟨a, xs, h1, h2, hb, h3⟩, ⟨a', xs', g1, g2, gb, g3⟩ => by
    rw [h1] at g1; cases g1
    have e := s _ _ g2
    rw [h2] at e; cases e
    exact ⟨a, xs, h1, g2, hb, pd_both h3 g3 fun _ _ q r => Re.of s q r⟩
  | n + 1, m + 1, v, .dict es, ⟨a, xs, h1, h2, hb, hn, h3⟩, ⟨a', xs', g1, g2, gb, gn, g3⟩ => by
    rw [h1] at g1; cases g1
    rcases g2 with g2 | ⟨o, g2⟩
    · have e := s _ _ g2
      rw [h2] at e; cases e
      exact ⟨a, xs, h1, g2, hb, hn, pd_both h3 g3 fun _ _ q r => ⟨q.1, Re.of s q.2 r.2⟩⟩
    · have e := s _ _ g2
      rw [h2] at e; cases e

/-! ### rules with the given part named -/
section
variable {X : Cx} {K : PySem.W.Frag}
theorem pe_gstr {x z : Str} {t : Tok} {pos : Pos} (hg : Gl X x) (hm : X.mg x = some (.str z t)) (hd : (x == ("__debug__" : Str)) = false := by decide) : PE X (.Name x pos) (tC (.str z)) := pe_glob (v := .str z) hg hm ⟨t, rfl⟩ hd
theorem revLK {e : Expr} {te : TE} {k : Nat} {p1 p2 p3 pos : Pos} (h : X.K = K) (he : PE X e te) : PE X (.Subscript e (.Slice none none (some (.UnaryOp .USub (.Constant (.int 1) k p1) p2)) p3) pos) (tRevL K te) := by subst h; exact pe_revL he
def rJoin (K : PySem.W.Frag) : V → List V → Hp → VK → Prop := fun x xs H Q => ∃ a p, ∃ ys : List Str, x = .str a ∧ xs = [.ref p] ∧ (SqL K H p (ys.map V.str) ∨ SqT K H p (ys.map V.str)) ∧
      (ys.map (·.length)).sum + ys.length * a.length ≤ 16777216 ∧ Q (.str (Txt.join a ys)) H
theorem joinK {o e : Expr} {to te : TE} {apos pos : Pos} (h : X.K = K) (ho : PE X o to) (he : PE X e te) (hs : starEach [e] X.env = [(false, eval e X.env)] := by rfl) (hbase : attributeBase o "join" X.env (eval o X.env) = eval o X.env := by rfl) (hline : (apos.endLine == pos.line) = true := by rfl) :
    PE X (.Call (.Attribute o "join" apos) [e] [] pos) (tM1 (rJoin K) to te) := by subst h; exact pe_join ho he hs hbase hline
/-- len of a list, tuple, text or dict -/
def LenA (K : PySem.W.Frag) (x : V) (H : Hp) (n : Nat) : Prop := LenV K x H n ∨ ∃ a kvs, x = .ref a ∧ Rd H a (.dK kvs) ∧ n = kvs.length
theorem LenA.l {K : PySem.W.Frag} {H : Hp} {a : Addr} {xs : List V} (h : SqL K H a xs) : LenA K (.ref a) H xs.length := .inl (.inl ⟨xs, h, rfl⟩)
theorem LenA.d {K : PySem.W.Frag} {H : Hp} {a : Addr} {kvs : List (Key × V)} (h : Rd H a (.dK kvs)) : LenA K (.ref a) H kvs.length := .inr ⟨a, kvs, rfl, h, rfl⟩
def rLenA (K : PySem.W.Frag) : List V → Hp → VK → Prop := fun xs H Q => ∃ x n, xs = [x] ∧ LenA K x H n ∧ Q (.int (n : Nat)) H
theorem lenAK (h : X.K = K) : CallR X (.builtin "len") (rLenA K) := by
  subst h
  intro pins s σ H xs us Q I r h
  obtain ⟨x, n, rfl, e, q⟩ := h
  rcases e with e | ⟨a, kvs, rfl, e, rfl⟩
  · exact call_len pins s σ H _ us Q I r ⟨x, n, rfl, e, q⟩
  · cases r with
    | cons r rr =>
      cases rr
      cases r
      exact d_len I e fun t s' I' => ⟨.int kvs.length, H, I', ⟨t, rfl⟩, q⟩
def rTup (K : PySem.W.Frag) : List V → Hp → VK → Prop := fun xs H Q => ∃ p ys, xs = [.ref p] ∧ ((SqL K H p ys ∧ ∀ l, H l = none → Q (.ref l) (upd H l (.tup ys))) ∨ (SqT K H p ys ∧ Q (.ref p) H))
theorem tupleK (h : X.K = K) : CallR X (.type "tuple") (rTup K) := by subst h; exact call_tuple_of
end

/-! ### texts -/
theorem len_app (x y : Str) : (x ++ y).length = x.length + y.length := by
  show (x.cps ++ y.cps).size = _
  rw [Array.size_append]
  rfl
theorem int_len {i : Int} (h : -10 ^ 30 ≤ i ∧ i ≤ 10 ^ 30) : (Str.ofString (toString i)).length ≤ 40 := int30_len h
/-! ### signs of a text -/
theorem lcP_str {z : Str} {te : TE} {j : Nat} {σ : L2.St} {H1 : Hp} {Q : VK} (ys : List V) (hl : ys.length = z.length) (hz : z.length ≤ 100000)
    (step : ∀ (i : Nat) c y H' (N : VK), z.cps.toList[i]? = some c → ys[i]? = some y → Same H1 H' → (∀ H4, Same H' H4 → N y H4) → te ((wipe σ [j]).set j (some (.str ⟨#[c]⟩))) H' N)
    (done : ∀ D H', H1 D = none → Same H1 H' → H' D = some (.lst ys) → Q (.ref D) H') : LcR (Its z) (gName j) tYes te [j] σ H1 Q :=
  lcP_map walk_str (fun i x => ∃ c, z.cps[i]? = some c ∧ x = .str ⟨#[c]⟩) (fun _ _ _ _ h => h) (fun _ _ => trivial) ys hl hz (fun i x y H' N ⟨c, h1, h2⟩ hy s n => by subst h2; exact step i c y H' N (by rw [Array.getElem?_toList]; exact h1) hy s n) done
/-- [x for x in text if ..] -/
theorem lcF_str {z : Str} {tt : TT} {j : Nat} {σ : L2.St} {H1 : Hp} {Q : VK} (p : Nat → Bool) (hz : z.length ≤ 100000) (hj : j < σ.length)
    (step : ∀ c H' (N : Bool → Hp → Prop), c ∈ z.cps.toList → Same H1 H' → N (p c) H' → tt ((wipe σ [j]).set j (some (.str ⟨#[c]⟩))) H' N)
    (done : ∀ D H', H1 D = none → Same H1 H' → H' D = some (.lst (((z.cps.toList.filter p).map fun c => (⟨#[c]⟩ : Str)).map V.str)) → Q (.ref D) H') : LcR (Its z) (gName j) tt (tVar j) [j] σ H1 Q := by
  refine lc_itR walk_str (fun D i H' => Same H1 H' ∧ H' D = some (.lst ((((z.cps.toList.take i).filter p).map fun c => (⟨#[c]⟩ : Str)).map V.str))) (fun D hD => ⟨same_new hD _, by rw [upd_same]; rfl⟩) (fun _ _ _ _ _ _ => trivial) ?_ ?_
  · rintro D i x H H' hD hi ⟨s, e⟩ ⟨rfl, c, hc, rfl⟩
    have hc' : z.cps.toList[i]? = some c := by rw [Array.getElem?_toList]; exact hc
    refine ⟨wipe1, step c _ _ (List.mem_of_getElem? hc') s ?_⟩
    have ht : z.cps.toList.take (i + 1) = z.cps.toList.take i ++ [c] := by rw [List.take_succ, hc']; rfl
    split
    · rename_i hp
      refine ⟨.str ⟨#[c]⟩, ?_, _, e, ?_, same_mut s hD, ?_⟩
      · show (((σ.set j none).set j (some _)))[j]? = _
        rw [List.getElem?_set_self (by rw [List.length_set]; exact hj)]
      · rw [List.length_map, List.length_map]
        refine sz5l (Nat.lt_of_le_of_lt (List.length_filter_le _ _) ?_)
        rw [List.length_take]
        have : i < z.length := hi
        omega
      · rw [upd_same, ht, List.filter_append, List.filter_cons_of_pos hp]
        simp
    · rename_i hp
      refine ⟨s, ?_⟩
      rw [ht, List.filter_append, List.filter_cons_of_neg (by simpa using hp)]
      simpa using e
  · rintro D H' hD ⟨s, e⟩
    refine done D H' hD s ?_
    rw [List.take_of_length_le (by show z.cps.toList.length ≤ z.cps.size; simp)] at e
    exact e
theorem app_cps (x y : Str) : (x ++ y).cps.toList = x.cps.toList ++ y.cps.toList := by
  show (x.cps ++ y.cps).toList = _
  rw [Array.toList_append]
theorem str_nil {x : Str} (h : x.cps.toList = []) : x = "" := by
  obtain ⟨⟨l⟩⟩ := x
  cases h
  rfl
theorem str_one {c : Nat} (z : Nat) : (V.str ⟨#[c]⟩ = V.str ⟨#[z]⟩) ↔ c = z := by
  constructor
  · intro e; cases e; rfl
  · intro e; rw [e]
theorem emp_app (x : Str) : Str.empty ++ x = x := by
  obtain ⟨a⟩ := x
  show (⟨#[] ++ a⟩ : Str) = ⟨a⟩
  rw [Array.empty_append]
theorem of_len (x : String) : (Str.ofString x).length = x.length := PyProof.Rows.ofString_length x
theorem app_assoc (x y z : Str) : x ++ y ++ z = x ++ (y ++ z) := by
  show (⟨x.cps ++ y.cps ++ z.cps⟩ : Str) = ⟨x.cps ++ (y.cps ++ z.cps)⟩
  rw [Array.append_assoc]
theorem emp_len : Str.empty.length = 0 := rfl
theorem int_log {i : Int} (h : -10 ^ 30 ≤ i ∧ i ≤ 10 ^ 30) : i.natAbs.log2 < 1920 := Nat.lt_trans (int30_log h) (by decide)
/-! ### texts that can be laid -/
theorem ok_ofString (x : String) : PyData.strOk (Str.ofString x) = true := by
  unfold PyData.strOk
  rw [Str.ofString_eq_toList, Array.all_eq_true_iff_forall_mem]
  intro c hc
  obtain ⟨d, _, rfl⟩ := List.mem_map.mp (by simpa using hc : c ∈ x.toList.map Char.toNat)
  refine decide_eq_true ?_
  have := d.valid
  rcases this with h | ⟨_, h⟩
  · exact Nat.lt_trans h (by decide)
  · exact h
theorem ok_app {x y : Str} (hx : PyData.strOk x = true) (hy : PyData.strOk y = true) : PyData.strOk (x ++ y) = true := by
  unfold PyData.strOk at *
  show (x.cps ++ y.cps).all _ = true
  rw [Array.all_append, hx, hy]
  rfl
theorem layAll_strsK : ∀ {xs : List Str}, (∀ x ∈ xs, PyData.strOk x = true) → PyData.canLayAll0 (xs.map .str) = true
  | [], _ => rfl
  | x :: r, h => by
    show (PyData.strOk x && PyData.canLayAll0 (r.map .str)) = true
    rw [h x (by simp), layAll_strsK fun y hy => h y (by simp [hy])]
    rfl
theorem shaped_strsK {xs : List Str} (h : ∀ x ∈ xs, PyData.strOk x = true) : SeqAt.shaped (.list (xs.map .str)) = true := by
  have h1 := layAll_strsK h
  have h2 := depth_strs xs
  show (PyData.canLayAll0 (xs.map .str) && decide (PyData.depthAll (xs.map .str) + 1 ≤ 64)) = true
  rw [h1, h2]
  rfl
theorem app_emp (x : Str) : x ++ Str.ofString "" = x := by
  obtain ⟨a⟩ := x
  show (⟨a ++ (Str.ofString "").cps⟩ : Str) = ⟨a⟩
  rw [show (Str.ofString "").cps = #[] by decide +kernel, Array.append_empty]
theorem join_foldl : ∀ (ys : List Str) (a : Str), a ++ Txt.join (Str.ofString "") ys = ys.foldl (· ++ ·) a := by
  intro ys
  rw [TL.join_eq]
  induction ys with
  | nil => intro a; exact app_emp a
  | cons x r ih =>
    intro a
    cases r with
    | nil => rfl
    | cons y r =>
      show a ++ (x ++ Str.ofString "" ++ Str.join (Str.ofString "") (y :: r)) = _
      rw [app_emp, ← app_assoc, ih]
      rfl
theorem sum_len {A : Type} (f : A → Nat) (b : Nat) : ∀ xs : List A, (∀ x ∈ xs, f x ≤ b) → (xs.map f).sum ≤ b * xs.length
  | [], _ => by simp
  | x :: r, h => by
    have h1 := h x (by simp)
    have h2 := sum_len f b r fun y hy => h y (by simp [hy])
    simp only [List.map_cons, List.sum_cons, List.length_cons, Nat.mul_succ]
    omega
theorem ix_last {n : Nat} : ixN (n + 1) (-1) = some n := by
  unfold ixN
  simp
  try omega
theorem nd_rev {A : Type} {l : List A} (h : l.Nodup) : l.reverse.Nodup := (List.reverse_perm l).nodup_iff.mpr h
theorem dget_nd : ∀ {fs : List (PyData × PyData)} {e : PyData × PyData}, (keysD fs).Nodup → e ∈ fs → dget fs (strD e.1) = some e.2
  | [], _, _, h => by cases h
  | q :: r, e, hn, h => by
    have hn' : strD q.1 ∉ keysD r ∧ (keysD r).Nodup := List.nodup_cons.mp hn
    rcases List.mem_cons.mp h with rfl | h
    · simp [dget]
    · have hne : ¬ strD q.1 = strD e.1 := fun z => hn'.1 (by rw [z]; exact List.mem_map.mpr ⟨e, h, rfl⟩)
      have := dget_nd hn'.2 h
      unfold dget at this ⊢
      rw [List.find?_cons_of_neg (by simpa using hne)]
      exact this
theorem pd_take {A B : Type} {F : A → B → Prop} {xs : List A} {ys : List B} (h : Paired F xs ys) : ∀ j : Nat, Paired F (xs.take j) (ys.take j) := by
  induction h with
  | nil => intro j; simp only [List.take_nil]; exact .nil
  | cons h1 _ ih => intro j; cases j with
    | zero => exact .nil
    | succ j => exact .cons h1 (ih j)
theorem pd_drop {A B : Type} {F : A → B → Prop} {xs : List A} {ys : List B} (h : Paired F xs ys) : ∀ j : Nat, Paired F (xs.drop j) (ys.drop j) := by
  induction h with
  | nil => intro j; simp only [List.drop_nil]; exact .nil
  | cons h1 h2 ih => intro j; cases j with
    | zero => exact .cons h1 h2
    | succ j => exact ih j
theorem cut_take (xs : List V) (j : Nat) (h : j ≤ xs.length) : cutV xs none (some (j : Int)) = xs.take j := by
  unfold cutV
  rw [HT.sIx_none, HT.sIx_nat]
  simp [Nat.min_eq_left h]
theorem cut_drop (xs : List V) (j : Nat) (h : j ≤ xs.length) : cutV xs (some (j : Int)) none = xs.drop j := by
  unfold cutV
  rw [HT.sIx_none, HT.sIx_nat, Nat.min_eq_left h]
  exact List.take_of_length_le (by simp)
theorem cntAll_split : ∀ {ds : List PyData} {j : Nat} {d : PyData}, ds[j]? = some d → cntAll ds = cntAll (ds.take j) + cnt d + cntAll (ds.drop (j + 1))
  | [], _, _, h => by simp at h
  | e :: r, 0, d, h => by
    simp at h; subst h
    simp [cntAll]
  | e :: r, j + 1, d, h => by
    have := cntAll_split (ds := r) (j := j) (d := d) (by simpa using h)
    simp only [List.take_succ_cons, List.drop_succ_cons, cntAll]
    omega
/-! ### bools -/
theorem Dp_bls {K : PySem.W.Frag} {H : Hp} {a : Addr} {xs : List Bool} (h : H a = some (.lst (xs.map V.bl))) : Dp K H (.ref a) (.list (xs.map .bool)) := by
  refine .lst (SqL.of h) ?_
  have : ∀ l : List Bool, DpAll K H (l.map V.bl) (l.map PyData.bool) := by
    intro l
    induction l with
    | nil => exact .nil
    | cons y q ih2 => exact .cons (.bl y) ih2
  exact this _
theorem Rp_bls {H : Hp} {a : Addr} {xs : List Bool} (h : H a = some (.lst (xs.map V.bl))) (hl : xs.length ≤ 10000) : Rp H 2 (.ref a) (.list (xs.map .bool)) := by
  refine ⟨a, _, rfl, h, by simpa using hl, ?_⟩
  clear h
  induction xs with
  | nil => exact .nil
  | cons x r ih => exact .cons rfl (ih (by simp at hl; omega))
theorem doc_bls (xs : List Bool) (hl : xs.length ≤ 10) : docD 2 (.list (xs.map .bool)) := ⟨by simpa using hl, fun d hd => by
  obtain ⟨b, _, rfl⟩ := List.mem_map.mp hd
  trivial⟩
theorem cnt_bls : ∀ xs : List Bool, cntAll (xs.map .bool) = xs.length
  | [] => rfl
  | x :: r => by simp only [List.map_cons, cntAll, cnt, List.length_cons]; rw [cnt_bls r]; omega
/-- repr of a list of bools -/
theorem repr_bls {H : Hp} {a : Addr} {xs : List Bool} {Q : VK} (h : H a = some (.lst (xs.map V.bl))) (hl : xs.length ≤ 10) (q : Q (.str (PyData.shown (.list (xs.map .bool)))) H) : rRepr [.ref a] H Q :=
  repr1 (Rp_bls h (by omega)) (by omega) (doc_bls xs hl).fine (by simp only [cnt]; rw [cnt_bls]; omega) q
theorem sameN_up : ∀ {n m : Nat} {d e : PyData}, docD n d → docD m e → n ≤ m → ∀ k, sameN (n + k) d e = sameN n d e
  | 0, _, _, _, h, _, _, _ => h.elim
  | n + 1, m + 1, .list ds, .list es, h, g, hl, k => by
    rw [show n + 1 + k = (n + k) + 1 by omega]
    simp only [sameN]
    congr 2
    apply List.ext_getElem?
    intro i
    rw [List.getElem?_zipWith, List.getElem?_zipWith]
    cases h1 : ds[i]? <;> cases h2 : es[i]? <;> simp
    exact sameN_up (h.2 _ (List.mem_of_getElem? h1)) (g.2 _ (List.mem_of_getElem? h2)) (by omega) k
  | n + 1, m + 1, .dict ds, .dict es, h, g, hl, k => by
    rw [show n + 1 + k = (n + k) + 1 by omega]
    simp only [sameN]
    congr 2
    apply List.map_congr_left
    intro e he
    cases h2 : dget es (strD e.1) with
    | none => rfl
    | some d2 =>
      obtain ⟨e2, he2, rfl, _⟩ := dget_mem h2
      exact sameN_up (h.2 e he).2 (g.2 e2 he2).2 (by omega) k
  | n + 1, 0, _, _, _, _, hl, _ => by omega
  | n + 1, m + 1, .none, e, _, _, _, k => by rw [show n + 1 + k = (n + k) + 1 by omega]; cases e <;> rfl
  | n + 1, m + 1, .bool _, e, _, _, _, k => by rw [show n + 1 + k = (n + k) + 1 by omega]; cases e <;> rfl
  | n + 1, m + 1, .int _, e, _, _, _, k => by rw [show n + 1 + k = (n + k) + 1 by omega]; cases e <;> rfl
  | n + 1, m + 1, .str _, e, _, _, _, k => by rw [show n + 1 + k = (n + k) + 1 by omega]; cases e <;> rfl
  | n + 1, m + 1, .tuple _, _, h, _, _, _ => h.elim
  | n + 1, m + 1, .list _, .none, _, _, _, k => by rw [show n + 1 + k = (n + k) + 1 by omega]; rfl
  | n + 1, m + 1, .list _, .bool _, _, _, _, k => by rw [show n + 1 + k = (n + k) + 1 by omega]; rfl
  | n + 1, m + 1, .list _, .int _, _, _, _, k => by rw [show n + 1 + k = (n + k) + 1 by omega]; rfl
  | n + 1, m + 1, .list _, .str _, _, _, _, k => by rw [show n + 1 + k = (n + k) + 1 by omega]; rfl
  | n + 1, m + 1, .list _, .tuple _, _, _, _, k => by rw [show n + 1 + k = (n + k) + 1 by omega]; rfl
  | n + 1, m + 1, .list _, .dict _, _, _, _, k => by rw [show n + 1 + k = (n + k) + 1 by omega]; rfl
  | n + 1, m + 1, .dict _, .none, _, _, _, k => by rw [show n + 1 + k = (n + k) + 1 by omega]; rfl
  | n + 1, m + 1, .dict _, .bool _, _, _, _, k => by rw [show n + 1 + k = (n + k) + 1 by omega]; rfl
  | n + 1, m + 1, .dict _, .int _, _, _, _, k => by rw [show n + 1 + k = (n + k) + 1 by omega]; rfl
  | n + 1, m + 1, .dict _, .str _, _, _, _, k => by rw [show n + 1 + k = (n + k) + 1 by omega]; rfl
  | n + 1, m + 1, .dict _, .tuple _, _, _, _, k => by rw [show n + 1 + k = (n + k) + 1 by omega]; rfl
  | n + 1, m + 1, .dict _, .list _, _, _, _, k => by rw [show n + 1 + k = (n + k) + 1 by omega]; rfl
end SC

set_option Elab.async false
set_option linter.all false
set_option maxRecDepth 100000
set_option maxHeartbeats 4000000
/-! Schemacheck: for i, k in enumerate(d), d a dict. -/
namespace SC
open PySem L2 PySem.Spec PyProof.Rows
open Sem (wp)
section
variable {prog : Program} {w : World} {A : Around} {E : Value → Shared → Prop} {s : Shared}
theorem nextOf_key_item {it d : Addr} {i n ep : Nat} {od : Obj} {es : Array DictEntry} {en : DictEntry} {Q : Value → Shared → Prop} (hit : s.heap.IsKeyIter it d i n ep) (hod : s.heap.get? d = some od) (hdd : od.data = .dict es ep)
    (hsz : es.size = n) (hx : es[i]? = some en) (hQ : ∀ h', h'.IsKeyIter it d (i + 1) n ep → Heap.SameBut it s.heap h' → Q en.key { s with heap := h' }) : wpAny (model prog w) A (Builtin.SmallTypes.nextOf (.ref it)) Q E s := by
  obtain ⟨o, ho, hc, hd⟩ := id hit
  unfold Builtin.SmallTypes.nextOf
  refine wpAny_bind (wpAny_callSpecial?_slot (name := Str.ofString "__next__") hit.typeIs F.slot_dict_keyiterator_next
    (wpAny_call_entry F.slot_dict_keyiterator_next hit.typeIs F.entry_dict_keyiterator_next ?_ (F.args_dict_keyiterator_next_1 _)))
  refine wpAny_bind (wpAny_pure ?_)
  refine wpAny_bind ?_
  refine wpAny_bind ?_
  first | refine wpAny_bind (wpAny_typeNameOfWhole_keyiter hit.typeIs (wpAny_pure ?_)) | refine wpAny_bind (wpAny_typeNameOf_keyiter hit.typeIs (wpAny_pure ?_))
  refine wpAny_bind (wpAny_fieldsOf ho hd ?_)
  have hown : Builtin.Dict_items.ownsTuple "dict_keyiterator" = false := by decide
  simp only [hown, Bool.false_eq_true, if_false]
  show wpAny _ _ (if (Value.ref d == Value.none) = true then _ else _) _ _ s
  rw [if_neg (show ¬ ((Value.ref d == Value.none) = true) from Bool.false_ne_true)]
  refine wpAny_bind (wpAny_pure ?_)
  refine wpAny_bind (wpAny_dictEntries hod hdd ?_)
  rw [if_neg (by rw [hsz]; simp)]
  refine wpAny_bind (wpAny_pure ?_)
  refine wpAny_bind (wpAny_dictEpoch hod hdd ?_)
  rw [if_neg (by simp)]
  refine wpAny_pure ?_
  obtain ⟨hlt', hen⟩ := Array.getElem?_eq_some_iff.mp hx
  simp only [show ¬ ((i : Int) < 0) from by omega, if_false, Int.toNat_natCast, Array.getElem?_eq_getElem hlt']
  refine wpAny_bind ?_
  first | refine wpAny_bind (wpAny_typeNameOfWhole_keyiter hit.typeIs (wpAny_pure ?_)) | refine wpAny_bind (wpAny_typeNameOf_keyiter hit.typeIs (wpAny_pure ?_))
  refine wpAny_bind (wpAny_isOneOf_keyiter hit.typeIs ?_)
  show wpAny _ _ (setField (.ref it) 1 (rawInt ((i : Int) + 1)) >>= _) _ _ s
  refine wpAny_bind (wpAny_setField ho hd (by simp) ?_)
  have hit' : (s.heap.update it (Obj.mapFields (·.setIfInBounds 1 (rawInt ((i : Int) + 1))))).IsKeyIter it d (i + 1) n ep :=
    ⟨_, Heap.get?_update_self _ ho (Obj.isFreed_of_fields (Obj.data_mapFields hd _)), (Obj.cls_mapFields ..).trans hc, by rw [Obj.data_mapFields hd]; simp [rawInt]⟩
  refine wpAny_bind (wpAny_holding ?_)
  refine wpAny_bind (wpAny_isOneOf_keyiter (s := { s with heap := s.heap.update it (Obj.mapFields (·.setIfInBounds 1 (rawInt ((i : Int) + 1)))) }) hit'.typeIs ?_)
  show wpAny _ _ (pure es[i].key) _ _ _
  rw [hen]
  exact wpAny_pure (wpAny_pure ⟨_, rfl, wpAny_pure (hQ _ hit' (Heap.SameBut.update ..))⟩)
theorem nextOf_key_end {it d : Addr} {i n ep : Nat} {od : Obj} {es : Array DictEntry} {Q : Value → Shared → Prop} (hh : A.handled = none) (hit : s.heap.IsKeyIter it d i n ep) (hod : s.heap.get? d = some od) (hdd : od.data = .dict es ep)
    (hsz : es.size = n) (hge : n ≤ i) (hE : ∀ h' e, Heap.ExtBut it s.heap h' → (∃ o, h'.get? e = some o ∧ o.cls = .type "StopIteration") → E (.ref e) { s with heap := h' }) : wpAny (model prog w) A (Builtin.SmallTypes.nextOf (.ref it)) Q E s := by
  obtain ⟨o, ho, hc, hd⟩ := id hit
  unfold Builtin.SmallTypes.nextOf
  refine wpAny_bind (wpAny_callSpecial?_slot (name := Str.ofString "__next__") hit.typeIs F.slot_dict_keyiterator_next
    (wpAny_call_entry F.slot_dict_keyiterator_next hit.typeIs F.entry_dict_keyiterator_next ?_ (F.args_dict_keyiterator_next_1 _)))
  refine wpAny_bind (wpAny_pure ?_)
  refine wpAny_bind ?_
  refine wpAny_bind ?_
  first | refine wpAny_bind (wpAny_typeNameOfWhole_keyiter hit.typeIs (wpAny_pure ?_)) | refine wpAny_bind (wpAny_typeNameOf_keyiter hit.typeIs (wpAny_pure ?_))
  refine wpAny_bind (wpAny_fieldsOf ho hd ?_)
  have hown : Builtin.Dict_items.ownsTuple "dict_keyiterator" = false := by decide
  simp only [hown, Bool.false_eq_true, if_false]
  show wpAny _ _ (if (Value.ref d == Value.none) = true then _ else _) _ _ s
  rw [if_neg (show ¬ ((Value.ref d == Value.none) = true) from Bool.false_ne_true)]
  refine wpAny_bind (wpAny_pure ?_)
  refine wpAny_bind (wpAny_dictEntries hod hdd ?_)
  rw [if_neg (by rw [hsz]; simp)]
  refine wpAny_bind (wpAny_pure ?_)
  refine wpAny_bind (wpAny_dictEpoch hod hdd ?_)
  rw [if_neg (by simp)]
  refine wpAny_pure ?_
  have hge' : es.size ≤ i := by rw [hsz]; exact hge
  simp only [show ¬ ((i : Int) < 0) from by omega, if_false, Int.toNat_natCast, Array.getElem?_eq_none hge']
  refine wpAny_bind ?_
  first | refine wpAny_bind (wpAny_typeNameOfWhole_keyiter hit.typeIs (wpAny_pure ?_)) | refine wpAny_bind (wpAny_typeNameOf_keyiter hit.typeIs (wpAny_pure ?_))
  show wpAny _ _ (setField (.ref it) 0 .none >>= _) _ _ s
  refine wpAny_bind (wpAny_setField ho hd (by simp) ?_)
  show wpAny _ _ (newExc (.type "StopIteration") [] >>= _) _ _ _
  refine wpAny_bind ?_
  simp only [newExc, newTuple]
  refine wpAny_bind (wpAny_newObj_type ?_ (by size_fits))
  refine wpAny_bind (m := firstArgMember _ _) (wpAny_of_eq (a := Value.none) (by first | rfl | (simp only [firstArgMember]; rfl)) ?_)
  refine wpAny_newObj_type ?_ (by size_fits)
  simp only [raiseNew]
  refine wpAny_bind (wpAny_handled ?_)
  first | rw [show A.in1.handled = none from hh] | rw [hh]
  refine wpAny_bind (wpAny_pure (wpAny_throw ?_))
  exact hE _ _ (((Heap.SameBut.update ..).extBut.push _).push _) ⟨_, Heap.get?_push_size _ rfl, rfl⟩
end
/-- what a dict's key iterator draws -/
theorem draws_keys {prog : Program} {w : World} {A : Around} (hh : A.handled = none) (it d : Addr) (hne : d ≠ it) (o : Obj) (es : Array DictEntry) (ep : Nat) (hdt : o.data = .dict es ep) :
    Draws prog w A it [it, d] es.size (fun i v => ∃ en, es[i]? = some en ∧ en.key = v) (fun i h => h.IsKeyIter it d i es.size ep ∧ h.get? d = some o) where
  live := fun _ _ st => let ⟨o, ho, _⟩ := st.1; ⟨o, ho⟩
  frame := fun _ _ _ st hk => ⟨st.1.at fun o e => hk it (by simp) o e, hk d (by simp) o st.2⟩
  item := fun i s Q E hi st hQ => by
    refine nextOf_key_item (en := es[i]) st.1 st.2 hdt rfl (by simp [hi]) fun h' hit' hs' => ?_
    exact hQ _ h' s.toks ⟨_, by simp [hi], rfl⟩ ⟨hit', hs'.extBut _ _ hne st.2⟩ hs'
  done := fun s Q E st hE => nextOf_key_end hh st.1 st.2 hdt rfl (Nat.le_refl _) hE
theorem begins_keys (d : Addr) (o : Obj) (es : Array DictEntry) (ep : Nat) (hd : (d == sysModules) = false) (hx : o.ExactDict) (hdt : o.data = .dict es ep) :
    Begins (.ref d) { cls := .type "dict_keyiterator", data := .fields #[.ref d, .int 0 0, .int es.size 0, .int ep 0] } fun h => h.get? d = some o where
  iter := fun prog w A E s Q hl h => iter_keys hd hl hx hdt h
  keeps := fun h h' x hk => hk d o x
  free := rfl
set_option maxHeartbeats 1000000 in
theorem meets_enumerate_new1 {v : Value} {o : Obj} {H : Heap → Prop} (B : Begins v o H) :
    Meets (Builtin.«enumerate.__new__» ⟨[.type "enumerate", v], []⟩) (fun _ R s => H s.heap ∧
      R (.ok (.ret (.ref (s.heap.push o).objs.size))) { s with heap := (s.heap.push o).push { cls := .type "enumerate", data := .fields #[.none, .bool false, .ref s.heap.objs.size, rawInt 0, .none, .none] } }) :=
  .of_wp fun prog w A R s h => by
    obtain ⟨hp, g, d, tk, os⟩ := s; obtain ⟨h1, h⟩ := h
    have hsub := sub_enumerate
    have q1 : ∀ {A' : Around} {E : Value → Shared → Prop} {Q : Value → Shared → Prop}, Q (.ref hp.objs.size) ⟨hp.push o, g, d, tk, os⟩ → wpAny (model prog w) A' (pyIter v) Q E ⟨hp, g, d, tk, os⟩ :=
      fun q => B.iter prog w _ _ ⟨hp, g, d, tk, os⟩ _ h1 q
    wp_walk using q1
    refine wpAny_stack_any fun st => wpAny_pure ?_
    split
    · rename_i c _ _ _ _ _
      cases (c == Value.type "enumerate")
      · wp_walk using q1
        exact ⟨_, rfl, h⟩
      · wp_walk using q1
        exact ⟨_, rfl, h⟩
    · wp_walk using q1
      exact ⟨_, rfl, h⟩
section
variable {prog : Program} {w : World} {A : Around} {E : Value → Shared → Prop} {s : Shared}
theorem enum_begins1 {v : Value} {o : Obj} {H : Heap → Prop} {Q : Value → Shared → Prop} (B : Begins v o H) (h1 : H s.heap)
    (h : ∀ h', IsEnum h' (s.heap.objs.size + 1) s.heap.objs.size 0 .none → h'.get? s.heap.objs.size = some o → h'.objs.size = s.heap.objs.size + 2 →
      (∀ b o, s.heap.get? b = some o → h'.get? b = some o) → Q (.ref (s.heap.objs.size + 1)) { s with heap := h' }) :
    wpAny (model prog w) A (call (.type "enumerate") [v]) Q E s := by
  refine callType_new F.called_enumerate (by decide) (F.typeCall_enumerate_1 _) (F.newCall_enumerate_1 _) (fun obj => F.args_object_init_2 obj _) F.entry_enumerate_new
    (meets_enumerate_new1 B) ⟨h1, ?_⟩
  have hz : (s.heap.push o).objs.size = s.heap.objs.size + 1 := Heap.size_push ..
  show _ ∧ _
  rw [hz]
  have he : IsEnum ((s.heap.push o).push { cls := .type "enumerate", data := .fields #[.none, .bool false, .ref s.heap.objs.size, rawInt 0, .none, .none] }) (s.heap.objs.size + 1) s.heap.objs.size 0 .none := by
    have := Heap.get?_push_size (s.heap.push o) (o := { cls := .type "enumerate", data := .fields #[.none, .bool false, .ref s.heap.objs.size, rawInt 0, .none, .none] }) rfl
    rw [hz] at this; exact this
  refine ⟨⟨_, he, rfl⟩, h _ he (Heap.get?_push_of_some _ (Heap.get?_push_size _ B.free)) (by rw [Heap.size_push, hz]) fun b o x => Heap.get?_push_of_some _ (Heap.get?_push_of_some _ x)⟩
end
theorem next_enumK_end {prog : Program} {w : World} {A : Around} {E : Value → Shared → Prop} {s : Shared} {e it d : Addr} {i n ep : Nat} {c : Int} {old : Value} {od : Obj} {es : Array DictEntry} {Q : Option Value → Shared → Prop} (hh : A.in1.handled = none)
    (he : IsEnum s.heap e it c old) (hit : s.heap.IsKeyIter it d i n ep) (hod : s.heap.get? d = some od) (hdd : od.data = .dict es ep) (hsz : es.size = n) (hge : n ≤ i)
    (hQ : ∀ h', Heap.ExtBut it s.heap h' → Q none { s with heap := h' }) : wpAny (model prog w) A (pyNext (.ref e)) Q E s := by
  have hT : s.TypeIs (.ref e) "enumerate" := ⟨_, he, rfl⟩
  unfold pyNext
  refine wpAny_bind (wpAny_attempt (wpAny_callSpecial?_slot (name := Str.ofString "__next__") hT F.slot_enumerate_next
    (wpAny_call_entry F.slot_enumerate_next hT F.entry_enumerate_next ?_ (F.args_enumerate_next_1 _))))
  show wpAny _ _ (field (.ref e) 2 >>= _) _ _ _
  refine wpAny_bind (wpAny_field he rfl (x := .ref it) rfl ?_)
  refine wpAny_bind (nextOf_key_end hh hit hod hdd hsz hge fun h' x he' hx' => ?_)
  obtain ⟨o, ho, hc⟩ := hx'
  refine wpAny_bind (wpAny_isInstance (T := "StopIteration") (b := true) ⟨o, ho, hc⟩ isSubtype_stop ?_)
  exact wpAny_pure (hQ _ he')
/-- the keys of the locked dict at d, each in a new pair -/
def Itke (d : Addr) (o : Obj) (kvs : List (Key × V)) : It :=
  ⟨fun i H => H d = some (.frz o (.dK kvs)) ∧ i < kvs.length, fun i H v H' => ∃ T k x, kvs[i]? = some (k, x) ∧ v = .ref T ∧ H T = none ∧ H' = upd H T (.tup [.int (i : Nat), kV k]), fun i H => H d = some (.frz o (.dK kvs)) ∧ kvs.length ≤ i⟩
theorem turn_enumK {P : Program} {w : World} {K : PySem.W.Frag} {elts : List Expr} {kk : Nat} {tpos : Pos} {d : Addr} {o : Obj} {es : Array DictEntry} {ep : Nat} {kvs : List (Key × V)} (e it : Addr) (hod : o.data = .dict es ep) (hsz : es.size = kvs.length) (hde : d ≠ e) (hdi : d ≠ it) :
    Turn P w K (.Tuple elts kk tpos) (Itke d o kvs) [e, it] e (fun i h => (∃ old, IsEnum h e it ((i : Nat) : Int) old) ∧ h.IsKeyIter it d i es.size ep ∧ e ≠ it) where
  mem := by simp
  obj := fun i h st b hb => by
    obtain ⟨⟨old, he⟩, ⟨o, ho, hc, hd⟩, _⟩ := st
    have e' : b = e ∨ b = it := by simpa using hb
    rcases e' with z | z
    · rw [z]; exact ⟨_, he, fun v q => nomatch q⟩
    · rw [z]; exact ⟨o, ho, fun v q => by rw [hd] at q; cases q⟩
  keep := fun i h h' st k => let ⟨⟨old, he⟩, hi, hne⟩ := st; ⟨⟨old, k e (by simp) _ he⟩, hi.at fun o q => k it (by simp) o q, hne⟩
  item := by
    intro X hP hw hK hc i pins s σ H E I hf st hg
    subst hP hw hK
    obtain ⟨⟨old, he⟩, hit, hne⟩ := st
    obtain ⟨hd, hi⟩ := hg
    obtain ⟨hs, hgd, hx, es', ep', vs, hdt, hsz', kv, hm⟩ := I.frzK hd
    obtain ⟨rfl, rfl⟩ := dict_ep hod hdt
    obtain ⟨⟨k, v⟩, hkv⟩ : ∃ p, kvs[i]? = some p := ⟨kvs[i], List.getElem?_eq_getElem hi⟩
    obtain ⟨u, hu, ru⟩ := kv_get kv hkv
    obtain ⟨od, es2, hod2, hcd, hdd, hk2, hp2, hn2⟩ := id hm
    have e3 : od = o := by rw [hgd] at hod2; exact (Option.some.inj hod2).symm
    subst e3
    obtain ⟨rfl, _⟩ := dict_ep hdt hdd
    have hel : e < s.heap.objs.size := Heap.lt_size he
    have hil : it < s.heap.objs.size := by obtain ⟨_, q, _⟩ := hit; exact Heap.lt_size q
    have hh : X.A.in1.handled = none := I.ok.hd hc
    refine wpAny_pyNext_enum_itemD (draws_keys hh it d hdi od es2 ep' hdt) he ⟨hit, hgd⟩ (by omega) hne (by simp [hne, hde.symm]) fun x h' tk ⟨en, hen, hkx⟩ ho st' hT hsz2 hk => ?_
    refine ⟨_, rfl, wpAny_letOwnedTupleGo_enum (s := { s with heap := h', toks := tk + 1 }) ho fun h'' he' sb => ?_⟩
    have hkey : keyIs k x = true := by rw [← hkx]; exact (hp2.get? (e := en) (by simpa using hen) hu).1
    have hT2 : h''.get? s.heap.objs.size = some { cls := .type "tuple", data := .seq #[.int i tk, x] } := (sb.2 _ (Nat.ne_of_gt hel)).trans hT
    have new : ObjOk X.prog X.w (upd H s.heap.objs.size (.tup [.int (i : Nat), kV k])) h'' s.heap.objs.size (.tup [.int (i : Nat), kV k]) :=
      ⟨by show 2 ≤ sizeLine; decide, [.int i tk, x], .cons ⟨_, rfl⟩ (.cons (relV_key hkey) .nil), ⟨_, hT2, rfl, _, rfl⟩⟩
    have I1 : Inv X pins σ (upd H s.heap.objs.size (.tup [.int (i : Nat), kV k])) { s with heap := h'', toks := tk + 1 } :=
      I.turnedNew (ch := [e, it]) (fun b ob hb q => (sb.2 b (fun z => hb (by simp [z]))).trans (hk b ob (fun z => hb (by simp [z])) (fun z => hb (by simp [z])) q)) hf (Nat.le_refl _) new
    refine ⟨.ref s.heap.objs.size, _, I1, rfl, ⟨_, k, v, hkv, rfl, I.hok.fresh (Nat.le_refl _), rfl⟩, ⟨⟨x, ?_⟩, st'.1.at fun o q => (sb.2 it (Ne.symm hne)).trans q, hne⟩, fun b hb => ?_⟩
    · have e1 : ((i + 1 : Nat) : Int) = (i : Int) + 1 := by omega
      rw [e1]; exact he'
    · have hb' : b < s.heap.objs.size := by
        have e' : b = e ∨ b = it := by simpa using hb
        rcases e' with z | z
        · rw [z]; exact hel
        · rw [z]; exact hil
      rw [upd_ne (Nat.ne_of_lt hb')]
      exact (hf b hb).1
  done := by
    intro X hP hw hK hc i pins s σ H E I hf st hg
    subst hP hw hK
    obtain ⟨⟨old, he⟩, hit, hne⟩ := st
    obtain ⟨hd, hi⟩ := hg
    obtain ⟨hs, hgd, hx, es', ep', vs, hdt, hsz', kv, hm⟩ := I.frzK hd
    obtain ⟨rfl, rfl⟩ := dict_ep hod hdt
    obtain ⟨f0, f1, f2, f3, f4, f5⟩ := hf it (by simp)
    have hh : X.A.in1.handled = none := I.ok.hd hc
    exact next_enumK_end hh he hit hgd hdt rfl (by omega) fun h' eb => ⟨rfl, I.turned (t' := s.toks) (fun b o hb q => eb b o hb q) f0 f1 f3 f4 f5⟩
  self := fun A i s Q E st h => let ⟨⟨_, he⟩, _⟩ := st; wpAny_pyIter_enum he h
def iEnumK (ta : TA) : TI := fun σ H R => ta σ H fun vs H1 => ∃ d o kvs, vs = [.ref d] ∧ H1 d = some (.frz o (.dK kvs)) ∧ R (Itke d o kvs) H1
theorem pi_enumK {X : Cx} {e : Expr} {ta : TA} {p pos tpos : Pos} {elts : List Expr} {kk : Nat} (hg : Gl X "enumerate") (hm : X.mg "enumerate" = none) (ha : PA X [e] ta) (hs : starEach [e] X.env = [(false, eval e X.env)] := by rfl) :
    PI X (.Tuple elts kk tpos) (.Call (.Name "enumerate" p) [e] [] pos) (iEnumK ta) := by
  refine ⟨fun pins s σ H R I h => ?_⟩
  refine Call_ (ld_blt I hg hm boot_enumerate (PyProof.Rows.callWith_type1 (thn (ha.run pos pins s σ H _ I h) fun us s1 ⟨vs, H1, I1, r1, q1⟩ => ?_) hs rfl))
  obtain ⟨d, o, kvs, ex, hd, q⟩ := q1
  subst ex
  cases r1 with
  | cons r rr =>
    cases rr
    cases r
    obtain ⟨hs', hgd, hx, es, ep, vs, hdt, hsz, kv, hm'⟩ := I1.frzK hd
    refine enum_begins1 (begins_keys d o es ep hs' hx hdt) hgd fun h' he hit hsz2 hk => wpAny_pyIter_enum he ?_
    have I2 : Inv X pins σ H1 { s1 with heap := h' } := I1.kept (t' := s1.toks) hk
    have hdl : d < s1.heap.objs.size := Heap.lt_size hgd
    refine ⟨s1.heap.objs.size + 1, [s1.heap.objs.size + 1, s1.heap.objs.size], _, _, H1, rfl, I2, turn_enumK (s1.heap.objs.size + 1) s1.heap.objs.size hdt hsz (Nat.ne_of_lt (Nat.lt_succ_of_lt hdl)) (Nat.ne_of_lt hdl), ⟨⟨.none, he⟩, ⟨_, hit, rfl, rfl⟩, Nat.succ_ne_self _⟩, fun b hb => ?_, q⟩
    have e' : b = s1.heap.objs.size + 1 ∨ b = s1.heap.objs.size := by simpa using hb
    have hle : s1.heap.objs.size ≤ b := by
      rcases e' with z | z
      · rw [z]; exact Nat.le_add_right _ _
      · rw [z]; exact Nat.le_refl _
    exact I1.fpOk hle (I1.hok.fresh hle)
theorem walk_enumK {d : Addr} {o : Obj} {kvs : List (Key × V)} : Walk (Itke d o kvs) kvs.length (fun H => H d = some (.frz o (.dK kvs))) (YPair (fun i => some (.int (i : Nat))) (fun i => kvs[i]?.map fun kv => kV kv.1)) := by
  refine ⟨fun _ _ hi q => ⟨q, hi⟩, fun _ q => ⟨q, Nat.le_refl _⟩, fun i H x H' _ _ y => ?_⟩
  obtain ⟨T, k, v, h1, h2, h3, h4⟩ := y
  exact ⟨T, .int (i : Nat), kV k, h2, h3, h4, rfl, by simp [h1]⟩
end SC

set_option Elab.async false
set_option linter.all false
set_option maxRecDepth 100000
set_option maxHeartbeats 4000000
/-! Schemacheck: list(enumerate(xs)). -/
namespace SC
open PySem L2 PySem.Spec PyProof.Rows
open Sem (wp)
theorem enum_no_len : typeLookup (.type "enumerate") "__len__" = pure none := by rw [typeLookup_type, builtinLookup_eq_fast]; kernel_rfl
theorem enum_no_hint : typeLookup (.type "enumerate") "__length_hint__" = pure none := by rw [typeLookup_type, builtinLookup_eq_fast]; kernel_rfl
/-- an enumerate at its i-th turn, whose pairs are kept -/
structure EnSt (e it l S : Addr) (i : Nat) (h : Heap) : Prop where
  li : h.IsListIter it l i
  ne : e ≠ it
  st : (∃ old, IsEnum h e it ((i : Nat) : Int) old) ∨ ∃ old T f oT, IsEnumHeld h e it ((i : Nat) : Int) old T f ∧ h.get? T = some oT ∧ T ≠ e ∧ T ≠ it ∧ T ≠ S
/-- the pairs so far -/
def EnRows (H1 H : Hp) (S : Addr) (xs : List V) (ts : List Addr) : Prop := Keep [S] H1 H ∧ H S = some (.lst (ts.map V.ref)) ∧ ∀ (j : Nat) (T : Addr), ts[j]? = some T → ∃ x, xs[j]? = some x ∧ H T = some (.tup [.int (j : Nat), x]) ∧ H1 T = none
theorem sql_ne {K : PySem.W.Frag} {H : Hp} {l S : Addr} {o : HO} {xs : List V} (h : SqL K H l xs) (hn : l ≠ S) : SqL K (upd H S o) l xs := by
  rcases h with (h | ⟨u, h⟩) | h
  · exact .inl (.inl (by rw [upd_ne hn]; exact h))
  · exact .inl (.inr ⟨u, by rw [upd_ne hn]; exact h⟩)
  · exact .inr h
theorem sql_new {K : PySem.W.Frag} {H : Hp} {l S : Addr} {o : HO} {xs : List V} (h : SqL K H l xs) (hn : H S = none) : SqL K (upd H S o) l xs := (same_new hn o).seq h
theorem lst_there {X : Cx} {pins : List (Addr × Obj)} {σ : L2.St} {H : Hp} {s : Shared} {S : Addr} {xs : List V} (I : Inv X pins σ H s) (h : H S = some (.lst xs)) : s.heap.get? S = some (lstObj ((I.hok S _ h).2.choose).toArray ((I.hok S _ h).2.choose_spec.choose)) := (I.hok S _ h).2.choose_spec.choose_spec.2
section
variable {X : Cx} {pins : List (Addr × Obj)} {σ : L2.St} {A : Around} {R : Result → Shared → Prop} {res : Value} {e it l S : Addr} {xs : List V} {H1 : Hp}
theorem enum_loop (hh : A.in1.handled = none) (hel : l ≠ e) (hil : l ≠ it) (hSe : S ≠ e) (hSi : S ≠ it) (hlS : l ≠ S) (hsz : xs.length < sizeLine) (hl1 : SqL X.K H1 l xs) (hS1 : H1 S = some (.lst []))
    (hend : ∀ s' H' ts, Inv X pins σ H' s' → EnRows H1 H' S xs ts → ts.length = xs.length → R (.ok (.ret res)) s') :
    ∀ (k i : Nat) (s : Shared) (H : Hp) (ts : List Addr), xs.length - i = k → i ≤ xs.length → Inv X pins σ H s → EnRows H1 H S xs ts → ts.length = i → SqL X.K H l xs → EnSt e it l S i s.heap → (∀ b ∈ [e, it], FpOk X pins H b) →
      codeAny (model X.prog X.w) A (.builtin "list.extend.loop" ⟨[.ref S, .ref e, res], []⟩) R s := by
  intro k
  induction k with
  | zero =>
    intro i s H ts hk hi I hrow hlen hq st hf
    have hin : i = xs.length := by omega
    refine codeAny_builtin F.entry_extend_loop ?_
    rw [Around.under_plainId F.plain_extend_loop _]
    show wpAny _ A.in1 (pyNext (.ref e) >>= _) _ _ s
    obtain ⟨its, rv, p, hz⟩ := I.list hq
    have hx : its.toArray[i]? = none := by
      have := rv.length
      simp
      omega
    have fin : ∀ h', Heap.ExtBut it s.heap h' → R (.ok (.ret res)) { s with heap := h' } := fun h' eb => by
      obtain ⟨f0, f1, f2, f3, f4, f5⟩ := hf it (by simp)
      exact hend _ H ts (I.turned (t' := s.toks) (fun b o hb q => eb b o hb q) f0 f1 f3 f4 f5) hrow (by omega)
    rcases st.st with ⟨old, he⟩ | ⟨old, T, f, oT, he, hT, r1, r2, r3⟩
    · exact wpAny_bind (wpAny_pyNext_enum_end hh he st.li p.isList hx fun h' eb => wpAny_pure (fin h' eb))
    · exact wpAny_bind (wpAny_pyNext_enum_end_held hh he st.li p.isList hx fun h' eb => wpAny_pure (fin h' eb))
  | succ k ih =>
    intro i s H ts hk hi I hrow hlen hq st hf
    have hlt : i < xs.length := by omega
    refine codeAny_builtin F.entry_extend_loop ?_
    rw [Around.under_plainId F.plain_extend_loop _]
    show wpAny _ A.in1 (pyNext (.ref e) >>= _) _ _ s
    obtain ⟨its, rv, p, hz⟩ := I.list hq
    have hx : xs[i]? = some xs[i] := List.getElem?_eq_getElem hlt
    obtain ⟨u, hu, ru⟩ := rv.get hx
    have hu' : its.toArray[i]? = some u := by simpa using hu
    have hil' : it < s.heap.objs.size := by obtain ⟨_, q, _⟩ := st.li; exact Heap.lt_size q
    -- one turn
    have go : ∀ (h' : Heap) (old : Value) (T : Addr) (f : Bool) (oT : Obj), IsEnumHeld h' e it (((i + 1 : Nat)) : Int) old T f → h'.get? T = some oT → T ≠ e → T ≠ it → T ≠ S → h'.IsListIter it l (i + 1) →
        h'.get? s.heap.objs.size = some { cls := .type "tuple", data := .seq #[.int i s.toks, u] } → (∀ b o, b ≠ e → b ≠ it → s.heap.get? b = some o → h'.get? b = some o) →
        wpAny (model X.prog X.w) A.in1 (updateSeq S (·.push (.ref s.heap.objs.size)) >>= fun _ => again (.builtin "list.extend.loop" ⟨[.ref S, .ref e, res], []⟩))
          (fun fin s' => match fin with | .done f => R (.ok f) s' | .again c' => c'.quiet = true ∧ codeAny (model X.prog X.w) A c' R s') (fun e s' => R (.error e) s') { s with heap := h', toks := s.toks + 1 } := by
      intro h' old T f oT ho hT r1 r2 r3 hit' hT2 hkp
      have hel' : e < s.heap.objs.size := by
        rcases st.st with ⟨_, he⟩ | ⟨_, _, _, _, he, _⟩ <;> exact Heap.lt_size he
      have new : ObjOk X.prog X.w (upd H s.heap.objs.size (.tup [.int (i : Nat), xs[i]])) h' s.heap.objs.size (.tup [.int (i : Nat), xs[i]]) :=
        ⟨by show 2 ≤ sizeLine; decide, [.int i s.toks, u], .cons ⟨_, rfl⟩ (.cons ru .nil), ⟨_, hT2, rfl, _, rfl⟩⟩
      have I1 : Inv X pins σ (upd H s.heap.objs.size (.tup [.int (i : Nat), xs[i]])) { s with heap := h', toks := s.toks + 1 } :=
        I.turnedNew (ch := [e, it]) (fun b ob hb q => hkp b ob (fun z => hb (by simp [z])) (fun z => hb (by simp [z])) q) hf (Nat.le_refl _) new
      have hfr : H s.heap.objs.size = none := I.hok.fresh (Nat.le_refl _)
      have hSz : S ≠ s.heap.objs.size := ne_of_none hrow.2.1 hfr
      have hS2 : upd H s.heap.objs.size (.tup [.int (i : Nat), xs[i]]) S = some (.lst (ts.map V.ref)) := by rw [upd_ne hSz]; exact hrow.2.1
      obtain ⟨hl3, acc, c, r3', hS3⟩ := I1.hok S _ hS2
      have hal : acc.length = i := by rw [← r3'.length, List.length_map, hlen]
      have hlH : SqL X.K (upd H s.heap.objs.size (.tup [.int (i : Nat), xs[i]])) l xs := sql_new hq hfr
      have hupd : ∀ b o, b ≠ S → h'.get? b = some o → (h'.update S (Obj.mapSeq (·.push (.ref s.heap.objs.size)))).get? b = some o := fun b o hb q => (Heap.get?_update_other _ _ (Ne.symm hb)).trans q
      have hself := Heap.get?_update_self (Obj.mapSeq (·.push (Value.ref s.heap.objs.size))) hS3 rfl
      have I2 : Inv X pins σ (upd (upd H s.heap.objs.size (.tup [.int (i : Nat), xs[i]])) S (.lst ((ts ++ [s.heap.objs.size]).map V.ref))) { s with heap := h'.update S (Obj.mapSeq (·.push (.ref s.heap.objs.size))), toks := s.toks + 1 } := by
        have := I1.lset (its' := acc ++ [.ref s.heap.objs.size]) hS2 hS3 (f := (·.push (.ref s.heap.objs.size))) (t' := s.toks + 1) (by simp) (ys := ts.map V.ref ++ [V.ref s.heap.objs.size]) (r3'.append (Paired.cons (show RelV (V.ref s.heap.objs.size) (Value.ref s.heap.objs.size) from rfl) .nil)) (by simp; omega)
        rw [List.map_append]
        exact this
      refine wpAny_bind (wpAny_updateSeq hS3 rfl (wpAny_pure ⟨plainId_quiet F.plain_extend_loop _, ih (i + 1) _ _ (ts ++ [s.heap.objs.size]) (by omega) hlt I2 ⟨(hrow.1.new hfr).mut (by simp), upd_same, ?_⟩ (by simp [hlen]) (sql_ne hlH hlS) ⟨hit'.at fun o q => hupd _ _ hSi.symm q, st.ne, .inr ⟨old, T, f, oT, hupd _ _ hSe.symm ho, hupd _ _ r3 hT, r1, r2, r3⟩⟩ fun b hb => ?_⟩) (by simp; omega) (by simp; omega))
      · intro j T' hj
        by_cases hji : j < ts.length
        · rw [List.getElem?_append_left hji] at hj
          obtain ⟨x, h1, h2, h3⟩ := hrow.2.2 j T' hj
          refine ⟨x, h1, ?_, h3⟩
          rw [upd_ne (ne_of h2 hrow.2.1 (by intro z; cases z)), upd_ne (ne_of_none h2 hfr)]
          exact h2
        · have hj2 : j = i := by
            have := (List.getElem?_eq_some_iff.mp hj).1
            simp at this
            omega
          subst hj2
          rw [← hlen, List.getElem?_append_right (Nat.le_refl _)] at hj
          simp at hj
          subst hj
          exact ⟨xs[j], hx, by rw [upd_ne (Ne.symm hSz), upd_same], hrow.1.free hfr (by simp [Ne.symm hSz])⟩
      · have hb2 : b < s.heap.objs.size ∧ b ≠ S := by
          have e' : b = e ∨ b = it := by simpa using hb
          rcases e' with z | z
          · rw [z]; exact ⟨hel', hSe.symm⟩
          · rw [z]; exact ⟨hil', hSi.symm⟩
        obtain ⟨f0, f1⟩ := hf b hb
        refine ⟨?_, f1⟩
        rw [upd_ne hb2.2, upd_ne (Nat.ne_of_lt hb2.1)]
        exact f0
    rcases st.st with ⟨old, he⟩ | ⟨old, T, f, oT, he, hT, r1, r2, r3⟩
    · refine wpAny_bind (wpAny_pyNext_enum_item he st.li p.isList hu' st.ne fun h' ho hit' hT hs2 hkp => ?_)
      have hel' : e < s.heap.objs.size := Heap.lt_size he
      have hSl : S < s.heap.objs.size := Heap.lt_size (lst_there I hrow.2.1)
      exact go h' _ s.heap.objs.size false _ (by rw [show ((i + 1 : Nat) : Int) = (i : Int) + 1 by omega]; exact ho) hT (Nat.ne_of_gt hel') (Nat.ne_of_gt hil') (Nat.ne_of_gt hSl) hit' hT hkp
    · refine wpAny_bind (wpAny_pyNext_enum_item_held he hT r1 r2 st.li p.isList hu' st.ne fun h' ho hit' hT' hs2 hkp => ?_)
      exact go h' old T true oT (by rw [show ((i + 1 : Nat) : Int) = (i : Int) + 1 by omega]; exact ho) (hkp _ _ r1 r2 hT) r1 r2 r3 hit' hT' hkp
end
/-- list(enumerate(xs)) -/
def tListEn (K : PySem.W.Frag) (te : TE) : TE := fun σ H Q => te σ H fun x H1 => ∃ a xs, x = .ref a ∧ SqL K H1 a xs ∧ xs.length < sizeLine ∧
  ∀ (S : Addr) (ts : List Addr) (H2 : Hp), H1 S = none → Same H1 H2 → H2 S = some (.lst (ts.map V.ref)) → ts.length = xs.length → (∀ (j : Nat) (T : Addr), ts[j]? = some T → ∃ x, xs[j]? = some x ∧ H2 T = some (.tup [.int (j : Nat), x]) ∧ H1 T = none) → Q (.ref S) H2
theorem pe_listEn {X : Cx} {e : Expr} {te : TE} {p p2 pos pos2 : Pos} {K : PySem.W.Frag} (hK : X.K = K) (hc : X.calm = true) (he : PE X e te) (hg1 : Gl X "list") (hm1 : X.mg "list" = none) (hg : Gl X "enumerate") (hm : X.mg "enumerate" = none)
    (hs1 : starEach [.Call (.Name "enumerate" p2) [e] [] pos2] X.env = (false, eval (.Call (.Name "enumerate" p2) [e] [] pos2) X.env) :: starEach [] X.env := by rfl) (hs : starEach [e] X.env = (false, eval e X.env) :: starEach [] X.env := by rfl) :
    PE X (.Call (.Name "list" p) [.Call (.Name "enumerate" p2) [e] [] pos2] [] pos) (tListEn K te) := by
  subst hK
  refine ⟨fun pins s σ H Q I h => ?_⟩
  refine wpAny_Call_Name_kw (ld_blt (u := .type "list") I hg1 hm1 (by decide +kernel) ?_)
  refine PyProof.Rows.callWith_type1 ?_ hs1 rfl
  rw [hs1]
  show wpAny _ _ (spliced ((false, eval (.Call (.Name "enumerate" p2) [e] [] pos2) X.env) :: backTo pos (starEach [] X.env))) _ _ s
  refine Calls.spliced_cons ?_
  refine wpAny_Call_Name_kw (ld_blt I hg hm boot_enumerate ?_)
  refine PyProof.Rows.callWith_type1 ?_ hs rfl
  rw [hs]
  show wpAny _ _ (spliced ((false, eval e X.env) :: backTo pos2 (starEach [] X.env))) _ _ s
  refine Calls.spliced_cons (thn (he.run pins s σ H _ I h) fun u s1 ⟨x, H1, I1, r1, q1⟩ => ?_)
  refine Calls.spliced_nil ?_
  obtain ⟨l, xs, rfl, hq, hz, q⟩ := q1
  cases r1
  obtain ⟨its, rv, p', hz'⟩ := I1.list hq
  refine call_enumerate_list p'.isList fun h2 hen hit hsz hk => ?_
  refine Calls.spliced_nil ?_
  have I2 : Inv X pins σ H1 { s1 with heap := h2 } := I1.kept (t' := s1.toks) hk
  have hll : l < s1.heap.objs.size := by obtain ⟨_, q, _⟩ := p'.isList; exact Heap.lt_size q
  have hh : X.A.handled = none := I1.ok.hd hc
  obtain ⟨z, ez⟩ : ∃ z, z = s1.heap.objs.size := ⟨_, rfl⟩
  rw [← ez] at hen hit hsz hll
  have hS0 : h2.objs.size = z + 2 := hsz
  refine callType_codes (Q₁ := fun obj s₁ => obj = .ref h2.objs.size ∧ s₁ = { s1 with heap := h2.push { cls := .type "list", data := .seq #[] } }) F.called_list (F.typeCall_list_1 _) F.entry_list_init
    (code_list_new _ ⟨rfl, rfl⟩) fun obj s₁ h₁ => ?_
  obtain ⟨rfl, rfl⟩ := h₁
  have hS : (h2.push { cls := .type "list", data := .seq #[] }).get? h2.objs.size = some { cls := .type "list", data := .seq #[] } := Heap.get?_push_size _ rfl
  refine ⟨⟨_, hS, rfl⟩, F.args_list_init_2 _ _, ?_⟩
  rw [← ez]
  show wpAny _ X.A.in1.in1 (do let old ← Builtin.List.listItems (.ref h2.objs.size); Builtin.List.listUpdate (.ref h2.objs.size) (fun _ => #[]); letGo old.toList.reverse; Builtin.List.listExtendWith (.ref h2.objs.size) (.ref (z + 1)) .none) _ _ _
  refine wpAny_bind ?_
  unfold Builtin.List.listItems
  refine wpAny_bind (wpAny_seqItems hS rfl (wpAny_pure ?_))
  show wpAny _ X.A.in1.in1 (updateSeq h2.objs.size (fun _ => #[]) >>= fun _ => letGo (#[] : Array Value).toList.reverse >>= fun _ => Builtin.List.listExtendWith (.ref h2.objs.size) (.ref (z + 1)) .none) _ _ _
  refine wpAny_bind (wpAny_updateSeq hS rfl ?_)
  have hS2 := Heap.get?_update_self (Obj.mapSeq (fun _ => (#[] : Array Value))) hS rfl
  refine wpAny_bind (wpAny_letGo ?_)
  unfold Builtin.List.listExtendWith
  have up : ∀ (h : Heap) (f : Obj → Obj), (∀ b o, h2.get? b = some o → h.get? b = some o) → ∀ b o, h2.get? b = some o → (h.update h2.objs.size f).get? b = some o := fun h f q b o e =>
    (Heap.get?_update_other _ _ (Ne.symm (Nat.ne_of_lt (Heap.lt_size e)))).trans (q b o e)
  have k1 : ∀ b o, h2.get? b = some o → (h2.push { cls := .type "list", data := .seq #[] }).get? b = some o := fun b o e => Heap.get?_push_of_some _ e
  have k2 := up _ (Obj.mapSeq (fun _ => (#[] : Array Value))) k1
  have ty : ∀ {h : Heap} {tk : Nat}, (∀ b o, h2.get? b = some o → h.get? b = some o) → ({ s1 with heap := h, toks := tk } : Shared).TypeIs (.ref (z + 1)) "enumerate" := fun {h tk} q => ⟨_, q _ _ hen, rfl⟩
  have hSa : h2.objs.size ≠ z + 1 := by rw [hS0]; exact Nat.succ_ne_self _
  refine wpAny_bind (wpAny_typeOf (ty k2) ?_)
  have h1 : Builtin.List.listSameRef (.ref h2.objs.size) (.ref (z + 1)) = false := by simp [Builtin.List.listSameRef, hSa]
  have h2' : (Value.type "enumerate" == Value.type "list") = false := by decide
  have h3 : (Value.type "enumerate" == Value.type "tuple") = false := by decide
  simp only [h1, h2', h3, Bool.or_false, Bool.false_eq_true, if_false]
  refine wpAny_bind (wpAny_pyIter_enum (k2 _ _ hen) ?_)
  refine wpAny_bind (wpAny_holding ?_)
  unfold Builtin.List.listLengthHint
  refine wpAny_bind (wpAny_specialOf (ty k2) enum_no_len ?_)
  show wpAny _ X.A.in1.in1 (specialOf (Value.ref (z + 1)) (Str.ofString "__length_hint__") >>= _) _ _ _
  refine wpAny_bind (wpAny_specialOf (ty k2) enum_no_hint ?_)
  refine wpAny_pure ?_
  show wpAny _ X.A.in1.in1 (rule "list.extend.makes-room" >>= fun _ => Builtin.List.listTouch (.ref h2.objs.size) >>= fun _ =>
    again (.builtin "list.extend.loop" ⟨[.ref h2.objs.size, .ref (z + 1), .none], []⟩)) _ _ _
  refine wpAny_bind (wpAny_rule ?_)
  refine wpAny_bind ?_
  show wpAny _ X.A.in1.in1 (updateSeq h2.objs.size (·.push .none) >>= fun _ => updateSeq h2.objs.size (·.pop)) _ _ _
  refine wpAny_bind (wpAny_updateSeq hS2 rfl ?_)
  have hS3 := Heap.get?_update_self (Obj.mapSeq (·.push Value.none)) hS2 rfl
  refine wpAny_updateSeq (hz := by seq_fits) hS3 rfl ?_
  have hS4 := Heap.get?_update_self (Obj.mapSeq (·.pop)) hS3 rfl
  have k4 := up _ (Obj.mapSeq (·.pop)) (up _ (Obj.mapSeq (·.push Value.none)) k2)
  refine wpAny_pure ⟨plainId_quiet F.plain_extend_loop _, ?_⟩
  have hn1 : H1 h2.objs.size = none := I2.hok.fresh (Nat.le_refl _)
  have I4 : Inv X pins σ (upd H1 h2.objs.size (.lst [])) { s1 with heap := _ } := I2.laid (t' := s1.toks) k4 (Nat.le_refl _) ⟨Nat.zero_le _, [], _, .nil, hS4⟩
  have hsq : SqL X.K (upd H1 h2.objs.size (.lst [])) l xs := sql_new hq hn1
  have n0 : ∀ b, z ≤ b → b < h2.objs.size → upd H1 h2.objs.size (.lst []) b = none := fun b h1 h2 => by
    rw [upd_ne (Nat.ne_of_lt h2)]
    exact I1.hok.fresh (by rw [← ez]; exact h1)
  have hzS : z < h2.objs.size := by rw [hS0]; exact Nat.lt_add_of_pos_right (by decide)
  have a1 : l ≠ z + 1 := Nat.ne_of_lt (Nat.lt_succ_of_lt hll)
  have a2 : l ≠ z := Nat.ne_of_lt hll
  have a3 : h2.objs.size ≠ z := Nat.ne_of_gt hzS
  have a4 : l ≠ h2.objs.size := Nat.ne_of_lt (Nat.lt_trans hll hzS)
  have hfp : ∀ b ∈ [z + 1, z], FpOk X pins (upd H1 h2.objs.size (.lst [])) b := fun b hb => by
    have e' : b = z + 1 ∨ b = z := by simpa using hb
    rcases e' with rfl | rfl
    · exact I1.fpOk (by rw [← ez]; exact Nat.le_succ _) (n0 _ (Nat.le_succ _) (by rw [hS0]; exact Nat.lt_succ_self _))
    · exact I1.fpOk (by rw [← ez]; exact Nat.le_refl _) (n0 _ (Nat.le_refl _) hzS)
  refine enum_loop (A := X.A.in1) (X := X) (pins := pins) (σ := σ) (H1 := upd H1 h2.objs.size (.lst [])) (l := l) (it := z) (xs := xs) hh a1 a2 hSa a3 a4 hz hsq upd_same (fun s' H' ts I' hrow hlen => ?_)
    xs.length 0 _ _ [] (Nat.sub_zero _) (Nat.zero_le _) I4 ⟨Keep.refl _ _, upd_same, by simp⟩ rfl hsq ⟨hit.at fun o q => k4 _ _ q, Nat.succ_ne_self _, .inl ⟨_, k4 _ _ hen⟩⟩ hfp
  refine ⟨rfl, .ref h2.objs.size, H', I', rfl, ?_⟩
  refine q _ ts H' hn1 (fun b o eb => hrow.1 b o (by rw [upd_ne (ne_of_none eb hn1)]; exact eb) (by simp [ne_of_none eb hn1])) hrow.2.1 hlen fun j T hj => ?_
  obtain ⟨x, b1, b2, b3⟩ := hrow.2.2 j T hj
  refine ⟨x, b1, b2, ?_⟩
  rw [upd_ne fun y => by rw [y, upd_same] at b3; cases b3] at b3
  exact b3
/-- [e for k in d], d not locked -/
theorem lcU_keys {a : Addr} {kvs : List (Key × V)} {te : TE} {i j : Nat} {σ : L2.St} {H : Hp} {Q : VK} (ha : H a = some (.dK kvs)) (hi : σ[i]? = some (some (.ref a)))
    (ys : List V) (hl : ys.length = kvs.length) (hz : kvs.length ≤ 100000)
    (step : ∀ (i : Nat) k v y H' (N : VK), kvs[i]? = some (k, v) → ys[i]? = some y → LSame H H' → Rd H' a (.dK kvs) → (∀ H4, Same H' H4 → N y H4) → te ((wipe σ [j]).set j (some (kV k))) H' N)
    (done : ∀ D H', H D = none → Same H H' → H' D = some (.lst ys) → Q (.ref D) H') : tLockE (tLc (iKeys (tVar i)) (gName j) tYes te [j]) σ H Q := by
  refine ⟨a, .dK kvs, ha, trivial, fun od => ?_⟩
  have e1 : upd H a (.frz od (.dK kvs)) a = some (.frz od (.dK kvs)) := upd_same
  have ls : LSame H (upd H a (.frz od (.dK kvs))) := fun b o e => by
    by_cases hb : b = a
    · subst hb
      rw [ha] at e
      cases e
      exact .inr ⟨kvs, od, rfl, upd_same⟩
    · exact .inl (by rw [upd_ne hb]; exact e)
  rw [tLc_eq]
  refine ⟨_, hi, a, od, rfl, .inl ⟨kvs, e1, lcP_keys e1 ys hl hz ?_ ?_⟩⟩
  · intro i k v y H' N hk hy s N'
    exact step i k v y H' N hk hy (ls.trans (.of s)) (.inr ⟨od, s _ _ e1⟩) N'
  · intro D H' nD s e
    have hDa : D ≠ a := fun z => by rw [z, upd_same] at nD; cases nD
    have nD' : H D = none := by rw [upd_ne hDa] at nD; exact nD
    exact ⟨s _ _ e1, done D _ nD' (same_lock ha s) (by rw [upd_ne hDa]; exact e)⟩
theorem ps_never {X : Cx} {st : Stmt} : PS X st (fun _ _ _ => False) := ⟨fun _ _ _ _ _ _ h => h.elim⟩
theorem pe_gint {X : Cx} {x : Str} {z : Int} {t : Tok} {pos : Pos} (hg : Gl X x) (hm : X.mg x = some (.int z t)) (hd : (x == ("__debug__" : Str)) = false := by decide) : PE X (.Name x pos) (tC (.int z)) := pe_glob (v := .int z) hg hm ⟨t, rfl⟩ hd
/-! ### the first wrong place of a datum -/
/-- no text is longer than this -/
def smallD : Nat → PyData → Prop
  | 0, _ => True
  | n + 1, .list ds => ∀ d ∈ ds, smallD n d
  | n + 1, .tuple ds => ∀ d ∈ ds, smallD n d
  | n + 1, .dict es => es.length ≤ 60 ∧ ∀ e ∈ es, (∀ x, e.1 = .str x → x.length ≤ 1000 ∧ AsciiS x) ∧ smallD n e.2
  | _ + 1, .str x => x.length ≤ 1000
  | _ + 1, _ => True
def isTextD : PyData → Bool
  | .str x => decide (x.length ≤ 60)
  | _ => false
def isIntD : PyData → Bool
  | .int _ => true
  | _ => false
def fstR (f : PyData → Option (List Key)) : List (Key × PyData) → Option (List Key)
  | [] => none
  | (k, d) :: r => match f d with
    | some p => some (k :: p)
    | none => fstR f r
def rowsL (ds : List PyData) : List (Key × PyData) := ds.zipIdx.map fun p => (.inl (p.2 : Int), p.1)
def rowsD (es : List (PyData × PyData)) : List (Key × PyData) := (srt (keysD es)).map fun x => (.inr x, (dget es x).getD .none)
def fwN : Nat → PyData → Option (List Key)
  | 0, _ => none
  | n + 1, .list ds => fstR (fwN n) (rowsL ds)
  | n + 1, .dict es => if es.all (fun e => isTextD e.1) then fstR (fwN n) (rowsD es) else some []
  | _ + 1, .none => none
  | _ + 1, .bool _ => none
  | _ + 1, .str x => if x.length ≤ 60 then none else some []
  | _ + 1, .int i => if -10 ^ 30 ≤ i ∧ i ≤ 10 ^ 30 then none else some []
  | _ + 1, .tuple _ => some []
theorem fstR_at {f : PyData → Option (List Key)} : ∀ {rs : List (Key × PyData)} {i : Nat} {k : Key} {d : PyData} {p : List Key}, (∀ j < i, ∀ q, rs[j]? = some q → f q.2 = none) → rs[i]? = some (k, d) → f d = some p → fstR f rs = some (k :: p)
  | [], _, _, _, _, _, h, _ => by simp at h
  | q :: r, 0, k, d, p, _, h, g => by
    simp at h; subst h
    simp [fstR, g]
  | q :: r, i + 1, k, d, p, h0, h, g => by
    obtain ⟨k0, d0⟩ := q
    have h1 := h0 0 (by omega) (k0, d0) rfl
    simp only at h1
    simp only [fstR, h1]
    exact fstR_at (i := i) (fun j hj q hq => h0 (j + 1) (by omega) q (by simpa using hq)) (by simpa using h) g
theorem fstR_none {f : PyData → Option (List Key)} : ∀ {rs : List (Key × PyData)}, (∀ q ∈ rs, f q.2 = none) → fstR f rs = none
  | [], _ => rfl
  | (k, d) :: r, h => by
    have h1 := h (k, d) (by simp)
    simp only at h1
    simp only [fstR, h1]
    exact fstR_none fun q hq => h q (by simp [hq])
theorem fstR_congr {f g : PyData → Option (List Key)} : ∀ {rs : List (Key × PyData)}, (∀ q ∈ rs, f q.2 = g q.2) → fstR f rs = fstR g rs
  | [], _ => rfl
  | (k, d) :: r, h => by
    have h1 := h (k, d) (by simp)
    simp only at h1
    simp only [fstR, h1]
    cases g d with
    | some p => rfl
    | none => exact fstR_congr fun q hq => h q (by simp [hq])
theorem fstR_inv {f : PyData → Option (List Key)} : ∀ {rs : List (Key × PyData)} {p : List Key}, fstR f rs = some p → ∃ k d q, (k, d) ∈ rs ∧ f d = some q ∧ p = k :: q
  | [], _, h => by cases h
  | (k, d) :: r, p, h => by
    cases hf : f d with
    | some q =>
      simp only [fstR, hf] at h
      cases h
      exact ⟨k, d, q, by simp, hf, rfl⟩
    | none =>
      simp only [fstR, hf] at h
      obtain ⟨k2, d2, q, h1, h2, h3⟩ := fstR_inv h
      exact ⟨k2, d2, q, by simp [h1], h2, h3⟩
theorem fwN_len : ∀ {n : Nat} {d : PyData} {p : List Key}, fwN n d = some p → p.length ≤ n
  | 0, _, _, h => by cases h
  | n + 1, .list ds, p, h => by
    obtain ⟨k, d, q, _, h2, rfl⟩ := fstR_inv h
    have := fwN_len h2
    simp; omega
  | n + 1, .dict es, p, h => by
    simp only [fwN] at h
    split at h
    · obtain ⟨k, d, q, _, h2, rfl⟩ := fstR_inv h
      have := fwN_len h2
      simp; omega
    · cases h; simp
  | n + 1, .none, p, h => by cases h
  | n + 1, .bool _, p, h => by cases h
  | n + 1, .str x, p, h => by simp only [fwN] at h; split at h <;> cases h; simp
  | n + 1, .int x, p, h => by simp only [fwN] at h; split at h <;> cases h; simp
  | n + 1, .tuple _, p, h => by cases h; simp
theorem small_up {G : Hp} : ∀ {n : Nat} {v : V} {d : PyData}, smallD n d → Re G n v d → smallD (n + 1) d
  | 0, _, _, _, r => r.elim
  | n + 1, v, .list ds, h, ⟨a, xs, _, _, _, hp⟩ => fun d hd => by
    obtain ⟨x, _, hx⟩ := pd_memR hp hd
    exact small_up (h d hd) hx
  | n + 1, v, .tuple ds, h, ⟨a, xs, _, _, _, hp⟩ => fun d hd => by
    obtain ⟨x, _, hx⟩ := pd_memR hp hd
    exact small_up (h d hd) hx
  | n + 1, v, .dict es, h, ⟨a, xs, _, _, _, _, hp⟩ => ⟨h.1, fun e he => by
    obtain ⟨x, _, hx⟩ := pd_memR hp he
    exact ⟨(h.2 e he).1, small_up (h.2 e he).2 hx.2⟩⟩
  | n + 1, v, .none, _, _ => trivial
  | n + 1, v, .bool _, _, _ => trivial
  | n + 1, v, .int _, _, _ => trivial
  | n + 1, v, .str _, h, _ => h
/-! paths -/
/-- what it hands back -/
def pathV (r : Option (List Key)) (H : Hp) (v : V) : Prop := match r with
  | none => v = .non
  | some p => ∃ t, v = .ref t ∧ H t = some (.tup (p.map kV))
theorem pathV.imp {r : Option (List Key)} {H H' : Hp} {v : V} (h : pathV r H v) (s : Same H H') : pathV r H' v := by
  cases r with
  | none => exact h
  | some p => obtain ⟨t, h1, h2⟩ := h; exact ⟨t, h1, s _ _ h2⟩
theorem fwN_ok {G : Hp} : ∀ {n : Nat} {v : V} {d : PyData} {p : List Key}, Re G n v d → smallD n d → fwN n d = some p → ∀ k ∈ p, leafD (kD k)
  | 0, _, _, _, r, _, _ => r.elim
  | n + 1, v, .list ds, p, ⟨a, xs, _, _, hb, hp⟩, sm, h => by
    obtain ⟨k, d, q, hm, h2, rfl⟩ := fstR_inv h
    obtain ⟨⟨d', i⟩, hz, he⟩ := List.mem_map.mp hm
    cases he
    have hi := List.mem_zipIdx' hz
    have hd : d' ∈ ds := by rw [hi.2]; exact List.getElem_mem _
    obtain ⟨x, _, hx⟩ := pd_memR hp hd
    intro k hk
    rcases List.mem_cons.mp hk with rfl | hk
    · have := hi.1
      have hl := pd_len hp
      exact ⟨by omega, by omega⟩
    · exact fwN_ok hx (sm d' hd) h2 k hk
  | n + 1, v, .dict es, p, ⟨a, xs, _, _, hb, hn, hp⟩, sm, h => by
    simp only [fwN] at h
    split at h
    · rename_i hall
      obtain ⟨k, d, q, hm, h2, rfl⟩ := fstR_inv h
      obtain ⟨x, hx, he⟩ := List.mem_map.mp hm
      cases he
      obtain ⟨e, he, hxe⟩ := List.mem_map.mp (mem_srt.mp hx)
      have ht := List.all_eq_true.mp hall e he
      obtain ⟨y, hy⟩ : ∃ y, e.1 = .str y := by
        cases h : e.1 with
        | str y => exact ⟨y, rfl⟩
        | _ => rw [h] at ht; cases ht
      rw [hy] at ht hxe
      have hxe : y = x := hxe
      subst hxe
      cases hg : dget es y with
      | none => exact absurd (mem_srt.mp hx) (dget_none hg)
      | some d2 =>
        rw [hg] at h2
        obtain ⟨e2, he2, rfl, _⟩ := dget_mem hg
        obtain ⟨z, _, hz⟩ := pd_memR hp he2
        intro k hk
        rcases List.mem_cons.mp hk with rfl | hk
        · exact ⟨of_decide_eq_true ht, ((sm.2 e he).1 y hy).2⟩
        · exact fwN_ok hz.2 (sm.2 e2 he2).2 h2 k hk
    · cases h; intro k hk; cases hk
  | n + 1, v, .none, p, _, _, h => by cases h
  | n + 1, v, .bool _, p, _, _, h => by cases h
  | n + 1, v, .str x, p, _, _, h => by
    simp only [fwN] at h
    split at h <;> cases h
    intro k hk; cases hk
  | n + 1, v, .int x, p, _, _, h => by
    simp only [fwN] at h
    split at h <;> cases h
    intro k hk; cases hk
  | n + 1, v, .tuple _, p, _, _, h => by cases h; intro k hk; cases hk
theorem fine_path {p : List Key} (h : ∀ k ∈ p, leafD (kD k)) : Fine (.tuple (p.map kD)) := Fine.tuple fun d hd => by
  obtain ⟨k, hk, rfl⟩ := List.mem_map.mp hd
  exact Fine.leaf (h k hk)
theorem cnt_keys : ∀ p : List Key, cntAll (p.map kD) = p.length
  | [] => rfl
  | k :: r => by
    simp only [List.map_cons, cntAll, List.length_cons]
    rw [cnt_keys r]
    cases k <;> simp [kD, cnt] <;> omega
theorem Rp_path {H : Hp} {t : Addr} {p : List Key} (h : H t = some (.tup (p.map kV))) (hl : p.length ≤ 1000) : Rp H 2 (.ref t) (.tuple (p.map kD)) := by
  refine ⟨t, _, rfl, h, by simp; omega, ?_⟩
  clear h
  induction p with
  | nil => exact .nil
  | cons k r ih => exact .cons (by cases k <;> rfl) (ih (by simp at hl; omega))
/-- a path, shown -/
def showP : Option (List Key) → Str
  | none => PyData.shown .none
  | some p => PyData.shown (.tuple (p.map kD))
theorem repr_path {H : Hp} {v : V} {r : Option (List Key)} {Q : VK} (h : pathV r H v) (hk : ∀ p, r = some p → p.length ≤ 1000 ∧ ∀ k ∈ p, leafD (kD k)) (q : Q (.str (showP r)) H) : rRepr [v] H Q := by
  cases r with
  | none =>
    cases h
    exact repr1 (n := 1) (d := .none) rfl (by omega) (Fine.leaf trivial) (by simp [cnt]) q
  | some p =>
    obtain ⟨t, rfl, ht⟩ := h
    obtain ⟨h1, h2⟩ := hk p rfl
    exact repr1 (Rp_path ht h1) (by omega) (fine_path h2) (by simp only [cnt]; rw [cnt_keys]; omega) q
/-! fuel -/
theorem fw_up {G : Hp} : ∀ {n : Nat} {v : V} {d : PyData}, Re G n v d → fwN (n + 1) d = fwN n d
  | 0, _, _, r => r.elim
  | n + 1, v, .list ds, ⟨a, xs, _, _, hb, hp⟩ => by
    simp only [fwN]
    exact fstR_congr fun q hq => by
      obtain ⟨⟨d', i⟩, hz, he⟩ := List.mem_map.mp hq
      cases he
      have hi := List.mem_zipIdx' hz
      have hd : d' ∈ ds := by rw [hi.2]; exact List.getElem_mem _
      obtain ⟨x, _, hx⟩ := pd_memR hp hd
      exact fw_up hx
  | n + 1, v, .dict es, ⟨a, xs, _, _, hb, hn, hp⟩ => by
    simp only [fwN]
    split
    · exact fstR_congr fun q hq => by
        obtain ⟨x, hx, he⟩ := List.mem_map.mp hq
        cases he
        cases hg : dget es x with
        | none => exact absurd (mem_srt.mp hx) (dget_none hg)
        | some d2 =>
          obtain ⟨e2, he2, rfl, _⟩ := dget_mem hg
          obtain ⟨z, _, hz⟩ := pd_memR hp he2
          exact fw_up hz.2
    · rfl
  | n + 1, v, .none, _ => rfl
  | n + 1, v, .bool _, _ => rfl
  | n + 1, v, .str x, _ => rfl
  | n + 1, v, .int x, _ => rfl
  | n + 1, v, .tuple _, _ => rfl
/-- xs[::2], xs of five -/
theorem pick2 (u0 u1 u2 u3 u4 : Value) : slicePick [u0, u1, u2, u3, u4].toArray none none (some 2) = [u0, u2, u4].toArray := by
  have e : sliceRange 0 5 2 = [0, 2, 4] := by decide +kernel
  show ((sliceRange 0 5 2).filterMap ([u0, u1, u2, u3, u4].toArray[·]?)).toArray = _
  rw [e]
  rfl
def tTwo5 (K : PySem.W.Frag) (te : TE) : TE := fun σ H Q => te σ H fun x H1 => ∃ a y0 y1 y2 y3 y4, x = .ref a ∧ SqL K H1 a [y0, y1, y2, y3, y4] ∧ ∀ p, H1 p = none → Q (.ref p) (upd H1 p (.lst [y0, y2, y4]))
theorem pe_two5 {X : Cx} {K : PySem.W.Frag} {e : Expr} {te : TE} {k : Nat} {p1 p3 pos : Pos} (hK : X.K = K) (he : PE X e te) : PE X (.Subscript e (.Slice none none (some (.Constant (.int 2) k p1)) p3) pos) (tTwo5 K te) := by
  subst hK
  refine ⟨fun pins s σ H Q I h => ?_⟩
  refine Subscript_ (thn (he.run pins s σ H _ I h) fun v s1 ⟨x, H1, I1, r1, q1⟩ => ?_)
  obtain ⟨a, y0, y1, y2, y3, y4, ex, hx, q⟩ := q1
  subst ex
  cases r1
  have hst : PO X (some (.Constant (.int 2) k p1)) (tPart (tC (.int 2))) := po_some pe_int
  refine wpAny_Slice (thn (po_none.run pins s1 σ H1 (fun o H2 => o = none ∧ H2 = H1) I1 ⟨rfl, rfl⟩) fun vl s2 ⟨l, H2, I2, pl, el, e2⟩ => ?_)
  subst el e2
  refine thn (po_none.run pins s2 σ H2 (fun o H3 => o = none ∧ H3 = H2) I2 ⟨rfl, rfl⟩) fun vu s3 ⟨u, H3, I3, pu, eu, e3⟩ => ?_
  subst eu e3
  refine thn (hst.run pins s3 σ H3 (fun o H4 => o = some 2 ∧ H4 = H3) I3 ⟨2, rfl, rfl, rfl⟩) fun vs s4 ⟨o, H4, I4, ps, eo, e4⟩ => ?_
  subst eo e4
  have I5 : Inv X pins σ H4 { s4 with heap := s4.heap.push { cls := .type "slice", data := .fields #[vl, vu, vs] } } := I4.kept (t' := s4.toks) fun b ob q => Heap.get?_push_of_some _ q
  obtain ⟨its, r, ht, hz⟩ := I5.list hx
  have hlen := r.length
  show wpAny (model X.prog X.w) X.A (subscriptTail e (.Slice none none (some (.Constant (.int 2) k p1)) p3) (.ref a) (.ref s4.heap.objs.size)) (EP X pins σ Q) X.xe { s4 with heap := s4.heap.push { cls := .type "slice", data := .fields #[vl, vu, vs] } }
  refine tail_any (ops := [.ref a, .ref s4.heap.objs.size]) ht.isList.typeIs (PySem.slot_list_getitem.lookup) ?_ (by with_unfolding_all rfl)
  refine wpAny_getItem_list_slice ht.isList (Heap.IsSliceOf.new _ vl vu vs) pl pu ps (by decide) ?_ (by rw [List.size_toArray]; omega)
  cases r with
  | cons a0 r => cases r with
    | cons a1 r => cases r with
      | cons a2 r => cases r with
        | cons a3 r => cases r with
          | cons a4 r =>
            cases r
            rw [pick2]
            refine ⟨.ref _, _, I5.laid (t' := s4.toks) (o := .lst [y0, y2, y4]) (fun b ob q => Heap.get?_push_of_some _ q) (Nat.le_refl _) ?_, rfl, q _ (I5.hok.fresh (Nat.le_refl _))⟩
            exact ⟨sz5 (by simp), _, 0, .cons a0 (.cons a2 (.cons a4 .nil)), Heap.get?_push_size _ rfl⟩
theorem op_catAK {X : Cx} {K : PySem.W.Frag} (h : X.K = K) : OpR X (binaryOp .Add) (rCatA K) := by subst h; exact op_catA
end SC

set_option Elab.async false
set_option linter.all false
set_option maxRecDepth 100000
set_option maxHeartbeats 4000000
namespace SC
open PySem L2
local macro_rules | `(tactic| walk_at "rd") => `(tactic| simp only [tLock_asg, tListEn, tTwo5, iZip, tM1, tM0, tFmt, tJs, tRevL, tPar3, tSeq, tNext, tIfS, tB, tTest, tCB, tCons, tC, tNil, tVar, tRet, tRetN, tAsg, gName, tOp, tUn, tAnd, tOr, tNot, tAndV, tOrV, tNotV, tIf, tDrop, tCall, tCallK, rI, rI0, rU, rEq, rNe, tPar, tAug, ipI, tLst, tTup, tDNewK, tDGet, tDIn, tDNotIn, sDPut, tBM, tBM0, gSub, rSetL, tChain, gTup, gCons, gNil, tYes, tBreak, tCont, tDisp, tPairs, rLenK, rLenA, rListK, L2.start, L2.wipe, cx_K, tFor_eq, tLc_eq, tDc_eq, tSl, tPart, tNoPart, iList, iTup, iRng1, iRng2, iKeys, iStr, iEnum, iEnumK, List.map_cons, List.map_nil, List.length_cons, List.length_nil, Nat.reduceAdd, Nat.reduceSub, List.reduceReplicate, List.replicate_zero, List.append_nil, List.nil_append, List.cons_append, List.getElem?_cons_zero, List.getElem?_cons_succ, Option.some.injEq, exists_eq_left', exists_eq_left, exists_eq', exists_eq, exists_and_left, V.int.injEq, V.ref.injEq, V.str.injEq, V.bl.injEq, List.cons.injEq, and_true, true_and, and_assoc, Bool.false_eq_true, ↓reduceIte, List.set_cons_zero, List.set_cons_succ, decide_eq_true_eq, Bool.not_eq_true', decide_eq_false_iff_not, Nat.zero_add, Nat.zero_sub, Nat.sub_self, Nat.sub_zero])

def top (i : Nat) : Stmt := PySem.Challenge.pw_schemacheck_k87_whole_documents_wrapped.main.body.getD i (.Pass ⟨0, 0, 0, 0⟩)
/-! ### depth_of -/
abbrev s_depth_of : Stmt := top 6
theorem sc_depth_of : FnScope ["document", "name", "part"] ["document"] (defScope s_depth_of) := ⟨rfl, rfl, rfl, by decide +kernel, rfl, by decide +kernel, by decide +kernel⟩
section
variable {P : Program} {w : World} {K : PySem.W.Frag} {mg : Str → Option Value} {base : Heap} {f : Addr} {fd : FuncData}
/-- how deep -/
def mx : List Int → Int
  | [] => 0
  | x :: r => if mx r < x then x else mx r
theorem mx_le : ∀ {l : List Int} {y : Int}, y ∈ (0 : Int) :: l → y ≤ mx l
  | [], y, h => by simp at h; subst h; exact Int.le_refl _
  | x :: r, y, h => by
    have h0 := mx_le (l := r) (y := 0) (by simp)
    show y ≤ (if mx r < x then x else mx r)
    rcases List.mem_cons.mp h with rfl | h
    · split <;> omega
    · rcases List.mem_cons.mp h with rfl | h
      · split <;> omega
      · have := mx_le (l := r) (y := y) (by simp [h])
        split <;> omega
theorem mx_mem : ∀ l : List Int, mx l ∈ (0 : Int) :: l
  | [] => by simp [mx]
  | x :: r => by
    show (if mx r < x then x else mx r) ∈ _
    split
    · simp
    · have := mx_mem r
      simp at this ⊢
      rcases this with h | h
      · exact .inl h
      · exact .inr (.inr h)
theorem mx_is {l : List Int} {m : Int} (h1 : m ∈ (0 : Int) :: l) (h2 : ∀ y ∈ (0 : Int) :: l, y ≤ m) : m = mx l :=
  Int.le_antisymm (mx_le h1) (h2 _ (mx_mem l))
def dep : Nat → PyData → Int
  | 0, _ => 1
  | n + 1, .list ds => 1 + mx (ds.map (dep n))
  | n + 1, .dict es => 1 + mx (es.map fun e => dep n e.2)
  | _ + 1, _ => 1
theorem max0 {K : PySem.W.Frag} {H : Hp} {p D : Addr} {ns : List Int} {R : Int → Hp → Prop} (h1 : H p = some (.lst [.int 0])) (h2 : H D = some (.lst (ns.map V.int))) (hl : ns.length ≤ 10000) (q : ∀ H', Same H H' → R (mx ns) H') :
    rCat (.ref p) (.ref D) H fun x H1 => rMax K [x] H1 fun y H2 => ∃ z, y = V.int z ∧ R z H2 := by
  refine ⟨p, D, _, _, rfl, rfl, h1, h2, ?_, fun r hr => ?_⟩
  · rw [List.length_map]
    exact sz5 (by simp; omega)
  refine ⟨r, 0 :: ns, rfl, SqL.of upd_same, by simp, fun m hm hle => ⟨m, rfl, ?_⟩⟩
  rw [mx_is hm hle]
  exact q _ (same_new hr _)
def sp_depth (n : Nat) : Sp := fun vs H Q _ => ∃ v d, vs = [v] ∧ Rp H n v d ∧ ∀ H', Same H H' → Q (.int (dep n d)) H'
theorem ok_depth_of {n : Nat} (D : Def K mg "depth_of" s_depth_of f fd) (B : Blt mg) (R_depth_of : Rdy P w K mg base n "depth_of" ["document"] (sp_depth n)) : FnOk P w K mg base CX0 (n + 1) f fd ["document"] (sp_depth (n + 1)) := by
  refine D.1.ok sc_depth_of (fun vs H Q E h => ?_) (fun cdv A outer s H vs Q E hr h => ?_)
  · obtain ⟨v, d, rfl, _⟩ := h
    rfl
  obtain ⟨v, d, rfl, hd, q⟩ := h
  have hu := hu_of hr
  refine ⟨_, (pss_cons (ps_if (pt_val (pe_callB (isiK (K := K) rfl) (by rfl) B.b_isinstance (by decide +kernel) (pa_cons (pv 0) (pa_cons (pe_bltn (v := .ty "dict") (by rfl) B.b_dict (by decide +kernel) rfl) pa_nil))))
   (pss_one (ps_ret (pe_op op_add pe_int (pe_callB (maxK (K := K) rfl rfl) (by rfl) B.b_max (by decide +kernel) (pa_cons (pe_op op_cat (pe_lst (pa_cons pe_int pa_nil)) (pe_lock (pe_lc (own := [("name", 1)]) (by rfl) sc_depth_of.nd (pi_keys (pv 0)) (blkOk_by (own := [("name", 1)]) (N := ["document", "name", "part"]) (sc := defScope s_depth_of) (by decide +kernel)) (fun _ _ _ _ _ => (pg_name (i := 1) sc_depth_of.nd rfl (by first | exact Or.inl rfl | exact Or.inr rfl))) (fun _ _ _ _ _ => pts_nil) (fun _ _ _ _ _ => (pe_c R_depth_of hr rfl (pa_cons (pe_dget hu (pv 0) (pv 1) (fun _ _ => rfl)) pa_nil)))))) pa_nil)))))
   pss_nil)
  (pss_cons (ps_if (pt_val (pe_callB (isiK (K := K) rfl) (by rfl) B.b_isinstance (by decide +kernel) (pa_cons (pv 0) (pa_cons (pe_bltn (v := .ty "list") (by rfl) B.b_list (by decide +kernel) rfl) pa_nil))))
   (pss_one (ps_ret (pe_op op_add pe_int (pe_callB (maxK (K := K) rfl rfl) (by rfl) B.b_max (by decide +kernel) (pa_cons (pe_op op_cat (pe_lst (pa_cons pe_int pa_nil)) (pe_lc (own := [("part", 2)]) (by rfl) sc_depth_of.nd (pi_list (pv 0)) (blkOk_by (own := [("part", 2)]) (N := ["document", "name", "part"]) (sc := defScope s_depth_of) (by decide +kernel)) (fun _ _ _ _ _ => (pg_name (i := 2) sc_depth_of.nd rfl (by first | exact Or.inl rfl | exact Or.inr rfl))) (fun _ _ _ _ _ => pts_nil) (fun _ _ _ _ _ => (pe_c R_depth_of hr rfl (pa_cons (pv 2) pa_nil))))) pa_nil)))))
   pss_nil)
  (pss_one (ps_ret pe_int)))), ?_⟩
  walk_at "rd"
  cases d with
  | none => exact isi1 .dict hd ⟨_, rfl, iteF (isi1 .list hd ⟨_, rfl, iteF (q H (Same.refl H))⟩)⟩
  | bool b => exact isi1 .dict hd ⟨_, rfl, iteF (isi1 .list hd ⟨_, rfl, iteF (q H (Same.refl H))⟩)⟩
  | int b => exact isi1 .dict hd ⟨_, rfl, iteF (isi1 .list hd ⟨_, rfl, iteF (q H (Same.refl H))⟩)⟩
  | str b => exact isi1 .dict hd ⟨_, rfl, iteF (isi1 .list hd ⟨_, rfl, iteF (q H (Same.refl H))⟩)⟩
  | tuple b => exact isi1 .dict hd ⟨_, rfl, iteF (isi1 .list hd ⟨_, rfl, iteF (q H (Same.refl H))⟩)⟩
  | list ds =>
    obtain ⟨a, xs, rfl, ha, hb, hp⟩ := id hd
    refine isi1 .dict hd ⟨_, rfl, iteF (isi1 .list hd ⟨_, rfl, iteT ⟨by decide, fun p np => ?_⟩⟩)⟩
    have s0 : Same H (upd H p (.lst [.int 0])) := same_new np _
    refine ⟨a, rfl, ⟨xs, SqL.of (s0 _ _ ha)⟩, lcP_list (SqL.of (s0 _ _ ha)) ((ds.map (dep n)).map V.int) (by simp [pd_len hp]) (by omega) ?_ ?_⟩
    · intro i x y H' N hx hy s N'
      obtain ⟨e, he, hr'⟩ := pd_get hp hx
      walk_at "rd"
      refine ⟨x, e, rfl, (hr'.imp s0).imp s, fun H4 s4 => ?_⟩
      simp [he] at hy
      subst hy
      exact N' H4 s4
    · intro D' H' nD s e
      exact max0 (s _ _ upd_same) e (by simp [← pd_len hp]; omega) fun H2 s2 => q H2 ((s0.trans s).trans s2)
  | dict es =>
    obtain ⟨a, kvs, rfl, ha, hb, hn, hp⟩ := id hd
    refine isi1 .dict hd ⟨_, rfl, iteT ⟨by decide, fun p np => ?_⟩⟩
    have s0 : Same H (upd H p (.lst [.int 0])) := same_new np _
    refine lcD_keys (rd_same s0 ha) upd_same rfl np s0 ((es.map fun e => dep n e.2).map V.int) (by simp [pd_len hp]) (by omega) ?_ ?_
    · intro i k v y H' N hk hy ls ha' N'
      obtain ⟨e, he, hk', hr'⟩ := pd_get hp hk
      walk_at "rd"
      refine ⟨v, .inl ⟨kvs, k, ha', rfl, (valV_at hn hk).symm⟩, ?_⟩
      refine ⟨v, e.2, rfl, hr'.lk ls, fun H4 s4 => ?_⟩
      simp [he] at hy
      subst hy
      exact N' H4 s4
    · intro D' H' nD s e
      exact max0 (s _ _ upd_same) e (by simp [← pd_len hp]; omega) fun H2 s2 => q H2 ((s0.trans s).trans s2)
end

/-! ### is_integer, is_text, first_wrong -/
def sp_isint : Sp := fun vs H Q _ => ∃ n v d, vs = [v] ∧ Rp H n v d ∧ Q (.bl (isIntD d)) H
def sp_text : Sp := fun vs H Q _ => ∃ n v d, vs = [v] ∧ Rp H n v d ∧ (∀ x, d = .str x → x.length ≤ 1000) ∧ Q (.bl (isTextD d)) H
abbrev s_is_integer : Stmt := top 4
theorem sc_is_integer : FnScope ["value"] ["value"] (defScope s_is_integer) := ⟨rfl, rfl, rfl, by decide +kernel, rfl, by decide +kernel, by decide +kernel⟩
abbrev s_is_text : Stmt := top 5
theorem sc_is_text : FnScope ["value"] ["value"] (defScope s_is_text) := ⟨rfl, rfl, rfl, by decide +kernel, rfl, by decide +kernel, by decide +kernel⟩
abbrev s_first_wrong : Stmt := top 7
theorem sc_first_wrong : FnScope ["value", "rows", "key", "part", "found", "name"] ["value"] (defScope s_first_wrong) := ⟨rfl, rfl, rfl, by decide +kernel, rfl, by decide +kernel, by decide +kernel⟩
abbrev s_document_problem : Stmt := top 8
theorem sc_document_problem : FnScope ["value"] ["value"] (defScope s_document_problem) := ⟨rfl, rfl, rfl, by decide +kernel, rfl, by decide +kernel, by decide +kernel⟩
abbrev s_is_document : Stmt := top 9
theorem sc_is_document : FnScope ["value"] ["value"] (defScope s_is_document) := ⟨rfl, rfl, rfl, by decide +kernel, rfl, by decide +kernel, by decide +kernel⟩
section
variable {P : Program} {w : World} {K : PySem.W.Frag} {mg : Str → Option Value} {base : Heap} {f : Addr} {fd : FuncData}
theorem ok_isint (D : Def K mg "is_integer" s_is_integer f fd) (B : Blt mg) : FnOk P w K mg base CX0 1 f fd ["value"] sp_isint := by
  refine D.1.ok sc_is_integer (fun vs H Q E h => ?_) (fun cdv A outer s H vs Q E hr h => ?_)
  · obtain ⟨n, v, d, rfl, _⟩ := h
    rfl
  obtain ⟨n, v, d, rfl, hd, q⟩ := h
  refine ⟨_, (pss_one (ps_ret (pe_and (pe_callB (isiK (K := K) rfl) (by rfl) B.b_isinstance (by decide +kernel) (pa_cons (pv 0) (pa_cons (pe_bltn (v := .ty "int") (by rfl) B.b_int (by decide +kernel) rfl) pa_nil))) (pe_one (pe_not (pe_callB (isiK (K := K) rfl) (by rfl) B.b_isinstance (by decide +kernel) (pa_cons (pv 0) (pa_cons (pe_bltn (v := .ty "bool") (by rfl) B.b_bool (by decide +kernel) rfl) pa_nil)))))))), ?_⟩
  walk_at "rd"
  refine isi1 .int hd ⟨_, rfl, ite2 (fun h1 => isi1 .bool hd ⟨_, rfl, ?_⟩) fun h1 => ?_⟩
  · cases d <;> first | exact q | cases h1
  · cases d <;> first | exact q | exact absurd rfl h1
theorem ok_text (D : Def K mg "is_text" s_is_text f fd) (B : Blt mg) {t1 : Tok} (g_MOST_TEXT : mg "MOST_TEXT" = some (.int 60 t1)) : FnOk P w K mg base CX0 1 f fd ["value"] sp_text := by
  refine D.1.ok sc_is_text (fun vs H Q E h => ?_) (fun cdv A outer s H vs Q E hr h => ?_)
  · obtain ⟨n, v, d, rfl, _⟩ := h
    rfl
  obtain ⟨n, v, d, rfl, hd, hs, q⟩ := h
  refine ⟨_, (pss_one (ps_ret (pe_and (pe_callB (isiK (K := K) rfl) (by rfl) B.b_isinstance (by decide +kernel) (pa_cons (pv 0) (pa_cons (pe_bltn (v := .ty "str") (by rfl) B.b_str (by decide +kernel) rfl) pa_nil))) (pe_one (pe_cmpR op_le (pe_callB (lenK (K := K) rfl) (by rfl) B.b_len (by decide +kernel) (pa_cons (pv 0) pa_nil)) (pe_gint (by rfl) g_MOST_TEXT) (nomark _)))))), ?_⟩
  walk_at "rd"
  refine isi1 .str hd ⟨_, rfl, ite2 (fun h1 => ?_) fun h1 => ?_⟩
  · obtain ⟨x, rfl⟩ : ∃ x, d = .str x := by cases d <;> first | exact ⟨_, rfl⟩ | cases h1
    cases n with
    | zero => exact hd.elim
    | succ n =>
      cases hd
      refine ⟨x.length, ⟨sz5 (by have := hs x rfl; omega), rfl⟩, ?_⟩
      rw [show decide ((x.length : Int) ≤ 60) = decide (x.length ≤ 60) from decide_eq_decide.mpr (by omega)]
      exact q
  · cases d <;> first | exact q | exact absurd rfl h1
def sp_fw (n : Nat) : Sp := fun vs H Q _ => ∃ v d, vs = [v] ∧ Re H n v d ∧ smallD n d ∧ n ≤ 100 ∧ ∀ v' H', Same H H' → pathV (fwN n d) H' v' → Q v' H'
/-- the rows that are walked -/
structure FwRows (H : Hp) (r : Addr) (n : Nat) (rs : List (Key × PyData)) : Prop where
  li : ∃ ts : List Addr, H r = some (.lst (ts.map V.ref)) ∧ ts.length = rs.length ∧ ∀ (j : Nat) (T : Addr), ts[j]? = some T → ∃ k v d, rs[j]? = some (k, d) ∧ H T = some (.tup [kV k, v]) ∧ Re H n v d ∧ smallD n d
structure FwLc (H H3 : Hp) (D : Addr) (n : Nat) (rs : List (Key × PyData)) (i : Nat) (H' : Hp) : Prop where
  li : ∃ ts : List Addr, Same H3 H' ∧ H' D = some (.lst (ts.map V.ref)) ∧ ts.length = i ∧ ∀ (j : Nat) (T : Addr), ts[j]? = some T → ∃ k v d, rs[j]? = some (k, d) ∧ H' T = some (.tup [kV k, v]) ∧ Re H n v d ∧ smallD n d
theorem ok_fw {n : Nat} (D : Def K mg "first_wrong" s_first_wrong f fd) (B : Blt mg) {t1 : Tok} (g_MOST_NUMBER : mg "MOST_NUMBER" = some (.int (10 ^ 30) t1)) (R_is_integer : Rdy P w K mg base 1 "is_integer" ["value"] sp_isint) (R_is_text : Rdy P w K mg base 1 "is_text" ["value"] sp_text)
    (R_first_wrong : Rdy P w K mg base (n + 1) "first_wrong" ["value"] (sp_fw n)) : FnOk P w K mg base CX0 (n + 2) f fd ["value"] (sp_fw (n + 1)) := by
  refine D.1.ok sc_first_wrong (fun vs H Q E h => ?_) (fun cdv A outer s H vs Q E hr h => ?_)
  · obtain ⟨v, d, rfl, _⟩ := h
    rfl
  obtain ⟨v, d, rfl, hd, sm, h100, q⟩ := h
  have hu := hu_of hr
  have hr1 : Room 1 _ := hr.mono (by omega)
  have hdR := hd.rp
  refine ⟨_, (pss_cons (ps_if (pt_val (pe_callB (isiK (K := K) rfl) (by rfl) B.b_isinstance (by decide +kernel) (pa_cons (pv 0) (pa_cons (pe_bltn (v := .ty "list") (by rfl) B.b_list (by decide +kernel) rfl) pa_nil))))
   (pss_one (ps_set (i := 1) sc_first_wrong.nd rfl (by first | exact Or.inl rfl | exact Or.inr rfl) (pe_listEn (K := K) rfl rfl (pv 0) (by rfl) B.b_list (by rfl) B.b_enumerate)))
   (pss_one (ps_if (pt_val (pe_callB (isiK (K := K) rfl) (by rfl) B.b_isinstance (by decide +kernel) (pa_cons (pv 0) (pa_cons (pe_bltn (v := .ty "dict") (by rfl) B.b_dict (by decide +kernel) rfl) pa_nil))))
   (pss_cons (ps_if (pt_not (pt_val (pe_callB (allK (K := K) rfl rfl) (by rfl) B.b_all (by decide +kernel) (pa_cons (pe_lock (pe_lc (own := [("name", 5)]) (by rfl) sc_first_wrong.nd (pi_keys (pv 0)) (blkOk_by (own := [("name", 5)]) (N := ["value", "rows", "key", "part", "found", "name"]) (sc := defScope s_first_wrong) (by decide +kernel)) (fun _ _ _ _ _ => (pg_name (i := 5) sc_first_wrong.nd rfl (by first | exact Or.inl rfl | exact Or.inr rfl))) (fun _ _ _ _ _ => pts_nil) (fun _ _ _ _ _ => (pe_c R_is_text hr1 rfl (pa_cons (pv 5) pa_nil))))) pa_nil))))
   (pss_one (ps_ret (pe_tup pa_nil)))
   pss_nil)
  (pss_one (ps_setLc (i := 1) (own := [("name", 5)]) (by rfl) sc_first_wrong.nd rfl rfl (sw_true rfl rfl rfl (by decide +kernel)) (pi_list (pe_callB (sortedSK (K := K) rfl) (by rfl) B.b_sorted (by decide +kernel) (pa_cons (pe_callTy (call_listD rfl) (by rfl) B.b_list (by decide +kernel) (pa_cons (pv 0) pa_nil)) pa_nil))) (blkOk_by (own := [("name", 5)]) (N := ["value", "rows", "key", "part", "found", "name"]) (sc := defScope s_first_wrong) (by decide +kernel)) (fun _ _ _ _ _ => (pg_name (i := 5) sc_first_wrong.nd rfl (by first | exact Or.inl rfl | exact Or.inr rfl))) (fun _ _ _ _ _ => pts_nil) (fun _ _ _ _ _ => (pe_tup (pa_cons (pv 5) (pa_cons (pe_dget hu (pv 0) (pv 5) (fun _ _ => rfl)) pa_nil)))))))
   (pss_one (ps_if (PW.pt (pw_or (pt_cmpR op_isN (pv 0) pe_non (nomark _)) (pw_or (pt_val (pe_callB (isiK (K := K) rfl) (by rfl) B.b_isinstance (by decide +kernel) (pa_cons (pv 0) (pa_cons (pe_bltn (v := .ty "bool") (by rfl) B.b_bool (by decide +kernel) rfl) pa_nil)))) (pw_or1 (pt_val (pe_c R_is_text hr1 rfl (pa_cons (pv 0) pa_nil)))))))
   (pss_one (ps_ret pe_non))
   (pss_one (ps_ret (pe_ifExp (PW.pt (pw_and (pt_val (pe_c R_is_integer hr1 rfl (pa_cons (pv 0) pa_nil))) (pw_and1 (pt_chain op_le op_le (pe_un un_neg (pe_gint (by rfl) g_MOST_NUMBER)) (pv 0) (pe_gint (by rfl) g_MOST_NUMBER))))) pe_non (pe_tup pa_nil)))))))))
  (pss_cons (ps_for PassesOwn.never rfl (pi_list (pv 1)) (pg_tup (by rfl) (pgs_cons (pg_name (i := 2) sc_first_wrong.nd rfl (by first | exact Or.inl rfl | exact Or.inr rfl)) (pgs_cons (pg_name (i := 3) sc_first_wrong.nd rfl (by first | exact Or.inl rfl | exact Or.inr rfl)) pgs_nil)))
   (pss_cons (ps_set (i := 4) sc_first_wrong.nd rfl (by first | exact Or.inl rfl | exact Or.inr rfl) (pe_c R_first_wrong hr rfl (pa_cons (pv 3) pa_nil)))
  (pss_one (ps_if (pt_cmpR op_notN (pv 4) pe_non (nomark _))
   (pss_one (ps_ret (pe_op (op_catAK (K := K) rfl) (pe_tup (pa_cons (pv 2) pa_nil)) (pv 4))))
   pss_nil))))
  (pss_one (ps_ret pe_non)))), ?_⟩
  refine cutM (fun σ' H' => Same H H' ∧ ∃ r rs, fwN (n + 1) d = fstR (fwN n) rs ∧ FwRows H' r n rs ∧ rs.length ≤ 10000 ∧ ∃ z1 z2 z3 z4, σ' = [some v, some (.ref r), z1, z2, z3, z4]) (fun N hN => ?_) ?_
  · walk_at "rd"
    refine isi1 .list hdR ⟨_, rfl, ite2 (fun h1 => ?_) fun h1 => isi1 .dict hdR ⟨_, rfl, ite2 (fun h2 => ?_) fun h2 => ?_⟩⟩
    · obtain ⟨a, rfl⟩ : ∃ a, d = .list a := by cases d <;> first | exact ⟨_, rfl⟩ | cases h1
      obtain ⟨p1, xs, rfl, ha, hb, hp⟩ := id hd
      refine ⟨p1, rfl, xs, SqL.of ha, sz5l (by omega), fun S ts H2 nS s2 eS hl hrow => hN _ _ ⟨s2, S, rowsL a, rfl, ⟨ts, eS, by rw [hl, pd_len hp]; simp [rowsL], fun j T hj => ?_⟩, by simp [rowsL, ← pd_len hp]; omega, _, _, _, _, rfl⟩⟩
      obtain ⟨x, h3, h4, _⟩ := hrow j T hj
      obtain ⟨dj, h5, h6⟩ := pd_get hp h3
      exact ⟨.inl (j : Nat), x, dj, by simp [rowsL, List.getElem?_zipIdx, h5], h4, h6.imp s2, sm _ (List.mem_of_getElem? h5)⟩
    · obtain ⟨a, rfl⟩ : ∃ a, d = .dict a := by cases d <;> first | exact ⟨_, rfl⟩ | cases h2
      obtain ⟨p1, xs, rfl, ha, hb, hn, hp⟩ := id hd
      have hxa := pd_len hp
      have h60 := sm.1
      refine lcU_keys ha rfl ((a.map fun e => isTextD e.1).map V.bl) (by simp [hxa]) (by omega) ?_ ?_
      · intro i k v y H' N' hk hy ls ha' Nn
        obtain ⟨e, he, hk', _⟩ := pd_get hp hk
        simp only [List.getElem?_map, he, Option.map_some, Option.some.injEq] at hy
        subst hy
        walk_at "rd"
        refine ⟨1, _, e.1, rfl, ?_, fun x hx => ((sm.2 _ (List.mem_of_getElem? he)).1 x hx).1, Nn _ (Same.refl _)⟩
        rw [hk']
        cases k <;> rfl
      · intro D' H2 nD s2 e2
        refine ⟨D', _, rfl, SqL.of e2, _, rfl, ?_⟩
        have e0 : (a.map fun e => isTextD e.1).all id = a.all fun e => isTextD e.1 := by rw [List.all_map]; rfl
        refine ite2 (fun h3 => ⟨Nat.zero_le _, fun p np => ?_⟩) fun h3 => ?_
        · refine q _ _ (s2.trans (same_new np _)) ?_
          have : fwN (n + 1) (.dict a) = some [] := by
            simp only [fwN]
            rw [if_neg]
            rw [← e0]
            simpa using h3
          rw [this]
          exact ⟨p, rfl, upd_same⟩
        · have hall : (a.all fun e => isTextD e.1) = true := by rw [← e0]; simpa using h3
          have k1 : StrKeys a := fun e he => by
            have := List.all_eq_true.mp hall e he
            cases h : e.1 with
            | str x => exact ⟨x, rfl⟩
            | _ => rw [h] at this; cases this
          have n1 := keys_nd hp k1 hn
          refine ⟨p1, rfl, xs, .inl (s2 _ _ ha), fun l1 nl1 => ?_⟩
          rw [keysV_of hp k1]
          refine ⟨l1, keysD a, rfl, SqL.of upd_same, by simp [keysD]; omega, fun z1 l2 pz1 sz1 nl2 => ?_⟩
          obtain rfl : z1 = srt (keysD a) := srt_is pz1 sz1
          have s3 : Same H (upd (upd H2 l1 (.lst ((keysD a).map V.str))) l2 (.lst ((srt (keysD a)).map V.str))) := s2.trans ((same_new nl1 _).trans (same_new nl2 _))
          have el : upd (upd H2 l1 (.lst ((keysD a).map V.str))) l2 (.lst ((srt (keysD a)).map V.str)) l2 = some (.lst ((srt (keysD a)).map V.str)) := upd_same
          generalize upd (upd H2 l1 (.lst ((keysD a).map V.str))) l2 (.lst ((srt (keysD a)).map V.str)) = H3 at s3 el ⊢
          refine ⟨l2, rfl, ⟨_, SqL.of el⟩, ?_⟩
          have hsl : (srt (keysD a)).length = a.length := by rw [srt_len]; simp [keysD]
          refine lc_itR (walk_list (xs := (srt (keysD a)).map V.str)) (fun D i H' => FwLc H H3 D n (rowsD a) i H') (fun D hD => ⟨[], same_new hD _, upd_same, rfl, by simp⟩) (fun D i H' _ _ h => SqL.of (h.li.choose_spec.1 _ _ el)) ?_ ?_
          · rintro D i x H4 H5 hD hi ⟨ts, s4, e4, hl4, hr4⟩ ⟨rfl, hx⟩
            rw [List.getElem?_map, Option.map_eq_some_iff] at hx
            obtain ⟨x, hx, rfl⟩ := hx
            have hin : x ∈ keysD a := mem_srt.mp (List.mem_of_getElem? hx)
            rcases get_of hp k1 x with ⟨_, hnone⟩ | ⟨v2, d2, hv2, hd2, hr2⟩
            · exact absurd hin (dget_none hnone)
            obtain ⟨e', he', hde, _⟩ := dget_mem hd2
            have sH := s3.trans s4
            have hil : i < a.length := by
              have := (List.getElem?_eq_some_iff.mp hx).1
              omega
            walk_at "rd"
            refine ⟨v2, .inl ⟨xs, .inr x, .inl (sH _ _ ha), rfl, hv2.symm⟩, sz5 (by omega), fun T nT => ?_⟩
            have s5 : Same H5 (upd H5 T (.tup [V.str x, v2])) := same_new nT _
            refine ⟨_, s5 _ _ e4, sz5l (by simp; omega), ts ++ [T], same_mut (s4.trans s5) hD, by rw [upd_same, List.map_append]; rfl, by simp [hl4], ?_⟩
            intro j T' hj
            have nDT : T ≠ D := fun z => by rw [z] at nT; rw [nT] at e4; cases e4
            by_cases hji : j < ts.length
            · rw [List.getElem?_append_left hji] at hj
              obtain ⟨k, v, d, g1, g2, g3⟩ := hr4 j T' hj
              have nTD : T' ≠ D := ne_of g2 e4 (by intro z; cases z)
              exact ⟨k, v, d, g1, by rw [upd_ne nTD]; exact s5 _ _ g2, g3⟩
            · have hj2 : j = i := by
                have := (List.getElem?_eq_some_iff.mp hj).1
                simp at this
                omega
              subst hj2
              rw [← hl4, List.getElem?_append_right (Nat.le_refl _)] at hj
              simp at hj
              subst hj
              refine ⟨.inr x, v2, d2, by simp [rowsD, hx, hd2], by rw [upd_ne nDT, upd_same]; rfl, hr2, ?_⟩
              rw [← hde]
              exact (sm.2 _ he').2
          · rintro D H4 hD ⟨ts, s4, e4, hl4, hr4⟩
            have sH := s3.trans s4
            refine hN _ _ ⟨sH, D, rowsD a, ?_, ⟨ts, e4, by rw [hl4]; simp [rowsD], fun j T hj => ?_⟩, by simp [rowsD, hsl]; omega, _, _, _, _, rfl⟩
            · simp only [fwN]
              rw [if_pos hall]
            · obtain ⟨k, v, d, g1, g2, g3, g4⟩ := hr4 j T hj
              exact ⟨k, v, d, g1, g2, g3.imp sH, g4⟩
    · have out : ∀ H1, Same H H1 → fwN (n + 1) d = some [] → 0 ≤ sizeLine ∧ ∀ p, H1 p = none → Q (V.ref p) (upd H1 p (HO.tup [])) := fun H1 s1 e => ⟨Nat.zero_le _, fun p np => q _ _ (s1.trans (same_new np _)) (by rw [e]; exact ⟨p, rfl, upd_same⟩)⟩
      have nn : fwN (n + 1) d = none → Q V.non H := fun e => q _ _ (Same.refl _) (by rw [e]; rfl)
      cases d with
      | none => cases hd; exact iteT' rfl (nn rfl)
      | bool b => cases id hd; exact iteF' (by simp) (isi1 .bool hdR ⟨_, rfl, iteT' rfl (nn rfl)⟩)
      | str x =>
        cases id hd
        refine iteF' (by simp) (isi1 .bool hdR ⟨_, rfl, iteF' (by simp [isT]) ⟨n + 1, _, .str x, rfl, hdR, fun y hy => by cases hy; exact sm, _, rfl, ite2 (fun h3 => nn ?_) fun h3 => ⟨n + 1, _, .str x, rfl, hdR, _, rfl, iteF' (by simp [isIntD]) (out _ (Same.refl _) ?_)⟩⟩⟩)
        · simp [isTextD] at h3; simp [fwN, h3]
        · simp [isTextD] at h3; simp [fwN, h3]
      | int x =>
        cases id hd
        refine iteF' (by simp) (isi1 .bool hdR ⟨_, rfl, iteF' (by simp [isT]) ⟨n + 1, _, .int x, rfl, hdR, (fun y hy => by cases hy), _, rfl, iteF' (by simp [isTextD]) ⟨n + 1, _, .int x, rfl, hdR, _, rfl, iteT' rfl ⟨x, rfl, ite2 (fun h3 => ⟨x, rfl, ite2 (fun h4 => nn ?_) fun h4 => out _ (Same.refl _) ?_⟩) fun h3 => out _ (Same.refl _) ?_⟩⟩⟩⟩)
        · simp only [fwN]; rw [if_pos ⟨h3, h4⟩]
        · simp only [fwN]; rw [if_neg fun z => h4 z.2]
        · simp only [fwN]; rw [if_neg fun z => h3 z.1]
      | tuple x =>
        obtain ⟨p1, xs, rfl, _⟩ := id hd
        exact iteF' (by simp) (isi1 .bool hdR ⟨_, rfl, iteF' (by simp [isT]) ⟨n + 1, _, .tuple x, rfl, hdR, (fun y hy => by cases hy), _, rfl, iteF' (by simp [isTextD]) ⟨n + 1, _, .tuple x, rfl, hdR, _, rfl, iteF' (by simp [isIntD]) (out _ (Same.refl _) rfl)⟩⟩⟩)
      | list x => exact absurd rfl h1
      | dict x => exact absurd rfl h2
  rintro σ' H' ⟨s0, r, rs, hfw, hrows, hlen, z1, z2, z3, z4, rfl⟩
  obtain ⟨ts, er, htl, hts⟩ := hrows.li
  walk_at "rd"
  refine ⟨⟨_, SqL.of er⟩, ?_⟩
  refine fo_it (walk_list (xs := ts.map V.ref)) (fun i σ' H2 => Same H' H2 ∧ (∀ j < i, ∀ q, rs[j]? = some q → fwN n q.2 = none) ∧ ∃ z1 z2 z3 z4, σ' = [some v, some (.ref r), z1, z2, z3, z4]) ⟨Same.refl _, by omega, _, _, _, _, rfl⟩ (fun _ _ _ _ h => SqL.of (h.1 _ _ er)) ?_ ?_
  · rintro i x σ' H2 H3 hi ⟨s1, hno, z1, z2, z3, z4, rfl⟩ ⟨rfl, hx⟩
    rw [List.getElem?_map, Option.map_eq_some_iff] at hx
    obtain ⟨T, hT, rfl⟩ := hx
    obtain ⟨k, u, dj, g1, g2, g3, g4⟩ := hts i T hT
    walk_at "rd"
    refine ⟨_, SqT.of (s1 _ _ g2), rfl, _, _, rfl, _, _, rfl, rfl, u, dj, rfl, g3.imp s1, g4, by omega, fun v' H4 s4 hp4 => ?_⟩
    cases hj : fwN n dj with
    | none =>
      rw [hj] at hp4
      cases hp4
      refine iteF' (by simp) ⟨s1.trans s4, ?_⟩
      intro j hj2 q hq
      by_cases hji : j = i
      · subst hji; rw [g1] at hq; cases hq; exact hj
      · exact hno j (by omega) q hq
    | some p =>
      rw [hj] at hp4
      obtain ⟨t, rfl, ht⟩ := hp4
      have hres : fwN (n + 1) d = some (k :: p) := by rw [hfw]; exact fstR_at hno g1 hj
      refine iteT' (by simp) ⟨sz5 (by omega), fun l nl => ⟨l, t, [kV k], p.map kV, rfl, rfl, SqT.of upd_same, SqT.of ((same_new nl _) _ _ ht), ?_, (fun h => by cases h), fun _ hp0 => ?_, fun _ hp0 l2 nl2 => ?_⟩⟩
      · have := fwN_len hj
        exact sz5 (by simp; omega)
      · refine q _ _ ((s0.trans (s1.trans s4)).trans (same_new nl _)) ?_
        rw [hres]
        refine ⟨l, rfl, ?_⟩
        rw [upd_same, List.map_eq_nil_iff.mp hp0]
        rfl
      · refine q _ _ (((s0.trans (s1.trans s4)).trans (same_new nl _)).trans (same_new nl2 _)) ?_
        rw [hres]
        exact ⟨l2, rfl, upd_same⟩
  · rintro σ' H2 ⟨s1, hno, z1, z2, z3, z4, rfl⟩
    walk_at "rd"
    refine q _ _ (s0.trans s1) ?_
    rw [hfw, fstR_none]
    · rfl
    · intro x hx
      obtain ⟨j, hj⟩ := List.getElem?_of_mem hx
      exact hno j (by have := (List.getElem?_eq_some_iff.mp hj).1; simp; omega) x hj
end
section
variable {P : Program} {w : World} {K : PySem.W.Frag} {mg : Str → Option Value} {base : Heap} {f : Addr} {fd : FuncData}
theorem ok_fws (D : Def K mg "first_wrong" s_first_wrong f fd) (B : Blt mg) {t1 : Tok} (g_MOST_NUMBER : mg "MOST_NUMBER" = some (.int (10 ^ 30) t1)) (R_is_integer : Rdy P w K mg base 1 "is_integer" ["value"] sp_isint) (R_is_text : Rdy P w K mg base 1 "is_text" ["value"] sp_text) :
    ∀ n : Nat, FnOk P w K mg base CX0 (n + 1) f fd ["value"] (sp_fw n)
  | 0 => ⟨fun vs H Q E ⟨_, _, _, h, _⟩ => h.elim, fun A outer s H args us vs Q E _ _ _ _ ⟨_, _, _, h, _⟩ => h.elim⟩
  | n + 1 => ok_fw D B g_MOST_NUMBER R_is_integer R_is_text (D.rdy (fun _ _ _ _ _ _ us hl => match us, hl with | [_], _ => rfl) (ok_fws D B g_MOST_NUMBER R_is_integer R_is_text n))
def dpN (n : Nat) (d : PyData) : Option (List Key) := if 12 < dep n d then some [] else fwN n d
def sp_dp (n : Nat) : Sp := fun vs H Q _ => ∃ v d, vs = [v] ∧ Re H n v d ∧ smallD n d ∧ n ≤ 100 ∧ ∀ v' H', Same H H' → pathV (dpN n d) H' v' → Q v' H'
def sp_isdoc (n : Nat) : Sp := fun vs H Q _ => ∃ v d, vs = [v] ∧ Re H n v d ∧ smallD n d ∧ n ≤ 100 ∧ ∀ H', Same H H' → Q (.bl (decide (dpN n d = none))) H'
theorem ok_dp {n : Nat} (D : Def K mg "document_problem" s_document_problem f fd) (B : Blt mg) {t1 : Tok} (g_MOST_DEEP : mg "MOST_DEEP" = some (.int 12 t1)) (R_depth_of : Rdy P w K mg base (n + 1) "depth_of" ["document"] (sp_depth n)) (R_first_wrong : Rdy P w K mg base (n + 1) "first_wrong" ["value"] (sp_fw n)) :
    FnOk P w K mg base CX0 (n + 2) f fd ["value"] (sp_dp n) := by
  refine D.1.ok sc_document_problem (fun vs H Q E h => ?_) (fun cdv A outer s H vs Q E hr h => ?_)
  · obtain ⟨v, d, rfl, _⟩ := h
    rfl
  obtain ⟨v, d, rfl, hd, sm, h100, q⟩ := h
  refine ⟨_, (pss_one (ps_ret (pe_ifExp (pt_cmpR op_gt (pe_c R_depth_of hr rfl (pa_cons (pv 0) pa_nil)) (pe_gint (by rfl) g_MOST_DEEP) (nomark _)) (pe_tup pa_nil) (pe_c R_first_wrong hr rfl (pa_cons (pv 0) pa_nil))))), ?_⟩
  walk_at "rd"
  refine ⟨v, d, rfl, hd.rp, fun H1 s1 => ?_⟩
  walk_at "rd"
  refine ite2 (fun h => ⟨Nat.zero_le _, fun p np => q _ _ (s1.trans (same_new np _)) ?_⟩) fun h => ⟨v, d, rfl, hd.imp s1, sm, h100, fun v' H2 s2 p2 => q _ _ (s1.trans s2) ?_⟩
  · rw [dpN, if_pos h]; exact ⟨p, rfl, upd_same⟩
  · rw [dpN, if_neg h]; exact p2
theorem ok_isdoc {n : Nat} (D : Def K mg "is_document" s_is_document f fd) (B : Blt mg) (R_document_problem : Rdy P w K mg base (n + 2) "document_problem" ["value"] (sp_dp n)) : FnOk P w K mg base CX0 (n + 3) f fd ["value"] (sp_isdoc n) := by
  refine D.1.ok sc_is_document (fun vs H Q E h => ?_) (fun cdv A outer s H vs Q E hr h => ?_)
  · obtain ⟨v, d, rfl, _⟩ := h
    rfl
  obtain ⟨v, d, rfl, hd, sm, h100, q⟩ := h
  refine ⟨_, (pss_one (ps_ret (pe_cmpR op_isN (pe_c R_document_problem hr rfl (pa_cons (pv 0) pa_nil)) pe_non (nomark _)))), ?_⟩
  walk_at "rd"
  refine ⟨v, d, rfl, hd, sm, h100, fun v' H1 s1 p1 => ?_⟩
  have := q _ s1
  cases hp : dpN n d with
  | none => rw [hp] at p1 this; cases p1; simpa using this
  | some p => rw [hp] at p1 this; obtain ⟨t, rfl, _⟩ := p1; simpa using this
end

/-! ### _law_deep -/
abbrev s_law_deep : Stmt := top 18
theorem sc_law_deep : FnScope ["_law_tree_here", "_law_part", "_law_label"] ["_law_tree_here"] (defScope s_law_deep) := ⟨rfl, rfl, rfl, by decide +kernel, rfl, by decide +kernel, by decide +kernel⟩
section
variable {P : Program} {w : World} {K : PySem.W.Frag} {mg : Str → Option Value} {base : Heap} {f : Addr} {fd : FuncData}
theorem ok_deep {n : Nat} (D : Def K mg "_law_deep" s_law_deep f fd) (B : Blt mg) (R_law_deep : Rdy P w K mg base n "_law_deep" ["_law_tree_here"] (sp_depth n)) : FnOk P w K mg base CX0 (n + 1) f fd ["_law_tree_here"] (sp_depth (n + 1)) := by
  refine D.1.ok sc_law_deep (fun vs H Q E h => ?_) (fun cdv A outer s H vs Q E hr h => ?_)
  · obtain ⟨v, d, rfl, _⟩ := h
    rfl
  obtain ⟨v, d, rfl, hd, q⟩ := h
  have hu := hu_of hr
  refine ⟨_, (pss_cons (ps_if (pt_val (pe_callB (isiK (K := K) rfl) (by rfl) B.b_isinstance (by decide +kernel) (pa_cons (pv 0) (pa_cons (pe_bltn (v := .ty "list") (by rfl) B.b_list (by decide +kernel) rfl) pa_nil))))
   (pss_one (ps_ret (pe_op op_add pe_int (pe_callB (maxK (K := K) rfl rfl) (by rfl) B.b_max (by decide +kernel) (pa_cons (pe_op op_cat (pe_lst (pa_cons pe_int pa_nil)) (pe_lc (own := [("_law_part", 1)]) (by rfl) sc_law_deep.nd (pi_list (pv 0)) (blkOk_by (own := [("_law_part", 1)]) (N := ["_law_tree_here", "_law_part", "_law_label"]) (sc := defScope s_law_deep) (by decide +kernel)) (fun _ _ _ _ _ => (pg_name (i := 1) sc_law_deep.nd rfl (by first | exact Or.inl rfl | exact Or.inr rfl))) (fun _ _ _ _ _ => pts_nil) (fun _ _ _ _ _ => (pe_c R_law_deep hr rfl (pa_cons (pv 1) pa_nil))))) pa_nil)))))
   pss_nil)
  (pss_cons (ps_if (pt_val (pe_callB (isiK (K := K) rfl) (by rfl) B.b_isinstance (by decide +kernel) (pa_cons (pv 0) (pa_cons (pe_bltn (v := .ty "dict") (by rfl) B.b_dict (by decide +kernel) rfl) pa_nil))))
   (pss_one (ps_ret (pe_op op_add pe_int (pe_callB (maxK (K := K) rfl rfl) (by rfl) B.b_max (by decide +kernel) (pa_cons (pe_op op_cat (pe_lst (pa_cons pe_int pa_nil)) (pe_lock (pe_lc (own := [("_law_label", 2)]) (by rfl) sc_law_deep.nd (pi_keys (pv 0)) (blkOk_by (own := [("_law_label", 2)]) (N := ["_law_tree_here", "_law_part", "_law_label"]) (sc := defScope s_law_deep) (by decide +kernel)) (fun _ _ _ _ _ => (pg_name (i := 2) sc_law_deep.nd rfl (by first | exact Or.inl rfl | exact Or.inr rfl))) (fun _ _ _ _ _ => pts_nil) (fun _ _ _ _ _ => (pe_c R_law_deep hr rfl (pa_cons (pe_dget hu (pv 0) (pv 2) (fun _ _ => rfl)) pa_nil)))))) pa_nil)))))
   pss_nil)
  (pss_one (ps_ret pe_int)))), ?_⟩
  walk_at "rd"
  cases d with
  | none => exact isi1 .list hd ⟨_, rfl, iteF (isi1 .dict hd ⟨_, rfl, iteF (q H (Same.refl H))⟩)⟩
  | bool b => exact isi1 .list hd ⟨_, rfl, iteF (isi1 .dict hd ⟨_, rfl, iteF (q H (Same.refl H))⟩)⟩
  | int b => exact isi1 .list hd ⟨_, rfl, iteF (isi1 .dict hd ⟨_, rfl, iteF (q H (Same.refl H))⟩)⟩
  | str b => exact isi1 .list hd ⟨_, rfl, iteF (isi1 .dict hd ⟨_, rfl, iteF (q H (Same.refl H))⟩)⟩
  | tuple b => exact isi1 .list hd ⟨_, rfl, iteF (isi1 .dict hd ⟨_, rfl, iteF (q H (Same.refl H))⟩)⟩
  | list ds =>
    obtain ⟨a, xs, rfl, ha, hb, hp⟩ := id hd
    refine isi1 .list hd ⟨_, rfl, iteT ⟨by decide, fun p np => ?_⟩⟩
    have s0 : Same H (upd H p (.lst [.int 0])) := same_new np _
    refine ⟨a, rfl, ⟨xs, SqL.of (s0 _ _ ha)⟩, lcP_list (SqL.of (s0 _ _ ha)) ((ds.map (dep n)).map V.int) (by simp [pd_len hp]) (by omega) ?_ ?_⟩
    · intro i x y H' N hx hy s N'
      obtain ⟨e, he, hr'⟩ := pd_get hp hx
      walk_at "rd"
      refine ⟨x, e, rfl, (hr'.imp s0).imp s, fun H4 s4 => ?_⟩
      simp [he] at hy
      subst hy
      exact N' H4 s4
    · intro D' H' nD s e
      exact max0 (s _ _ upd_same) e (by simp [← pd_len hp]; omega) fun H2 s2 => q H2 ((s0.trans s).trans s2)
  | dict es =>
    obtain ⟨a, kvs, rfl, ha, hb, hn, hp⟩ := id hd
    refine isi1 .list hd ⟨_, rfl, iteF (isi1 .dict hd ⟨_, rfl, iteT ⟨by decide, fun p np => ?_⟩⟩)⟩
    have s0 : Same H (upd H p (.lst [.int 0])) := same_new np _
    refine lcD_keys (rd_same s0 ha) upd_same rfl np s0 ((es.map fun e => dep n e.2).map V.int) (by simp [pd_len hp]) (by omega) ?_ ?_
    · intro i k v y H' N hk hy ls ha' N'
      obtain ⟨e, he, hk', hr'⟩ := pd_get hp hk
      walk_at "rd"
      refine ⟨v, .inl ⟨kvs, k, ha', rfl, (valV_at hn hk).symm⟩, ?_⟩
      refine ⟨v, e.2, rfl, hr'.lk ls, fun H4 s4 => ?_⟩
      simp [he] at hy
      subst hy
      exact N' H4 s4
    · intro D' H' nD s e
      exact max0 (s _ _ upd_same) e (by simp [← pd_len hp]; omega) fun H2 s2 => q H2 ((s0.trans s).trans s2)
theorem ok_deeps (D : Def K mg "_law_deep" s_law_deep f fd) (B : Blt mg) : ∀ n : Nat, FnOk P w K mg base CX0 n f fd ["_law_tree_here"] (sp_depth n)
  | 0 => ⟨fun vs H Q E ⟨_, _, _, h, _⟩ => h.elim, fun A outer s H args us vs Q E _ _ _ _ ⟨_, _, _, h, _⟩ => h.elim⟩
  | n + 1 => ok_deep D B (D.rdy (fun _ _ _ _ _ _ us hl => match us, hl with | [_], _ => rfl) (ok_deeps D B n))
end

/-! ### _law_cell -/
def sp_cell (K : PySem.W.Frag) : Sp := fun vs H Q _ => ∃ c sp ns k, vs = [.ref c, .ref sp] ∧ Scr K H c ns ∧ ns.length ≤ 63 ∧ H sp = some (.lst [.int k]) ∧ 0 ≤ k ∧ k < 2 ^ 60 ∧
  ∀ n : Int, 0 ≤ n → n < 306783379 → Q (.int n) (upd H sp (.lst [.int (k + 1)]))
abbrev s_law_cell : Stmt := top 13
theorem sc_law_cell : FnScope ["_law_cells", "_law_spot", "_law_k", "_law_base", "_law_at", "_law_turn", "_law_rest", "_law_j"] ["_law_cells", "_law_spot"] (defScope s_law_cell) := ⟨rfl, rfl, rfl, by decide +kernel, rfl, by decide +kernel, by decide +kernel⟩
theorem cell_end (b : Int) : 0 ≤ (b % 2147483647) ^ Int.toNat 5 % 2147483647 / 7 ∧ (b % 2147483647) ^ Int.toNat 5 % 2147483647 / 7 < 306783379 := by
  have h1 := Int.emod_nonneg ((b % 2147483647) ^ Int.toNat 5) (show (2147483647 : Int) ≠ 0 by decide)
  have h2 := Int.emod_lt_of_pos ((b % 2147483647) ^ Int.toNat 5) (show (0 : Int) < 2147483647 by decide)
  omega
theorem cell_pow (b : Int) : CPow (b % 2147483647) 5 := by
  have h1 := Int.emod_nonneg b (show (2147483647 : Int) ≠ 0 by decide)
  have h2 := Int.emod_lt_of_pos b (show (0 : Int) < 2147483647 by decide)
  refine ⟨by decide, by decide, ?_⟩
  omega
theorem at_ints {ns : List Int} {i : Int} (h0 : 0 ≤ i) (h1 : i < ((ns.map V.int).length : Int)) : ∃ x : Int, atI (ns.map V.int) i = some (.int x) := by
  obtain ⟨j, rfl⟩ : ∃ j : Nat, i = j := ⟨i.toNat, by omega⟩
  have hl : j < ns.length := by rw [List.length_map] at h1; omega
  exact ⟨ns[j], atI_nat (by rw [List.getElem?_map, List.getElem?_eq_getElem hl]; rfl)⟩
section
variable {P : Program} {w : World} {K : PySem.W.Frag} {mg : Str → Option Value} {base : Heap} {f : Addr} {fd : FuncData}
theorem ok_cell (D : Def K mg "_law_cell" s_law_cell f fd) (B : Blt mg) : FnOk P w K mg base CX0 1 f fd ["_law_cells", "_law_spot"] (sp_cell K) := by
  refine D.1.ok sc_law_cell (fun vs H Q E h => ?_) (fun cdv A outer s H vs Q E hr h => ?_)
  · obtain ⟨c, sp, ns, k, rfl, _⟩ := h
    rfl
  obtain ⟨c, sp, ns, k, rfl, hs, h63, hp, h0, h1, q⟩ := h
  refine ⟨_, (pss_cons (ps_set (i := 2) sc_law_cell.nd rfl (by first | exact Or.inl rfl | exact Or.inr rfl) (pe_ix (ixLK (K := K) rfl) (pv 1) pe_int (fun _ _ => rfl)))
  (pss_cons (ps_asg (pe_op op_add (pv 2) pe_int) (pg_sub (pv 1) pe_int set_list))
  (pss_cons (ps_set (i := 3) sc_law_cell.nd rfl (by first | exact Or.inl rfl | exact Or.inr rfl) (pe_op op_add (pe_op op_mul (pe_op op_mul pe_int (pv 2)) (pv 2)) (pe_op op_mul pe_int (pv 2))))
  (pss_cons (ps_if (pt_cmpR op_gt (pe_callB (lenK (K := K) rfl) (by rfl) B.b_len (by decide +kernel) (pa_cons (pv 0) pa_nil)) pe_int (nomark _))
   (pss_cons (ps_par (i := 4) (j := 5) (by rfl) sc_law_cell.nd rfl rfl (by decide) rfl rfl (pa_cons (pe_op op_mod (pv 2) (pe_callB (lenK (K := K) rfl) (by rfl) B.b_len (by decide +kernel) (pa_cons (pv 0) pa_nil))) (pa_cons (pe_op op_fdiv (pv 2) (pe_callB (lenK (K := K) rfl) (by rfl) B.b_len (by decide +kernel) (pa_cons (pv 0) pa_nil))) pa_nil)) (by rfl))
  (pss_cons (ps_if (PW.pt (pw_and (pt_cmpR op_ge (pe_ix (ixLK (K := K) rfl) (pv 0) (pv 4) (fun _ _ => rfl)) (pe_op op_pow pe_int pe_int) (nomark _)) (pw_and1 (pt_cmpR op_lt (pv 5) pe_int (nomark _)))))
   (pss_cons (ps_set (i := 6) sc_law_cell.nd rfl (by first | exact Or.inl rfl | exact Or.inr rfl) (pe_ix (ixLK (K := K) rfl) (pv 0) (pv 4) (fun _ _ => rfl)))
  (pss_cons (ps_for PassesOwn.never rfl (pi_range1 (by rfl) B.b_range (pa_cons (pv 5) pa_nil)) (pg_name (i := 7) sc_law_cell.nd rfl (by first | exact Or.inl rfl | exact Or.inr rfl))
   (pss_one (ps_set (i := 6) sc_law_cell.nd rfl (by first | exact Or.inl rfl | exact Or.inr rfl) (pe_op op_fdiv (pv 6) pe_int))))
  (pss_one (ps_if (pt_cmpR op_gt (pv 6) pe_int (nomark _))
   (pss_one (ps_ret (pe_op op_mod (pv 6) pe_int)))
   pss_nil))))
   pss_nil)
  (pss_one (ps_set (i := 3) sc_law_cell.nd rfl (by first | exact Or.inl rfl | exact Or.inr rfl) (pe_op op_add (pv 3) (pe_op op_mul (pe_op op_mod (pe_ix (ixLK (K := K) rfl) (pv 0) (pv 4) (fun _ _ => rfl)) pe_int) (pe_op op_add pe_int (pv 5))))))))
   pss_nil)
  (pss_one (ps_ret (pe_op op_fdiv (pe_op op_mod (pe_op op_pow (pe_op op_mod (pv 3) pe_int) pe_int) pe_int) pe_int))))))), ?_⟩
  walk_at "rd"
  have hs1 : Scr K (upd H sp (.lst [.int (k + 1)])) c ns := hs.put hp
  refine ⟨sp, _, 0, _, rfl, rfl, SqL.of hp, rfl, ?_⟩
  walk_at "rd"
  refine ⟨_, hp, 0, rfl, .inl (by omega), .inr (by omega), .inl (by decide), _, .inl ⟨_, hs1.sq, rfl⟩, ?_⟩
  split
  · rename_i hl
    have hL : ((ns.map V.int).length : Int) < 64 := by rw [List.length_map]; omega
    have hm0 := Int.emod_nonneg k (show ((ns.map V.int).length : Int) ≠ 0 by omega)
    have hm1 := Int.emod_lt_of_pos k hl
    obtain ⟨x, hx⟩ := at_ints hm0 hm1
    have hd0 : 0 ≤ k / ((ns.map V.int).length : Int) := Int.ediv_nonneg h0 (by omega)
    have hd1 : k / ((ns.map V.int).length : Int) ≤ k := Int.ediv_le_self _ h0
    refine ⟨_, .inl ⟨_, hs1.sq, rfl⟩, hl, _, .inl ⟨_, hs1.sq, rfl⟩, ⟨hl, by omega⟩, ?_⟩
    have last : ∀ b : Int, CMul (x % 2147483629) (1 + k / ((ns.map V.int).length : Int)) ∧ (0 : Int) < 2147483647 ∧ CPow (b % 2147483647) 5 ∧ (0 : Int) < 2147483647 ∧ CDiv ((b % 2147483647) ^ Int.toNat 5 % 2147483647) 7 ∧ Q (V.int ((b % 2147483647) ^ Int.toNat 5 % 2147483647 / 7)) (upd H sp (HO.lst [V.int (k + 1)])) := fun b => by
      have a1 := Int.emod_nonneg x (show (2147483629 : Int) ≠ 0 by decide)
      have a2 := Int.emod_lt_of_pos x (show (0 : Int) < 2147483629 by decide)
      exact ⟨.inl (by omega), by decide, cell_pow _, by decide, ⟨by decide, by decide⟩, q _ (cell_end _).1 (cell_end _).2⟩
    refine ⟨c, _, _, _, rfl, rfl, hs1.sq, hx, ⟨by decide, by decide, by decide⟩, ?_⟩
    walk_at "rd"
    split
    · split
      · refine ⟨c, _, _, _, rfl, rfl, hs1.sq, hx, by omega, by omega, ?_⟩
        refine fo_it walk_range (fun i σ' H' => H' = upd H sp (.lst [.int (k + 1)]) ∧ ∃ (r : Int) (j : Option V), σ' = [some (V.ref c), some (V.ref sp), some (V.int k), some (V.int (31 * k * k + 7919 * k)), some (V.int (k % ((ns.map V.int).length : Int))), some (V.int (k / ((ns.map V.int).length : Int))), some (V.int r), j]) ⟨rfl, x, none, rfl⟩ (fun _ _ _ _ _ => trivial) ?_ ?_
        · rintro i y σ' H' H'' hi ⟨rfl, r, j, rfl⟩ ⟨rfl, rfl⟩
          walk_at "rd"
          exact ⟨by decide, by decide⟩
        · rintro σ' H' ⟨rfl, r, j, rfl⟩
          walk_at "rd"
          split
          · refine ⟨by decide, q _ (Int.emod_nonneg _ (by decide)) (Int.emod_lt_of_pos _ (by decide))⟩
          · refine ⟨c, _, _, _, rfl, rfl, hs1.sq, hx, ?_⟩
            walk_at "rd"
            exact ⟨by decide, last _⟩
      · refine ⟨c, _, _, _, rfl, rfl, hs1.sq, hx, ?_⟩
        walk_at "rd"
        exact ⟨by decide, last _⟩
    · refine ⟨c, _, _, _, rfl, rfl, hs1.sq, hx, ?_⟩
      walk_at "rd"
      exact ⟨by decide, last _⟩
  · exact ⟨by decide, cell_pow _, by decide, ⟨by decide, by decide⟩, q _ (cell_end _).1 (cell_end _).2⟩
end

/-! ### _law_leaf -/
def sp_leaf : Sp := fun vs H Q _ => ∃ n : Int, vs = [.int n] ∧ 0 ≤ n ∧ n < 2 ^ 60 ∧ ∀ v H', LeafV v → Same H H' → Q v H'
abbrev s_law_leaf : Stmt := top 14
theorem sc_law_leaf : FnScope ["_law_n", "_law_m"] ["_law_n"] (defScope s_law_leaf) := ⟨rfl, rfl, rfl, by decide +kernel, rfl, by decide +kernel, by decide +kernel⟩
theorem tilde_ok (n : Int) : MulOk (Str.ofString "~") (n % 61) := by
  have h := mod_in n (m := 61) (by decide)
  exact mul_ok (by decide +kernel) (by omega) (by omega)
theorem tilde_leaf (n : Int) : LeafV (.str (Txt.mul (Str.ofString "~") (n % 61))) := by
  have h := mod_in n (m := 61) (by decide)
  refine ⟨.str (Txt.mul (Str.ofString "~") (n % 61)), ?_, fun _ => rfl⟩
  have h2 : ∀ k : Fin 61, (Txt.mul (Str.ofString "~") ((k.1 : Nat) : Int)).length ≤ 60 ∧ ∀ c ∈ (Txt.mul (Str.ofString "~") ((k.1 : Nat) : Int)).cps.toList, c < 128 := by decide +kernel
  have h3 := h2 ⟨(n % 61).toNat, by omega⟩
  have e : (((n % 61).toNat : Nat) : Int) = n % 61 := by omega
  simp only [e] at h3
  exact h3
section
variable {P : Program} {w : World} {K : PySem.W.Frag} {mg : Str → Option Value} {base : Heap} {f : Addr} {fd : FuncData}
theorem ok_leaf (D : Def K mg "_law_leaf" s_law_leaf f fd) (B : Blt mg) : FnOk P w K mg base CX0 1 f fd ["_law_n"] sp_leaf := by
  refine D.1.ok sc_law_leaf (fun vs H Q E h => ?_) (fun cdv A outer s H vs Q E hr h => ?_)
  · obtain ⟨n, rfl, _⟩ := h
    rfl
  obtain ⟨n, rfl, h0, h1, q⟩ := h
  refine ⟨_, (pss_cons (ps_set (i := 1) sc_law_leaf.nd rfl (by first | exact Or.inl rfl | exact Or.inr rfl) (pe_op op_fdiv (pv 0) pe_int))
  (pss_cons (ps_if (pt_cmpR op_eq (pe_op op_mod (pv 0) pe_int) pe_int (nomark _))
   (pss_one (ps_ret (pe_ix (ixLK (K := K) rfl) (pe_lst (pa_cons pe_int (pa_cons pe_int (pa_cons (pe_op op_mod (pv 1) pe_int) (pa_cons (pe_un un_neg (pv 1)) (pa_cons (pe_op op_sub (pe_op op_pow pe_int pe_int) (pe_op op_mod (pv 1) pe_int)) (pa_cons (pe_un un_neg (pe_op op_pow pe_int pe_int)) pa_nil))))))) (pe_op op_mod (pv 1) pe_int) (fun _ _ => rfl))))
   pss_nil)
  (pss_cons (ps_if (pt_cmpR op_eq (pe_op op_mod (pv 0) pe_int) pe_int (nomark _))
   (pss_one (ps_ret (pe_ix (ixLK (K := K) rfl) (pe_lst (pa_cons pe_str (pa_cons pe_str (pa_cons pe_str (pa_cons pe_str (pa_cons pe_str (pa_cons (pe_op op_mul_str pe_str (pe_op op_mod (pv 1) pe_int)) pa_nil))))))) (pe_op op_mod (pv 1) pe_int) (fun _ _ => rfl))))
   pss_nil)
  (pss_one (ps_ret (pe_ix (ixLK (K := K) rfl) (pe_lst (pa_cons pe_non (pa_cons pe_bl (pa_cons pe_bl pa_nil)))) (pe_op op_mod (pv 0) pe_int) (fun _ _ => rfl))))))), ?_⟩
  walk_at "rd"
  have m5 := mod_in n (m := 5) (by decide)
  have m6 := mod_in (n / 5) (m := 6) (by decide)
  have m10 := mod_in (n / 5) (m := 10) (by decide)
  have m9 := mod_in (n / 5) (m := 9) (by decide)
  refine ⟨⟨by decide, by decide⟩, by decide, rfl, ?_⟩
  split
  · refine ⟨by decide, ⟨by decide, by decide, by decide⟩, by decide, ⟨by decide, by decide, by decide⟩, by decide, fun p np => ⟨by decide, ?_⟩⟩
    refine ix_any upd_same m6.1 m6.2 fun v hv => q v _ ?_ (same_new np _)
    simp only [List.mem_cons, List.not_mem_nil, or_false] at hv
    have e30 : (10 : Int) ^ Int.toNat 30 = 10 ^ 30 := by decide
    rcases hv with rfl | rfl | rfl | rfl | rfl | rfl <;> refine leaf_int _ ?_ <;> first | decide | omega | (rw [e30]; omega)
  · refine ⟨by decide, rfl, ?_⟩
    split
    · refine ⟨by decide, tilde_ok _, by decide, fun p np => ⟨by decide, ?_⟩⟩
      refine ix_any upd_same m6.1 m6.2 fun v hv => q v _ ?_ (same_new np _)
      simp only [List.mem_cons, List.not_mem_nil, or_false] at hv
      rcases hv with rfl | rfl | rfl | rfl | rfl | rfl
      · exact leaf_str _ (by decide +kernel) (by decide +kernel)
      · exact leaf_str _ (by decide +kernel) (by decide +kernel)
      · exact leaf_str _ (by decide +kernel) (by decide +kernel)
      · exact leaf_str _ (by decide +kernel) (by decide +kernel)
      · exact leaf_str _ (by decide +kernel) (by decide +kernel)
      · exact tilde_leaf _
    · refine ⟨by decide, fun p np => ⟨by decide, ?_⟩⟩
      refine ix_any upd_same m5.1 (by simp; omega) fun v hv => q v _ ?_ (same_new np _)
      simp only [List.mem_cons, List.not_mem_nil, or_false] at hv
      rcases hv with rfl | rfl | rfl
      · exact leaf_non
      · exact leaf_bl _
      · exact leaf_bl _
end

/-! ### _law_names -/
def stock9 : List Str := ["a", "b", "c", "x y", "1a", "_", "A_1", "", Txt.mul "q" 60]
theorem stock9_nd : stock9.Nodup := by decide +kernel
theorem stock9_ok : ∀ x ∈ stock9, NameOk x := by
  have h : ∀ x ∈ stock9, x.length ≤ 60 ∧ ∀ c ∈ x.cps.toList, c < 128 := by decide +kernel
  exact h
def sp_names : Sp := fun vs H Q _ => ∃ n : Int, vs = [.int n] ∧ 0 ≤ n ∧ ∀ (r : Addr) (H' : Hp) (xs : List Str), H r = none → Same H H' → H' r = some (.lst (xs.map V.str)) → xs.Nodup → xs.length ≤ 4 → (∀ x ∈ xs, NameOk x) → Q (.ref r) H'
abbrev s_law_names : Stmt := top 15
theorem sc_law_names : FnScope ["_law_n", "_law_stock", "_law_found", "_law_k"] ["_law_n"] (defScope s_law_names) := ⟨rfl, rfl, rfl, by decide +kernel, rfl, by decide +kernel, by decide +kernel⟩
section
variable {P : Program} {w : World} {K : PySem.W.Frag} {mg : Str → Option Value} {base : Heap} {f : Addr} {fd : FuncData}
theorem ok_names (D : Def K mg "_law_names" s_law_names f fd) (B : Blt mg) : FnOk P w K mg base CX0 1 f fd ["_law_n"] sp_names := by
  refine D.1.ok sc_law_names (fun vs H Q E h => ?_) (fun cdv A outer s H vs Q E hr h => ?_)
  · obtain ⟨n, rfl, _⟩ := h
    rfl
  obtain ⟨n, rfl, h0, q⟩ := h
  refine ⟨_, (pss_cons (ps_par (i := 1) (j := 2) (by rfl) sc_law_names.nd rfl rfl (by decide) rfl rfl (pa_cons (pe_lst (pa_cons pe_str (pa_cons pe_str (pa_cons pe_str (pa_cons pe_str (pa_cons pe_str (pa_cons pe_str (pa_cons pe_str (pa_cons pe_str (pa_cons (pe_op op_mul_str pe_str pe_int) pa_nil)))))))))) (pa_cons (pe_lst pa_nil) pa_nil)) (by rfl))
  (pss_cons (ps_for PassesOwn.never rfl (pi_range1 (by rfl) B.b_range (pa_cons (pe_op op_mod (pv 0) pe_int) pa_nil)) (pg_name (i := 3) sc_law_names.nd rfl (by first | exact Or.inl rfl | exact Or.inr rfl))
   (pss_cons (ps_set (i := 0) sc_law_names.nd rfl (by first | exact Or.inl rfl | exact Or.inr rfl) (pe_op op_add (pe_op op_add (pe_op op_fdiv (pv 0) pe_int) (pe_op op_mul pe_int (pv 0))) (pv 3)))
  (pss_one (ps_expr (pe_bm PySem.F.plainAttrs_list PySem.F.slot_list_append PySem.F.type_list_append mt_append (pv 2) (pa_cons (pe_bm PySem.F.plainAttrs_list PySem.F.slot_list_pop PySem.F.type_list_pop mt_popAt (pv 1) (pa_cons (pe_op op_mod (pv 0) (pe_callB (lenK (K := K) rfl) (by rfl) B.b_len (by decide +kernel) (pa_cons (pv 1) pa_nil))) pa_nil)) pa_nil))))))
  (pss_one (ps_ret (pv 2))))), ?_⟩
  walk_at "rd"
  have m5 := mod_in n (m := 5) (by decide)
  refine ⟨mul_ok (by decide +kernel) (by decide) (by decide), by decide, fun p np => ⟨by decide, fun r nr => ⟨by decide, by omega, by omega, ?_⟩⟩⟩
  have npr : p ≠ r := fun z => by subst z; rw [upd_same] at nr; cases nr
  have nr0 : H r = none := by rw [upd_ne npr.symm] at nr; exact nr
  refine fo_it walk_range (fun i σ' H' => Same H H' ∧ ∃ (m : Int) (st fo : List Str) (kv : Option V), 0 ≤ m ∧ σ' = [some (.int m), some (.ref p), some (.ref r), kv] ∧ H' p = some (.lst (st.map V.str)) ∧ H' r = some (.lst (fo.map V.str)) ∧ (fo ++ st).Perm stock9 ∧ fo.length = i)
    ⟨(same_new np _).trans (same_new nr _), n, stock9, [], none, h0, rfl, by rw [upd_ne npr, upd_same]; rfl, by rw [upd_same]; rfl, .refl _, rfl⟩ (fun _ _ _ _ _ => trivial) ?_ ?_
  · rintro i y σ' H1 H2 hi ⟨s1, m, st, fo, kv, hm, rfl, e1, e2, hpm, hf⟩ ⟨rfl, rfl⟩
    have hlen := hpm.length_eq
    rw [List.length_append, show stock9.length = 9 from rfl] at hlen
    walk_at "rd"
    refine ⟨⟨by decide, by decide⟩, .inl (by decide), .inl ⟨rfl, _, SqL.of e2⟩, .inl ⟨rfl, _, SqL.of e1⟩, _, .inl ⟨_, SqL.of e1, rfl⟩, by simp; omega, ?_⟩
    have hx := mod_in (m / 3 + 7 * m + (0 + (i : Int))) (m := ((st.map V.str).length : Int)) (by simp; omega)
    have hy : 0 ≤ m / 3 + 7 * m + (0 + (i : Int)) := by omega
    generalize (m / 3 + 7 * m + (0 + (i : Int))) % ((st.map V.str).length : Int) = u at hx ⊢
    obtain ⟨j, rfl⟩ : ∃ j : Nat, u = j := ⟨u.toNat, by omega⟩
    have hj : j < st.length := by have := hx.2; simp at this; exact this
    refine ⟨p, _, _, j, .str st[j], rfl, rfl, e1, by omega, by omega, seqIx (by simpa using hj), by rw [List.getElem?_map, List.getElem?_eq_getElem hj]; rfl, ?_⟩
    refine ⟨r, _, _, rfl, rfl, (by rw [upd_ne npr.symm]; exact e2), sz5l (by simp; omega), ?_⟩
    refine ⟨same_mut (same_mut s1 np) nr0, _, hy, rfl, st.eraseIdx j, by rw [upd_ne npr, upd_same, erase_map], fo ++ [st[j]], by rw [upd_same]; simp, ?_, by simp [hf]⟩
    have hp1 := erase_perm st j st[j] (List.getElem?_eq_getElem hj)
    rw [List.append_assoc]
    exact (hp1.append_left fo).trans hpm
  · rintro σ' H1 ⟨s1, m, st, fo, kv, hm, rfl, e1, e2, hpm, hf⟩
    walk_at "rd"
    have hnd := hpm.nodup_iff.mpr stock9_nd
    exact q r H1 fo nr0 s1 e2 (List.nodup_append.mp hnd).1 (by omega) fun x hx => stock9_ok x (hpm.mem_iff.mp (List.mem_append_left _ hx))
end

/-! ### _law_tree -/
def sp_tree (K : PySem.W.Frag) (n : Nat) : Sp := fun vs H Q _ => ∃ c sp lf ns k z deep, vs = [.ref c, .ref sp, .int deep, .ref lf] ∧ Scr K H c ns ∧ ns.length ≤ 63 ∧ H sp = some (.lst [.int k]) ∧ 0 ≤ k ∧ k + 5 ^ n < 2 ^ 60 ∧ H lf = some (.lst [.int z]) ∧ sp ≠ lf ∧ deep ≤ (n : Int) ∧ 1 ≤ n ∧
  ∀ v d H' k' z', Keep [sp, lf] H H' → H' sp = some (.lst [.int k']) → k ≤ k' → k' ≤ k + 5 ^ n → H' lf = some (.lst [.int z']) → (cnt d : Int) = z - z' → (z' = z - 1 ∨ -4 * (n : Int) ≤ z') → Re (news H H') n v d → docD n d → Q v H'
/-- between two turns: the counters, all else as it was in Hx but at D -/
structure TrI (sp lf D : Addr) (Hx : Hp) (k P z : Int) (n i c : Nat) (H' : Hp) : Prop where
  kp : Keep [sp, lf, D] Hx H'
  ct : ∃ k' z', H' sp = some (.lst [.int k']) ∧ k ≤ k' ∧ k' ≤ k + i * P ∧ H' lf = some (.lst [.int z']) ∧ (c : Int) = z - z' ∧ -4 * (n : Int) - i ≤ z'
structure TrL (sp lf D : Addr) (Hx : Hp) (k P z : Int) (n i : Nat) (H' : Hp) : Prop where
  li : ∃ vs ds, TrI sp lf D Hx k P z n i (cntAll ds) H' ∧ H' D = some (.lst vs) ∧ vs.length = i ∧ Paired (Re (news Hx H') n) vs ds ∧ ∀ d ∈ ds, docD n d
structure TrD (sp lf D : Addr) (Hx : Hp) (k P z : Int) (n i : Nat) (xs : List Str) (H' : Hp) : Prop where
  li : ∃ kvs es, TrI sp lf D Hx k P z n i (cntKv es) H' ∧ H' D = some (.dK kvs) ∧ kvs.map (·.1) = (xs.take i).map Sum.inr ∧ Paired (fun (p : Key × V) (q : PyData × PyData) => q.1 = kD p.1 ∧ Re (news Hx H') n p.2 q.2) kvs es ∧ ∀ e ∈ es, (∃ x, e.1 = .str x ∧ NameOk x) ∧ docD n e.2
abbrev s_law_tree : Stmt := top 16
theorem sc_law_tree : FnScope ["_law_cells", "_law_spot", "_law_deep_here", "_law_left", "_law_n", "_law_found", "_law_label", "_law_k"] ["_law_cells", "_law_spot", "_law_deep_here", "_law_left"] (defScope s_law_tree) := ⟨rfl, rfl, rfl, by decide +kernel, rfl, by decide +kernel, by decide +kernel⟩
section
variable {P : Program} {w : World} {K : PySem.W.Frag} {mg : Str → Option Value} {base : Heap} {f : Addr} {fd : FuncData}
theorem ok_tree {n : Nat} (D : Def K mg "_law_tree" s_law_tree f fd) (B : Blt mg) (R_law_cell : Rdy P w K mg base 1 "_law_cell" ["_law_cells", "_law_spot"] (sp_cell K)) (R_law_leaf : Rdy P w K mg base 1 "_law_leaf" ["_law_n"] sp_leaf) (R_law_names : Rdy P w K mg base 1 "_law_names" ["_law_n"] sp_names)
    (R_law_tree : Rdy P w K mg base (n + 1) "_law_tree" ["_law_cells", "_law_spot", "_law_deep_here", "_law_left"] (sp_tree K n)) : FnOk P w K mg base CX0 (n + 2) f fd ["_law_cells", "_law_spot", "_law_deep_here", "_law_left"] (sp_tree K (n + 1)) := by
  refine D.1.ok sc_law_tree (fun vs H Q E h => ?_) (fun cdv A outer s H vs Q E hr h => ?_)
  · obtain ⟨c, sp, lf, ns, k, z, deep, rfl, _⟩ := h
    rfl
  obtain ⟨c, sp, lf, ns, k, z, deep, rfl, hs, h63, hp, h0, h1, hl, hne, hdp, _, q⟩ := h
  have hu := hu_of hr
  have hr1 : Room 1 _ := hr.mono (by omega)
  refine ⟨_, (pss_cons (ps_set (i := 4) sc_law_tree.nd rfl (by first | exact Or.inl rfl | exact Or.inr rfl) (pe_c R_law_cell hr1 rfl (pa_cons (pv 0) (pa_cons (pv 1) pa_nil))))
  (pss_cons (ps_asg (pe_op op_sub (pe_ix (ixLK (K := K) rfl) (pv 3) pe_int (fun _ _ => rfl)) pe_int) (pg_sub (pv 3) pe_int set_list))
  (pss_cons (ps_if (PW.pt (pw_or (pt_cmpR op_lt (pv 2) pe_int (nomark _)) (pw_or (pt_cmpR op_lt (pe_ix (ixLK (K := K) rfl) (pv 3) pe_int (fun _ _ => rfl)) pe_int (nomark _)) (pw_or1 (pt_cmpR op_lt (pe_op op_mod (pv 4) pe_int) pe_int (nomark _))))))
   (pss_one (ps_ret (pe_c R_law_leaf hr1 rfl (pa_cons (pe_op op_fdiv (pv 4) pe_int) pa_nil))))
   pss_nil)
  (pss_cons (ps_if (pt_cmpR op_lt (pe_op op_mod (pv 4) pe_int) pe_int (nomark _))
   (pss_one (ps_ret (pe_lc (own := [("_law_k", 7)]) (by rfl) sc_law_tree.nd (pi_range1 (by rfl) B.b_range (pa_cons (pe_op op_mod (pe_op op_fdiv (pv 4) pe_int) pe_int) pa_nil)) (blkOk_by (own := [("_law_k", 7)]) (N := ["_law_cells", "_law_spot", "_law_deep_here", "_law_left", "_law_n", "_law_found", "_law_label", "_law_k"]) (sc := defScope s_law_tree) (by decide +kernel)) (fun _ _ _ _ _ => (pg_name (i := 7) sc_law_tree.nd rfl (by first | exact Or.inl rfl | exact Or.inr rfl))) (fun _ _ _ _ _ => pts_nil) (fun _ _ _ _ _ => (pe_c R_law_tree hr rfl (pa_cons (pv 0) (pa_cons (pv 1) (pa_cons (pe_op op_sub (pv 2) pe_int) (pa_cons (pv 3) pa_nil)))))))))
   pss_nil)
  (pss_cons (ps_set (i := 5) sc_law_tree.nd rfl (by first | exact Or.inl rfl | exact Or.inr rfl) pe_dnewK)
  (pss_cons (ps_for PassesOwn.never rfl (pi_list (pe_c R_law_names hr1 rfl (pa_cons (pe_op op_fdiv (pv 4) pe_int) pa_nil))) (pg_name (i := 6) sc_law_tree.nd rfl (by first | exact Or.inl rfl | exact Or.inr rfl))
   (pss_one (ps_dput hu (pv 5) (pv 6) (pe_c R_law_tree hr rfl (pa_cons (pv 0) (pa_cons (pv 1) (pa_cons (pe_op op_sub (pv 2) pe_int) (pa_cons (pv 3) pa_nil))))) rfl)))
  (pss_one (ps_ret (pv 5))))))))), ?_⟩
  walk_at "rd"
  have h5 : (5 : Int) ^ (n + 1) = 5 ^ n * 5 := Int.pow_succ _ _
  have hP : (1 : Int) ≤ 5 ^ n := Int.pow_pos (by decide)
  refine ⟨c, sp, ns, k, rfl, hs, h63, hp, h0, by omega, fun m m0 m1 => ?_⟩
  have hl1 : (upd H sp (.lst [.int (k + 1)])) lf = some (.lst [.int z]) := by rw [upd_ne hne.symm]; exact hl
  refine ⟨lf, _, 0, _, rfl, rfl, SqL.of hl1, rfl, ?_⟩
  walk_at "rd"
  refine ⟨_, hl1, 0, rfl, ?_⟩
  walk_at "rd"
  obtain ⟨H2, eH2⟩ : ∃ H2, H2 = upd (upd H sp (.lst [.int (k + 1)])) lf (.lst [.int (z - 1)]) := ⟨_, rfl⟩
  rw [← eH2]
  have K2 : Keep [sp, lf] H H2 := by rw [eH2]; exact ((Keep.refl _ H).mut (by simp)).mut (by simp)
  have esp : H2 sp = some (.lst [.int (k + 1)]) := by rw [eH2, upd_ne hne, upd_same]
  have elf : H2 lf = some (.lst [.int (z - 1)]) := by rw [eH2, upd_same]
  have hs2 : Scr K H2 c ns := by rw [eH2]; exact (hs.put hp).put hl1
  clear eH2
  have leaf : sp_leaf [V.int (m / 9)] H2 Q E0 := ⟨m / 9, rfl, by omega, by omega, fun v H' ⟨d, hd, hv⟩ s => q v d H' (k + 1) (z - 1) (K2.trans (.of s)) (s _ _ esp) (by omega) (by omega) (s _ _ elf) (by rw [leaf_cnt hd]; omega) (.inl rfl) ((Re.leaf hd (hv _)).up (by omega)) (docD.leaf hd n)⟩
  have inS : ∀ b ∈ [sp, lf], ∃ xs, H2 b = some (.lst xs) := fun b hb => by
    simp only [List.mem_cons, List.not_mem_nil, or_false] at hb
    rcases hb with rfl | rfl
    · exact ⟨_, esp⟩
    · exact ⟨_, elf⟩
  split
  · exact ⟨⟨by decide, by decide⟩, leaf⟩
  rename_i hdeep
  refine ⟨lf, _, 0, _, rfl, rfl, SqL.of elf, rfl, ?_⟩
  walk_at "rd"
  split
  · exact ⟨⟨by decide, by decide⟩, leaf⟩
  rename_i hleft
  refine ⟨by decide, ?_⟩
  split
  · exact ⟨⟨by decide, by decide⟩, leaf⟩
  refine ⟨by decide, ?_⟩
  split
  · -- a list
    have m4 := mod_in (m / 9) (m := 4) (by decide)
    refine ⟨⟨by decide, by decide⟩, by decide, by omega, by omega, ?_⟩
    have hr4 : (m / 9 % 4).toNat ≤ 4 := by omega
    generalize (m / 9 % 4).toNat = r at hr4 ⊢
    refine lc_itR walk_range (fun D i H' => TrL sp lf D (upd H2 D (.lst [])) (k + 1) (5 ^ n) (z - 1) n i H')
      (fun D hD => ⟨[], [], ⟨Keep.refl _ _, k + 1, z - 1, by rw [upd_ne (ne_of_none esp hD)]; exact esp, by omega, by omega, by rw [upd_ne (ne_of_none elf hD)]; exact elf, by simp [cntAll], by omega⟩, upd_same, rfl, .nil, by simp⟩) (fun _ _ _ _ _ _ => trivial) ?_ ?_
    · rintro D i x H0 H' hD hi ⟨vs, ds, ⟨K', k', z', e1, l1, l2, e2, c1, c2⟩, e3, hlen, hpd, hdd⟩ ⟨rfl, rfl⟩
      have hiP : (i : Int) * 5 ^ n ≤ 3 * 5 ^ n := Int.mul_le_mul_of_nonneg_right (by omega) (by omega)
      have hi1 : ((i + 1 : Nat) : Int) * 5 ^ n = i * 5 ^ n + 5 ^ n := by rw [Int.natCast_add, Int.add_mul]; simp
      have nsp : D ≠ sp := fun z => by rw [z, esp] at hD; cases hD
      have nlf : D ≠ lf := fun z => by rw [z, elf] at hD; cases hD
      have hx : ∀ a ∈ [sp, lf, D], (upd H2 D (.lst [])) a ≠ none := by simp [upd_same, upd_ne nsp.symm, upd_ne nlf.symm, esp, elf]
      have hx' : ∀ a ∈ [sp, lf, D], H' a ≠ none := by simp [e1, e2, e3]
      walk_at "rd"
      refine ⟨c, sp, lf, ns, k', z', deep - 1, rfl, (hs2.same (same_new hD _)).keep K' (by simp [upd_same, upd_ne nsp.symm, upd_ne nlf.symm, esp, elf]), h63, e1, by omega, by omega, e2, hne, by omega, by omega, fun v d H4 k4 z4 K4 s4 a4 b4 f4 g4 h4 r4 d4 => ?_⟩
      have K4' : Keep [sp, lf, D] H' H4 := K4.sub (by simp)
      have g := grow (o := .lst (vs ++ [v])) K' K4' hx hx' (D := D) (by simp)
      refine ⟨vs, K4 _ _ e3 (by simp [nsp, nlf]), sz5l (by omega), ?_⟩
      refine ⟨vs ++ [v], ds ++ [d], ⟨(K'.trans K4').mut (by simp), k4, z4, by rw [upd_ne nsp.symm]; exact s4, by omega, by omega, by rw [upd_ne nlf.symm]; exact f4, by simp [cntAll_app, cntAll]; omega, by omega⟩, upd_same, by simp [hlen], pd_app (pd_imp hpd fun _ _ _ _ r => r.imp g.1) (.cons (r4.imp g.2) .nil), ?_⟩
      intro e he
      rcases List.mem_append.mp he with he | he
      · exact hdd e he
      · simp at he; subst he; exact d4
    · rintro D H' hD ⟨vs, ds, ⟨K', k', z', e1, l1, l2, e2, c1, c2⟩, e3, hlen, hpd, hdd⟩
      have hiP : (r : Int) * 5 ^ n ≤ 4 * 5 ^ n := Int.mul_le_mul_of_nonneg_right (by omega) (by omega)
      have nsp : D ≠ sp := fun z => by rw [z, esp] at hD; cases hD
      have nlf : D ≠ lf := fun z => by rw [z, elf] at hD; cases hD
      have hDH : H D = none := K2.free hD (by simp [nsp, nlf])
      have hnew : Same (news (upd H2 D (.lst [])) H') (news H H') := news_more (K2.new hD) (by simp [upd_ne nsp.symm, upd_ne nlf.symm, esp, elf])
      refine q (.ref D) (.list ds) H' k' z' (fun b o e hb => ?_) e1 (by omega) (by omega) e2 (by simp only [cnt]; omega) (.inr (by omega)) ⟨D, vs, rfl, by rw [news_at hDH]; exact e3, by omega, pd_imp hpd fun _ _ _ _ r => r.imp hnew⟩ ⟨by rw [← pd_len hpd]; omega, hdd⟩
      have hbD : b ≠ D := ne_of_none e hDH
      simp only [List.mem_cons, List.not_mem_nil, or_false, not_or] at hb
      refine K' b o ?_ (by simp [hb, hbD])
      rw [upd_ne hbD]
      exact K2 b o e (by simp [hb])
  · -- a dict
    intro p hp2
    refine ⟨⟨by decide, by decide⟩, m / 9, rfl, by omega, fun a Hx xs na sx ea hnd hl4 hnm => ⟨a, rfl, ⟨_, SqL.of ea⟩, ?_⟩⟩
    have nsp : p ≠ sp := fun z => by rw [z, esp] at hp2; cases hp2
    have nlf : p ≠ lf := fun z => by rw [z, elf] at hp2; cases hp2
    have hpH : H p = none := K2.free hp2 (by simp [nsp, nlf])
    have s2 : Same H2 Hx := (same_new hp2 _).trans sx
    have exp : Hx p = some (.dK []) := sx _ _ upd_same
    have exs := s2 _ _ esp
    have exl := s2 _ _ elf
    have hx : ∀ a ∈ [sp, lf, p], Hx a ≠ none := by simp [exp, exs, exl]
    have nap : a ∉ [sp, lf, p] := by
      have h1 : a ≠ sp := fun z => by subst z; rw [upd_ne nsp.symm, esp] at na; cases na
      have h2 : a ≠ lf := fun z => by subst z; rw [upd_ne nlf.symm, elf] at na; cases na
      have h3 : a ≠ p := fun z => by subst z; rw [upd_same] at na; cases na
      simp [h1, h2, h3]
    refine fo_it walk_list (fun i σ' H' => TrD sp lf p Hx (k + 1) (5 ^ n) (z - 1) n i xs H' ∧ ∃ lv, σ' = [some (V.ref c), some (V.ref sp), some (V.int deep), some (V.ref lf), some (V.int m), some (V.ref p), lv, none])
      ⟨⟨[], [], ⟨Keep.refl _ _, k + 1, z - 1, exs, by omega, by omega, exl, by simp [cntKv], by omega⟩, exp, by simp, .nil, by simp⟩, none, rfl⟩ (fun i σ' H' _ ⟨⟨_, _, h, _⟩, _⟩ => SqL.of (h.kp _ _ ea nap)) ?_ ?_
    · rintro i x σ' H0 H' hi ⟨⟨kvs, es, ⟨K', k', z', e1, l1, l2, e2, c1, c2⟩, e3, hkeys, hpd, hdd⟩, lv, rfl⟩ ⟨rfl, hxi⟩
      rw [List.length_map] at hi
      rw [List.getElem?_map, List.getElem?_eq_getElem hi] at hxi
      cases hxi
      have hiP : (i : Int) * 5 ^ n ≤ 3 * 5 ^ n := Int.mul_le_mul_of_nonneg_right (by omega) (by omega)
      have hi1 : ((i + 1 : Nat) : Int) * 5 ^ n = i * 5 ^ n + 5 ^ n := by rw [Int.natCast_add, Int.add_mul]; simp
      have hx' : ∀ a ∈ [sp, lf, p], H' a ≠ none := by simp [e1, e2, e3]
      have hkl : kvs.length = i := by
        have := congrArg List.length hkeys
        simp at this
        omega
      walk_at "rd"
      refine ⟨c, sp, lf, ns, k', z', deep - 1, rfl, (hs2.same s2).keep K' (by simp [exp, exs, exl]), h63, e1, by omega, by omega, e2, hne, by omega, by omega, fun v d H4 k4 z4 K4 s4 a4 b4 f4 g4 h4 r4 d4 => ?_⟩
      have K4' : Keep [sp, lf, p] H' H4 := K4.sub (by simp)
      have hnew : (Sum.inr xs[i] : Key) ∉ kvs.map (·.1) := by
        rw [hkeys]
        intro hm
        obtain ⟨y, hy, e⟩ := List.mem_map.mp hm
        cases e
        exact nd_take hnd hi hy
      have g := grow (o := .dK (kvs ++ [(Sum.inr xs[i], v)])) K' K4' hx hx' (D := p) (by simp)
      refine ⟨_, DPut.k (k := Sum.inr xs[i]) (K4 _ _ e3 (by simp [nsp, nlf])) (sz5l (by omega)), ?_⟩
      rw [putK_new v (valV_no hnew)]
      refine ⟨kvs ++ [(Sum.inr xs[i], v)], es ++ [(.str xs[i], d)], ⟨(K'.trans K4').mut (by simp), k4, z4, by rw [upd_ne nsp.symm]; exact s4, by omega, by omega, by rw [upd_ne nlf.symm]; exact f4, by simp [cntKv_app, cntKv]; omega, by omega⟩, upd_same, ?_, pd_app (pd_imp hpd fun _ _ _ _ r => ⟨r.1, r.2.imp g.1⟩) (.cons ⟨rfl, r4.imp g.2⟩ .nil), ?_⟩
      · rw [List.map_append, hkeys, List.take_succ, List.getElem?_eq_getElem hi, List.map_append]
        rfl
      · intro e he
        rcases List.mem_append.mp he with he | he
        · exact hdd e he
        · simp at he; subst he; exact ⟨⟨_, rfl, hnm _ (List.getElem_mem hi)⟩, d4⟩
    · rintro σ' H' ⟨⟨kvs, es, ⟨K', k', z', e1, l1, l2, e2, c1, c2⟩, e3, hkeys, hpd, hdd⟩, lv, rfl⟩
      walk_at "rd"
      have hkl : kvs.length = xs.length := by
        have := congrArg List.length hkeys
        simp at this
        omega
      rw [List.length_map] at l2 hkeys c2
      rw [List.take_length] at hkeys
      have hiP : (xs.length : Int) * 5 ^ n ≤ 4 * 5 ^ n := Int.mul_le_mul_of_nonneg_right (by omega) (by omega)
      have hnew : Same (news Hx H') (news H H') := news_more (K2.trans (.of s2)) (by simp [exs, exl])
      refine q (.ref p) (.dict es) H' k' z' (fun b o e hb => ?_) e1 (by omega) (by omega) e2 (by simp only [cnt]; omega) (.inr (by omega)) ⟨p, kvs, rfl, by rw [news_at hpH]; exact e3, by omega, ?_, pd_imp hpd fun _ _ _ _ r => ⟨r.1, r.2.imp hnew⟩⟩ ⟨by rw [← pd_len hpd]; omega, hdd⟩
      · have hbp : b ≠ p := ne_of_none e hpH
        simp only [List.mem_cons, List.not_mem_nil, or_false, not_or] at hb
        exact K' b o (s2 _ _ (K2 b o e (by simp [hb]))) (by simp [hb, hbp])
      · rw [hkeys]
        exact nd_inr hnd
/-- with no turn left nothing can be asked -/
theorem tree0 : FnOk P w K mg base CX0 1 f fd ["_law_cells", "_law_spot", "_law_deep_here", "_law_left"] (sp_tree K 0) := by
  have no : ∀ vs H Q E, ¬ sp_tree K 0 vs H Q E := by
    rintro vs H Q E ⟨c, sp, lf, ns, k, z, deep, _, _, _, _, _, _, _, _, _, h, _⟩
    omega
  exact ⟨fun vs H Q E h => absurd h (no vs H Q E), fun A outer s H args us vs Q E _ _ _ _ h => absurd h (no vs H Q E)⟩
theorem ok_trees (D : Def K mg "_law_tree" s_law_tree f fd) (B : Blt mg) (R_law_cell : Rdy P w K mg base 1 "_law_cell" ["_law_cells", "_law_spot"] (sp_cell K)) (R_law_leaf : Rdy P w K mg base 1 "_law_leaf" ["_law_n"] sp_leaf) (R_law_names : Rdy P w K mg base 1 "_law_names" ["_law_n"] sp_names) :
    ∀ n : Nat, FnOk P w K mg base CX0 (n + 1) f fd ["_law_cells", "_law_spot", "_law_deep_here", "_law_left"] (sp_tree K n)
  | 0 => tree0
  | n + 1 => ok_tree D B R_law_cell R_law_leaf R_law_names (D.rdy (fun _ _ _ _ _ _ us hl => match us, hl with | [_, _, _, _], _ => rfl) (ok_trees D B R_law_cell R_law_leaf R_law_names n))
end

/-! ### kind_of -/
def sp_kind : Sp := fun vs H Q _ => ∃ n v d, vs = [v] ∧ Rp H n v d ∧ Q (.str (kindD d)) H
def sp_kind' : Sp := fun vs H Q _ => ∃ n v d, vs = [v] ∧ Rp H n v d ∧ ∀ H', Same H H' → Q (.str (kindD d)) H'
abbrev s_kind_of : Stmt := top 10
theorem sc_kind_of : FnScope ["document"] ["document"] (defScope s_kind_of) := ⟨rfl, rfl, rfl, by decide +kernel, rfl, by decide +kernel, by decide +kernel⟩
section
variable {P : Program} {w : World} {K : PySem.W.Frag} {mg : Str → Option Value} {base : Heap} {f : Addr} {fd : FuncData}
theorem ok_kind_of (D : Def K mg "kind_of" s_kind_of f fd) (B : Blt mg) : FnOk P w K mg base CX0 1 f fd ["document"] sp_kind := by
  refine D.1.ok sc_kind_of (fun vs H Q E h => ?_) (fun cdv A outer s H vs Q E hr h => ?_)
  · obtain ⟨n, v, d, rfl, _⟩ := h
    rfl
  obtain ⟨n, v, d, rfl, hd, q⟩ := h
  refine ⟨_, (pss_cons (ps_if (pt_cmpR op_isN (pv 0) pe_non (nomark _))
   (pss_one (ps_ret pe_str))
   pss_nil)
  (pss_cons (ps_if (pt_val (pe_callB (isiK (K := K) rfl) (by rfl) B.b_isinstance (by decide +kernel) (pa_cons (pv 0) (pa_cons (pe_bltn (v := .ty "bool") (by rfl) B.b_bool (by decide +kernel) rfl) pa_nil))))
   (pss_one (ps_ret pe_str))
   pss_nil)
  (pss_cons (ps_if (pt_val (pe_callB (isiK (K := K) rfl) (by rfl) B.b_isinstance (by decide +kernel) (pa_cons (pv 0) (pa_cons (pe_bltn (v := .ty "int") (by rfl) B.b_int (by decide +kernel) rfl) pa_nil))))
   (pss_one (ps_ret pe_str))
   pss_nil)
  (pss_cons (ps_if (pt_val (pe_callB (isiK (K := K) rfl) (by rfl) B.b_isinstance (by decide +kernel) (pa_cons (pv 0) (pa_cons (pe_bltn (v := .ty "str") (by rfl) B.b_str (by decide +kernel) rfl) pa_nil))))
   (pss_one (ps_ret pe_str))
   pss_nil)
  (pss_one (ps_ret (pe_ifExp (pt_val (pe_callB (isiK (K := K) rfl) (by rfl) B.b_isinstance (by decide +kernel) (pa_cons (pv 0) (pa_cons (pe_bltn (v := .ty "list") (by rfl) B.b_list (by decide +kernel) rfl) pa_nil)))) pe_str pe_str))))))), ?_⟩
  walk_at "rd"
  cases n with
  | zero => exact hd.elim
  | succ n =>
  cases d with
  | none =>
    cases hd
    exact if_pos rfl ▸ q
  | bool b =>
    cases id hd
    simp only [reduceCtorEq, ↓reduceIte]
    exact isi1 .bool hd ⟨_, rfl, iteT q⟩
  | int b =>
    cases id hd
    simp only [reduceCtorEq, ↓reduceIte]
    exact isi1 .bool hd ⟨_, rfl, iteF (isi1 .int hd ⟨_, rfl, iteT q⟩)⟩
  | str b =>
    cases id hd
    simp only [reduceCtorEq, ↓reduceIte]
    exact isi1 .bool hd ⟨_, rfl, iteF (isi1 .int hd ⟨_, rfl, iteF (isi1 .str hd ⟨_, rfl, iteT q⟩)⟩)⟩
  | list b =>
    obtain ⟨a, xs, rfl, _⟩ := id hd
    simp only [reduceCtorEq, ↓reduceIte]
    exact isi1 .bool hd ⟨_, rfl, iteF (isi1 .int hd ⟨_, rfl, iteF (isi1 .str hd ⟨_, rfl, iteF (isi1 .list hd ⟨_, rfl, iteT q⟩)⟩)⟩)⟩
  | tuple b =>
    obtain ⟨a, xs, rfl, _⟩ := id hd
    simp only [reduceCtorEq, ↓reduceIte]
    exact isi1 .bool hd ⟨_, rfl, iteF (isi1 .int hd ⟨_, rfl, iteF (isi1 .str hd ⟨_, rfl, iteF (isi1 .list hd ⟨_, rfl, iteF q⟩)⟩)⟩)⟩
  | dict b =>
    obtain ⟨a, xs, rfl, _⟩ := id hd
    simp only [reduceCtorEq, ↓reduceIte]
    exact isi1 .bool hd ⟨_, rfl, iteF (isi1 .int hd ⟨_, rfl, iteF (isi1 .str hd ⟨_, rfl, iteF (isi1 .list hd ⟨_, rfl, iteF q⟩)⟩)⟩)⟩
end

/-! ### same -/
def sp_same (n : Nat) : Sp := fun vs H Q _ => ∃ v u d e, vs = [v, u] ∧ Rp H n v d ∧ Rp H n u e ∧ docD n d ∧ docD n e ∧ ∀ H', Same H H' → Q (.bl (sameN n d e)) H'
abbrev s_same : Stmt := top 11
theorem sc_same : FnScope ["one", "other", "kind", "at", "name"] ["one", "other"] (defScope s_same) := ⟨rfl, rfl, rfl, by decide +kernel, rfl, by decide +kernel, by decide +kernel⟩
section
variable {P : Program} {w : World} {K : PySem.W.Frag} {mg : Str → Option Value} {base : Heap} {f : Addr} {fd : FuncData}
theorem ok_same {n : Nat} (D : Def K mg "same" s_same f fd) (B : Blt mg) (R_kind_of : Rdy P w K mg base 1 "kind_of" ["document"] sp_kind) (R_same : Rdy P w K mg base (n + 1) "same" ["one", "other"] (sp_same n)) : FnOk P w K mg base CX0 (n + 2) f fd ["one", "other"] (sp_same (n + 1)) := by
  refine D.1.ok sc_same (fun vs H Q E h => ?_) (fun cdv A outer s H vs Q E hr h => ?_)
  · obtain ⟨v, u, d, e, rfl, _⟩ := h
    rfl
  obtain ⟨v, u, d, e, rfl, hd, he, dd, de, q⟩ := h
  have hu := hu_of hr
  have hr1 : Room 1 _ := hr.mono (by omega)
  refine ⟨_, (pss_cons (ps_set (i := 2) sc_same.nd rfl (by first | exact Or.inl rfl | exact Or.inr rfl) (pe_c R_kind_of hr1 rfl (pa_cons (pv 0) pa_nil)))
  (pss_cons (ps_if (pt_cmpR op_ne (pv 2) (pe_c R_kind_of hr1 rfl (pa_cons (pv 1) pa_nil)) (nomark _))
   (pss_one (ps_ret pe_bl))
   pss_nil)
  (pss_cons (ps_if (pt_cmpR op_eq (pv 2) pe_str (nomark _))
   (pss_one (ps_ret (pe_and (pe_cmpR op_eq (pe_callB (lenK (K := K) rfl) (by rfl) B.b_len (by decide +kernel) (pa_cons (pv 0) pa_nil)) (pe_callB (lenK (K := K) rfl) (by rfl) B.b_len (by decide +kernel) (pa_cons (pv 1) pa_nil)) (nomark _)) (pe_one (pe_callB (allK (K := K) rfl rfl) (by rfl) B.b_all (by decide +kernel) (pa_cons (pe_lc (own := [("at", 3)]) (by rfl) sc_same.nd (pi_range1 (by rfl) B.b_range (pa_cons (pe_callB (lenK (K := K) rfl) (by rfl) B.b_len (by decide +kernel) (pa_cons (pv 0) pa_nil)) pa_nil)) (blkOk_by (own := [("at", 3)]) (N := ["one", "other", "kind", "at", "name"]) (sc := defScope s_same) (by decide +kernel)) (fun _ _ _ _ _ => (pg_name (i := 3) sc_same.nd rfl (by first | exact Or.inl rfl | exact Or.inr rfl))) (fun _ _ _ _ _ => pts_nil) (fun _ _ _ _ _ => (pe_c R_same hr rfl (pa_cons (pe_ix (ixLK (K := K) rfl) (pv 0) (pv 3) (fun _ _ => rfl)) (pa_cons (pe_ix (ixLK (K := K) rfl) (pv 1) (pv 3) (fun _ _ => rfl)) pa_nil))))) pa_nil))))))
   pss_nil)
  (pss_cons (ps_if (pt_cmpR op_eq (pv 2) pe_str (nomark _))
   (pss_cons (ps_if (pt_cmpR (neDK (K := K) rfl hr.units) (pe_callB (sortedSK (K := K) rfl) (by rfl) B.b_sorted (by decide +kernel) (pa_cons (pe_callTy (call_listD rfl) (by rfl) B.b_list (by decide +kernel) (pa_cons (pv 0) pa_nil)) pa_nil)) (pe_callB (sortedSK (K := K) rfl) (by rfl) B.b_sorted (by decide +kernel) (pa_cons (pe_callTy (call_listD rfl) (by rfl) B.b_list (by decide +kernel) (pa_cons (pv 1) pa_nil)) pa_nil)) (nomark _))
   (pss_one (ps_ret pe_bl))
   pss_nil)
  (pss_one (ps_ret (pe_callB (allK (K := K) rfl rfl) (by rfl) B.b_all (by decide +kernel) (pa_cons (pe_lock (pe_lc (own := [("name", 4)]) (by rfl) sc_same.nd (pi_keys (pv 0)) (blkOk_by (own := [("name", 4)]) (N := ["one", "other", "kind", "at", "name"]) (sc := defScope s_same) (by decide +kernel)) (fun _ _ _ _ _ => (pg_name (i := 4) sc_same.nd rfl (by first | exact Or.inl rfl | exact Or.inr rfl))) (fun _ _ _ _ _ => pts_nil) (fun _ _ _ _ _ => (pe_c R_same hr rfl (pa_cons (pe_dget hu (pv 0) (pv 4) (fun _ _ => rfl)) (pa_cons (pe_dget hu (pv 1) (pv 4) (fun _ _ => rfl)) pa_nil)))))) pa_nil)))))
   pss_nil)
  (pss_one (ps_ret (pe_cmpR op_eq (pv 0) (pv 1) (nomark _)))))))), ?_⟩
  walk_at "rd"
  refine ⟨n + 1, v, d, rfl, hd, n + 1, u, e, rfl, he, rfl, ?_⟩
  by_cases hk : kindD d = kindD e
  · rw [hk]
    refine iteF' (by simp) ⟨rfl, ?_⟩
    rcases kind_inv dd de hk with ⟨rfl, rfl⟩ | ⟨a, b, rfl, rfl⟩ | ⟨a, b, rfl, rfl⟩ | ⟨a, b, rfl, rfl⟩ | ⟨a, b, rfl, rfl⟩ | ⟨a, b, rfl, rfl⟩
    · cases hd
      cases he
      exact iteF' (by simp only [kindD, V.str.injEq]; decide +kernel) ⟨rfl, iteF' (by simp only [kindD, V.str.injEq]; decide +kernel) ⟨rfl, q _ (Same.refl _)⟩⟩
    · cases hd
      cases he
      refine iteF' (by simp only [kindD, V.str.injEq]; decide +kernel) ⟨rfl, iteF' (by simp only [kindD, V.str.injEq]; decide +kernel) ⟨rfl, ?_⟩⟩
      have := q _ (Same.refl _)
      simpa [sameN, sameL] using this
    · cases hd
      cases he
      refine iteF' (by simp only [kindD, V.str.injEq]; decide +kernel) ⟨rfl, iteF' (by simp only [kindD, V.str.injEq]; decide +kernel) ⟨rfl, ?_⟩⟩
      have := q _ (Same.refl _)
      simpa [sameN, sameL] using this
    · cases hd
      cases he
      refine iteF' (by simp only [kindD, V.str.injEq]; decide +kernel) ⟨rfl, iteF' (by simp only [kindD, V.str.injEq]; decide +kernel) ⟨rfl, ?_⟩⟩
      have := q _ (Same.refl _)
      simpa [sameN, sameL] using this
    · obtain ⟨p1, xs, rfl, ha, hb, hp⟩ := id hd
      obtain ⟨p2, ys, rfl, ha2, hb2, hp2⟩ := id he
      refine iteT' rfl ⟨_, .inl ⟨_, SqL.of ha, rfl⟩, _, .inl ⟨_, SqL.of ha2, rfl⟩, rfl, ?_⟩
      by_cases hl : xs.length = ys.length
      · refine iteT' (by rw [hl]) ⟨_, .inl ⟨_, SqL.of ha, rfl⟩, by omega, by omega, ?_⟩
        have hla : a.length = b.length := by rw [← pd_len hp, ← pd_len hp2, hl]
        refine lcP_range ((List.zipWith (sameN n) a b).map V.bl) (by simp [← pd_len hp, ← pd_len hp2, hl]) (by omega) ?_ ?_
        · rintro i x y H' N rfl hy s N'
          simp only [List.getElem?_map, Option.map_eq_some_iff] at hy
          obtain ⟨z, hz, rfl⟩ := hy
          obtain ⟨da, db, h1, h2, rfl⟩ := List.getElem?_zipWith_eq_some.mp hz
          have hi : i < a.length := (List.getElem?_eq_some_iff.mp h1).1
          have hx1 : ∃ w, xs[i]? = some w := ⟨xs[i]'(by rw [pd_len hp]; exact hi), by rw [List.getElem?_eq_getElem]⟩
          have hx2 : ∃ w, ys[i]? = some w := ⟨ys[i]'(by rw [pd_len hp2, ← hla]; exact hi), by rw [List.getElem?_eq_getElem]⟩
          obtain ⟨w1, hw1⟩ := hx1
          obtain ⟨w2, hw2⟩ := hx2
          obtain ⟨da', e1, r1⟩ := pd_get hp hw1
          obtain ⟨db', e2, r2⟩ := pd_get hp2 hw2
          rw [h1] at e1; cases e1
          rw [h2] at e2; cases e2
          walk_at "rd"
          refine ⟨p1, xs, _, w1, rfl, rfl, SqL.of (s _ _ ha), by rw [Int.zero_add]; exact atI_nat hw1, p2, ys, _, w2, rfl, rfl, SqL.of (s _ _ ha2), by rw [Int.zero_add]; exact atI_nat hw2, ?_⟩
          exact ⟨w1, w2, da, db, rfl, r1.imp s, r2.imp s, dd.2 _ (List.mem_of_getElem? h1), de.2 _ (List.mem_of_getElem? h2), fun H4 s4 => N' H4 s4⟩
        · intro D' H' nD s e
          refine ⟨D', _, rfl, SqL.of e, ?_⟩
          have := q _ s
          simpa [sameN, hla] using this
      · have hla : ¬ a.length = b.length := by rw [← pd_len hp, ← pd_len hp2]; exact hl
        refine iteF' (by omega) ?_
        have := q _ (Same.refl _)
        simpa [sameN, hla] using this
    · obtain ⟨p1, xs, rfl, ha, hb, hn, hp⟩ := id hd
      obtain ⟨p2, ys, rfl, ha2, hb2, hn2, hp2⟩ := id he
      have k1 := dd.keys
      have k2 := de.keys
      have n1 := keys_nd hp k1 hn
      have n2 := keys_nd hp2 k2 hn2
      have hla : a.length ≤ 10 := dd.1
      have hlb : b.length ≤ 10 := de.1
      refine iteF' (by simp only [kindD, V.str.injEq]; decide +kernel) ⟨rfl, iteT' rfl ⟨_, rfl, _, ha, fun r1 nr1 => ?_⟩⟩
      rw [keysV_of hp k1]
      refine ⟨r1, keysD a, rfl, SqL.of upd_same, by simp [keysD]; omega, fun z1 r2 pz1 sz1 nr2 => ?_⟩
      obtain rfl : z1 = srt (keysD a) := srt_is pz1 sz1
      have s1 := (same_new nr1 (.lst ((keysD a).map V.str))).trans (same_new nr2 (.lst ((srt (keysD a)).map V.str)))
      refine ⟨_, rfl, _, rd_same s1 ha2, fun r3 nr3 => ?_⟩
      rw [keysV_of hp2 k2]
      refine ⟨r3, keysD b, rfl, SqL.of upd_same, by simp [keysD]; omega, fun z2 r4 pz2 sz2 nr4 => ?_⟩
      obtain rfl : z2 = srt (keysD b) := srt_is pz2 sz2
      have s2 := (s1.trans (same_new nr3 (.lst ((keysD b).map V.str)))).trans (same_new nr4 (.lst ((srt (keysD b)).map V.str)))
      have e2 := ((same_new nr3 (.lst ((keysD b).map V.str))).trans (same_new nr4 (.lst ((srt (keysD b)).map V.str)))) _ _ upd_same
      have a1 : ∀ x ∈ srt (keysD a), AsciiS x := fun x hx => by
        obtain ⟨q', hq, rfl⟩ := List.mem_map.mp (pz1.mem_iff.mp hx)
        obtain ⟨⟨y, hy, hy2⟩, _⟩ := dd.2 q' hq
        rw [hy]; exact hy2.2
      have a2 : ∀ x ∈ srt (keysD b), AsciiS x := fun x hx => by
        obtain ⟨q', hq, rfl⟩ := List.mem_map.mp (pz2.mem_iff.mp hx)
        obtain ⟨⟨y, hy, hy2⟩, _⟩ := de.2 q' hq
        rw [hy]; exact hy2.2
      refine ⟨_, _, Dp_strs e2, Dp_strs upd_same, shaped_strs a1, shaped_strs a2, _, rfl, ?_⟩
      rw [eqv_strs]
      by_cases hs : srt (keysD a) = srt (keysD b)
      · rw [decide_eq_true hs]
        have hr4 : H r4 = none := (s1.trans (same_new nr3 _)).free nr4
        refine iteF (lcD_keys (rd_same s2 ha) upd_same rfl hr4 s2 ((a.map fun e => optB (dget b (strD e.1)) (sameN n e.2)).map V.bl) (by simp [pd_len hp]) (by omega) ?_ ?_)
        · intro i k v y H' N hk hy ls ha' N'
          obtain ⟨e, he, hk', hr'⟩ := pd_get hp hk
          have hm := List.mem_of_getElem? he
          obtain ⟨x, hx⟩ := k1 e hm
          obtain ⟨e1, e2⟩ := e
          simp at hx hk' hr'
          subst hx
          cases k with
          | inl i => cases hk'
          | inr z =>
            cases hk'
            have hin : x ∈ keysD b := mem_srt.mp (by rw [← hs]; exact mem_srt.mpr (List.mem_map.mpr ⟨_, hm, rfl⟩))
            rcases get_of hp2 k2 x with ⟨_, hnone⟩ | ⟨v2, d2, hv2, hd2, hr2⟩
            · exact absurd hin (dget_none hnone)
            · walk_at "rd"
              refine ⟨v, .inl ⟨xs, .inr x, ha', rfl, (valV_at hn hk).symm⟩, v2, .inl ⟨ys, .inr x, ls.rdk ha2, rfl, hv2.symm⟩, ?_⟩
              obtain ⟨q', hq', rfl, _⟩ := dget_mem hd2
              refine ⟨v, v2, e2, _, rfl, hr'.lk ls, hr2.lk ls, (dd.2 _ hm).2, (de.2 _ hq').2, fun H4 s4 => ?_⟩
              simp [he, strD, hd2, optB] at hy
              subst hy
              exact N' H4 s4
        · intro D' H' nD s e
          refine ⟨D', _, rfl, SqL.of e, ?_⟩
          have := q _ (s2.trans s)
          simpa [sameN, hs] using this
      · rw [decide_eq_false hs]
        refine iteT ?_
        have := q _ s2
        simpa [sameN, hs] using this
  · refine iteT' (by simpa using hk) ?_
    have := q _ (Same.refl _)
    rw [same_kind dd de hk] at this
    exact this
end

/-! ### _law_odd -/
def sp_odd (n : Nat) : Sp := fun vs H Q _ => ∃ v d m S, vs = [v, .int m] ∧ 0 ≤ m ∧ (∀ a ∈ S, H a ≠ none) ∧ Re (gone S H) n v d ∧ smallD n d ∧ ∀ v' d' H', Same H H' → Re (gone S H') (n + 1) v' d' → smallD (n + 1) d' → Q v' H'
structure OdD (p p1 : Addr) (S : List Addr) (L : Hp) (xs : List (Key × V)) (a : List (PyData × PyData)) (n i : Nat) (H' : Hp) : Prop where
  li : ∃ kvs' es', Keep [p] L H' ∧ H' p = some (.dK kvs') ∧ kvs'.map (·.1) = (xs.take i).map (·.1) ∧ Paired (KvR (Re (gone (p1 :: p :: S) H') (n + 1))) kvs' es' ∧ (∀ e ∈ es', (∀ x, e.1 = .str x → x.length ≤ 1000 ∧ AsciiS x) ∧ smallD (n + 1) e.2)
abbrev s_law_odd : Stmt := top 17
theorem sc_law_odd : FnScope ["_law_tree_here", "_law_n", "_law_at", "_law_found", "_law_k", "_law_label", "_law_part"] ["_law_tree_here", "_law_n"] (defScope s_law_odd) := ⟨rfl, rfl, rfl, by decide +kernel, rfl, by decide +kernel, by decide +kernel⟩
section
variable {P : Program} {w : World} {K : PySem.W.Frag} {mg : Str → Option Value} {base : Heap} {f : Addr} {fd : FuncData}
theorem ok_odd {n : Nat} (D : Def K mg "_law_odd" s_law_odd f fd) (B : Blt mg) (R_law_odd : Rdy P w K mg base (n + 1) "_law_odd" ["_law_tree_here", "_law_n"] (sp_odd n)) : FnOk P w K mg base CX0 (n + 2) f fd ["_law_tree_here", "_law_n"] (sp_odd (n + 1)) := by
  refine D.1.ok sc_law_odd (fun vs H Q E h => ?_) (fun cdv A outer s H vs Q E hr h => ?_)
  · obtain ⟨v, d, m, S, rfl, _⟩ := h
    rfl
  obtain ⟨v, d, m, S, rfl, m0, hS, hd, sm, q⟩ := h
  have hu := hu_of hr
  have hdH : Rp H (n + 1) v d := hd.rp.imp (gone_sub S H)
  refine ⟨_, (pss_cons (ps_if (pt_cmpR op_eq (pe_op op_mod (pv 1) pe_int) pe_int (nomark _))
   (pss_one (ps_ret (pe_ix (ixLK (K := K) rfl) (pe_lst (pa_cons (pe_tup pa_nil) (pa_cons (pe_op op_pow pe_int pe_int) (pa_cons (pe_disp (pps_cons pe_int pe_int pps_nil) (by rfl) (by rfl) (fun z => by cases z) (by decide)) (pa_cons (pe_op op_mul_str pe_str pe_int) (pa_cons (pe_tup (pa_cons (pv 0) pa_nil)) pa_nil)))))) (pe_op op_mod (pe_op op_fdiv (pv 1) pe_int) pe_int) (fun _ _ => rfl))))
   pss_nil)
  (pss_cons (ps_if (PW.pt (pw_and (pt_val (pe_callB (isiK (K := K) rfl) (by rfl) B.b_isinstance (by decide +kernel) (pa_cons (pv 0) (pa_cons (pe_bltn (v := .ty "list") (by rfl) B.b_list (by decide +kernel) rfl) pa_nil)))) (pw_and1 (pt_cmpR op_gt (pe_callB (lenAK (K := K) rfl) (by rfl) B.b_len (by decide +kernel) (pa_cons (pv 0) pa_nil)) pe_int (nomark _)))))
   (pss_cons (ps_set (i := 2) sc_law_odd.nd rfl (by first | exact Or.inl rfl | exact Or.inr rfl) (pe_op op_mod (pe_op op_fdiv (pv 1) pe_int) (pe_callB (lenAK (K := K) rfl) (by rfl) B.b_len (by decide +kernel) (pa_cons (pv 0) pa_nil))))
  (pss_one (ps_ret (pe_op op_cat (pe_op op_cat (pe_slice (slLK (K := K) rfl) (pv 0) po_none (po_some (pv 2))) (pe_lst (pa_cons (pe_c R_law_odd hr rfl (pa_cons (pe_ix (ixLK (K := K) rfl) (pv 0) (pv 2) (fun _ _ => rfl)) (pa_cons (pe_op op_fdiv (pv 1) pe_int) pa_nil))) pa_nil))) (pe_slice (slLK (K := K) rfl) (pv 0) (po_some (pe_op op_add (pv 2) pe_int)) po_none)))))
   pss_nil)
  (pss_cons (ps_if (PW.pt (pw_and (pt_val (pe_callB (isiK (K := K) rfl) (by rfl) B.b_isinstance (by decide +kernel) (pa_cons (pv 0) (pa_cons (pe_bltn (v := .ty "dict") (by rfl) B.b_dict (by decide +kernel) rfl) pa_nil)))) (pw_and1 (pt_cmpR op_gt (pe_callB (lenAK (K := K) rfl) (by rfl) B.b_len (by decide +kernel) (pa_cons (pv 0) pa_nil)) pe_int (nomark _)))))
   (pss_cons (ps_par (i := 3) (j := 2) (by rfl) sc_law_odd.nd rfl rfl (by decide) rfl rfl (pa_cons pe_dnewK (pa_cons (pe_op op_mod (pe_op op_fdiv (pv 1) pe_int) (pe_callB (lenAK (K := K) rfl) (by rfl) B.b_len (by decide +kernel) (pa_cons (pv 0) pa_nil))) pa_nil)) (by rfl))
  (pss_cons (ps_lock (ps_for PassesOwn.never rfl (pi_enumK (by rfl) B.b_enumerate (pa_cons (pv 0) pa_nil)) (pg_tup (by rfl) (pgs_cons (pg_name (i := 4) sc_law_odd.nd rfl (by first | exact Or.inl rfl | exact Or.inr rfl)) (pgs_cons (pg_name (i := 5) sc_law_odd.nd rfl (by first | exact Or.inl rfl | exact Or.inr rfl)) pgs_nil)))
   (pss_cons (ps_set (i := 6) sc_law_odd.nd rfl (by first | exact Or.inl rfl | exact Or.inr rfl) (pe_dget hu (pv 0) (pv 5) (fun _ _ => rfl)))
  (pss_one (ps_dput hu (pv 3) (pv 5) (pe_ifExp (pt_cmpR op_eq (pv 4) (pv 2) (nomark _)) (pe_c R_law_odd hr rfl (pa_cons (pv 6) (pa_cons (pe_op op_fdiv (pv 1) pe_int) pa_nil))) (pv 6)) rfl)))))
  (pss_one (ps_ret (pv 3)))))
   pss_nil)
  (pss_one (ps_ret (pv 0)))))), ?_⟩
  -- an odd thing
  refine cutM (fun σ' H' => (∃ z1 z2 z3 z4 z5, σ' = [some v, some (.int m), z1, z2, z3, z4, z5]) ∧ H' = H) (fun N hN => ?_) ?_
  · walk_at "rd"
    refine ⟨by decide, rfl, ite2 (fun h1 => ?_) fun h1 => hN _ _ ⟨⟨_, _, _, _, _, rfl⟩, rfl⟩⟩
    refine ⟨Nat.zero_le _, fun l1 nl1 => ⟨⟨by decide, by decide, by decide⟩, fun l2 nl2 => ⟨upd_same, [(Sum.inl 5, .int 1)], rfl, by simp, mul_ok (by decide +kernel) (by decide) (by decide), sz5 (by omega), fun l3 nl3 => ⟨sz5 (by omega), fun l5 nl5 => ⟨⟨by decide, by decide⟩, by decide, ?_⟩⟩⟩⟩⟩
    have hmg : mergeK [] [((Sum.inl 5 : Key), V.int 1)] = [((Sum.inl 5 : Key), V.int 1)] := by simp [mergeK, putK, valV]
    rw [hmg] at nl3 nl5 ⊢
    have m4 := mod_in (m / 4) (m := 5) (by decide)
    have s2 : Same (upd H l1 (HO.tup [])) (upd (upd (upd H l1 (HO.tup [])) l2 (HO.dK [])) l2 (HO.dK [(Sum.inl 5, V.int 1)])) := same_mut (same_new nl2 _) nl2
    have s3 := same_new nl3 (.tup [v])
    refine ix_any upd_same (by omega) (by simp; omega) fun x hx => ?_
    obtain ⟨Hf, eHf⟩ : ∃ Hf, Hf = upd (upd (upd (upd (upd H l1 (HO.tup [])) l2 (HO.dK [])) l2 (HO.dK [(Sum.inl 5, V.int 1)])) l3 (HO.tup [v])) l5 (HO.lst [V.ref l1, V.int (10 ^ Int.toNat 31), V.ref l2, V.str (Txt.mul (Str.ofString "b") 61), V.ref l3]) := ⟨_, rfl⟩
    rw [← eHf]
    have s5 := same_new nl5 (.lst [V.ref l1, V.int (10 ^ Int.toNat 31), V.ref l2, V.str (Txt.mul (Str.ofString "b") 61), V.ref l3])
    have sA := (same_new nl1 (.tup [])).trans s2
    have sF : Same H Hf := by rw [eHf]; exact sA.trans (s3.trans s5)
    have f1 : Hf l1 = some (.tup []) := by rw [eHf]; exact (s2.trans (s3.trans s5)) _ _ upd_same
    have f2 : Hf l2 = some (.dK [(Sum.inl 5, V.int 1)]) := by rw [eHf]; exact (s3.trans s5) _ _ upd_same
    have f3 : Hf l3 = some (.tup [v]) := by rw [eHf]; exact s5 _ _ upd_same
    have g1 := not_gone hS nl1
    have g2 := not_gone (here_same hS (same_new nl1 _)) nl2
    have g3 := not_gone (here_same hS sA) nl3
    clear eHf
    have hv : Re (gone S Hf) (n + 1) v d := hd.imp (gone_same sF)
    simp only [List.mem_cons, List.not_mem_nil, or_false] at hx
    rcases hx with rfl | rfl | rfl | rfl | rfl
    · exact q _ (.tuple []) Hf sF ⟨l1, [], rfl, by rw [gone_at g1]; exact f1, by simp, .nil⟩ (by simp [smallD])
    · exact q _ (.int (10 ^ 31)) Hf sF rfl trivial
    · exact q _ (.dict [(.int 5, .int 1)]) Hf sF ⟨l2, [(Sum.inl 5, V.int 1)], rfl, by rw [gone_at g2]; exact f2, by simp, by simp, .cons ⟨rfl, rfl⟩ .nil⟩ ⟨by simp, fun e he => by simp at he; subst he; exact ⟨(fun x hx => by cases hx), trivial⟩⟩
    · exact q _ (.str (Txt.mul (Str.ofString "b") 61)) Hf sF rfl (by show (Txt.mul (Str.ofString "b") 61).length ≤ 1000; decide +kernel)
    · exact q _ (.tuple [d]) Hf sF ⟨l3, _, rfl, by rw [gone_at g3]; exact f3, by simp, .cons hv .nil⟩ (by simp only [smallD]; simpa using sm)
  rintro σ' H' ⟨⟨z1, z2, z3, z4, z5, rfl⟩, rfl⟩
  refine cutM (fun σ' H2 => (∃ z1 z2 z3 z4 z5, σ' = [some v, some (.int m), z1, z2, z3, z4, z5]) ∧ H2 = H') (fun N hN => ?_) ?_
  · walk_at "rd"
    refine isi1 .list hdH ⟨_, rfl, ite2 (fun h1 => ?_) fun h1 => hN _ _ ⟨⟨_, _, _, _, _, rfl⟩, rfl⟩⟩
    obtain ⟨a, rfl⟩ : ∃ a, d = .list a := by cases d <;> first | exact ⟨_, rfl⟩ | cases h1
    obtain ⟨p1, xs, rfl, ha0, hb, hp⟩ := id hd
    have ha := gone_sub _ _ _ _ ha0
    have hxa := pd_len hp
    refine ⟨_, LenA.l (SqL.of ha), ite2 (fun h2 => ?_) fun h2 => hN _ _ ⟨⟨_, _, _, _, _, rfl⟩, rfl⟩⟩
    refine ⟨⟨by decide, by decide⟩, _, LenA.l (SqL.of ha), h2, ?_⟩
    have ht := mod_in (m / 4) h2
    obtain ⟨j, hj⟩ : ∃ j : Nat, m / 4 % (xs.length : Int) = j := ⟨(m / 4 % (xs.length : Int)).toNat, by omega⟩
    rw [hj] at ht ⊢
    have hjl : j < xs.length := by omega
    have hja : j < a.length := by omega
    have hgj : a[j]? = some a[j] := List.getElem?_eq_getElem hja
    have hxj : xs[j]? = some xs[j] := List.getElem?_eq_getElem hjl
    obtain ⟨dj, e1, rj⟩ := pd_get hp hxj
    rw [hgj] at e1; cases e1
    have hmj := List.getElem_mem hja
    refine ⟨p1, xs, rfl, SqL.of ha, fun p2 np2 => ⟨p1, xs, j, xs[j], rfl, rfl, SqL.of ((same_new np2 _) _ _ ha), atI_nat hxj, ⟨by decide, by decide⟩, ?_⟩⟩
    rw [cut_take _ _ (by omega)]
    have s1 : Same H' (upd H' p2 (.lst (xs.take j))) := same_new np2 _
    refine ⟨xs[j], a[j], m / 5, S, rfl, by omega, here_same hS s1, rj.imp (gone_same s1), sm _ hmj, fun v' d' H2 s2 r2 dd2 => ⟨sz5 (by omega), fun p3 np3 => ?_⟩⟩
    have s3 : Same H2 (upd H2 p3 (.lst [v'])) := same_new np3 _
    refine ⟨p2, p3, _, _, rfl, rfl, s3 _ _ (s2 _ _ upd_same), upd_same, sz5 (by simp; omega), fun p4 np4 => ?_⟩
    have s4 : Same (upd H2 p3 (.lst [v'])) (upd (upd H2 p3 (.lst [v'])) p4 (.lst (xs.take j ++ [v']))) := same_new np4 _
    have s14 := ((s1.trans s2).trans s3).trans s4
    refine ⟨p1, xs, rfl, SqL.of (s14 _ _ ha), fun p5 np5 => ⟨p4, p5, xs.take j ++ [v'], _, rfl, rfl, (same_new np5 _) _ _ upd_same, upd_same, ?_, fun p6 np6 => ?_⟩⟩
    · rw [show (j : Int) + 1 = ((j + 1 : Nat) : Int) by omega, cut_drop _ _ (by omega)]
      exact sz5 (by simp; omega)
    rw [show (j : Int) + 1 = ((j + 1 : Nat) : Int) by omega, cut_drop _ _ (by omega)] at np6 ⊢
    have s56 := (s4.trans (same_new np5 (.lst (xs.drop (j + 1))))).trans (same_new np6 (.lst (xs.take j ++ [v'] ++ xs.drop (j + 1))))
    have s26 := s3.trans s56
    have s06 := (s1.trans s2).trans s26
    refine q (.ref p6) (.list (a.take j ++ [d'] ++ a.drop (j + 1))) _ s06 ⟨p6, xs.take j ++ [v'] ++ xs.drop (j + 1), rfl, ?_, ?_, ?_⟩ ?_
    · rw [gone_at (not_gone (here_same hS (((s14.trans (same_new np5 _))))) np6)]
      exact upd_same
    · simp; omega
    · exact pd_app (pd_app (pd_imp (pd_take hp j) fun _ _ _ _ r => (r.up1).imp (gone_same s06)) (.cons (r2.imp (gone_same s26)) .nil)) (pd_imp (pd_drop hp (j + 1)) fun _ _ _ _ r => (r.up1).imp (gone_same s06))
    · intro e he
      have old : e ∈ a → smallD (n + 1) e := fun h => by
        obtain ⟨x, _, hx⟩ := pd_memR hp h
        exact small_up (sm e h) hx
      rcases List.mem_append.mp he with he | he
      · rcases List.mem_append.mp he with he | he
        · exact old (List.mem_of_mem_take he)
        · simp at he; subst he; exact dd2
      · exact old (List.mem_of_mem_drop he)
  rintro σ' H2 ⟨⟨z1, z2, z3, z4, z5, rfl⟩, rfl⟩
  refine cutM (fun σ' H' => (∃ z1 z2 z3 z4 z5, σ' = [some v, some (.int m), z1, z2, z3, z4, z5]) ∧ H' = H2) (fun N hN => ?_) ?_
  · walk_at "rd"
    refine isi1 .dict hdH ⟨_, rfl, ite2 (fun h1 => ?_) fun h1 => hN _ _ ⟨⟨_, _, _, _, _, rfl⟩, rfl⟩⟩
    obtain ⟨a, rfl⟩ : ∃ a, d = .dict a := by cases d <;> first | exact ⟨_, rfl⟩ | cases h1
    obtain ⟨p1, xs, rfl, ha0, hb, hn, hp⟩ := id hd
    have ha := gone_sub _ _ _ _ ha0
    have hxa := pd_len hp
    have h60 := sm.1
    have hlen : ∀ G : Hp, G p1 = some (.dK xs) → LenA K (.ref p1) G xs.length := fun G hG => LenA.d (.inl hG)
    refine ⟨_, hlen _ ha, ite2 (fun h2 => ?_) fun h2 => hN _ _ ⟨⟨_, _, _, _, _, rfl⟩, rfl⟩⟩
    refine fun p np => ⟨⟨by decide, by decide⟩, _, hlen _ ((same_new np _) _ _ ha), h2, p1, .dK xs, (same_new np _) _ _ ha, trivial, fun od => ?_⟩
    have ht := mod_in (m / 4) h2
    walk_at "rd"
    refine ⟨od, xs, upd_same, ?_⟩
    have np1 : p1 ≠ p := ne_of_none ha np
    obtain ⟨L, eL⟩ : ∃ L, L = upd (upd H2 p (HO.dK [])) p1 (HO.frz od (HO.dK xs)) := ⟨_, rfl⟩
    rw [← eL]
    have Lp : L p = some (.dK []) := by rw [eL, upd_ne np1.symm, upd_same]
    have L1 : L p1 = some (.frz od (.dK xs)) := by rw [eL, upd_same]
    have L2 : ∀ b o, b ≠ p1 → H2 b = some o → L b = some o := fun b o hb e => by
      rw [eL, upd_ne hb, upd_ne (ne_of_none e np)]; exact e
    clear eL
    have n1 : (xs.map (·.1)).Nodup := hn
    refine fo_it walk_enumK (fun i σ' H' => OdD p p1 S L xs a n i H' ∧ ∃ z1 z2 z3, σ' = [some (V.ref p1), some (V.int m), some (V.int (m / 4 % (xs.length : Int))), some (V.ref p), z1, z2, z3]) ⟨⟨[], [], Keep.refl _ _, Lp, by simp, .nil, by simp⟩, _, _, _, rfl⟩ (fun i σ' H' _ ⟨⟨_, _, k, _⟩, _⟩ => k _ _ L1 (by simp [np1])) ?_ ?_
    · rintro i x σ' H1 H3 hi ⟨⟨kvs', es', k2, e2, hkeys, hpd, hes⟩, z1, z2, z3, rfl⟩ ⟨T, y1, y2, rfl, nT, rfl, hy1, hy2⟩
      cases hy1
      rw [Option.map_eq_some_iff] at hy2
      obtain ⟨⟨k, v⟩, hkv, rfl⟩ := hy2
      obtain ⟨⟨e1, ed⟩, he, hk', hr'⟩ := pd_get hp hkv
      simp only at hk' hr'
      have hm := List.mem_of_getElem? he
      obtain ⟨sk, sd⟩ := sm.2 _ hm
      simp only at sk sd
      have sT : Same H1 (upd H1 T (.tup [V.int (i : Nat), kV k])) := same_new nT _
      have k3 := k2.trans (.of sT)
      have e3 := sT _ _ e2
      have hkl : kvs'.length ≤ i := by
        have := congrArg List.length hkeys
        simp only [List.length_map, List.length_take] at this
        omega
      have hgt : upd H1 T (.tup [V.int (i : Nat), kV k]) T = some (.tup [V.int (i : Nat), kV k]) := upd_same
      generalize upd H1 T (.tup [V.int (i : Nat), kV k]) = H3 at sT k3 e3 hgt ⊢
      have hpd' : Paired (KvR (Re (gone (p1 :: p :: S) H3) (n + 1))) kvs' es' := pd_imp hpd fun _ _ _ _ r => ⟨r.1, r.2.imp (gone_same sT)⟩
      have hsz : sizeOf ed < sizeOf (PyData.dict a) := by
        have h4 := List.sizeOf_lt_of_mem hm
        simp at h4 ⊢
        omega
      have rpart : Re (gone (p1 :: p :: S) H3) n v ed := by
        refine Re.imp ?_ (Re.of (del_sub _ p1) hr' (Rp.del hd.rp hsz hr'.rp))
        intro b o eb
        have hb1 : b ≠ p1 := fun z => by rw [z, del_at] at eb; cases eb
        rw [del_ne hb1] at eb
        have hbS : b ∉ S := fun z => by unfold gone at eb; rw [if_pos z] at eb; cases eb
        rw [gone_at hbS] at eb
        have hbp : b ≠ p := ne_of_none eb np
        rw [gone_at (by simp [hb1, hbp, hbS])]
        exact k3 _ _ (L2 _ _ hb1 eb) (by simp [hbp])
      have hnew : k ∉ kvs'.map (·.1) := fun hmm => by
        rw [hkeys, List.map_take] at hmm
        have hil : i < (xs.map (·.1)).length := by simpa using hi
        have := nd_take n1 hil
        rw [List.getElem_map, (List.getElem?_eq_some_iff.mp hkv).2] at this
        exact this hmm
      have hget : DGet H3 p1 (kV k) (some v) := .inl ⟨xs, k, .inr ⟨od, k3 _ _ L1 (by simp [np1])⟩, rfl, (valV_at hn hkv).symm⟩
      have put : ∀ (v' : V) (d' : PyData) (H4 : Hp), Same H3 H4 → Re (gone (p1 :: p :: S) H4) (n + 1) v' d' → smallD (n + 1) d' → ∃ H5, DPut H4 p (kV k) v' H5 ∧ OdD p p1 S L xs a n (i + 1) H5 := by
        intro v' d' H4 s3 r3 dd3
        refine ⟨_, DPut.k (k := k) (s3 _ _ e3) (sz5l (by omega)), ?_⟩
        rw [putK_new v' (valV_no hnew)]
        refine ⟨_, es' ++ [(e1, d')], (k3.trans (.of s3)).mut (by simp), upd_same, ?_, ?_, ?_⟩
        · rw [List.map_append, hkeys, List.take_succ, hkv, List.map_append]
          rfl
        · rw [gone_mut (by simp)]
          exact pd_app (pd_imp hpd' fun _ _ _ _ r => ⟨r.1, r.2.imp (gone_same s3)⟩) (.cons ⟨hk', r3⟩ .nil)
        · intro e he
          rcases List.mem_append.mp he with he | he
          · exact hes e he
          · simp at he; subst he; exact ⟨sk, dd3⟩
      walk_at "rd"
      refine ⟨_, SqT.of hgt, rfl, _, _, rfl, _, _, rfl, rfl, v, hget, rfl, ite2 (fun g1 => ⟨⟨by decide, by decide⟩, v, ed, m / 5, p1 :: p :: S, rfl, by omega, ?_, rpart, sd, fun v' d' H4 s3 r3 dd3 => put v' d' H4 s3 r3 dd3⟩) fun g1 => put v ed H3 (Same.refl _) rpart.up1 (small_up sd rpart)⟩
      refine here_cons (here_cons (fun b hb e => ?_) e3) (k3 _ _ L1 (by simp [np1]))
      cases hH : H2 b with
      | none => exact hS b hb hH
      | some o =>
        by_cases hb1 : b = p1
        · subst hb1; rw [k3 _ _ L1 (by simp [np1])] at e; cases e
        · rw [k3 _ _ (L2 _ _ hb1 hH) (by simp [ne_of_none hH np])] at e; cases e
    · rintro σ' H' ⟨⟨kvs', es', k2, e2, hkeys, hpd, hes⟩, z1, z2, z3, rfl⟩
      walk_at "rd"
      have e1 : H' p1 = some (.frz od (.dK xs)) := k2 _ _ L1 (by simp [np1])
      have s0 : Same H2 (upd H' p1 (.dK xs)) := fun b o eb => by
        by_cases hb : b = p1
        · subst hb; rw [ha] at eb; cases eb; exact upd_same
        · rw [upd_ne hb]; exact k2 _ _ (L2 _ _ hb eb) (by simp [ne_of_none eb np])
      have hkl : kvs'.length ≤ a.length := by
        have := congrArg List.length hkeys
        simp only [List.length_map, List.length_take] at this
        omega
      have hel := pd_len hpd
      refine ⟨e1, q (.ref p) (.dict es') _ s0 ⟨p, kvs', rfl, ?_, by omega, ?_, ?_⟩ ⟨by omega, hes⟩⟩
      · rw [gone_at (not_gone hS np), upd_ne np1.symm]; exact e2
      · rw [hkeys, List.map_take]
        exact (List.take_sublist _ _).nodup n1
      · refine pd_imp hpd fun _ _ _ _ r => ⟨r.1, r.2.imp fun b o eb => ?_⟩
        have hbn : b ∉ p1 :: p :: S := fun z => by unfold gone at eb; rw [if_pos z] at eb; cases eb
        rw [gone_at hbn] at eb
        simp only [List.mem_cons, not_or] at hbn
        rw [gone_at hbn.2.2, upd_ne hbn.1]
        exact eb
  rintro σ' H' ⟨⟨z1, z2, z3, z4, z5, rfl⟩, rfl⟩
  walk_at "rd"
  exact q v d _ (Same.refl _) hd.up1 (small_up sm hd)
end
theorem ok_odds {P : Program} {w : World} {K : PySem.W.Frag} {mg : Str → Option Value} {base : Heap} {f : Addr} {fd : FuncData} (D : Def K mg "_law_odd" s_law_odd f fd) (B : Blt mg) : ∀ n : Nat, FnOk P w K mg base CX0 (n + 1) f fd ["_law_tree_here", "_law_n"] (sp_odd n)
  | 0 => ⟨fun vs H Q E ⟨_, _, _, _, _, _, _, h, _⟩ => h.elim, fun A outer s H args us vs Q E _ _ _ _ ⟨_, _, _, _, _, _, _, h, _⟩ => h.elim⟩
  | n + 1 => ok_odd D B (D.rdy (fun _ _ _ _ _ _ us hl => match us, hl with | [_, _], _ => rfl) (ok_odds D B n))

/-! ### _law_inside -/
def wrJ (d e : PyData) : Nat → PyData
  | 0 => .list [d]
  | 1 => .list [e, d]
  | 2 => .dict [(.str "a", d)]
  | 3 => .dict [(.str "z", d), (.str "b", e)]
  | _ => .list [.list [d]]
def rtJ : Nat → List Key
  | 0 => [.inl 0]
  | 1 => [.inl 1]
  | 2 => [.inr "a"]
  | 3 => [.inr "z"]
  | _ => [.inl 0, .inl 0]
def InsAt (H : Hp) (M : Nat) (d e : PyData) (j : Nat) (T : Addr) : Prop := ∃ w t, H T = some (.tup [w, .ref t]) ∧ H t = some (.tup ((rtJ j).map kV)) ∧ Re H M w (wrJ d e j)
def sp_inside (m : Nat) : Sp := fun vs H Q _ => ∃ x u d e, vs = [x, u] ∧ Re H m x d ∧ Re H m u e ∧
  ∀ r T0 T1 T2 T3 T4 H', Same H H' → H' r = some (.lst [.ref T0, .ref T1, .ref T2, .ref T3, .ref T4]) → InsAt H' (m + 2) d e 0 T0 → InsAt H' (m + 2) d e 1 T1 → InsAt H' (m + 2) d e 2 T2 → InsAt H' (m + 2) d e 3 T3 → InsAt H' (m + 2) d e 4 T4 → Q (.ref r) H'
abbrev s_law_inside : Stmt := top 19
theorem sc_law_inside : FnScope ["_law_x", "_law_near", "_law_found"] ["_law_x", "_law_near"] (defScope s_law_inside) := ⟨rfl, rfl, rfl, by decide +kernel, rfl, by decide +kernel, by decide +kernel⟩
abbrev s_law_right : Stmt := top 20
theorem sc_law_right : FnScope ["_law_x", "_law_near", "_law_problem", "_law_whole", "_law_route", "_law_due"] ["_law_x", "_law_near"] (defScope s_law_right) := ⟨rfl, rfl, rfl, by decide +kernel, rfl, by decide +kernel, by decide +kernel⟩
abbrev s_law : Stmt := top 21
theorem sc_law : FnScope ["_law_script", "_law_spot", "_law_turn", "_law_n", "_law_m", "_law_tree_here", "_law_near", "_law_far", "_law_around", "_law_k", "_law_x", "_law_route", "_law_one", "_law_other_one", "_law_due", "_law_p", "_law_q"] ["_law_script"] (defScope s_law) := ⟨rfl, rfl, rfl, by decide +kernel, rfl, by decide +kernel, by decide +kernel⟩
section
variable {P : Program} {w : World} {K : PySem.W.Frag} {mg : Str → Option Value} {base : Heap} {f : Addr} {fd : FuncData}
theorem ok_inside {m : Nat} (D : Def K mg "_law_inside" s_law_inside f fd) (B : Blt mg) : FnOk P w K mg base CX0 1 f fd ["_law_x", "_law_near"] (sp_inside m) := by
  refine D.1.ok sc_law_inside (fun vs H Q E h => ?_) (fun cdv A outer s H vs Q E hr h => ?_)
  · obtain ⟨x, u, d, e, rfl, _⟩ := h
    rfl
  obtain ⟨x, u, d, e, rfl, hx, hu', q⟩ := h
  have hu := hu_of hr
  refine ⟨_, (pss_cons (ps_set (i := 2) sc_law_inside.nd rfl (by first | exact Or.inl rfl | exact Or.inr rfl) (pe_lst (pa_cons (pe_tup (pa_cons (pe_lst (pa_cons (pv 0) pa_nil)) (pa_cons (pe_tup (pa_cons pe_int pa_nil)) pa_nil))) (pa_cons (pe_tup (pa_cons (pe_lst (pa_cons (pv 1) (pa_cons (pv 0) pa_nil))) (pa_cons (pe_tup (pa_cons pe_int pa_nil)) pa_nil))) (pa_cons (pe_tup (pa_cons (pe_disp (pps_cons pe_str (pv 0) pps_nil) (by rfl) (by rfl) (fun z => by cases z) (by decide)) (pa_cons (pe_tup (pa_cons pe_str pa_nil)) pa_nil))) pa_nil)))))
  (pss_one (ps_ret (pe_op op_cat (pv 2) (pe_lst (pa_cons (pe_tup (pa_cons (pe_disp (pps_cons pe_str (pv 0) (pps_cons pe_str (pv 1) pps_nil)) (by rfl) (by rfl) (fun z => by cases z) (by decide)) (pa_cons (pe_tup (pa_cons pe_str pa_nil)) pa_nil))) (pa_cons (pe_tup (pa_cons (pe_lst (pa_cons (pe_lst (pa_cons (pv 0) pa_nil)) pa_nil)) (pa_cons (pe_tup (pa_cons pe_int (pa_cons pe_int pa_nil))) pa_nil))) pa_nil))))))), ?_⟩
  walk_at "rd"
  refine ⟨sz5 (by omega), ?_⟩
  intro a0 n_a0
  have s_a0 : Same H (upd H a0 (.lst [x])) := same_new n_a0 _
  have e_a0 : upd H a0 (.lst [x]) a0 = some (.lst [x]) := upd_same
  generalize upd H a0 (.lst [x]) = H1 at s_a0 e_a0 ⊢
  refine ⟨sz5 (by omega), ?_⟩
  intro b0 n_b0
  have s_b0 : Same H1 (upd H1 b0 (.tup [.int 0])) := same_new n_b0 _
  have e_b0 : upd H1 b0 (.tup [.int 0]) b0 = some (.tup [.int 0]) := upd_same
  generalize upd H1 b0 (.tup [.int 0]) = H2 at s_b0 e_b0 ⊢
  refine ⟨sz5 (by omega), ?_⟩
  intro c0 n_c0
  have s_c0 : Same H2 (upd H2 c0 (.tup [.ref a0, .ref b0])) := same_new n_c0 _
  have e_c0 : upd H2 c0 (.tup [.ref a0, .ref b0]) c0 = some (.tup [.ref a0, .ref b0]) := upd_same
  generalize upd H2 c0 (.tup [.ref a0, .ref b0]) = H3 at s_c0 e_c0 ⊢
  refine ⟨sz5 (by omega), ?_⟩
  intro a1 n_a1
  have s_a1 : Same H3 (upd H3 a1 (.lst [u, x])) := same_new n_a1 _
  have e_a1 : upd H3 a1 (.lst [u, x]) a1 = some (.lst [u, x]) := upd_same
  generalize upd H3 a1 (.lst [u, x]) = H4 at s_a1 e_a1 ⊢
  refine ⟨sz5 (by omega), ?_⟩
  intro b1 n_b1
  have s_b1 : Same H4 (upd H4 b1 (.tup [.int 1])) := same_new n_b1 _
  have e_b1 : upd H4 b1 (.tup [.int 1]) b1 = some (.tup [.int 1]) := upd_same
  generalize upd H4 b1 (.tup [.int 1]) = H5 at s_b1 e_b1 ⊢
  refine ⟨sz5 (by omega), ?_⟩
  intro c1 n_c1
  have s_c1 : Same H5 (upd H5 c1 (.tup [.ref a1, .ref b1])) := same_new n_c1 _
  have e_c1 : upd H5 c1 (.tup [.ref a1, .ref b1]) c1 = some (.tup [.ref a1, .ref b1]) := upd_same
  generalize upd H5 c1 (.tup [.ref a1, .ref b1]) = H6 at s_c1 e_c1 ⊢
  refine fun a2 n_a2 => ⟨upd_same, [(Sum.inr (Str.ofString "a"), x)], rfl, by simp, ?_⟩
  rw [show mergeK [] ([(Sum.inr (Str.ofString "a"), x)]) = [(Sum.inr (Str.ofString "a"), x)] by first | (simp [mergeK, putK, valV]; done) | (simp [mergeK, putK, valV]; decide +kernel)]
  have s_a2 : Same H6 (upd (upd H6 a2 (.dK [])) a2 (.dK ([(Sum.inr (Str.ofString "a"), x)]))) := same_mut (same_new n_a2 _) n_a2
  have e_a2 : upd (upd H6 a2 (.dK [])) a2 (.dK ([(Sum.inr (Str.ofString "a"), x)])) a2 = some (.dK ([(Sum.inr (Str.ofString "a"), x)])) := upd_same
  generalize upd (upd H6 a2 (.dK [])) a2 (.dK ([(Sum.inr (Str.ofString "a"), x)])) = H7 at s_a2 e_a2 ⊢
  refine ⟨sz5 (by omega), ?_⟩
  intro b2 n_b2
  have s_b2 : Same H7 (upd H7 b2 (.tup [.str (Str.ofString "a")])) := same_new n_b2 _
  have e_b2 : upd H7 b2 (.tup [.str (Str.ofString "a")]) b2 = some (.tup [.str (Str.ofString "a")]) := upd_same
  generalize upd H7 b2 (.tup [.str (Str.ofString "a")]) = H8 at s_b2 e_b2 ⊢
  refine ⟨sz5 (by omega), ?_⟩
  intro c2 n_c2
  have s_c2 : Same H8 (upd H8 c2 (.tup [.ref a2, .ref b2])) := same_new n_c2 _
  have e_c2 : upd H8 c2 (.tup [.ref a2, .ref b2]) c2 = some (.tup [.ref a2, .ref b2]) := upd_same
  generalize upd H8 c2 (.tup [.ref a2, .ref b2]) = H9 at s_c2 e_c2 ⊢
  refine ⟨sz5 (by omega), ?_⟩
  intro l1 n_l1
  have s_l1 : Same H9 (upd H9 l1 (.lst [.ref c0, .ref c1, .ref c2])) := same_new n_l1 _
  have e_l1 : upd H9 l1 (.lst [.ref c0, .ref c1, .ref c2]) l1 = some (.lst [.ref c0, .ref c1, .ref c2]) := upd_same
  generalize upd H9 l1 (.lst [.ref c0, .ref c1, .ref c2]) = H10 at s_l1 e_l1 ⊢
  refine fun a3 n_a3 => ⟨upd_same, [(Sum.inr (Str.ofString "z"), x), (Sum.inr (Str.ofString "b"), u)], rfl, by simp, ?_⟩
  rw [show mergeK [] ([(Sum.inr (Str.ofString "z"), x), (Sum.inr (Str.ofString "b"), u)]) = [(Sum.inr (Str.ofString "z"), x), (Sum.inr (Str.ofString "b"), u)] by first | (simp [mergeK, putK, valV]; done) | (simp [mergeK, putK, valV]; decide +kernel)]
  have s_a3 : Same H10 (upd (upd H10 a3 (.dK [])) a3 (.dK ([(Sum.inr (Str.ofString "z"), x), (Sum.inr (Str.ofString "b"), u)]))) := same_mut (same_new n_a3 _) n_a3
  have e_a3 : upd (upd H10 a3 (.dK [])) a3 (.dK ([(Sum.inr (Str.ofString "z"), x), (Sum.inr (Str.ofString "b"), u)])) a3 = some (.dK ([(Sum.inr (Str.ofString "z"), x), (Sum.inr (Str.ofString "b"), u)])) := upd_same
  generalize upd (upd H10 a3 (.dK [])) a3 (.dK ([(Sum.inr (Str.ofString "z"), x), (Sum.inr (Str.ofString "b"), u)])) = H11 at s_a3 e_a3 ⊢
  refine ⟨sz5 (by omega), ?_⟩
  intro b3 n_b3
  have s_b3 : Same H11 (upd H11 b3 (.tup [.str (Str.ofString "z")])) := same_new n_b3 _
  have e_b3 : upd H11 b3 (.tup [.str (Str.ofString "z")]) b3 = some (.tup [.str (Str.ofString "z")]) := upd_same
  generalize upd H11 b3 (.tup [.str (Str.ofString "z")]) = H12 at s_b3 e_b3 ⊢
  refine ⟨sz5 (by omega), ?_⟩
  intro c3 n_c3
  have s_c3 : Same H12 (upd H12 c3 (.tup [.ref a3, .ref b3])) := same_new n_c3 _
  have e_c3 : upd H12 c3 (.tup [.ref a3, .ref b3]) c3 = some (.tup [.ref a3, .ref b3]) := upd_same
  generalize upd H12 c3 (.tup [.ref a3, .ref b3]) = H13 at s_c3 e_c3 ⊢
  refine ⟨sz5 (by omega), ?_⟩
  intro i4 n_i4
  have s_i4 : Same H13 (upd H13 i4 (.lst [x])) := same_new n_i4 _
  have e_i4 : upd H13 i4 (.lst [x]) i4 = some (.lst [x]) := upd_same
  generalize upd H13 i4 (.lst [x]) = H14 at s_i4 e_i4 ⊢
  refine ⟨sz5 (by omega), ?_⟩
  intro a4 n_a4
  have s_a4 : Same H14 (upd H14 a4 (.lst [.ref i4])) := same_new n_a4 _
  have e_a4 : upd H14 a4 (.lst [.ref i4]) a4 = some (.lst [.ref i4]) := upd_same
  generalize upd H14 a4 (.lst [.ref i4]) = H15 at s_a4 e_a4 ⊢
  refine ⟨sz5 (by omega), ?_⟩
  intro b4 n_b4
  have s_b4 : Same H15 (upd H15 b4 (.tup [.int 0, .int 0])) := same_new n_b4 _
  have e_b4 : upd H15 b4 (.tup [.int 0, .int 0]) b4 = some (.tup [.int 0, .int 0]) := upd_same
  generalize upd H15 b4 (.tup [.int 0, .int 0]) = H16 at s_b4 e_b4 ⊢
  refine ⟨sz5 (by omega), ?_⟩
  intro c4 n_c4
  have s_c4 : Same H16 (upd H16 c4 (.tup [.ref a4, .ref b4])) := same_new n_c4 _
  have e_c4 : upd H16 c4 (.tup [.ref a4, .ref b4]) c4 = some (.tup [.ref a4, .ref b4]) := upd_same
  generalize upd H16 c4 (.tup [.ref a4, .ref b4]) = H17 at s_c4 e_c4 ⊢
  refine ⟨sz5 (by omega), ?_⟩
  intro l2 n_l2
  have s_l2 : Same H17 (upd H17 l2 (.lst [.ref c3, .ref c4])) := same_new n_l2 _
  have e_l2 : upd H17 l2 (.lst [.ref c3, .ref c4]) l2 = some (.lst [.ref c3, .ref c4]) := upd_same
  generalize upd H17 l2 (.lst [.ref c3, .ref c4]) = H18 at s_l2 e_l2 ⊢
  have t9 : Same H9 H18 := (((((((s_l1.trans s_a3).trans s_b3).trans s_c3).trans s_i4).trans s_a4).trans s_b4).trans s_c4).trans s_l2
  have t10 : Same H10 H18 := (((((((s_a3).trans s_b3).trans s_c3).trans s_i4).trans s_a4).trans s_b4).trans s_c4).trans s_l2
  refine ⟨l1, l2, _, _, rfl, rfl, t10 _ _ e_l1, e_l2, sz5 (by simp), ?_⟩
  intro r n_r
  have s_r : Same H18 (upd H18 r (.lst ([.ref c0, .ref c1, .ref c2] ++ [.ref c3, .ref c4]))) := same_new n_r _
  have e_r : upd H18 r (.lst ([.ref c0, .ref c1, .ref c2] ++ [.ref c3, .ref c4])) r = some (.lst ([.ref c0, .ref c1, .ref c2] ++ [.ref c3, .ref c4])) := upd_same
  generalize upd H18 r (.lst ([.ref c0, .ref c1, .ref c2] ++ [.ref c3, .ref c4])) = H19 at s_r e_r ⊢
  have u18 := s_r
  have u17 := s_l2.trans u18
  have u16 := s_c4.trans u17
  have u15 := s_b4.trans u16
  have u14 := s_a4.trans u15
  have u13 := s_i4.trans u14
  have u12 := s_c3.trans u13
  have u11 := s_b3.trans u12
  have u10 := s_a3.trans u11
  have u9 := s_l1.trans u10
  have u8 := s_c2.trans u9
  have u7 := s_b2.trans u8
  have u6 := s_a2.trans u7
  have u5 := s_c1.trans u6
  have u4 := s_b1.trans u5
  have u3 := s_a1.trans u4
  have u2 := s_c0.trans u3
  have u1 := s_b0.trans u2
  have u0 := s_a0.trans u1
  have hxF := hx.imp u0
  have huF := hu'.imp u0
  refine q r c0 c1 c2 c3 c4 H19 u0 e_r ⟨_, b0, u3 _ _ e_c0, u2 _ _ e_b0, a0, _, rfl, u1 _ _ e_a0, by simp, .cons hxF.up1 .nil⟩ ⟨_, b1, u6 _ _ e_c1, u5 _ _ e_b1, a1, _, rfl, u4 _ _ e_a1, by simp, .cons huF.up1 (.cons hxF.up1 .nil)⟩
    ⟨_, b2, u9 _ _ e_c2, u8 _ _ e_b2, a2, _, rfl, u7 _ _ e_a2, by simp, by simp, .cons ⟨rfl, hxF.up1⟩ .nil⟩ ⟨_, b3, u13 _ _ e_c3, u12 _ _ e_b3, a3, _, rfl, u11 _ _ e_a3, by simp, ?_, .cons ⟨rfl, hxF.up1⟩ (.cons ⟨rfl, huF.up1⟩ .nil)⟩
    ⟨_, b4, u17 _ _ e_c4, u16 _ _ e_b4, a4, _, rfl, u15 _ _ e_a4, by simp, .cons ⟨i4, _, rfl, u14 _ _ e_i4, by simp, .cons hxF .nil⟩ .nil⟩
  simp
  decide +kernel
end
/-! wrapped -/
theorem dep_up {G : Hp} : ∀ {n : Nat} {v : V} {d : PyData}, Re G n v d → dep (n + 1) d = dep n d
  | 0, _, _, r => r.elim
  | n + 1, v, .list ds, ⟨a, xs, _, _, hb, hp⟩ => by
    simp only [dep]
    congr 2
    apply List.map_congr_left
    intro d hd
    obtain ⟨x, _, hx⟩ := pd_memR hp hd
    exact dep_up hx
  | n + 1, v, .dict es, ⟨a, xs, _, _, hb, hn, hp⟩ => by
    simp only [dep]
    congr 2
    apply List.map_congr_left
    intro e he
    obtain ⟨x, _, hx⟩ := pd_memR hp he
    exact dep_up hx.2
  | n + 1, v, .none, _ => rfl
  | n + 1, v, .bool _, _ => rfl
  | n + 1, v, .str x, _ => rfl
  | n + 1, v, .int x, _ => rfl
  | n + 1, v, .tuple _, _ => rfl
theorem mx_ge {l : List Int} {y : Int} (h : y ∈ l) : y ≤ mx l := mx_le (by simp [h])
theorem dep_wrap {G : Hp} {m : Nat} {v u : V} {d e : PyData} (hd : Re G m v d) (he : Re G m u e) (j : Nat) : dep m d < dep (m + 2) (wrJ d e j) := by
  have e1 := dep_up hd
  match j with
  | 0 => simp only [wrJ, dep, List.map_cons, List.map_nil]; have := mx_ge (l := [dep (m + 1) d]) (y := dep (m + 1) d) (by simp); omega
  | 1 => simp only [wrJ, dep, List.map_cons, List.map_nil]; have := mx_ge (l := [dep (m + 1) e, dep (m + 1) d]) (y := dep (m + 1) d) (by simp); omega
  | 2 => simp only [wrJ, dep, List.map_cons, List.map_nil]; have := mx_ge (l := [dep (m + 1) d]) (y := dep (m + 1) d) (by simp); omega
  | 3 => simp only [wrJ, dep, List.map_cons, List.map_nil]; have := mx_ge (l := [dep (m + 1) d, dep (m + 1) e]) (y := dep (m + 1) d) (by simp); omega
  | _ + 4 =>
    simp only [wrJ, dep, List.map_cons, List.map_nil]
    have := mx_ge (l := [dep m d]) (y := dep m d) (by simp)
    have := mx_ge (l := [1 + mx [dep m d]]) (y := 1 + mx [dep m d]) (by simp)
    omega
theorem srt_a : srt [Str.ofString "a"] = [Str.ofString "a"] := by decide +kernel
theorem srt_zb : srt [Str.ofString "z", Str.ofString "b"] = [Str.ofString "b", Str.ofString "z"] := (srt_is (List.Perm.swap _ _ _) (by decide +kernel)).symm
theorem fw_wrap {G : Hp} {m : Nat} {v u : V} {d e : PyData} (hd : Re G m v d) (he : Re G m u e) (h0 : fwN m e = none) (j : Nat) : fwN (m + 2) (wrJ d e j) = (fwN m d).map (rtJ j ++ ·) := by
  have e1 := fw_up hd
  have e2 := fw_up he
  rw [h0] at e2
  have ta : isTextD (.str (Str.ofString "a")) = true := by decide +kernel
  have tb : isTextD (.str (Str.ofString "b")) = true := by decide +kernel
  have tz : isTextD (.str (Str.ofString "z")) = true := by decide +kernel
  have nbz : ¬ Str.ofString "z" = Str.ofString "b" := by decide +kernel
  match j with
  | 0 => simp only [wrJ, fwN, rowsL, List.zipIdx_cons, List.zipIdx_nil, List.map_cons, List.map_nil, fstR, e1, rtJ]; cases fwN m d <;> rfl
  | 1 => simp only [wrJ, fwN, rowsL, List.zipIdx_cons, List.zipIdx_nil, List.map_cons, List.map_nil, fstR, e1, e2, rtJ]; cases fwN m d <;> rfl
  | 2 =>
    simp only [wrJ, fwN, rowsD, keysD, List.map_cons, List.map_nil, strD, List.all_cons, List.all_nil, ta, Bool.and_true, if_true, srt_a, fstR, rtJ]
    rw [show dget [(.str (Str.ofString "a"), d)] (Str.ofString "a") = some d by simp [dget, strD]]
    simp only [Option.getD_some, e1]
    cases fwN m d <;> rfl
  | 3 =>
    simp only [wrJ, fwN, rowsD, keysD, List.map_cons, List.map_nil, strD, List.all_cons, List.all_nil, tz, tb, Bool.and_true, if_true, srt_zb, fstR, rtJ]
    rw [show dget [(.str (Str.ofString "z"), d), (.str (Str.ofString "b"), e)] (Str.ofString "b") = some e by simp [dget, strD, nbz], show dget [(.str (Str.ofString "z"), d), (.str (Str.ofString "b"), e)] (Str.ofString "z") = some d by simp [dget, strD]]
    simp only [Option.getD_some, e1, e2]
    cases fwN m d <;> rfl
  | _ + 4 => simp only [wrJ, fwN, rowsL, List.zipIdx_cons, List.zipIdx_nil, List.map_cons, List.map_nil, fstR, rtJ]; cases fwN m d <;> rfl
theorem dp_wrap {G : Hp} {m : Nat} {v u : V} {d e : PyData} (hd : Re G m v d) (he : Re G m u e) (h0 : fwN m e = none) (j : Nat) : dpN (m + 2) (wrJ d e j) = if 12 < dep (m + 2) (wrJ d e j) then some [] else (dpN m d).map (rtJ j ++ ·) := by
  have h1 := dep_wrap hd he j
  unfold dpN
  by_cases h : 12 < dep (m + 2) (wrJ d e j)
  · rw [if_pos h, if_pos h]
  · rw [if_neg h, if_neg h, if_neg (by omega), fw_wrap hd he h0 j]
theorem small_wrap {G : Hp} {m : Nat} {v u : V} {d e : PyData} (hd : Re G m v d) (he : Re G m u e) (sd : smallD m d) (se : smallD m e) (j : Nat) : smallD (m + 2) (wrJ d e j) := by
  have s1 := small_up sd hd
  have s2 := small_up se he
  have aa : ∀ x : Str, PyData.str (Str.ofString "a") = .str x → x.length ≤ 1000 ∧ AsciiS x := fun x hx => by cases hx; exact ⟨by decide +kernel, by unfold AsciiS; decide +kernel⟩
  have az : ∀ x : Str, PyData.str (Str.ofString "z") = .str x → x.length ≤ 1000 ∧ AsciiS x := fun x hx => by cases hx; exact ⟨by decide +kernel, by unfold AsciiS; decide +kernel⟩
  have ab : ∀ x : Str, PyData.str (Str.ofString "b") = .str x → x.length ≤ 1000 ∧ AsciiS x := fun x hx => by cases hx; exact ⟨by decide +kernel, by unfold AsciiS; decide +kernel⟩
  match j with
  | 0 => intro x hx; simp at hx; subst hx; exact s1
  | 1 =>
    intro x hx; simp at hx
    rcases hx with rfl | rfl
    · exact s2
    · exact s1
  | 2 => exact ⟨by simp, fun x hx => by simp at hx; subst hx; exact ⟨aa, s1⟩⟩
  | 3 =>
    refine ⟨by simp, fun x hx => ?_⟩
    simp at hx
    rcases hx with rfl | rfl
    · exact ⟨az, s1⟩
    · exact ⟨ab, s2⟩
  | _ + 4 =>
    intro x hx; simp at hx; subst hx
    intro y hy; simp at hy; subst hy; exact sd
/-! ### _law_right -/
def sp_right (m : Nat) : Sp := fun vs H Q _ => ∃ x u d e, vs = [x, u] ∧ Re H m x d ∧ Re H m u e ∧ smallD m d ∧ smallD m e ∧ fwN m e = none ∧ m + 2 ≤ 90 ∧ ∀ H', Same H H' → Q (.bl true) H'
section
variable {P : Program} {w : World} {K : PySem.W.Frag} {mg : Str → Option Value} {base : Heap} {f : Addr} {fd : FuncData}
theorem ok_right {m : Nat} (D : Def K mg "_law_right" s_law_right f fd) (B : Blt mg) (hsys : ∃ o, base.get? sysModules = some o) (R_document_problem : ∀ n, n ≤ m + 2 → Rdy P w K mg base (n + 2) "document_problem" ["value"] (sp_dp n)) (R_is_document : Rdy P w K mg base (m + 5) "is_document" ["value"] (sp_isdoc (m + 2)))
    (R_law_inside : Rdy P w K mg base 1 "_law_inside" ["_law_x", "_law_near"] (sp_inside m)) (R_law_deep : Rdy P w K mg base (m + 2) "_law_deep" ["_law_tree_here"] (sp_depth (m + 2))) : FnG P w K mg base (m + 6) f fd ["_law_x", "_law_near"] (sp_right m) := by
  refine okG D.1 sc_law_right (fun vs H Q E h => ?_) (fun cdv A outer s H vs Q E hgd hr h => ?_)
  · obtain ⟨x, u, d, e, rfl, _⟩ := h
    rfl
  obtain ⟨x, u, d, e, rfl, hx, hu', sd, se, h0, h90, q⟩ := h
  have hu := hu_of hr
  have hr1 : Room 1 _ := hr.mono (by omega)
  have hrm : Room (m + 2) _ := hr.mono (by omega)
  have hr4 : Room (m + 2 + 2) _ := hr.mono (by omega)
  have R_dp1 := R_document_problem m (by omega)
  have R_dp2 := R_document_problem (m + 2) (Nat.le_refl _)
  refine ⟨_, (pss_cons (ps_set (i := 2) sc_law_right.nd rfl (by first | exact Or.inl rfl | exact Or.inr rfl) (pe_c R_dp1 hrm rfl (pa_cons (pv 0) pa_nil)))
  (pss_cons (ps_for PassesOwn.never rfl (pi_list (pe_c R_law_inside hr1 rfl (pa_cons (pv 0) (pa_cons (pv 1) pa_nil)))) (pg_tup (by rfl) (pgs_cons (pg_name (i := 3) sc_law_right.nd rfl (by first | exact Or.inl rfl | exact Or.inr rfl)) (pgs_cons (pg_name (i := 4) sc_law_right.nd rfl (by first | exact Or.inl rfl | exact Or.inr rfl)) pgs_nil)))
   (pss_cons (ps_set (i := 5) sc_law_right.nd rfl (by first | exact Or.inl rfl | exact Or.inr rfl) (pe_ifExp (pt_cmpR op_isN (pv 2) pe_non (nomark _)) pe_non (pe_op (op_catAK (K := K) rfl) (pv 4) (pv 2))))
  (pss_cons (ps_if (pt_cmpR op_gt (pe_c R_law_deep hrm rfl (pa_cons (pv 3) pa_nil)) pe_int (nomark _))
   (pss_one (ps_set (i := 5) sc_law_right.nd rfl (by first | exact Or.inl rfl | exact Or.inr rfl) (pe_tup pa_nil)))
   pss_nil)
  (pss_one (ps_if (PW.pt (pw_or (pt_cmpR op_ne (pe_callB (call_repr hgd hsys (Room.u100 hr)) (by rfl) B.b_repr (by decide +kernel) (pa_cons (pe_c R_dp2 hr4 rfl (pa_cons (pv 3) pa_nil)) pa_nil)) (pe_callB (call_repr hgd hsys (Room.u100 hr)) (by rfl) B.b_repr (by decide +kernel) (pa_cons (pv 5) pa_nil)) (nomark _)) (pw_or1 (pt_cmpR op_ne (pe_c R_is_document hr rfl (pa_cons (pv 3) pa_nil)) (pe_cmpR op_isN (pv 5) pe_non (nomark _)) (nomark _)))))
   (pss_one (ps_ret pe_bl))
   pss_nil)))))
  (pss_one (ps_ret pe_bl)))), ?_⟩
  walk_at "rd"
  refine ⟨x, d, rfl, hx, sd, by omega, fun v0 H1 s1 p1 => ⟨x, u, d, e, rfl, hx.imp s1, hu'.imp s1, fun r T0 T1 T2 T3 T4 H2 s2 er i0 i1 i2 i3 i4 => ⟨r, rfl, ⟨_, SqL.of er⟩, ?_⟩⟩⟩
  have hIns : ∀ (j : Nat) (y : V), [V.ref T0, V.ref T1, V.ref T2, V.ref T3, V.ref T4][j]? = some y → ∃ T, y = .ref T ∧ InsAt H2 (m + 2) d e j T := by
    intro j y hy
    match j, hy with
    | 0, hy => cases hy; exact ⟨_, rfl, i0⟩
    | 1, hy => cases hy; exact ⟨_, rfl, i1⟩
    | 2, hy => cases hy; exact ⟨_, rfl, i2⟩
    | 3, hy => cases hy; exact ⟨_, rfl, i3⟩
    | 4, hy => cases hy; exact ⟨_, rfl, i4⟩
    | j + 5, hy => simp at hy
  have hdk : ∀ p, dpN m d = some p → p.length ≤ m ∧ ∀ k ∈ p, leafD (kD k) := fun p hp => by
    unfold dpN at hp
    split at hp
    · cases hp; exact ⟨Nat.zero_le _, by simp⟩
    · exact ⟨fwN_len hp, fwN_ok hx sd hp⟩
  have hrk : ∀ j, (rtJ j).length ≤ 2 ∧ ∀ k ∈ rtJ j, leafD (kD k) := fun j => by
    have la : leafD (.str (Str.ofString "a")) := ⟨by decide +kernel, by unfold AsciiS; decide +kernel⟩
    have lz : leafD (.str (Str.ofString "z")) := ⟨by decide +kernel, by unfold AsciiS; decide +kernel⟩
    match j with
    | 0 => exact ⟨by simp [rtJ], by simp [rtJ, kD, leafD]⟩
    | 1 => exact ⟨by simp [rtJ], by simp [rtJ, kD, leafD]⟩
    | 2 => exact ⟨by simp [rtJ], by simpa [rtJ, kD] using la⟩
    | 3 => exact ⟨by simp [rtJ], by simpa [rtJ, kD] using lz⟩
    | _ + 4 => exact ⟨by simp [rtJ], by simp [rtJ, kD, leafD]⟩
  refine fo_it (walk_list (xs := [V.ref T0, V.ref T1, V.ref T2, V.ref T3, V.ref T4])) (fun _ σ' H' => Same H2 H' ∧ ∃ z3 z4 z5, σ' = [some x, some u, some v0, z3, z4, z5]) ⟨Same.refl _, _, _, _, rfl⟩ (fun _ _ _ _ h => SqL.of (h.1 _ _ er)) ?_ ?_
  · rintro i y σ' H3 H4 hi ⟨s3, z3, z4, z5, rfl⟩ ⟨rfl, hy⟩
    obtain ⟨T, rfl, w0, t, g1, g2, g3⟩ := hIns i y hy
    simp only [gTup, gCons, gNil, gName]
    refine ⟨T, _, rfl, SqT.of (s3 _ _ g1), rfl, _, _, rfl, _, _, rfl, rfl, ?_⟩
    have sA := (s1.trans s2).trans s3
    have p3 : pathV (dpN m d) H4 v0 := (p1.imp s2).imp s3
    have g2' := s3 _ _ g2
    have hrl := (hrk i).1
    refine cutM (fun σ' H' => Same H4 H' ∧ ∃ dv, σ' = [some x, some u, some v0, some w0, some (.ref t), some dv] ∧ pathV ((dpN m d).map (rtJ i ++ ·)) H' dv) (fun N hN => ?_) ?_
    · walk_at "rd"
      cases hp : dpN m d with
      | none =>
        rw [hp] at p3
        cases p3
        exact iteT' rfl (hN _ _ ⟨Same.refl _, _, rfl, by rw [hp]; rfl⟩)
      | some p =>
        rw [hp] at p3
        obtain ⟨t0, rfl, ht0⟩ := p3
        have hpl := (hdk p hp).1
        have hne : (rtJ i).map kV ≠ [] := by
          match i with
          | 0 => simp [rtJ]
          | 1 => simp [rtJ]
          | 2 => simp [rtJ]
          | 3 => simp [rtJ]
          | _ + 4 => simp [rtJ]
        refine iteF' (by simp) ⟨t, t0, _, _, rfl, rfl, SqT.of g2', SqT.of ht0, sz5 (by simp; omega), (fun h => absurd h hne), fun _ hp0 => ?_, fun _ hp0 l nl => ?_⟩
        · refine hN _ _ ⟨Same.refl _, _, rfl, ?_⟩
          rw [hp]
          refine ⟨t, rfl, ?_⟩
          rw [g2', List.map_eq_nil_iff.mp hp0]
          simp
        · refine hN _ _ ⟨same_new nl _, _, rfl, ?_⟩
          rw [hp]
          exact ⟨l, rfl, by rw [upd_same, List.map_append]⟩
    rintro σ' H5 ⟨s5, dv, rfl, pdv⟩
    -- too deep?
    refine cutM (fun σ' H' => Same H4 H' ∧ ∃ dv, σ' = [some x, some u, some v0, some w0, some (.ref t), some dv] ∧ pathV (dpN (m + 2) (wrJ d e i)) H' dv) (fun N hN => ?_) ?_
    · walk_at "rd"
      refine ⟨w0, _, rfl, ((g3.imp s3).imp s5).rp, fun H6 s6 => ?_⟩
      walk_at "rd"
      have hw := dp_wrap hx hu' h0 i
      refine ite2 (fun h => ⟨Nat.zero_le _, fun l nl => hN _ _ ⟨(s5.trans s6).trans (same_new nl _), _, rfl, ?_⟩⟩) fun h => hN _ _ ⟨s5.trans s6, dv, rfl, ?_⟩
      · rw [hw, if_pos h]; exact ⟨l, rfl, upd_same⟩
      · rw [hw, if_neg h]; exact pdv.imp s6
    rintro σ' H6 ⟨s6, dv2, rfl, pd2⟩
    have gw := (g3.imp s3).imp s6
    have smw := small_wrap hx hu' sd se i
    have hdk2 : ∀ p, dpN (m + 2) (wrJ d e i) = some p → p.length ≤ 1000 ∧ ∀ k ∈ p, leafD (kD k) := fun p hp => by
      unfold dpN at hp
      split at hp
      · cases hp; exact ⟨Nat.zero_le _, by simp⟩
      · have := fwN_len hp
        exact ⟨by omega, fwN_ok gw smw hp⟩
    walk_at "rd"
    refine ⟨w0, _, rfl, gw, smw, by omega, fun v7 H7 s7 p7 => ?_⟩
    refine repr_path p7 hdk2 (repr_path (pd2.imp s7) hdk2 ⟨rfl, ?_⟩)
    refine iteF' (by simp) ⟨w0, _, rfl, gw.imp s7, smw, by omega, fun H8 s8 => ?_⟩
    have hb : decide (dpN (m + 2) (wrJ d e i) = none) = decide (dv2 = V.non) := by
      cases hq : dpN (m + 2) (wrJ d e i) with
      | none => rw [hq] at pd2; cases pd2; simp
      | some p => rw [hq] at pd2; obtain ⟨t9, rfl, _⟩ := pd2; simp
    rw [hb]
    exact ⟨rfl, iteF' (by simp) (((s3.trans s6).trans s7).trans s8)⟩
  · rintro σ' H3 ⟨s3, z3, z4, z5, rfl⟩
    exact q _ ((s1.trans s2).trans s3)
end
/-! drawn documents wrapped -/
theorem small_doc : ∀ {n : Nat} {d : PyData}, docD n d → smallD n d
  | 0, _, h => h.elim
  | n + 1, .list ds, h => fun d hd => small_doc (h.2 d hd)
  | n + 1, .dict es, h => ⟨Nat.le_trans h.1 (by decide), fun e he => ⟨fun x hx => by
      obtain ⟨⟨y, hy, hn⟩, _⟩ := h.2 e he
      rw [hy] at hx; cases hx
      exact ⟨Nat.le_trans hn.1 (by decide), hn.2⟩, small_doc (h.2 e he).2⟩⟩
  | n + 1, .none, _ => trivial
  | n + 1, .bool _, _ => trivial
  | n + 1, .int _, _ => trivial
  | n + 1, .str x, h => Nat.le_trans h.1 (by decide)
  | n + 1, .tuple _, h => h.elim
theorem fw_doc : ∀ {n : Nat} {d : PyData}, docD n d → fwN n d = none
  | 0, _, h => h.elim
  | n + 1, .list ds, h => fstR_none fun q hq => by
    simp only [rowsL, List.mem_map] at hq
    obtain ⟨p, hp, rfl⟩ := hq
    exact fw_doc (h.2 _ (List.fst_mem_of_mem_zipIdx hp))
  | n + 1, .dict es, h => by
    have ht : (es.all fun e => isTextD e.1) = true := by
      rw [List.all_eq_true]
      intro e he
      obtain ⟨⟨y, hy, hn⟩, _⟩ := h.2 e he
      rw [hy]; simp [isTextD, hn.1]
    rw [fwN, if_pos ht]
    refine fstR_none fun q hq => ?_
    simp only [rowsD, List.mem_map] at hq
    obtain ⟨x, _, rfl⟩ := hq
    cases hd : dget es x with
    | none => cases n <;> rfl
    | some d =>
      obtain ⟨e, he, rfl, _⟩ := dget_mem hd
      exact fw_doc (h.2 e he).2
  | n + 1, .none, _ => rfl
  | n + 1, .bool _, _ => rfl
  | n + 1, .int i, h => if_pos h
  | n + 1, .str x, h => if_pos h.1
  | n + 1, .tuple _, h => h.elim
theorem same_refl : ∀ {n : Nat} {d : PyData}, docD n d → ndD n d → sameN n d d = true
  | 0, _, h, _ => h.elim
  | n + 1, .list ds, h, g => by
    simp only [sameN, List.zipWith_self, Bool.and_eq_true, decide_true, List.all_eq_true, List.mem_map, true_and]
    rintro _ ⟨d, hd, rfl⟩
    exact same_refl (h.2 d hd) (g d hd)
  | n + 1, .dict es, h, g => by
    simp only [sameN, Bool.and_eq_true, decide_true, List.all_eq_true, List.mem_map, true_and]
    rintro _ ⟨e, he, rfl⟩
    rw [dget_nd g.1 he]
    exact same_refl (h.2 e he).2 (g.2 e he)
  | n + 1, .none, h, _ => sameL_refl h
  | n + 1, .bool _, h, _ => sameL_refl h
  | n + 1, .int i, h, _ => sameL_refl h
  | n + 1, .str x, h, _ => sameL_refl h
  | n + 1, .tuple _, h, _ => h.elim
theorem doc_wrap {m : Nat} {d e : PyData} (hd : docD m d) (he : docD m e) (j : Nat) : docD (m + 2) (wrJ d e j) := by
  have oa : NameOk (Str.ofString "a") := ⟨by decide +kernel, by unfold AsciiS; decide +kernel⟩
  have oz : NameOk (Str.ofString "z") := ⟨by decide +kernel, by unfold AsciiS; decide +kernel⟩
  have ob : NameOk (Str.ofString "b") := ⟨by decide +kernel, by unfold AsciiS; decide +kernel⟩
  match j with
  | 0 => exact ⟨by simp, fun x hx => by simp at hx; subst hx; exact hd.up1⟩
  | 1 => exact ⟨by simp, fun x hx => by
      simp at hx
      rcases hx with rfl | rfl
      · exact he.up1
      · exact hd.up1⟩
  | 2 => exact ⟨by simp, fun x hx => by simp at hx; subst hx; exact ⟨⟨_, rfl, oa⟩, hd.up1⟩⟩
  | 3 => exact ⟨by simp, fun x hx => by
      simp at hx
      rcases hx with rfl | rfl
      · exact ⟨⟨_, rfl, oz⟩, hd.up1⟩
      · exact ⟨⟨_, rfl, ob⟩, he.up1⟩⟩
  | _ + 4 => exact ⟨by simp, fun x hx => by simp at hx; subst hx; exact ⟨by simp, fun y hy => by simp at hy; subst hy; exact hd⟩⟩
theorem same_wrap {m : Nat} {d d' e : PyData} (hd : docD m d) (hd' : docD m d') (he : docD m e) (hn : ndD m e) (j : Nat) : sameN (m + 2) (wrJ d e j) (wrJ d' e j) = sameN m d d' := by
  have e1 := sameN_up hd hd' (Nat.le_refl _) 1
  have e2 : sameN (m + 1) e e = true := by rw [sameN_up he he (Nat.le_refl _) 1]; exact same_refl he hn
  have nbz : ¬ Str.ofString "z" = Str.ofString "b" := by decide +kernel
  match j with
  | 0 => simp [wrJ, sameN, e1]
  | 1 => simp [wrJ, sameN, e1, e2]
  | 2 => simp [wrJ, sameN, e1, dget, strD, optB, keysD]
  | 3 => simp [wrJ, sameN, e1, e2, dget, strD, optB, nbz, keysD]
  | _ + 4 => simp [wrJ, sameN]
theorem dep_pos : ∀ (n : Nat) (d : PyData), 1 ≤ dep n d
  | 0, _ => Int.le_refl _
  | n + 1, .list ds => by have := mx_le (l := ds.map (dep n)) (y := 0) (by simp); simp only [dep]; omega
  | n + 1, .dict es => by have := mx_le (l := es.map fun e => dep n e.2) (y := 0) (by simp); simp only [dep]; omega
  | n + 1, .none => Int.le_refl _
  | n + 1, .bool _ => Int.le_refl _
  | n + 1, .int _ => Int.le_refl _
  | n + 1, .str _ => Int.le_refl _
  | n + 1, .tuple _ => Int.le_refl _
theorem mx_one {x : Int} (h : 1 ≤ x) : mx [x] = x := by simp [mx]; omega
theorem dep_two {G : Hp} {m : Nat} {v : V} {d e : PyData} (hd : Re G m v d) (j : Nat) (hj : j = 0 ∨ j = 2 ∨ j = 4) : dep (m + 2) (wrJ d e j) = ((rtJ j).length : Int) + dep (m + 2) d := by
  have e1 := dep_up hd
  have e2 := dep_up hd.up1
  have h1 := dep_pos m d
  rw [e2, e1]
  rcases hj with rfl | rfl | rfl
  · simp only [wrJ, dep, List.map_cons, List.map_nil, e1, mx_one h1, rtJ]; rfl
  · simp only [wrJ, dep, List.map_cons, List.map_nil, e1, mx_one h1, rtJ]; rfl
  · simp only [wrJ, dep, List.map_cons, List.map_nil, mx_one h1, rtJ]
    rw [mx_one (by omega)]
    simp; omega
theorem kind_wrap (d e : PyData) (j : Nat) : kindD (wrJ d e j) = Str.ofString "array" ∨ kindD (wrJ d e j) = Str.ofString "object" := by
  match j with
  | 0 => exact .inl rfl
  | 1 => exact .inl rfl
  | 2 => exact .inr rfl
  | 3 => exact .inr rfl
  | _ + 4 => exact .inl rfl
theorem tree_past {p lf : Addr} {H H' : Hp} {o : HO} {n : Nat} {v : V} {d : PyData} (r : Re (gone [p] H) n v d) (hlf : H lf = none) (k : Keep [p, lf] (upd H lf o) H') : Re (gone [p] H') n v d := by
  have s1 : Same (gone [p] H) (gone [lf, p] (upd H lf o)) := gone_new hlf
  have s2 : Same (gone [lf, p] (upd H lf o)) (gone [lf, p] H') := gone_keep (k.sub (by simp))
  have s3 : Same (gone [lf, p] H') (gone [p] H') := gone_less (by simp)
  exact r.imp ((s1.trans s2).trans s3)
theorem dep_le : ∀ (n : Nat) (d : PyData), dep n d ≤ (n : Int) + 1
  | 0, _ => by simp [dep]
  | n + 1, .list ds => by
    have hm := mx_mem (ds.map (dep n))
    simp only [List.mem_cons, List.mem_map] at hm
    simp only [dep]
    rcases hm with h | ⟨d, _, h⟩
    · omega
    · have := dep_le n d; omega
  | n + 1, .dict es => by
    have hm := mx_mem (es.map fun e => dep n e.2)
    simp only [List.mem_cons, List.mem_map] at hm
    simp only [dep]
    rcases hm with h | ⟨e, _, h⟩
    · omega
    · have := dep_le n e.2; omega
  | n + 1, .none => by simp [dep]; omega
  | n + 1, .bool _ => by simp [dep]; omega
  | n + 1, .int _ => by simp [dep]; omega
  | n + 1, .str _ => by simp [dep]; omega
  | n + 1, .tuple _ => by simp [dep]; omega
theorem ins_at {H : Hp} {M : Nat} {d e : PyData} {T0 T1 T2 T3 T4 : Addr} (i0 : InsAt H M d e 0 T0) (i1 : InsAt H M d e 1 T1) (i2 : InsAt H M d e 2 T2) (i3 : InsAt H M d e 3 T3) (i4 : InsAt H M d e 4 T4) (j : Nat) (y : V)
    (hy : [V.ref T0, V.ref T1, V.ref T2, V.ref T3, V.ref T4][j]? = some y) : ∃ T, y = .ref T ∧ InsAt H M d e j T := by
  match j, hy with
  | 0, hy => cases hy; exact ⟨_, rfl, i0⟩
  | 1, hy => cases hy; exact ⟨_, rfl, i1⟩
  | 2, hy => cases hy; exact ⟨_, rfl, i2⟩
  | 3, hy => cases hy; exact ⟨_, rfl, i3⟩
  | 4, hy => cases hy; exact ⟨_, rfl, i4⟩
  | j + 5, hy => simp at hy
theorem InsAt.imp {H H' : Hp} {M : Nat} {d e : PyData} {j : Nat} {T : Addr} (h : InsAt H M d e j T) (s : Same H H') : InsAt H' M d e j T := by
  obtain ⟨w, t, a, b, c⟩ := h
  exact ⟨w, t, s _ _ a, s _ _ b, c.imp s⟩
theorem small_to {G : Hp} {n m : Nat} {v : V} {d : PyData} (r : Re G n v d) (h : smallD n d) (hl : n ≤ m) : smallD m d := by
  induction hl with
  | refl => exact h
  | step hl ih => exact small_up ih (r.up hl)

/-! ### law -/
def sp_law (K : PySem.W.Frag) : Sp := fun vs H Q _ => ∃ a ns, vs = [.ref a] ∧ Scr K H a ns ∧ ns.length ≤ 63 ∧ ∀ H', Q (.bl true) H'
section
variable {P : Program} {w : World} {K : PySem.W.Frag} {mg : Str → Option Value} {base : Heap} {f : Addr} {fd : FuncData}
theorem ok_law (D : Def K mg "law" s_law f fd) (B : Blt mg) (R_law_cell : Rdy P w K mg base 1 "_law_cell" ["_law_cells", "_law_spot"] (sp_cell K)) (R_law_tree : Rdy P w K mg base 11 "_law_tree" ["_law_cells", "_law_spot", "_law_deep_here", "_law_left"] (sp_tree K 10))
    (R_law_odd : Rdy P w K mg base 11 "_law_odd" ["_law_tree_here", "_law_n"] (sp_odd 10)) (R_law_deep : Rdy P w K mg base 30 "_law_deep" ["_law_tree_here"] (sp_depth 30)) (R_law_right : RdyG P w K mg base 36 "_law_right" ["_law_x", "_law_near"] (sp_right 30))
    (R_law_inside : Rdy P w K mg base 1 "_law_inside" ["_law_x", "_law_near"] (sp_inside 30)) (R_depth_of : Rdy P w K mg base 33 "depth_of" ["document"] (sp_depth 32)) (R_kind_of : Rdy P w K mg base 1 "kind_of" ["document"] sp_kind) (R_same : Rdy P w K mg base 33 "same" ["one", "other"] (sp_same 32)) : FnG P w K mg base 37 f fd ["_law_script"] (sp_law K) := by
  refine okG D.1 sc_law (fun vs H Q E h => ?_) (fun cdv A outer s H vs Q E hgd hr h => ?_)
  · obtain ⟨a, ns, rfl, _⟩ := h
    rfl
  obtain ⟨a, ns, rfl, hs, h63, q⟩ := h
  have hu := hu_of hr
  have hr1 : Room 1 _ := hr.mono (by omega)
  have hr11 : Room 11 _ := hr.mono (by omega)
  have hr30 : Room 30 _ := hr.mono (by omega)
  have hr33 : Room 33 _ := hr.mono (by omega)
  refine ⟨_, (pss_cons (ps_set (i := 1) sc_law.nd rfl (by first | exact Or.inl rfl | exact Or.inr rfl) (pe_lst (pa_cons pe_int pa_nil)))
  (pss_cons (ps_for PassesOwn.never rfl (pi_range1 (by rfl) B.b_range (pa_cons (pe_op op_add pe_int (pe_callB (call_min2 rfl) (by rfl) B.b_min (by decide +kernel) (pa_cons pe_int (pa_cons (pe_callB (lenK (K := K) rfl) (by rfl) B.b_len (by decide +kernel) (pa_cons (pv 0) pa_nil)) pa_nil)))) pa_nil)) (pg_name (i := 2) sc_law.nd rfl (by first | exact Or.inl rfl | exact Or.inr rfl))
   (pss_cons (ps_par (i := 3) (j := 4) (by rfl) sc_law.nd rfl rfl (by decide) rfl rfl (pa_cons (pe_c R_law_cell hr1 rfl (pa_cons (pv 0) (pa_cons (pv 1) pa_nil))) (pa_cons (pe_c R_law_cell hr1 rfl (pa_cons (pv 0) (pa_cons (pv 1) pa_nil))) pa_nil)) (by rfl))
  (pss_cons (ps_set (i := 5) sc_law.nd rfl (by first | exact Or.inl rfl | exact Or.inr rfl) (pe_c R_law_tree hr11 rfl (pa_cons (pv 0) (pa_cons (pv 1) (pa_cons (pe_op op_add pe_int (pe_op op_mod (pv 3) pe_int)) (pa_cons (pe_lst (pa_cons pe_int pa_nil)) pa_nil))))))
  (pss_cons (ps_par (i := 6) (j := 7) (by rfl) sc_law.nd rfl rfl (by decide) rfl rfl (pa_cons (pe_c R_law_tree hr11 rfl (pa_cons (pv 0) (pa_cons (pv 1) (pa_cons pe_int (pa_cons (pe_lst (pa_cons pe_int pa_nil)) pa_nil))))) (pa_cons (pe_c R_law_tree hr11 rfl (pa_cons (pv 0) (pa_cons (pv 1) (pa_cons pe_int (pa_cons (pe_lst (pa_cons pe_int pa_nil)) pa_nil))))) pa_nil)) (by rfl))
  (pss_cons (ps_set (i := 8) sc_law.nd rfl (by first | exact Or.inl rfl | exact Or.inr rfl) (pe_c R_law_odd hr11 rfl (pa_cons (pv 5) (pa_cons (pv 4) pa_nil))))
  (pss_cons (ps_for PassesOwn.never rfl (pi_range1 (by rfl) B.b_range (pa_cons (pe_op op_sub (pe_op op_add pe_int (pe_op op_mod (pv 3) pe_int)) (pe_c R_law_deep hr30 rfl (pa_cons (pv 8) pa_nil))) pa_nil)) (pg_name (i := 9) sc_law.nd rfl (by first | exact Or.inl rfl | exact Or.inr rfl))
   (pss_one (ps_set (i := 8) sc_law.nd rfl (by first | exact Or.inl rfl | exact Or.inr rfl) (pe_lst (pa_cons (pv 8) pa_nil)))))
  (pss_cons (ps_for PassesOwn.never rfl (pi_tup (pe_tup (pa_cons (pv 5) (pa_cons (pe_c R_law_odd hr11 rfl (pa_cons (pv 5) (pa_cons (pv 4) pa_nil))) (pa_cons (pv 8) pa_nil))))) (pg_name (i := 10) sc_law.nd rfl (by first | exact Or.inl rfl | exact Or.inr rfl))
   (pss_one (ps_if (pt_not (pt_val (pe_cg R_law_right hgd hr rfl (pa_cons (pv 10) (pa_cons (pv 6) pa_nil)))))
   (pss_one (ps_ret pe_bl))
   pss_nil)))
  (pss_cons (ps_for PassesOwn.never rfl (pi_list (pe_two5 (K := K) rfl (pe_c R_law_inside hr1 rfl (pa_cons (pv 5) (pa_cons (pv 6) pa_nil))))) (pg_tup (by rfl) (pgs_cons (pg_name (i := 10) sc_law.nd rfl (by first | exact Or.inl rfl | exact Or.inr rfl)) (pgs_cons (pg_name (i := 11) sc_law.nd rfl (by first | exact Or.inl rfl | exact Or.inr rfl)) pgs_nil)))
   (pss_one (ps_if (PW.pt (pw_or (pt_cmpR op_ne (pe_c R_depth_of hr33 rfl (pa_cons (pv 10) pa_nil)) (pe_op op_add (pe_callB (lenK (K := K) rfl) (by rfl) B.b_len (by decide +kernel) (pa_cons (pv 11) pa_nil)) (pe_c R_depth_of hr33 rfl (pa_cons (pv 5) pa_nil))) (nomark _)) (pw_or1 (pt_cmpR (notInK (K := K) rfl) (pe_c R_kind_of hr1 rfl (pa_cons (pv 10) pa_nil)) (pe_tup (pa_cons pe_str (pa_cons pe_str pa_nil))) rfl))))
   (pss_one (ps_ret pe_bl))
   pss_nil)))
  (pss_one (ps_for PassesOwn.never rfl (pi_tup (pe_tup (pa_cons (pv 5) (pa_cons (pv 6) (pa_cons (pv 7) pa_nil))))) (pg_name (i := 12) sc_law.nd rfl (by first | exact Or.inl rfl | exact Or.inr rfl))
   (pss_one (ps_for PassesOwn.never rfl (pi_tup (pe_tup (pa_cons (pv 5) (pa_cons (pv 6) (pa_cons (pv 7) pa_nil))))) (pg_name (i := 13) sc_law.nd rfl (by first | exact Or.inl rfl | exact Or.inr rfl))
   (pss_cons (ps_set (i := 14) sc_law.nd rfl (by first | exact Or.inl rfl | exact Or.inr rfl) (pe_c R_same hr33 rfl (pa_cons (pv 12) (pa_cons (pv 13) pa_nil))))
  (pss_one (ps_for PassesOwn.never rfl (pi_zip (by rfl) B.b_zip (pa_cons (pe_c R_law_inside hr1 rfl (pa_cons (pv 12) (pa_cons (pv 6) pa_nil))) (pa_cons (pe_c R_law_inside hr1 rfl (pa_cons (pv 13) (pa_cons (pv 6) pa_nil))) pa_nil))) (pg_tup (by rfl) (pgs_cons (pg_name (i := 15) sc_law.nd rfl (by first | exact Or.inl rfl | exact Or.inr rfl)) (pgs_cons (pg_name (i := 16) sc_law.nd rfl (by first | exact Or.inl rfl | exact Or.inr rfl)) pgs_nil)))
   (pss_one (ps_if (pt_cmpR op_ne (pe_c R_same hr33 rfl (pa_cons (pe_ix (ixTK (K := K) rfl) (pv 15) pe_int (fun _ _ => rfl)) (pa_cons (pe_ix (ixTK (K := K) rfl) (pv 16) pe_int (fun _ _ => rfl)) pa_nil))) (pv 14) (nomark _))
   (pss_one (ps_ret pe_bl))
   pss_nil)))))))))))))))))
  (pss_one (ps_ret pe_bl)))), ?_⟩
  walk_at "rd"
  have hs0 : ∀ (p : Addr), H p = none → Scr K (upd H p (HO.lst [V.int 0])) a ns := fun p np => hs.same (same_new np _)
  refine ⟨sz5 (by omega), fun p np => ⟨_, .inl ⟨_, (hs0 p np).sq, rfl⟩, ?_⟩⟩
  rw [List.length_map]
  have hmin : (0 : Int) ≤ (if (ns.length : Int) < 8 then (ns.length : Int) else 8) ∧ (if (ns.length : Int) < 8 then (ns.length : Int) else 8) ≤ 8 := by split <;> omega
  generalize (if (ns.length : Int) < 8 then (ns.length : Int) else 8) = mm at hmin ⊢
  refine ⟨by omega, by omega, ?_⟩
  obtain ⟨t, ht⟩ : ∃ t : Nat, (2 + mm).toNat = t := ⟨_, rfl⟩
  rw [ht]
  have ht2 : t ≤ 10 := by omega
  refine fo_it walk_range (fun i σ' H' => ∃ (k : Int) (v2 v3 v4 v5 v6 v7 v8 v9 v10 v11 v12 v13 v14 v15 v16 : Option V), σ' = [some (V.ref a), some (V.ref p), v2, v3, v4, v5, v6, v7, v8, v9, v10, v11, v12, v13, v14, v15, v16] ∧ Scr K H' a ns ∧ H' p = some (.lst [.int k]) ∧ 0 ≤ k ∧ k ≤ 30000000 * i)
    ⟨0, none, none, none, none, none, none, none, none, none, none, none, none, none, none, none, rfl, hs0 p np, upd_same, by omega, by omega⟩ (fun _ _ _ _ _ => trivial) ?_ ?_
  · rintro i y σ' H1 H2 hi ⟨k, v2, v3, v4, v5, v6, v7, v8, v9, v10, v11, v12, v13, v14, v15, v16, rfl, hs1, hp, k0, k1⟩ ⟨rfl, rfl⟩
    -- two cells
    refine cutM (fun σ' H' => ∃ n m : Int, 0 ≤ n ∧ 0 ≤ m ∧ σ' = [some (V.ref a), some (V.ref p), some (.int (0 + i)), some (.int n), some (.int m), v5, v6, v7, v8, v9, v10, v11, v12, v13, v14, v15, v16] ∧ Scr K H' a ns ∧ H' p = some (.lst [.int (k + 2)])) (fun N hN => ?_) ?_
    · walk_at "rd"
      refine ⟨a, p, ns, k, rfl, hs1, h63, hp, k0, by omega, fun n n0 n1 => ?_⟩
      refine ⟨a, p, ns, k + 1, rfl, hs1.put hp, h63, upd_same, by omega, by omega, fun m m0 m1 => ?_⟩
      exact hN _ _ ⟨n, m, n0, m0, rfl, (hs1.put hp).put upd_same, by rw [upd_same]; congr 4; omega⟩
    rintro σ' H3 ⟨n, m, n0, m0, rfl, hs3, hp3⟩
    have m10 := mod_in n (m := 10) (by decide)
    have m2 := mod_in n (m := 2) (by decide)
    -- the document
    refine cutM (fun σ' H' => ∃ v d k', σ' = [some (V.ref a), some (V.ref p), some (.int (0 + i)), some (.int n), some (.int m), some v, v6, v7, v8, v9, v10, v11, v12, v13, v14, v15, v16] ∧ Scr K H' a ns ∧ H' p = some (.lst [.int k']) ∧ 0 ≤ k' ∧ k' ≤ 30000000 * i + 9765630 ∧ Re (gone [p] H') 10 v d ∧ docD 10 d) (fun N hN => ?_) ?_
    · walk_at "rd"
      refine ⟨by decide, sz5 (by omega), fun lf nlf => ?_⟩
      have npl : p ≠ lf := ne_of_none hp3 nlf
      have hp4 : upd H3 lf (.lst [.int 25]) p = some (.lst [.int (k + 2)]) := by rw [upd_ne npl]; exact hp3
      refine ⟨a, p, lf, ns, k + 2, 25, 1 + n % 10, rfl, hs3.same (same_new nlf _), h63, hp4, by omega, by omega, upd_same, npl, by omega, by omega, fun v d H4 k4 z4 K4 e1 l1 l2 e2 c1 c2 r4 d4 => ?_⟩
      have hS : ∀ b ∈ [p, lf], upd H3 lf (.lst [.int 25]) b ≠ none := by simp [hp4, upd_same]
      refine hN _ _ ⟨v, d, k4, rfl, (hs3.same (same_new nlf _)).keep K4 (by simp [hp4, upd_same]), e1, by omega, by omega, r4.imp ((news_gone hS).trans (gone_less (by simp))), d4⟩
    rintro σ' H4 ⟨v, d, k4, rfl, hs4, hp4, k40, k41, rv, dv⟩
    -- near and far
    refine cutM (fun σ' H' => ∃ vn dn vf df k', σ' = [some (V.ref a), some (V.ref p), some (.int (0 + i)), some (.int n), some (.int m), some v, some vn, some vf, v8, v9, v10, v11, v12, v13, v14, v15, v16] ∧ Scr K H' a ns ∧ H' p = some (.lst [.int k']) ∧ 0 ≤ k' ∧ k' ≤ 30000000 * i + 30000000 ∧ Re (gone [p] H') 10 v d ∧ Re (gone [p] H') 10 vn dn ∧ docD 10 dn ∧ Re (gone [p] H') 10 vf df ∧ docD 10 df) (fun N hN => ?_) ?_
    · walk_at "rd"
      refine ⟨sz5 (by omega), fun lf nlf => ?_⟩
      have npl : p ≠ lf := ne_of_none hp4 nlf
      have hp5 : upd H4 lf (.lst [.int 6]) p = some (.lst [.int k4]) := by rw [upd_ne npl]; exact hp4
      refine ⟨a, p, lf, ns, k4, 6, 3, rfl, hs4.same (same_new nlf _), h63, hp5, by omega, by omega, upd_same, npl, by omega, by omega, fun vn dn H5 k5 z5 K5 e1 l1 l2 e2 c1 c2 r5 d5 => ⟨sz5 (by omega), fun lf2 nlf2 => ?_⟩⟩
      have hS : ∀ b ∈ [p, lf], upd H4 lf (.lst [.int 6]) b ≠ none := by simp [hp5, upd_same]
      have hs5 := (hs4.same (same_new nlf (.lst [.int 6]))).keep K5 (by simp [hp5, upd_same])
      have npl2 : p ≠ lf2 := ne_of_none e1 nlf2
      have hp6 : upd H5 lf2 (.lst [.int 4]) p = some (.lst [.int k5]) := by rw [upd_ne npl2]; exact e1
      refine ⟨a, p, lf2, ns, k5, 4, 2, rfl, hs5.same (same_new nlf2 _), h63, hp6, by omega, by omega, upd_same, npl2, by omega, by omega, fun vf df H6 k6 z6 K6 f1 g1 g2 f2 c3 c4 r6 d6 => ?_⟩
      have hS2 : ∀ b ∈ [p, lf2], upd H5 lf2 (.lst [.int 4]) b ≠ none := by simp [hp6, upd_same]
      refine hN _ _ ⟨vn, dn, vf, df, k6, rfl, (hs5.same (same_new nlf2 _)).keep K6 (by simp [hp6, upd_same]), f1, by omega, by omega, tree_past (tree_past rv nlf K5) nlf2 K6, tree_past (r5.imp ((news_gone hS).trans (gone_less (by simp)))) nlf2 K6, d5, r6.imp ((news_gone hS2).trans (gone_less (by simp))), d6⟩
    rintro σ' H5 ⟨vn, dn, vf, df, k5, rfl, hs5, hp5, k50, k51, rv, rn, dn', rf, df'⟩
    have h5 : ∀ b ∈ [p], H5 b ≠ none := by simp [hp5]
    -- one part no document
    refine cutM (fun σ' H' => ∃ u8 d8, σ' = [some (V.ref a), some (V.ref p), some (.int (0 + i)), some (.int n), some (.int m), some v, some vn, some vf, some u8, v9, v10, v11, v12, v13, v14, v15, v16] ∧ Same H5 H' ∧ Re (gone [p] H') 11 u8 d8 ∧ smallD 11 d8) (fun N hN => ?_) ?_
    · walk_at "rd"
      exact ⟨v, d, m, [p], rfl, m0, h5, rv, small_doc dv, fun v' d' H6 s6 r6 sm6 => hN _ _ ⟨v', d', rfl, s6, r6, sm6⟩⟩
    rintro σ' H6 ⟨u8, d8, rfl, s6, r8, sm8⟩
    -- wrapped
    refine cutM (fun σ' H' => ∃ u8 d8 v9, σ' = [some (V.ref a), some (V.ref p), some (.int (0 + i)), some (.int n), some (.int m), some v, some vn, some vf, some u8, v9, v10, v11, v12, v13, v14, v15, v16] ∧ Same H5 H' ∧ Re H' 30 u8 d8 ∧ smallD 30 d8) (fun N hN => ?_) ?_
    · walk_at "rd"
      refine ⟨by decide, u8, d8, rfl, (r8.imp (gone_sub _ _)).rp.up (by omega), fun H7 s7 => ?_⟩
      have b1 := dep_pos 30 d8
      have b2 := dep_le 30 d8
      walk_at "rd"
      refine ⟨by omega, by omega, ?_⟩
      obtain ⟨t8, ht8⟩ : ∃ t : Nat, (11 + n % 2 - dep 30 d8).toNat = t := ⟨_, rfl⟩
      rw [ht8]
      have ht9 : t8 ≤ 11 := by omega
      refine fo_it walk_range (fun i8 σ' H' => ∃ u8 d8 v9, σ' = [some (V.ref a), some (V.ref p), some (.int (0 + i)), some (.int n), some (.int m), some v, some vn, some vf, some u8, v9, v10, v11, v12, v13, v14, v15, v16] ∧ Same H5 H' ∧ Re H' (11 + i8) u8 d8 ∧ smallD (11 + i8) d8) ⟨u8, d8, v9, rfl, s6.trans s7, (r8.imp (gone_sub _ _)).imp s7, sm8⟩ (fun _ _ _ _ _ => trivial) ?_ ?_
      · rintro i8 y8 σ' H8 H9 hi8 ⟨u9, d9, v9, rfl, s9, r9, sm9⟩ ⟨rfl, rfl⟩
        walk_at "rd"
        refine ⟨sz5 (by omega), fun l nl => ⟨s9.trans (same_new nl _), .list [d9], ⟨l, _, rfl, upd_same, by simp, .cons (r9.imp (same_new nl _)) .nil⟩, ?_⟩⟩
        intro x hx
        simp at hx
        subst hx
        exact sm9
      · rintro σ' H8 ⟨u9, d9, v9, rfl, s9, r9, sm9⟩
        exact hN _ _ ⟨u9, d9, v9, rfl, s9, r9.up (by omega), small_to r9 sm9 (by omega)⟩
    rintro σ' H7 ⟨u9, d9, v9, rfl, s7, r9, sm9⟩
    have hv30 : Re H5 30 v d := (rv.imp (gone_sub _ _)).up (by omega)
    have hn30 : Re H5 30 vn dn := (rn.imp (gone_sub _ _)).up (by omega)
    have hf30 : Re H5 30 vf df := (rf.imp (gone_sub _ _)).up (by omega)
    have fn0 : fwN 30 dn = none := fw_doc (dn'.up (by omega))
    have sv30 : smallD 30 d := small_doc (dv.up (by omega))
    have sn30 : smallD 30 dn := small_doc (dn'.up (by omega))
    clear r8 sm8
    -- right
    refine cutM (fun σ' H' => ∃ v10, σ' = [some (V.ref a), some (V.ref p), some (.int (0 + i)), some (.int n), some (.int m), some v, some vn, some vf, some u9, v9, v10, v11, v12, v13, v14, v15, v16] ∧ Same H5 H') (fun N hN => ?_) ?_
    · walk_at "rd"
      refine ⟨v, d, m, [p], rfl, m0, here_same h5 s7, rv.imp (gone_same s7), small_doc dv, fun w2 dw H8 s8 r8 sm8 => ⟨sz5 (by omega), fun tp ntp => ⟨⟨_, SqT.of upd_same⟩, ?_⟩⟩⟩
      have s9 := (s7.trans s8).trans (same_new ntp (.tup [v, w2, u9]))
      have hx3 : ∀ (j : Nat) (x : V), [v, w2, u9][j]? = some x → ∃ dx, Re (upd H8 tp (.tup [v, w2, u9])) 30 x dx ∧ smallD 30 dx := fun j x hx => by
        match j, hx with
        | 0, hx => cases hx; exact ⟨d, hv30.imp s9, sv30⟩
        | 1, hx =>
          cases hx
          have r8' := (r8.imp (gone_sub _ _)).imp (same_new ntp (.tup [v, w2, u9]))
          exact ⟨dw, r8'.up (by omega), small_to r8' sm8 (by omega)⟩
        | 2, hx => cases hx; exact ⟨d9, r9.imp (s8.trans (same_new ntp _)), sm9⟩
        | j + 3, hx => simp at hx
      refine fo_it (walk_tup (xs := [v, w2, u9])) (fun _ σ' H' => ∃ v10, σ' = [some (V.ref a), some (V.ref p), some (.int (0 + i)), some (.int n), some (.int m), some v, some vn, some vf, some u9, v9, v10, v11, v12, v13, v14, v15, v16] ∧ Same (upd H8 tp (.tup [v, w2, u9])) H') ⟨_, rfl, Same.refl _⟩ (fun _ _ _ _ ⟨_, _, h⟩ => SqT.of (h _ _ upd_same)) ?_ (fun σ' H' ⟨v10, h, g⟩ => hN _ _ ⟨v10, h, s9.trans g⟩)
      rintro i1 x σ' H10 H11 hi1 ⟨v10, rfl, s10⟩ ⟨rfl, hx⟩
      obtain ⟨dx, rx, sx⟩ := hx3 i1 x hx
      walk_at "rd"
      refine ⟨x, vn, dx, dn, rfl, rx.imp s10, hn30.imp (s9.trans s10), sx, sn30, fn0, by omega, fun H12 s12 => ⟨true, rfl, iteF' (by simp) (s10.trans s12)⟩⟩
    rintro σ' H8 ⟨v10, rfl, s8⟩
    -- depths and kinds
    refine cutM (fun σ' H' => ∃ v10 v11, σ' = [some (V.ref a), some (V.ref p), some (.int (0 + i)), some (.int n), some (.int m), some v, some vn, some vf, some u9, v9, v10, v11, v12, v13, v14, v15, v16] ∧ Same H5 H') (fun N hN => ?_) ?_
    · walk_at "rd"
      refine ⟨v, vn, d, dn, rfl, hv30.imp s8, hn30.imp s8, fun r T0 T1 T2 T3 T4 H9 s9 er i0 i1 i2 i3 i4 => ?_⟩
      refine ⟨r, rfl, _, _, _, _, _, SqL.of er, fun r2 nr2 => ⟨⟨_, SqL.of upd_same⟩, ?_⟩⟩
      have s0 := same_new nr2 (.lst [V.ref T0, V.ref T2, V.ref T4])
      have sA := (s8.trans s9).trans s0
      have hI : ∀ (j : Nat) (x : V), [V.ref T0, V.ref T2, V.ref T4][j]? = some x → ∃ T j', x = .ref T ∧ (j' = 0 ∨ j' = 2 ∨ j' = 4) ∧ InsAt (upd H9 r2 (.lst [V.ref T0, V.ref T2, V.ref T4])) 32 d dn j' T := fun j x hx => by
        match j, hx with
        | 0, hx => cases hx; exact ⟨T0, 0, rfl, by omega, i0.imp s0⟩
        | 1, hx => cases hx; exact ⟨T2, 2, rfl, by omega, i2.imp s0⟩
        | 2, hx => cases hx; exact ⟨T4, 4, rfl, by omega, i4.imp s0⟩
        | j + 3, hx => simp at hx
      refine fo_it (walk_list (xs := [V.ref T0, V.ref T2, V.ref T4])) (fun _ σ' H' => ∃ v10 v11, σ' = [some (V.ref a), some (V.ref p), some (.int (0 + i)), some (.int n), some (.int m), some v, some vn, some vf, some u9, v9, v10, v11, v12, v13, v14, v15, v16] ∧ Same (upd H9 r2 (.lst [V.ref T0, V.ref T2, V.ref T4])) H') ⟨_, _, rfl, Same.refl _⟩ (fun _ _ _ _ ⟨_, _, _, h⟩ => SqL.of (h _ _ upd_same)) ?_ (fun σ' H' ⟨v10, v11, h, g⟩ => hN _ _ ⟨v10, v11, h, sA.trans g⟩)
      rintro i1 x σ' H10 H11 hi1 ⟨v10, v11, rfl, s10⟩ ⟨rfl, hx⟩
      obtain ⟨T, j', rfl, hj, w0, t0, g1, g2, g3⟩ := hI i1 x hx
      simp only [gTup, gCons, gNil, gName]
      refine ⟨T, _, rfl, SqT.of (s10 _ _ g1), rfl, _, _, rfl, _, _, rfl, rfl, ?_⟩
      walk_at "rd"
      refine ⟨w0, _, rfl, (g3.imp s10).rp, fun H12 s12 => ⟨_, .inr ⟨_, SqT.of (s12 _ _ (s10 _ _ g2)), rfl⟩, v, d, rfl, ((hv30.imp (sA.trans (s10.trans s12))).up (by omega)).rp, fun H13 s13 => ⟨_, rfl, ?_⟩⟩⟩
      have hdp := dep_two (e := dn) hv30 j' hj
      rw [List.length_map]
      refine ⟨rfl, iteF' (by rw [hdp]; simp) ⟨32, w0, _, rfl, ((g3.imp s10).imp (s12.trans s13)).rp, sz5 (by omega), fun l nl => ?_⟩⟩
      refine ⟨l, _, rfl, .inr (SqT.of upd_same), rfl, rfl, _, rfl, ?_⟩
      refine iteF' ?_ ((s10.trans (s12.trans s13)).trans (same_new nl _))
      rcases kind_wrap d dn j' with e | e <;> rw [e] <;> decide +kernel
    rintro σ' H9 ⟨v10, v11, rfl, s9⟩
    -- same
    have dv30 := dv.up (m := 30) (by omega)
    have dn30 := dn'.up (m := 30) (by omega)
    have df30 := df'.up (m := 30) (by omega)
    have nn : ndD 30 dn := hn30.rp.nd dn30
    have h3 : ∀ (j : Nat) (x : V), [v, vn, vf][j]? = some x → ∃ dx, Re H5 30 x dx ∧ docD 30 dx := fun j x hx => by
      match j, hx with
      | 0, hx => cases hx; exact ⟨d, hv30, dv30⟩
      | 1, hx => cases hx; exact ⟨dn, hn30, dn30⟩
      | 2, hx => cases hx; exact ⟨df, hf30, df30⟩
      | j + 3, hx => simp at hx
    walk_at "rd"
    refine ⟨sz5 (by omega), fun t1 nt1 => ⟨⟨_, SqT.of upd_same⟩, ?_⟩⟩
    have sB := s9.trans (same_new nt1 (.tup [v, vn, vf]))
    refine fo_it (walk_tup (xs := [v, vn, vf])) (fun _ σ' H' => ∃ v12 v13 v14 v15 v16, σ' = [some (V.ref a), some (V.ref p), some (.int (0 + i)), some (.int n), some (.int m), some v, some vn, some vf, some u9, v9, v10, v11, v12, v13, v14, v15, v16] ∧ Same H5 H' ∧ H' t1 = some (.tup [v, vn, vf])) ⟨_, _, _, _, _, rfl, sB, upd_same⟩ (fun _ _ _ _ ⟨_, _, _, _, _, _, _, h⟩ => SqT.of h) ?_ (fun σ' H' ⟨v12, v13, v14, v15, v16, h, g, _⟩ => ⟨k5, _, _, _, _, _, _, _, _, _, _, _, _, _, _, _, h, hs5.same g, g _ _ hp5, k50, by omega⟩)
    rintro j1 x1 σ' H10 H11 hj1 ⟨v12, v13, v14, v15, v16, rfl, s10, ht1⟩ ⟨rfl, hx1⟩
    obtain ⟨dx, rx, ddx⟩ := h3 j1 x1 hx1
    walk_at "rd"
    refine ⟨sz5 (by omega), fun t2 nt2 => ⟨⟨_, SqT.of upd_same⟩, ?_⟩⟩
    have sC := same_new nt2 (.tup [v, vn, vf])
    refine fo_it (walk_tup (xs := [v, vn, vf])) (fun _ σ' H' => ∃ v13 v14 v15 v16, σ' = [some (V.ref a), some (V.ref p), some (.int (0 + i)), some (.int n), some (.int m), some v, some vn, some vf, some u9, v9, v10, v11, some x1, v13, v14, v15, v16] ∧ Same H5 H' ∧ H' t1 = some (.tup [v, vn, vf]) ∧ H' t2 = some (.tup [v, vn, vf])) ⟨_, _, _, _, rfl, s10.trans sC, sC _ _ ht1, upd_same⟩ (fun _ _ _ _ ⟨_, _, _, _, _, _, _, h⟩ => SqT.of h) ?_ (fun σ' H' ⟨v13, v14, v15, v16, h, g, g1, _⟩ => ⟨_, _, _, _, _, h, g, g1⟩)
    rintro j2 x2 σ' H12 H13 hj2 ⟨v13, v14, v15, v16, rfl, s12, ht1, ht2⟩ ⟨rfl, hx2⟩
    obtain ⟨dy, ry, ddy⟩ := h3 j2 x2 hx2
    walk_at "rd"
    refine ⟨x1, x2, dx, dy, rfl, ((rx.imp s12).up (by omega)).rp, ((ry.imp s12).up (by omega)).rp, ddx.up (by omega), ddy.up (by omega), fun H14 s14 => ?_⟩
    have sD := s12.trans s14
    have eb : sameN 32 dx dy = sameN 30 dx dy := sameN_up ddx ddy (Nat.le_refl _) 2
    rw [eb]
    walk_at "rd"
    refine ⟨x1, vn, dx, dn, rfl, rx.imp sD, hn30.imp sD, fun r1 T0 T1 T2 T3 T4 H15 s15 er1 i0 i1 i2 i3 i4 => ?_⟩
    have sE := sD.trans s15
    refine ⟨x2, vn, dy, dn, rfl, ry.imp sE, hn30.imp sE, fun r2 U0 U1 U2 U3 U4 H16 s16 er2 u0 u1 u2 u3 u4 => ?_⟩
    have sF := sE.trans s16
    refine ⟨r1, rfl, r2, rfl, _, SqL.of (s16 _ _ er1), _, SqL.of er2, ?_⟩
    refine fo_it (walk_zip (xs := [V.ref T0, V.ref T1, V.ref T2, V.ref T3, V.ref T4]) (ys := [V.ref U0, V.ref U1, V.ref U2, V.ref U3, V.ref U4]) rfl) (fun _ σ' H' => ∃ v15 v16, σ' = [some (V.ref a), some (V.ref p), some (.int (0 + i)), some (.int n), some (.int m), some v, some vn, some vf, some u9, v9, v10, v11, some x1, some x2, some (.bl (sameN 30 dx dy)), v15, v16] ∧ Same H16 H') ⟨_, _, rfl, Same.refl _⟩ (fun _ _ _ _ ⟨_, _, _, h⟩ => ⟨SqL.of (h _ _ (s16 _ _ er1)), SqL.of (h _ _ er2)⟩) ?_ (fun σ' H' ⟨v15, v16, h, g⟩ => ⟨_, _, _, _, h, sF.trans g, g _ _ (s16 _ _ (s15 _ _ (s14 _ _ ht1))), g _ _ (s16 _ _ (s15 _ _ (s14 _ _ ht2)))⟩)
    rintro j3 x3 σ' H17 H18 hj3 ⟨v15, v16, rfl, s17⟩ ⟨T, y1, y2, rfl, nT, rfl, hy1, hy2⟩
    obtain ⟨Ta, rfl, w1, p1, ga, gb, gc⟩ := ins_at i0 i1 i2 i3 i4 j3 y1 hy1
    obtain ⟨Tb, rfl, w2, p2, gd, ge, gf⟩ := ins_at u0 u1 u2 u3 u4 j3 y2 hy2
    simp only [gTup, gCons, gNil, gName]
    refine ⟨T, _, rfl, SqT.of upd_same, rfl, _, _, rfl, _, _, rfl, rfl, ?_⟩
    have sG := s17.trans (same_new nT (.tup [V.ref Ta, V.ref Tb]))
    walk_at "rd"
    refine ⟨Ta, _, 0, w1, rfl, rfl, SqT.of (sG _ _ (s16 _ _ ga)), rfl, Tb, _, 0, w2, rfl, rfl, SqT.of (sG _ _ gd), rfl, ?_⟩
    refine ⟨w1, w2, _, _, rfl, ((gc.imp s16).imp sG).rp, (gf.imp sG).rp, doc_wrap ddx dn30 j3, doc_wrap ddy dn30 j3, fun H19 s19 => ?_⟩
    have ew : sameN 32 (wrJ dx dn j3) (wrJ dy dn j3) = sameN 30 dx dy := same_wrap ddx ddy dn30 nn j3
    rw [ew]
    exact ⟨rfl, iteF' (by simp) (sG.trans s19)⟩
  · rintro σ' H1 ⟨k, v2, v3, v4, v5, v6, v7, v8, v9, v10, v11, v12, v13, v14, v15, v16, rfl, hs1, hp, k0, k1⟩
    walk_at "rd"
    exact q _
end

abbrev LVL : Nat := 37
section
variable {P : Program} {w : World} {K : PySem.W.Frag} {mg : Str → Option Value} {base : Heap} {f : Addr} {fd : FuncData}
theorem ok_sames (D : Def K mg "same" s_same f fd) (B : Blt mg) (R_kind_of : Rdy P w K mg base 1 "kind_of" ["document"] sp_kind) : ∀ n : Nat, FnOk P w K mg base CX0 (n + 1) f fd ["one", "other"] (sp_same n)
  | 0 => ⟨fun vs H Q E ⟨_, _, _, _, _, h, _⟩ => h.elim, fun A outer s H args us vs Q E _ _ _ _ ⟨_, _, _, _, _, h, _⟩ => h.elim⟩
  | n + 1 => ok_same D B R_kind_of (D.rdy (fun _ _ _ _ _ _ us hl => match us, hl with | [_, _], _ => rfl) (ok_sames D B R_kind_of n))
theorem ok_depths (D : Def K mg "depth_of" s_depth_of f fd) (B : Blt mg) : ∀ n : Nat, FnOk P w K mg base CX0 n f fd ["document"] (sp_depth n)
  | 0 => ⟨fun vs H Q E ⟨_, _, _, h, _⟩ => h.elim, fun A outer s H args us vs Q E _ _ _ _ ⟨_, _, _, h, _⟩ => h.elim⟩
  | n + 1 => ok_depth_of D B (D.rdy (fun _ _ _ _ _ _ us hl => match us, hl with | [_], _ => rfl) (ok_depths D B n))
end
theorem all_mk {l : PySem.W.OpenLaw} {w : World} {K : PySem.W.Frag} {h : Heap} {mg : Str → Option Value} {fa f0 f1 f2 f3 f4 f5 f6 f7 f8 f9 f10 f11 f12 f13 f14 f15 f16 : Addr} (X : K.In h) (G : h.Ns mainGlobals mg) (hfa : mg "law" = some (.ref fa))
    {od0 an0 : Option Addr} {sl0 : Array (Option Value)} {oc0 kV0 dc0 pm0 cd0 ct0 : Value}
    (a0 : PySem.W.nsIn K mainGlobals "is_integer" = some (some (.ref f0)))
    (l0 : K.lookup f0 = some ⟨oc0, od0, .func (PySem.W.fnOf "is_integer" "is_integer" (defArgs s_is_integer) (defBody s_is_integer) (defScope s_is_integer) .none kV0 dc0 pm0 an0 cd0 ct0), sl0⟩)
    (c0 : PySem.W.codeIn K cd0 "is_integer" = true) (k0 : PySem.W.keepIn K (.ref f0) = true)
    {od1 an1 : Option Addr} {sl1 : Array (Option Value)} {oc1 kV1 dc1 pm1 cd1 ct1 : Value}
    (a1 : PySem.W.nsIn K mainGlobals "is_text" = some (some (.ref f1)))
    (l1 : K.lookup f1 = some ⟨oc1, od1, .func (PySem.W.fnOf "is_text" "is_text" (defArgs s_is_text) (defBody s_is_text) (defScope s_is_text) .none kV1 dc1 pm1 an1 cd1 ct1), sl1⟩)
    (c1 : PySem.W.codeIn K cd1 "is_text" = true) (k1 : PySem.W.keepIn K (.ref f1) = true)
    {od2 an2 : Option Addr} {sl2 : Array (Option Value)} {oc2 kV2 dc2 pm2 cd2 ct2 : Value}
    (a2 : PySem.W.nsIn K mainGlobals "depth_of" = some (some (.ref f2)))
    (l2 : K.lookup f2 = some ⟨oc2, od2, .func (PySem.W.fnOf "depth_of" "depth_of" (defArgs s_depth_of) (defBody s_depth_of) (defScope s_depth_of) .none kV2 dc2 pm2 an2 cd2 ct2), sl2⟩)
    (c2 : PySem.W.codeIn K cd2 "depth_of" = true) (k2 : PySem.W.keepIn K (.ref f2) = true)
    {od3 an3 : Option Addr} {sl3 : Array (Option Value)} {oc3 kV3 dc3 pm3 cd3 ct3 : Value}
    (a3 : PySem.W.nsIn K mainGlobals "first_wrong" = some (some (.ref f3)))
    (l3 : K.lookup f3 = some ⟨oc3, od3, .func (PySem.W.fnOf "first_wrong" "first_wrong" (defArgs s_first_wrong) (defBody s_first_wrong) (defScope s_first_wrong) .none kV3 dc3 pm3 an3 cd3 ct3), sl3⟩)
    (c3 : PySem.W.codeIn K cd3 "first_wrong" = true) (k3 : PySem.W.keepIn K (.ref f3) = true)
    {od4 an4 : Option Addr} {sl4 : Array (Option Value)} {oc4 kV4 dc4 pm4 cd4 ct4 : Value}
    (a4 : PySem.W.nsIn K mainGlobals "document_problem" = some (some (.ref f4)))
    (l4 : K.lookup f4 = some ⟨oc4, od4, .func (PySem.W.fnOf "document_problem" "document_problem" (defArgs s_document_problem) (defBody s_document_problem) (defScope s_document_problem) .none kV4 dc4 pm4 an4 cd4 ct4), sl4⟩)
    (c4 : PySem.W.codeIn K cd4 "document_problem" = true) (k4 : PySem.W.keepIn K (.ref f4) = true)
    {od5 an5 : Option Addr} {sl5 : Array (Option Value)} {oc5 kV5 dc5 pm5 cd5 ct5 : Value}
    (a5 : PySem.W.nsIn K mainGlobals "is_document" = some (some (.ref f5)))
    (l5 : K.lookup f5 = some ⟨oc5, od5, .func (PySem.W.fnOf "is_document" "is_document" (defArgs s_is_document) (defBody s_is_document) (defScope s_is_document) .none kV5 dc5 pm5 an5 cd5 ct5), sl5⟩)
    (c5 : PySem.W.codeIn K cd5 "is_document" = true) (k5 : PySem.W.keepIn K (.ref f5) = true)
    {od6 an6 : Option Addr} {sl6 : Array (Option Value)} {oc6 kV6 dc6 pm6 cd6 ct6 : Value}
    (a6 : PySem.W.nsIn K mainGlobals "kind_of" = some (some (.ref f6)))
    (l6 : K.lookup f6 = some ⟨oc6, od6, .func (PySem.W.fnOf "kind_of" "kind_of" (defArgs s_kind_of) (defBody s_kind_of) (defScope s_kind_of) .none kV6 dc6 pm6 an6 cd6 ct6), sl6⟩)
    (c6 : PySem.W.codeIn K cd6 "kind_of" = true) (k6 : PySem.W.keepIn K (.ref f6) = true)
    {od7 an7 : Option Addr} {sl7 : Array (Option Value)} {oc7 kV7 dc7 pm7 cd7 ct7 : Value}
    (a7 : PySem.W.nsIn K mainGlobals "same" = some (some (.ref f7)))
    (l7 : K.lookup f7 = some ⟨oc7, od7, .func (PySem.W.fnOf "same" "same" (defArgs s_same) (defBody s_same) (defScope s_same) .none kV7 dc7 pm7 an7 cd7 ct7), sl7⟩)
    (c7 : PySem.W.codeIn K cd7 "same" = true) (k7 : PySem.W.keepIn K (.ref f7) = true)
    {od8 an8 : Option Addr} {sl8 : Array (Option Value)} {oc8 kV8 dc8 pm8 cd8 ct8 : Value}
    (a8 : PySem.W.nsIn K mainGlobals "_law_cell" = some (some (.ref f8)))
    (l8 : K.lookup f8 = some ⟨oc8, od8, .func (PySem.W.fnOf "_law_cell" "_law_cell" (defArgs s_law_cell) (defBody s_law_cell) (defScope s_law_cell) .none kV8 dc8 pm8 an8 cd8 ct8), sl8⟩)
    (c8 : PySem.W.codeIn K cd8 "_law_cell" = true) (k8 : PySem.W.keepIn K (.ref f8) = true)
    {od9 an9 : Option Addr} {sl9 : Array (Option Value)} {oc9 kV9 dc9 pm9 cd9 ct9 : Value}
    (a9 : PySem.W.nsIn K mainGlobals "_law_leaf" = some (some (.ref f9)))
    (l9 : K.lookup f9 = some ⟨oc9, od9, .func (PySem.W.fnOf "_law_leaf" "_law_leaf" (defArgs s_law_leaf) (defBody s_law_leaf) (defScope s_law_leaf) .none kV9 dc9 pm9 an9 cd9 ct9), sl9⟩)
    (c9 : PySem.W.codeIn K cd9 "_law_leaf" = true) (k9 : PySem.W.keepIn K (.ref f9) = true)
    {od10 an10 : Option Addr} {sl10 : Array (Option Value)} {oc10 kV10 dc10 pm10 cd10 ct10 : Value}
    (a10 : PySem.W.nsIn K mainGlobals "_law_names" = some (some (.ref f10)))
    (l10 : K.lookup f10 = some ⟨oc10, od10, .func (PySem.W.fnOf "_law_names" "_law_names" (defArgs s_law_names) (defBody s_law_names) (defScope s_law_names) .none kV10 dc10 pm10 an10 cd10 ct10), sl10⟩)
    (c10 : PySem.W.codeIn K cd10 "_law_names" = true) (k10 : PySem.W.keepIn K (.ref f10) = true)
    {od11 an11 : Option Addr} {sl11 : Array (Option Value)} {oc11 kV11 dc11 pm11 cd11 ct11 : Value}
    (a11 : PySem.W.nsIn K mainGlobals "_law_tree" = some (some (.ref f11)))
    (l11 : K.lookup f11 = some ⟨oc11, od11, .func (PySem.W.fnOf "_law_tree" "_law_tree" (defArgs s_law_tree) (defBody s_law_tree) (defScope s_law_tree) .none kV11 dc11 pm11 an11 cd11 ct11), sl11⟩)
    (c11 : PySem.W.codeIn K cd11 "_law_tree" = true) (k11 : PySem.W.keepIn K (.ref f11) = true)
    {od12 an12 : Option Addr} {sl12 : Array (Option Value)} {oc12 kV12 dc12 pm12 cd12 ct12 : Value}
    (a12 : PySem.W.nsIn K mainGlobals "_law_odd" = some (some (.ref f12)))
    (l12 : K.lookup f12 = some ⟨oc12, od12, .func (PySem.W.fnOf "_law_odd" "_law_odd" (defArgs s_law_odd) (defBody s_law_odd) (defScope s_law_odd) .none kV12 dc12 pm12 an12 cd12 ct12), sl12⟩)
    (c12 : PySem.W.codeIn K cd12 "_law_odd" = true) (k12 : PySem.W.keepIn K (.ref f12) = true)
    {od13 an13 : Option Addr} {sl13 : Array (Option Value)} {oc13 kV13 dc13 pm13 cd13 ct13 : Value}
    (a13 : PySem.W.nsIn K mainGlobals "_law_deep" = some (some (.ref f13)))
    (l13 : K.lookup f13 = some ⟨oc13, od13, .func (PySem.W.fnOf "_law_deep" "_law_deep" (defArgs s_law_deep) (defBody s_law_deep) (defScope s_law_deep) .none kV13 dc13 pm13 an13 cd13 ct13), sl13⟩)
    (c13 : PySem.W.codeIn K cd13 "_law_deep" = true) (k13 : PySem.W.keepIn K (.ref f13) = true)
    {od14 an14 : Option Addr} {sl14 : Array (Option Value)} {oc14 kV14 dc14 pm14 cd14 ct14 : Value}
    (a14 : PySem.W.nsIn K mainGlobals "_law_inside" = some (some (.ref f14)))
    (l14 : K.lookup f14 = some ⟨oc14, od14, .func (PySem.W.fnOf "_law_inside" "_law_inside" (defArgs s_law_inside) (defBody s_law_inside) (defScope s_law_inside) .none kV14 dc14 pm14 an14 cd14 ct14), sl14⟩)
    (c14 : PySem.W.codeIn K cd14 "_law_inside" = true) (k14 : PySem.W.keepIn K (.ref f14) = true)
    {od15 an15 : Option Addr} {sl15 : Array (Option Value)} {oc15 kV15 dc15 pm15 cd15 ct15 : Value}
    (a15 : PySem.W.nsIn K mainGlobals "_law_right" = some (some (.ref f15)))
    (l15 : K.lookup f15 = some ⟨oc15, od15, .func (PySem.W.fnOf "_law_right" "_law_right" (defArgs s_law_right) (defBody s_law_right) (defScope s_law_right) .none kV15 dc15 pm15 an15 cd15 ct15), sl15⟩)
    (c15 : PySem.W.codeIn K cd15 "_law_right" = true) (k15 : PySem.W.keepIn K (.ref f15) = true)
    {od16 an16 : Option Addr} {sl16 : Array (Option Value)} {oc16 kV16 dc16 pm16 cd16 ct16 : Value}
    (a16 : PySem.W.nsIn K mainGlobals "law" = some (some (.ref f16)))
    (l16 : K.lookup f16 = some ⟨oc16, od16, .func (PySem.W.fnOf "law" "law" (defArgs s_law) (defBody s_law) (defScope s_law) .none kV16 dc16 pm16 an16 cd16 ct16), sl16⟩)
    (c16 : PySem.W.codeIn K cd16 "law" = true) (k16 : PySem.W.keepIn K (.ref f16) = true)
    {tk_MOST_NUMBER : Tok} (g_MOST_NUMBER : PySem.W.nsIn K mainGlobals "MOST_NUMBER" = some (some (.int (10^30) tk_MOST_NUMBER)))
    {tk_MOST_TEXT : Tok} (g_MOST_TEXT : PySem.W.nsIn K mainGlobals "MOST_TEXT" = some (some (.int 60 tk_MOST_TEXT)))
    {tk_MOST_DEEP : Tok} (g_MOST_DEEP : PySem.W.nsIn K mainGlobals "MOST_DEEP" = some (some (.int 12 tk_MOST_DEEP)))
    (z_len : PySem.W.nsIn K mainGlobals "len" = some none)
    (z_range : PySem.W.nsIn K mainGlobals "range" = some none)
    (z_isinstance : PySem.W.nsIn K mainGlobals "isinstance" = some none)
    (z_max : PySem.W.nsIn K mainGlobals "max" = some none)
    (z_min : PySem.W.nsIn K mainGlobals "min" = some none)
    (z_list : PySem.W.nsIn K mainGlobals "list" = some none)
    (z_dict : PySem.W.nsIn K mainGlobals "dict" = some none)
    (z_int : PySem.W.nsIn K mainGlobals "int" = some none)
    (z_str : PySem.W.nsIn K mainGlobals "str" = some none)
    (z_bool : PySem.W.nsIn K mainGlobals "bool" = some none)
    (z_tuple : PySem.W.nsIn K mainGlobals "tuple" = some none)
    (z_sorted : PySem.W.nsIn K mainGlobals "sorted" = some none)
    (z_enumerate : PySem.W.nsIn K mainGlobals "enumerate" = some none)
    (z_repr : PySem.W.nsIn K mainGlobals "repr" = some none)
    (z_all : PySem.W.nsIn K mainGlobals "all" = some none)
    (z_any : PySem.W.nsIn K mainGlobals "any" = some none)
    (z_zip : PySem.W.nsIn K mainGlobals "zip" = some none)
    (z_set : PySem.W.nsIn K mainGlobals "set" = some none)
    (z_sum : PySem.W.nsIn K mainGlobals "sum" = some none)
    : ∃ fd : FuncData, (∀ (s : Shared) (v : Value), BindsTo s fd ⟨[v], []⟩ [("_law_script", v)]) ∧ ∀ base : Heap, K.In base → base.Ns mainGlobals mg → (∃ o, base.get? sysModules = some o) → FnG l.prog w K mg base LVL fa fd ["_law_script"] (sp_law K) := by
  have e := hfa.symm.trans (PySem.W.mg_of X G a16)
  cases e
  have D_is_integer : Def K mg "is_integer" s_is_integer _ _ := ⟨fun_mk (st := s_is_integer) l0 c0 k0, PySem.W.mg_of X G a0⟩
  have D_is_text : Def K mg "is_text" s_is_text _ _ := ⟨fun_mk (st := s_is_text) l1 c1 k1, PySem.W.mg_of X G a1⟩
  have D_depth_of : Def K mg "depth_of" s_depth_of _ _ := ⟨fun_mk (st := s_depth_of) l2 c2 k2, PySem.W.mg_of X G a2⟩
  have D_first_wrong : Def K mg "first_wrong" s_first_wrong _ _ := ⟨fun_mk (st := s_first_wrong) l3 c3 k3, PySem.W.mg_of X G a3⟩
  have D_document_problem : Def K mg "document_problem" s_document_problem _ _ := ⟨fun_mk (st := s_document_problem) l4 c4 k4, PySem.W.mg_of X G a4⟩
  have D_is_document : Def K mg "is_document" s_is_document _ _ := ⟨fun_mk (st := s_is_document) l5 c5 k5, PySem.W.mg_of X G a5⟩
  have D_kind_of : Def K mg "kind_of" s_kind_of _ _ := ⟨fun_mk (st := s_kind_of) l6 c6 k6, PySem.W.mg_of X G a6⟩
  have D_same : Def K mg "same" s_same _ _ := ⟨fun_mk (st := s_same) l7 c7 k7, PySem.W.mg_of X G a7⟩
  have D_law_cell : Def K mg "_law_cell" s_law_cell _ _ := ⟨fun_mk (st := s_law_cell) l8 c8 k8, PySem.W.mg_of X G a8⟩
  have D_law_leaf : Def K mg "_law_leaf" s_law_leaf _ _ := ⟨fun_mk (st := s_law_leaf) l9 c9 k9, PySem.W.mg_of X G a9⟩
  have D_law_names : Def K mg "_law_names" s_law_names _ _ := ⟨fun_mk (st := s_law_names) l10 c10 k10, PySem.W.mg_of X G a10⟩
  have D_law_tree : Def K mg "_law_tree" s_law_tree _ _ := ⟨fun_mk (st := s_law_tree) l11 c11 k11, PySem.W.mg_of X G a11⟩
  have D_law_odd : Def K mg "_law_odd" s_law_odd _ _ := ⟨fun_mk (st := s_law_odd) l12 c12 k12, PySem.W.mg_of X G a12⟩
  have D_law_deep : Def K mg "_law_deep" s_law_deep _ _ := ⟨fun_mk (st := s_law_deep) l13 c13 k13, PySem.W.mg_of X G a13⟩
  have D_law_inside : Def K mg "_law_inside" s_law_inside _ _ := ⟨fun_mk (st := s_law_inside) l14 c14 k14, PySem.W.mg_of X G a14⟩
  have D_law_right : Def K mg "_law_right" s_law_right _ _ := ⟨fun_mk (st := s_law_right) l15 c15 k15, PySem.W.mg_of X G a15⟩
  have D_law : Def K mg "law" s_law _ _ := ⟨fun_mk (st := s_law) l16 c16 k16, PySem.W.mg_of X G a16⟩
  have g_MOST_NUMBER := PySem.W.mg_of X G g_MOST_NUMBER
  have g_MOST_TEXT := PySem.W.mg_of X G g_MOST_TEXT
  have g_MOST_DEEP := PySem.W.mg_of X G g_MOST_DEEP
  have B : Blt mg := ⟨PySem.W.mg_none_of X G z_len, PySem.W.mg_none_of X G z_range, PySem.W.mg_none_of X G z_isinstance, PySem.W.mg_none_of X G z_max, PySem.W.mg_none_of X G z_min, PySem.W.mg_none_of X G z_list, PySem.W.mg_none_of X G z_dict, PySem.W.mg_none_of X G z_int, PySem.W.mg_none_of X G z_str, PySem.W.mg_none_of X G z_bool, PySem.W.mg_none_of X G z_tuple, PySem.W.mg_none_of X G z_sorted, PySem.W.mg_none_of X G z_enumerate, PySem.W.mg_none_of X G z_repr, PySem.W.mg_none_of X G z_all, PySem.W.mg_none_of X G z_any, PySem.W.mg_none_of X G z_zip, PySem.W.mg_none_of X G z_set, PySem.W.mg_none_of X G z_sum⟩
  refine ⟨PySem.W.fnOf "law" "law" (defArgs s_law) (defBody s_law) (defScope s_law) .none kV16 dc16 pm16 an16 cd16 ct16, fun s v => .of_eq rfl, fun base _ _ hsys => ?_⟩
  have R_cell := D_law_cell.rdy (P := l.prog) (w := w) (base := base) (fun _ _ _ _ _ _ us hl => match us, hl with | [_, _], _ => rfl) (ok_cell D_law_cell B)
  have R_leaf := D_law_leaf.rdy (P := l.prog) (w := w) (base := base) (fun _ _ _ _ _ _ us hl => match us, hl with | [_], _ => rfl) (ok_leaf D_law_leaf B)
  have R_names := D_law_names.rdy (P := l.prog) (w := w) (base := base) (fun _ _ _ _ _ _ us hl => match us, hl with | [_], _ => rfl) (ok_names D_law_names B)
  have R_tree := D_law_tree.rdy (P := l.prog) (w := w) (base := base) (fun _ _ _ _ _ _ us hl => match us, hl with | [_, _, _, _], _ => rfl) (ok_trees D_law_tree B R_cell R_leaf R_names 10)
  have R_odd := D_law_odd.rdy (P := l.prog) (w := w) (base := base) (fun _ _ _ _ _ _ us hl => match us, hl with | [_, _], _ => rfl) (ok_odds D_law_odd B 10)
  have R_kind := D_kind_of.rdy (P := l.prog) (w := w) (base := base) (fun _ _ _ _ _ _ us hl => match us, hl with | [_], _ => rfl) (ok_kind_of D_kind_of B)
  have R_isint := D_is_integer.rdy (P := l.prog) (w := w) (base := base) (fun _ _ _ _ _ _ us hl => match us, hl with | [_], _ => rfl) (ok_isint D_is_integer B)
  have R_text := D_is_text.rdy (P := l.prog) (w := w) (base := base) (fun _ _ _ _ _ _ us hl => match us, hl with | [_], _ => rfl) (ok_text D_is_text B g_MOST_TEXT)
  have R_depth := fun n => D_depth_of.rdy (P := l.prog) (w := w) (base := base) (fun _ _ _ _ _ _ us hl => match us, hl with | [_], _ => rfl) (ok_depths D_depth_of B n)
  have R_fw := fun n => D_first_wrong.rdy (P := l.prog) (w := w) (base := base) (fun _ _ _ _ _ _ us hl => match us, hl with | [_], _ => rfl) (ok_fws D_first_wrong B g_MOST_NUMBER R_isint R_text n)
  have R_dp := fun n => D_document_problem.rdy (P := l.prog) (w := w) (base := base) (fun _ _ _ _ _ _ us hl => match us, hl with | [_], _ => rfl) (ok_dp D_document_problem B g_MOST_DEEP ((R_depth n).mono (Nat.le_succ n)) (R_fw n))
  have R_isdoc := D_is_document.rdy (P := l.prog) (w := w) (base := base) (fun _ _ _ _ _ _ us hl => match us, hl with | [_], _ => rfl) (ok_isdoc D_is_document B (R_dp 32))
  have R_same := D_same.rdy (P := l.prog) (w := w) (base := base) (fun _ _ _ _ _ _ us hl => match us, hl with | [_, _], _ => rfl) (ok_sames D_same B R_kind 32)
  have R_deep := fun n => D_law_deep.rdy (P := l.prog) (w := w) (base := base) (fun _ _ _ _ _ _ us hl => match us, hl with | [_], _ => rfl) (ok_deeps D_law_deep B n)
  have R_inside := D_law_inside.rdy (P := l.prog) (w := w) (base := base) (fun _ _ _ _ _ _ us hl => match us, hl with | [_, _], _ => rfl) (ok_inside (m := 30) D_law_inside B)
  have R_right := D_law_right.rdyG (P := l.prog) (w := w) (base := base) (fun _ _ _ _ _ _ us hl => match us, hl with | [_, _], _ => rfl) (ok_right (m := 30) D_law_right B hsys (fun n _ => R_dp n) R_isdoc R_inside (R_deep 32))
  exact ok_law D_law B R_cell R_tree R_odd (R_deep 30) R_right R_inside ((R_depth 32).mono (by decide)) R_kind R_same
theorem walk {l : PySem.W.OpenLaw} {q : Program} {loose : List Str} {XP : (Str → Option Value) → Heap → Prop} {YP : World → Heap → Prop} {d : DefRec} {K : Params → PySem.W.Frag} (hn : l.most = some 63) (hdf : d.params.defaults = [])
    (hq : PyProof.Rows.importsNone q = true) (hY : ∀ (w : World) (h : Heap), YP w h → (K w.params).In h)
    (F : ∀ (w : World) (mg : Str → Option Value) (fa : Addr) (h : Heap), (K w.params).In h → h.Ns mainGlobals mg → mg d.name = some (.ref fa) →
      ∃ fd : FuncData, (∀ (s : Shared) (u : Value), BindsTo s fd ⟨[u], []⟩ [("_law_script", u)]) ∧ ∀ base : Heap, (K w.params).In base → base.Ns mainGlobals mg → (∃ o, base.get? sysModules = some o) → FnG l.prog w (K w.params) mg base LVL fa fd ["_law_script"] (sp_law (K w.params))) :
    PySem.W.WalkO q loose XP YP l.row.toRowW d [] (fun f vs => PySem.call f vs) :=
  SC.walkG (n := 63) (k := LVL) (x := "_law_script") (sp := sp_law) hn (by decide) hdf ⟨rfl, by decide, by decide⟩ hq hY F fun K H a ns hl hO hS => ⟨a, ns, rfl, Scr.of hS hO, hl, fun _ => rfl⟩

end SC
open PySem PySem.W PyProof.Rows
set_option maxRecDepth 100000 in
set_option maxHeartbeats 0 in
theorem PySem.Challenge.cw_schemacheck_k87_whole_documents_wrapped_holds : PySem.Challenge.rw_schemacheck_k87_whole_documents_wrapped.Holds := by
  w_on; o_law; k_head; (case hw => w_witness2)
  k_fill
  refine SC.walk (l := PySem.Challenge.rw_schemacheck_k87_whole_documents_wrapped) rfl rfl (by decide +kernel) (fun w h Y => PySem.W.kIn_of Y) ?F
  case F =>
    intro w mg fa h KX G hmg
    refine' SC.all_mk KX G hmg ?a0 ?l0 ?c0 ?k0 ?a1 ?l1 ?c1 ?k1 ?a2 ?l2 ?c2 ?k2 ?a3 ?l3 ?c3 ?k3 ?a4 ?l4 ?c4 ?k4 ?a5 ?l5 ?c5 ?k5 ?a6 ?l6 ?c6 ?k6 ?a7 ?l7 ?c7 ?k7 ?a8 ?l8 ?c8 ?k8 ?a9 ?l9 ?c9 ?k9 ?a10 ?l10 ?c10 ?k10 ?a11 ?l11 ?c11 ?k11 ?a12 ?l12 ?c12 ?k12 ?a13 ?l13 ?c13 ?k13 ?a14 ?l14 ?c14 ?k14 ?a15 ?l15 ?c15 ?k15 ?a16 ?l16 ?c16 ?k16 ?g_MOST_NUMBER ?g_MOST_TEXT ?g_MOST_DEEP ?z_len ?z_range ?z_isinstance ?z_max ?z_min ?z_list ?z_dict ?z_int ?z_str ?z_bool ?z_tuple ?z_sorted ?z_enumerate ?z_repr ?z_all ?z_any ?z_zip ?z_set ?z_sum
    (case a0 => k_is)
    (case l0 => k_is)
    (case c0 => k_is)
    (case k0 => k_is)
    (case a1 => k_is)
    (case l1 => k_is)
    (case c1 => k_is)
    (case k1 => k_is)
    (case a2 => k_is)
    (case l2 => k_is)
    (case c2 => k_is)
    (case k2 => k_is)
    (case a3 => k_is)
    (case l3 => k_is)
    (case c3 => k_is)
    (case k3 => k_is)
    (case a4 => k_is)
    (case l4 => k_is)
    (case c4 => k_is)
    (case k4 => k_is)
    (case a5 => k_is)
    (case l5 => k_is)
    (case c5 => k_is)
    (case k5 => k_is)
    (case a6 => k_is)
    (case l6 => k_is)
    (case c6 => k_is)
    (case k6 => k_is)
    (case a7 => k_is)
    (case l7 => k_is)
    (case c7 => k_is)
    (case k7 => k_is)
    (case a8 => k_is)
    (case l8 => k_is)
    (case c8 => k_is)
    (case k8 => k_is)
    (case a9 => k_is)
    (case l9 => k_is)
    (case c9 => k_is)
    (case k9 => k_is)
    (case a10 => k_is)
    (case l10 => k_is)
    (case c10 => k_is)
    (case k10 => k_is)
    (case a11 => k_is)
    (case l11 => k_is)
    (case c11 => k_is)
    (case k11 => k_is)
    (case a12 => k_is)
    (case l12 => k_is)
    (case c12 => k_is)
    (case k12 => k_is)
    (case a13 => k_is)
    (case l13 => k_is)
    (case c13 => k_is)
    (case k13 => k_is)
    (case a14 => k_is)
    (case l14 => k_is)
    (case c14 => k_is)
    (case k14 => k_is)
    (case a15 => k_is)
    (case l15 => k_is)
    (case c15 => k_is)
    (case k15 => k_is)
    (case a16 => k_is)
    (case l16 => k_is)
    (case c16 => k_is)
    (case k16 => k_is)
    (case g_MOST_NUMBER => k_is)
    (case g_MOST_TEXT => k_is)
    (case g_MOST_DEEP => k_is)
    (case z_len => k_is)
    (case z_range => k_is)
    (case z_isinstance => k_is)
    (case z_max => k_is)
    (case z_min => k_is)
    (case z_list => k_is)
    (case z_dict => k_is)
    (case z_int => k_is)
    (case z_str => k_is)
    (case z_bool => k_is)
    (case z_tuple => k_is)
    (case z_sorted => k_is)
    (case z_enumerate => k_is)
    (case z_repr => k_is)
    (case z_all => k_is)
    (case z_any => k_is)
    (case z_zip => k_is)
    (case z_set => k_is)
    (case z_sum => k_is)
#print axioms PySem.Challenge.cw_schemacheck_k87_whole_documents_wrapped_holds
