import PyProof.Rows.All
import Wide.All
import OpenK.AllK
import Wide.FinOn
import HandS.ForMost
import HandS.IsInst
import HandS.DictComp
import HandS.Flow
import HandS.Walk
import HandS.More
import HandS.Style
import HandS.FStr
import HandS.Text
import KE.GoesEnum
import KE.KDictZip
import PyProof.ListNew
import HandS.GenList
import HandS.TupAny
import OpenK.XSeg
import HandS.Deep
import PyProof.NeKinds
import KE.KDictCopyH
import KE.KDictWalk
import KE.KeyNested
import HandS.Star
import PyProof.Rows.RuleB_pow
import PyProof.RulesMatch
import HandS.Strs
import PyProof.DictTruth
import PySem.Challenge.RW_schemacheck_k02_documents_judged
set_option Elab.async false
set_option linter.all false
set_option maxRecDepth 100000
set_option maxHeartbeats 4000000
/-! Schemacheck: data as trees over the abstract heap. -/
namespace SC
open PySem L2

/-! ### pairs -/
theorem pd_len {A B : Type} {F : A → B → Prop} {xs : List A} {ys : List B} (h : Paired F xs ys) : xs.length = ys.length := by
  induction h with
  | nil => rfl
  | cons _ _ ih => simp [ih]
theorem pd_imp {A B : Type} {F G : A → B → Prop} {xs : List A} {ys : List B} (h : Paired F xs ys) (f : ∀ a b, a ∈ xs → b ∈ ys → F a b → G a b) : Paired G xs ys := by
  induction h with
  | nil => exact .nil
  | cons r _ ih => exact .cons (f _ _ (by simp) (by simp) r) (ih fun a b ha hb q => f a b (by simp [ha]) (by simp [hb]) q)
theorem pd_app {A B : Type} {F : A → B → Prop} {xs zs : List A} {ys ws : List B} (h : Paired F xs ys) (g : Paired F zs ws) : Paired F (xs ++ zs) (ys ++ ws) := by
  induction h with
  | nil => exact g
  | cons r _ ih => exact .cons r ih
theorem pd_get {A B : Type} {F : A → B → Prop} {xs : List A} {ys : List B} (h : Paired F xs ys) : ∀ {i : Nat} {x : A}, xs[i]? = some x → ∃ y, ys[i]? = some y ∧ F x y := by
  induction h with
  | nil => intro i x e; simp at e
  | cons r _ ih =>
    intro i x e
    cases i with
    | zero => simp at e; subst e; exact ⟨_, rfl, r⟩
    | succ i => simp at e; obtain ⟨y, h1, h2⟩ := ih e; exact ⟨y, by simpa using h1, h2⟩
theorem pd_memR {A B : Type} {F : A → B → Prop} {xs : List A} {ys : List B} (h : Paired F xs ys) : ∀ {y : B}, y ∈ ys → ∃ x, x ∈ xs ∧ F x y := by
  induction h with
  | nil => intro y e; simp at e
  | cons r _ ih =>
    intro y e
    rcases List.mem_cons.mp e with rfl | e
    · exact ⟨_, by simp, r⟩
    · obtain ⟨x, h1, h2⟩ := ih e; exact ⟨x, by simp [h1], h2⟩
theorem pd_eq {A B : Type} {F G : A → B → Prop} {xs : List A} {ys zs : List B} (h : Paired F xs ys) (g : Paired G xs zs) (f : ∀ a b c, b ∈ ys → c ∈ zs → F a b → G a c → b = c) : ys = zs := by
  induction h generalizing zs with
  | nil => cases g; rfl
  | cons r _ ih =>
    cases g with
    | cons r2 g2 =>
      rw [f _ _ _ (by simp) (by simp) r r2, ih g2 fun a b c hb hc => f a b c (by simp [hb]) (by simp [hc])]

/-! ### a value stands for a datum, at most n deep -/
def kD : Key → PyData
  | .inl i => .int i
  | .inr x => .str x
theorem kD_inj {a b : Key} (h : kD a = kD b) : a = b := by
  cases a <;> cases b <;> simp [kD] at h <;> simp [h]
def Rp (H : Hp) : Nat → V → PyData → Prop
  | 0, _, _ => False
  | _ + 1, v, .none => v = .non
  | _ + 1, v, .bool b => v = .bl b
  | _ + 1, v, .int i => v = .int i
  | _ + 1, v, .str x => v = .str x
  | n + 1, v, .list ds => ∃ a xs, v = .ref a ∧ H a = some (.lst xs) ∧ xs.length ≤ 10000 ∧ Paired (Rp H n) xs ds
  | n + 1, v, .tuple ds => ∃ a xs, v = .ref a ∧ H a = some (.tup xs) ∧ xs.length ≤ 10000 ∧ Paired (Rp H n) xs ds
  | n + 1, v, .dict es => ∃ a kvs, v = .ref a ∧ Rd H a (.dK kvs) ∧ kvs.length ≤ 10000 ∧ (kvs.map (·.1)).Nodup ∧ Paired (fun (p : Key × V) (q : PyData × PyData) => q.1 = kD p.1 ∧ Rp H n p.2 q.2) kvs es
theorem rd_same {H H' : Hp} {a : Addr} {u : HO} (e : Same H H') (h : Rd H a u) : Rd H' a u := by
  rcases h with h | ⟨o, h⟩
  · exact .inl (e _ _ h)
  · exact .inr ⟨o, e _ _ h⟩
/-- all is as it was, but dicts may be locked -/
def LSame (H H' : Hp) : Prop := ∀ b o, H b = some o → H' b = some o ∨ ∃ kvs od, o = .dK kvs ∧ H' b = some (.frz od (.dK kvs))
theorem LSame.of {H H' : Hp} (h : Same H H') : LSame H H' := fun b o e => .inl (h b o e)
theorem LSame.refl (H : Hp) : LSame H H := fun b o e => .inl e
theorem LSame.trans {H H1 H2 : Hp} (a : LSame H H1) (b : LSame H1 H2) : LSame H H2 := fun c o e => by
  rcases a c o e with h | ⟨kvs, od, h1, h2⟩
  · exact b c o h
  · rcases b c _ h2 with h | ⟨_, _, h3, _⟩
    · exact .inr ⟨kvs, od, h1, h⟩
    · cases h3
theorem LSame.lst {H H' : Hp} {a : Addr} {xs : List V} (h : LSame H H') (e : H a = some (.lst xs)) : H' a = some (.lst xs) := by
  rcases h a _ e with q | ⟨_, _, q, _⟩
  · exact q
  · cases q
theorem LSame.tup {H H' : Hp} {a : Addr} {xs : List V} (h : LSame H H') (e : H a = some (.tup xs)) : H' a = some (.tup xs) := by
  rcases h a _ e with q | ⟨_, _, q, _⟩
  · exact q
  · cases q
theorem LSame.rdk {H H' : Hp} {a : Addr} {kvs : List (Key × V)} (h : LSame H H') (e : Rd H a (.dK kvs)) : Rd H' a (.dK kvs) := by
  rcases e with e | ⟨od, e⟩
  · rcases h a _ e with q | ⟨k2, od, q, q2⟩
    · exact .inl q
    · cases q; exact .inr ⟨od, q2⟩
  · rcases h a _ e with q | ⟨_, _, q, _⟩
    · exact .inr ⟨od, q⟩
    · cases q
theorem Rp.imp {H H' : Hp} : ∀ {n : Nat} {v : V} {d : PyData}, Same H H' → Rp H n v d → Rp H' n v d
  | 0, _, _, _, h => h
  | n + 1, v, .none, _, h => h
  | n + 1, v, .bool _, _, h => h
  | n + 1, v, .int _, _, h => h
  | n + 1, v, .str _, _, h => h
  | n + 1, v, .list ds, e, ⟨a, xs, h1, h2, hb, h3⟩ => ⟨a, xs, h1, e _ _ h2, hb, pd_imp h3 fun _ _ _ _ q => Rp.imp e q⟩
  | n + 1, v, .tuple ds, e, ⟨a, xs, h1, h2, hb, h3⟩ => ⟨a, xs, h1, e _ _ h2, hb, pd_imp h3 fun _ _ _ _ q => Rp.imp e q⟩
  | n + 1, v, .dict es, e, ⟨a, xs, h1, h2, hb, hn, h3⟩ => ⟨a, xs, h1, rd_same e h2, hb, hn, pd_imp h3 fun _ _ _ _ q => ⟨q.1, Rp.imp e q.2⟩⟩
theorem Rp.up1 {H : Hp} : ∀ {n : Nat} {v : V} {d : PyData}, Rp H n v d → Rp H (n + 1) v d
  | 0, _, _, h => h.elim
  | n + 1, v, .none, h => h
  | n + 1, v, .bool _, h => h
  | n + 1, v, .int _, h => h
  | n + 1, v, .str _, h => h
  | n + 1, v, .list ds, ⟨a, xs, h1, h2, hb, h3⟩ => ⟨a, xs, h1, h2, hb, pd_imp h3 fun _ _ _ _ q => Rp.up1 q⟩
  | n + 1, v, .tuple ds, ⟨a, xs, h1, h2, hb, h3⟩ => ⟨a, xs, h1, h2, hb, pd_imp h3 fun _ _ _ _ q => Rp.up1 q⟩
  | n + 1, v, .dict es, ⟨a, xs, h1, h2, hb, hn, h3⟩ => ⟨a, xs, h1, h2, hb, hn, pd_imp h3 fun _ _ _ _ q => ⟨q.1, Rp.up1 q.2⟩⟩
theorem Rp.up {H : Hp} {n m : Nat} {v : V} {d : PyData} (h : Rp H n v d) (hl : n ≤ m) : Rp H m v d := by
  induction hl with
  | refl => exact h
  | step _ ih => exact ih.up1
theorem Rp.pos {H : Hp} {n : Nat} {v : V} {d : PyData} (h : Rp H n v d) : 0 < n := by
  cases n with
  | zero => exact h.elim
  | succ n => omega
theorem Rp.lk {H H' : Hp} : ∀ {n : Nat} {v : V} {d : PyData}, LSame H H' → Rp H n v d → Rp H' n v d
  | 0, _, _, _, h => h
  | n + 1, v, .none, _, h => h
  | n + 1, v, .bool _, _, h => h
  | n + 1, v, .int _, _, h => h
  | n + 1, v, .str _, _, h => h
  | n + 1, v, .list ds, e, ⟨a, xs, h1, h2, hb, h3⟩ => ⟨a, xs, h1, e.lst h2, hb, pd_imp h3 fun _ _ _ _ q => Rp.lk e q⟩
  | n + 1, v, .tuple ds, e, ⟨a, xs, h1, h2, hb, h3⟩ => ⟨a, xs, h1, e.tup h2, hb, pd_imp h3 fun _ _ _ _ q => Rp.lk e q⟩
  | n + 1, v, .dict es, e, ⟨a, xs, h1, h2, hb, hn, h3⟩ => ⟨a, xs, h1, e.rdk h2, hb, hn, pd_imp h3 fun _ _ _ _ q => ⟨q.1, Rp.lk e q.2⟩⟩
/-- a value stands for one datum alone -/
theorem rd_one {H : Hp} {a : Addr} {x y : List (Key × V)} (h : Rd H a (.dK x)) (g : Rd H a (.dK y)) : x = y := by
  rcases h with h | ⟨o, h⟩ <;> rcases g with g | ⟨u, g⟩ <;> rw [h] at g <;> cases g <;> rfl
theorem Rp.one {H : Hp} : ∀ {n m : Nat} {v : V} {d e : PyData}, Rp H n v d → Rp H m v e → d = e
  | 0, _, _, _, _, h, _ => h.elim
  | _, 0, _, _, _, _, h => h.elim
  | n + 1, m + 1, v, .none, e, h, g => by
    cases h
    cases e <;> simp [Rp] at g <;> rfl
  | n + 1, m + 1, v, .bool b, e, h, g => by
    cases h
    cases e <;> simp [Rp] at g
    subst g; rfl
  | n + 1, m + 1, v, .int b, e, h, g => by
    cases h
    cases e <;> simp [Rp] at g
    subst g; rfl
  | n + 1, m + 1, v, .str b, e, h, g => by
    cases h
    cases e <;> simp [Rp] at g
    subst g; rfl
  | n + 1, m + 1, v, .list ds, e, ⟨a, xs, h1, h2, hb, h3⟩, g => by
    subst h1
    cases e <;> simp [Rp] at g
    · obtain ⟨ys, g2, gb, g3⟩ := g
      rw [h2] at g2; cases g2
      rw [pd_eq h3 g3 fun _ _ _ _ _ p q => Rp.one p q]
    · rw [h2] at g; simp at g
    · obtain ⟨ys, g2, _⟩ := g
      rcases g2 with g2 | ⟨_, g2⟩ <;> rw [h2] at g2 <;> cases g2
  | n + 1, m + 1, v, .tuple ds, e, ⟨a, xs, h1, h2, hb, h3⟩, g => by
    subst h1
    cases e <;> simp [Rp] at g
    · rw [h2] at g; simp at g
    · obtain ⟨ys, g2, gb, g3⟩ := g
      rw [h2] at g2; cases g2
      rw [pd_eq h3 g3 fun _ _ _ _ _ p q => Rp.one p q]
    · obtain ⟨ys, g2, _⟩ := g
      rcases g2 with g2 | ⟨_, g2⟩ <;> rw [h2] at g2 <;> cases g2
  | n + 1, m + 1, v, .dict es, e, ⟨a, xs, h1, h2, hb, hn, h3⟩, g => by
    subst h1
    cases e <;> simp [Rp] at g
    · obtain ⟨ys, g2, _⟩ := g
      rcases h2 with h2 | ⟨_, h2⟩ <;> rw [h2] at g2 <;> cases g2
    · obtain ⟨ys, g2, _⟩ := g
      rcases h2 with h2 | ⟨_, h2⟩ <;> rw [h2] at g2 <;> cases g2
    · obtain ⟨ys, g2, gb, gn, g3⟩ := g
      cases rd_one h2 g2
      rw [pd_eq h3 g3 fun x b c _ _ p q => by
        obtain ⟨b1, b2⟩ := b
        obtain ⟨c1, c2⟩ := c
        obtain ⟨p1, p2⟩ := p
        obtain ⟨q1, q2⟩ := q
        simp at p1 q1 p2 q2
        rw [p1, q1, Rp.one p2 q2]]
/-- without the place a -/
def del (H : Hp) (a : Addr) : Hp := fun b => if b = a then none else H b
theorem del_ne {H : Hp} {a b : Addr} (h : b ≠ a) : del H a b = H b := if_neg h
theorem del_at {H : Hp} {a : Addr} : del H a a = none := if_pos rfl
theorem del_sub (H : Hp) (a : Addr) : Same (del H a) H := fun b o e => by
  by_cases hb : b = a
  · subst hb; rw [del_at] at e; cases e
  · rw [del_ne hb] at e; exact e
theorem rd_del {H : Hp} {a b : Addr} {u : HO} (hb : b ≠ a) (h : Rd H b u) : Rd (del H a) b u := by
  rcases h with h | ⟨o, h⟩
  · exact .inl (by rw [del_ne hb]; exact h)
  · exact .inr ⟨o, by rw [del_ne hb]; exact h⟩
/-- a smaller datum does not hold a greater one -/
theorem Rp.del {H : Hp} {a : Addr} {m : Nat} {D : PyData} (hD : Rp H m (.ref a) D) : ∀ {n : Nat} {v : V} {d : PyData}, sizeOf d < sizeOf D → Rp H n v d → Rp (del H a) n v d
  | 0, _, _, _, h => h
  | n + 1, v, .none, _, h => h
  | n + 1, v, .bool _, _, h => h
  | n + 1, v, .int _, _, h => h
  | n + 1, v, .str _, _, h => h
  | n + 1, v, .list ds, hs, h => by
    obtain ⟨b, xs, h1, h2, hl, h3⟩ := id h
    have hb : b ≠ a := by
      rintro rfl
      subst h1
      rw [Rp.one h hD] at hs
      exact absurd hs (Nat.lt_irrefl _)
    refine ⟨b, xs, h1, by rw [del_ne hb]; exact h2, hl, pd_imp h3 fun x d _ hd q => Rp.del hD ?_ q⟩
    have := List.sizeOf_lt_of_mem hd
    simp at hs
    omega
  | n + 1, v, .tuple ds, hs, h => by
    obtain ⟨b, xs, h1, h2, hl, h3⟩ := id h
    have hb : b ≠ a := by
      rintro rfl
      subst h1
      rw [Rp.one h hD] at hs
      exact absurd hs (Nat.lt_irrefl _)
    refine ⟨b, xs, h1, by rw [del_ne hb]; exact h2, hl, pd_imp h3 fun x d _ hd q => Rp.del hD ?_ q⟩
    have := List.sizeOf_lt_of_mem hd
    simp at hs
    omega
  | n + 1, v, .dict es, hs, h => by
    obtain ⟨b, xs, h1, h2, hl, hn, h3⟩ := id h
    have hb : b ≠ a := by
      rintro rfl
      subst h1
      rw [Rp.one h hD] at hs
      exact absurd hs (Nat.lt_irrefl _)
    refine ⟨b, xs, h1, rd_del hb h2, hl, hn, pd_imp h3 fun x d _ hd q => ⟨q.1, Rp.del hD ?_ q.2⟩⟩
    have h4 := List.sizeOf_lt_of_mem hd
    obtain ⟨d1, d2⟩ := d
    simp at hs h4
    show sizeOf d2 < _
    omega
/-- nothing is locked -/
def NoFrz (G : Hp) : Prop := ∀ a o u, G a ≠ some (.frz o u)
theorem NoFrz.rd {G : Hp} {a : Addr} {u : HO} (h : NoFrz G) (r : Rd G a u) : G a = some u := by
  rcases r with r | ⟨o, r⟩
  · exact r
  · exact absurd r (h a o u)
theorem NoFrz.del {G : Hp} (h : NoFrz G) (a : Addr) : NoFrz (del G a) := fun b o u e => h b o u (del_sub G a b _ e)
theorem size_kv {es : List (PyData × PyData)} {q : PyData × PyData} (h : q ∈ es) : sizeOf q.2 < sizeOf (PyData.dict es) := by
  have h4 := List.sizeOf_lt_of_mem h
  obtain ⟨d1, d2⟩ := q
  simp at h4
  show sizeOf d2 < _
  simp
  omega
theorem size_item {ds : List PyData} {d : PyData} (h : d ∈ ds) : sizeOf d < sizeOf (PyData.list ds) := by
  have h4 := List.sizeOf_lt_of_mem h
  simp
  omega

/-! ### heaps: all as before, but for some places -/
def Keep (S : List Addr) (H H' : Hp) : Prop := ∀ b o, H b = some o → b ∉ S → H' b = some o
theorem Keep.refl (S : List Addr) (H : Hp) : Keep S H H := fun _ _ h _ => h
theorem Keep.trans {S : List Addr} {H H1 H2 : Hp} (a : Keep S H H1) (b : Keep S H1 H2) : Keep S H H2 := fun c o h n => b c o (a c o h n) n
theorem Keep.sub {S T : List Addr} {H H' : Hp} (a : Keep S H H') (h : ∀ b ∈ S, b ∈ T) : Keep T H H' := fun c o e n => a c o e fun z => n (h c z)
theorem Keep.of {S : List Addr} {H H' : Hp} (a : Same H H') : Keep S H H' := fun c o e _ => a c o e
theorem Keep.same {H H' : Hp} (a : Keep [] H H') : Same H H' := fun c o e => a c o e (by simp)
theorem Keep.new {S : List Addr} {H H' : Hp} {p : Addr} {o : HO} (a : Keep S H H') (h : H' p = none) : Keep S H (upd H' p o) := fun c u e n => by
  rw [upd_ne (ne_of_none (a c u e n) h)]
  exact a c u e n
theorem Keep.mut {S : List Addr} {H H' : Hp} {p : Addr} {o : HO} (a : Keep S H H') (h : p ∈ S) : Keep S H (upd H' p o) := fun c u e n => by
  have hc : c ≠ p := fun z => n (by rw [z]; exact h)
  rw [upd_ne hc]
  exact a c u e n
theorem Keep.fresh {S : List Addr} {H H' : Hp} {p : Addr} {o : HO} (a : Keep S H H') (h : H p = none) : Keep S H (upd H' p o) := fun c u e n => by
  rw [upd_ne (ne_of_none e h)]
  exact a c u e n
theorem Keep.free {S : List Addr} {H H' : Hp} {p : Addr} (a : Keep S H H') (h : H' p = none) (n : p ∉ S) : H p = none := by
  cases e : H p with
  | none => rfl
  | some o =>
    rw [a p o e n] at h
    cases h
theorem same_new {H : Hp} {p : Addr} (h : H p = none) (o : HO) : Same H (upd H p o) := fun b u q => by rw [upd_ne (ne_of_none q h)]; exact q
theorem same_mut {H H' : Hp} {p : Addr} {o : HO} (a : Same H H') (h : H p = none) : Same H (upd H' p o) := fun c u e => by
  rw [upd_ne (ne_of_none e h)]
  exact a c u e
/-- what is new in H' -/
def news (H H' : Hp) : Hp := fun a => match H a with
  | some _ => none
  | none => H' a
theorem news_sub (H H' : Hp) : Same (news H H') H' := fun b o e => by
  unfold news at e
  split at e
  · cases e
  · exact e
theorem news_no {H H' : Hp} {a : Addr} {o : HO} (h : H a = some o) : news H H' a = none := by
  unfold news; rw [h]
theorem news_at {H H' : Hp} {a : Addr} (h : H a = none) : news H H' a = H' a := by
  unfold news; rw [h]
/-- a later heap that keeps all that H1 has outside S, S known in H -/
theorem news_mono {S : List Addr} {H H1 H2 : Hp} (k : Keep S H1 H2) (hs : ∀ a ∈ S, H a ≠ none) : Same (news H H1) (news H H2) := fun b o e => by
  unfold news at e ⊢
  split at e
  · cases e
  · rename_i hb
    exact k b o e fun z => hs b z hb
/-- newer than H1 is newer than H -/
theorem news_more {S : List Addr} {H H1 H2 : Hp} (k : Keep S H H1) (hs : ∀ a ∈ S, H1 a ≠ none) : Same (news H1 H2) (news H H2) := fun b o e => by
  unfold news at e ⊢
  split at e
  · cases e
  · rename_i hb
    split
    · rename_i u hu
      by_cases hz : b ∈ S
      · exact absurd hb (hs b hz)
      · rw [k b _ hu hz] at hb; cases hb
    · exact e

/-- a turn of a loop that makes new data and stores at D -/
theorem grow {S : List Addr} {Hx H1 H4 : Hp} {D : Addr} {o : HO} (k1 : Keep S Hx H1) (k2 : Keep S H1 H4) (hx : ∀ a ∈ S, Hx a ≠ none) (h1 : ∀ a ∈ S, H1 a ≠ none) (hD : D ∈ S) :
    Same (news Hx H1) (news Hx (upd H4 D o)) ∧ Same (news H1 H4) (news Hx (upd H4 D o)) :=
  ⟨news_mono (k2.mut hD) hx, (news_more k1 h1).trans (news_mono (S := S) ((Keep.refl _ _).mut hD) hx)⟩

/-! ### the script, read and never written -/
def Scr (K : PySem.W.Frag) (H : Hp) (a : Addr) (ns : List Int) : Prop := (∃ ob, H a = some (.frz ob (.lst (ns.map V.int)))) ∨ ∀ H' : Hp, SqL K H' a (ns.map V.int)
theorem Scr.of {K : PySem.W.Frag} {H : Hp} {a : Addr} {ns : List Int} (h : SqL K H a (ns.map V.int)) (hO : Only H) : Scr K H a ns := by
  rcases h with (h | ⟨o, h⟩) | h
  · rcases hO a with z | ⟨ob, xs, z⟩
    · rw [z] at h; cases h
    · rw [z] at h; cases h
  · exact .inl ⟨o, h⟩
  · exact .inr fun _ => .inr h
theorem Scr.sq {K : PySem.W.Frag} {H : Hp} {a : Addr} {ns : List Int} (h : Scr K H a ns) : SqL K H a (ns.map V.int) := by
  rcases h with ⟨o, h⟩ | h
  · exact .inl (.inr ⟨o, h⟩)
  · exact h H
theorem Scr.keep {K : PySem.W.Frag} {S : List Addr} {H H' : Hp} {a : Addr} {ns : List Int} (h : Scr K H a ns) (k : Keep S H H') (n : ∀ b ∈ S, ∀ ob u, H b ≠ some (.frz ob u)) : Scr K H' a ns := by
  rcases h with ⟨o, h⟩ | h
  · refine .inl ⟨o, k _ _ h fun z => ?_⟩
    exact n a z _ _ h
  · exact .inr h
theorem Scr.same {K : PySem.W.Frag} {H H' : Hp} {a : Addr} {ns : List Int} (h : Scr K H a ns) (k : Same H H') : Scr K H' a ns := by
  rcases h with ⟨o, h⟩ | h
  · exact .inl ⟨o, k _ _ h⟩
  · exact .inr h
theorem Scr.put {K : PySem.W.Frag} {H : Hp} {a b : Addr} {ns : List Int} {xs : List V} {o : HO} (h : Scr K H a ns) (e : H b = some (.lst xs)) : Scr K (upd H b o) a ns := by
  rcases h with ⟨u, h⟩ | h
  · refine .inl ⟨u, ?_⟩
    rw [upd_ne (ne_of h e (by intro z; cases z))]
    exact h
  · exact .inr h
end SC

set_option Elab.async false
set_option linter.all false
set_option maxRecDepth 100000
set_option maxHeartbeats 4000000
/-! Schemacheck: defs that are ready to be called, built-ins, kinds of values. -/
namespace SC
open PySem L2

/-! ### a def that may be called -/
def Rdy (P : Program) (w : World) (K : PySem.W.Frag) (mg : Str → Option Value) (base : Heap) (k : Nat) (x : Str) (ps : List Str) (sp : Sp) : Prop :=
  ∃ f fd, FnOk P w K mg base CX0 k f fd ps sp ∧ mg x = some (.ref f) ∧ PySem.W.keepIn K (.ref f) = true ∧ Binds K fd ps []
/-- and with keywords ks: gV puts the positional values and the keywords' values in order -/
def RdyK (P : Program) (w : World) (K : PySem.W.Frag) (mg : Str → Option Value) (base : Heap) (k : Nat) (x : Str) (ps ks : List Str) (gV : List V → List V → List V) (sp : Sp) : Prop :=
  ∃ f fd g, FnOk P w K mg base CX0 k f fd ps sp ∧ mg x = some (.ref f) ∧ PySem.W.keepIn K (.ref f) = true ∧ KBinds K fd ps ks g gV
theorem Rdy.mono {P : Program} {w : World} {K : PySem.W.Frag} {mg : Str → Option Value} {base : Heap} {j k : Nat} {x : Str} {ps : List Str} {sp : Sp} (h : Rdy P w K mg base j x ps sp) (l : j ≤ k) : Rdy P w K mg base k x ps sp := by
  obtain ⟨f, fd, h1, h2⟩ := h
  exact ⟨f, fd, h1.mono l, h2⟩
section
variable {X : Cx} {k : Nat} {x : Str} {ps ks : List Str} {sp : Sp} {p pos : Pos} {e : Expr} {es : List Expr} {kws : List Keyword} {t tk : TA} {gV : List V → List V → List V}
theorem pe_c (R : Rdy X.prog X.w X.K X.mg X.base k x ps sp) (hr : Room k X.A) (hg : Gl X x) (ha : PA X (e :: es) t) (hdb : (x == ("__debug__" : Str)) = false := by decide)
    (he : starEach (e :: es) X.env = (false, eval e X.env) :: starEach es X.env := by rfl) (hpl : (backTo pos (starEach es X.env)).any (·.1) = false := by rfl) : PE X (.Call (.Name x p) (e :: es) [] pos) (tCall sp [] E0 t) := by
  obtain ⟨f, fd, h1, h2, h3, h4⟩ := R
  exact pe_call h1 hr hg h2 h3 h4 .nil pass0 ha hdb he hpl
theorem pe_c0 (R : Rdy X.prog X.w X.K X.mg X.base k x ps sp) (hr : Room k X.A) (hg : Gl X x) (hdb : (x == ("__debug__" : Str)) = false := by decide) : PE X (.Call (.Name x p) [] [] pos) (tCall sp [] E0 tNil) := by
  obtain ⟨f, fd, h1, h2, h3, h4⟩ := R
  exact pe_call0 h1 hr hg h2 h3 h4 .nil pass0 hdb
theorem pe_ck (_R : Rdy X.prog X.w X.K X.mg X.base k x ps sp) (hr : Room k X.A) (hg : Gl X x) (R : RdyK X.prog X.w X.K X.mg X.base k x ps ks gV sp) (ha : PA X (e :: es) t) (hkw : PK X kws tk)
    (hall : (backToKw pos (keywordEach kws X.env)).all (·.1.isSome) = true := by rfl) (hks : (backToKw pos (keywordEach kws X.env)).filterMap (·.1) = ks := by rfl) (hdb : (x == ("__debug__" : Str)) = false := by decide)
    (he : starEach (e :: es) X.env = (false, eval e X.env) :: starEach es X.env := by rfl) (hpl : ((backTo pos (starEach (e :: es) X.env)).any (·.1) || (backToKw pos (keywordEach kws X.env)).any (·.1.isNone)) = false := by rfl) :
    PE X (.Call (.Name x p) (e :: es) kws pos) (tCallK sp gV E0 t tk) := by
  obtain ⟨f, fd, g, h1, h2, h3, h4⟩ := R
  exact pe_callK h1 hr hg h2 h3 h4 pass0 ha hkw hall hks hdb he hpl
/-- only keywords -/
theorem pe_ck0 (_R : Rdy X.prog X.w X.K X.mg X.base k x ps sp) (hr : Room k X.A) (hg : Gl X x) (R : RdyK X.prog X.w X.K X.mg X.base k x ps ks gV sp) (hkw : PK X kws tk)
    (hall : (backToKw pos (keywordEach kws X.env)).all (·.1.isSome) = true := by rfl) (hks : (backToKw pos (keywordEach kws X.env)).filterMap (·.1) = ks := by rfl) (hdb : (x == ("__debug__" : Str)) = false := by decide)
    (hpl : ((backTo pos (starEach [] X.env)).any (·.1) || (backToKw pos (keywordEach kws X.env)).any (·.1.isNone)) = false := by rfl) :
    PE X (.Call (.Name x p) [] kws pos) (tCallK sp gV E0 tNil tk) := by
  obtain ⟨f, fd, g, h1, h2, h3, h4⟩ := R
  constructor
  intro pins s σ H Q I h
  apply wpAny_Call_Name_kw
  apply ld_glob I hg h2 _ hdb
  apply PySem.W.callWith_KW0 (h₀ := X.base) I.ok.mod.kin h3 hall _ hpl
  apply thn (hkw.run pos pins s σ H _ I h)
  rintro ws s2 ⟨zs, H2, I2, rz, q2⟩
  constructor
  · exact I2.kIn
  · rw [hks]
    exact run_fnk (us := []) (vs := []) h1 hr h4 pass0 I2 .nil rz q2
end
/-- the def st stands at the name x, with parameters ps -/
def Def (K : PySem.W.Frag) (mg : Str → Option Value) (x : Str) (st : Stmt) (f : Addr) (fd : FuncData) : Prop := Fun K x x st f fd ∧ mg x = some (.ref f)
theorem Def.rdy {P : Program} {w : World} {K : PySem.W.Frag} {mg : Str → Option Value} {base : Heap} {k : Nat} {x : Str} {st : Stmt} {f : Addr} {fd : FuncData} {ps : List Str} {sp : Sp} (D : Def K mg x st f fd)
    (b : ∀ (kV doc pm : Value) (an : Option Addr) (cdv ct : Value) (us : List Value), us.length = ps.length → bindArgs (PySem.W.fnOf x x (defArgs st) (defBody st) (defScope st) .none kV doc pm an cdv ct) ⟨us, []⟩ = pure (ps.zip us))
    (h : FnOk P w K mg base CX0 k f fd ps sp) : Rdy P w K mg base k x ps sp := ⟨f, fd, h, D.2, D.1.kp, D.1.binds b⟩
theorem Def.rdyK {P : Program} {w : World} {K : PySem.W.Frag} {mg : Str → Option Value} {base : Heap} {k : Nat} {x : Str} {st : Stmt} {f : Addr} {fd : FuncData} {ps : List Str} {sp : Sp} (D : Def K mg x st f fd) (ks : List Str) (g : {α : Type} → List α → List α → List α)
    (hrel : ∀ {vs zs : List V} {us ws : List Value}, Vals vs us → Vals zs ws → Vals (g vs zs) (g us ws))
    (b : ∀ (kV doc pm : Value) (an : Option Addr) (cdv ct : Value) (us ws : List Value), (g us ws).length = ps.length → bindArgs (PySem.W.fnOf x x (defArgs st) (defBody st) (defScope st) .none kV doc pm an cdv ct) ⟨us, ks.zip ws⟩ = pure (ps.zip (g us ws)))
    (h : FnOk P w K mg base CX0 k f fd ps sp) : RdyK P w K mg base k x ps ks (fun vs zs => g vs zs) sp := by
  obtain ⟨oc, od, kV, doc, pm, an, cdv, ct, osl, rfl, lk, hcd⟩ := D.1.ex
  exact ⟨f, _, fun us ws => g us ws, h, D.2, D.1.kp, ⟨fun s us ws _ hl => .of_eq (b kV doc pm an cdv ct us ws hl), hrel⟩⟩

theorem vals_app : ∀ {vs zs : List V} {us ws : List Value}, Vals vs us → Vals zs ws → Vals (vs ++ zs) (us ++ ws) := fun a b => a.append b
/-! ### built-ins that the module has not named otherwise -/
structure Blt (mg : Str → Option Value) : Prop where
  b_len : mg "len" = none
  b_range : mg "range" = none
  b_isinstance : mg "isinstance" = none
  b_max : mg "max" = none
  b_min : mg "min" = none
  b_list : mg "list" = none
  b_dict : mg "dict" = none
  b_int : mg "int" = none
  b_str : mg "str" = none
  b_bool : mg "bool" = none
  b_tuple : mg "tuple" = none
  b_sorted : mg "sorted" = none
  b_enumerate : mg "enumerate" = none
  b_repr : mg "repr" = none
  b_all : mg "all" = none
  b_any : mg "any" = none
  b_zip : mg "zip" = none
  b_set : mg "set" = none
  b_sum : mg "sum" = none

/-! ### text * number -/
theorem op_mul_str {X : Cx} : OpR X (binaryOp .Mult) (fun x y H Q => ∃ z n, x = .str z ∧ y = .int n ∧ MulOk z n ∧ Q (.str (Txt.mul z n)) H) := by
  intro pins s σ H x y v u Q I rx ry h
  obtain ⟨z, n, rfl, rfl, hk, q⟩ := h
  obtain ⟨t, rfl⟩ := rx
  obtain ⟨t2, rfl⟩ := ry
  exact SB.mul hk fun a b => ⟨.str (Txt.mul z n), H, I.tok _, ⟨_, rfl⟩, q⟩

/-! ### isinstance of a datum -/
inductive Ty where
  | bool | int | str | list | tuple | dict
def Ty.nm : Ty → String
  | .bool => "bool"
  | .int => "int"
  | .str => "str"
  | .list => "list"
  | .tuple => "tuple"
  | .dict => "dict"
def isT : Ty → PyData → Bool
  | .bool, .bool _ => true
  | .int, .bool _ => true
  | .int, .int _ => true
  | .str, .str _ => true
  | .list, .list _ => true
  | .tuple, .tuple _ => true
  | .dict, .dict _ => true
  | _, _ => false
def tyD : PyData → String
  | .none => "NoneType"
  | .bool _ => "bool"
  | .int _ => "int"
  | .str _ => "str"
  | .list _ => "list"
  | .tuple _ => "tuple"
  | .dict _ => "dict"
theorem Rp.ty {K : PySem.W.Frag} {H : Hp} {n : Nat} {v : V} : ∀ {d : PyData}, Rp H n v d → TyX K H v (.type (tyD d)) := by
  intro d h
  cases n with
  | zero => exact h.elim
  | succ n =>
    cases d with
    | none => cases h; exact .base .non
    | bool b => cases h; exact .base (.bl b)
    | int i => cases h; exact .base (.int i)
    | str x => cases h; exact .base (.str x)
    | list ds => obtain ⟨a, xs, rfl, h2, _⟩ := h; exact .base (.lst h2)
    | tuple ds => obtain ⟨a, xs, rfl, h2, _⟩ := h; exact .base (.tup h2)
    | dict ds =>
      obtain ⟨a, xs, rfl, h2 | ⟨od, h2⟩, _⟩ := h
      · exact .base (.dK h2)
      · exact .fDict h2
theorem kit_isT (T : Ty) (d : PyData) : kitB (tyD d) T.nm = some (isT T d) := by
  cases T <;> cases d <;> (show kitB _ _ = some _; simp only [tyD, isT, Ty.nm]; decide +kernel)
theorem isi1 {K : PySem.W.Frag} {H : Hp} {n : Nat} {v : V} {d : PyData} (T : Ty) {Q : VK} (h : Rp H n v d) (q : Q (.bl (isT T d)) H) : rIsi K [v, .ty T.nm] H Q :=
  ⟨v, .ty T.nm, _, _, isT T d, rfl, .ty T.nm, h.ty, kit_ty (kit_isT T d), q⟩
theorem isi2 {K : PySem.W.Frag} {H : Hp} {n : Nat} {v : V} {d : PyData} {p : Addr} (T U : Ty) {Q : VK} (h : Rp H n v d) (hp : H p = some (.tup [.ty T.nm, .ty U.nm])) (q : Q (.bl (isT T d || isT U d)) H) : rIsiT K [v, .ref p] H Q := by
  refine ⟨v, p, _, _, [.type T.nm, .type U.nm], isT T d || isT U d, rfl, hp, .cons (.ty _) (.cons (.ty _) .nil), h.ty, ?_, q⟩
  refine kitAny_cons (b := isT T d) (kit_ty (kit_isT T d)) (fun e => ?_) (fun e => by rw [e]; rfl)
  rw [e, Bool.false_or]
  exact kitAny_cons (b := isT U d) (kit_ty (kit_isT U d)) (fun e => by rw [e]; exact kitAny_nil) (fun e => e)
end SC

set_option Elab.async false
set_option linter.all false
set_option maxRecDepth 100000
set_option maxHeartbeats 4000000
/-! Schemacheck: loops and comprehensions, read once more. -/
namespace SC
open PySem L2

/-- a for whose walk has begun -/
def FoR (J : It) (g : TG) (tb : TS) (D : Ends) (σ : St) (H : Hp) : Prop := tFor (fun _ G R => R J G) g tb D σ H
theorem tFor_eq (wi : TI) (g : TG) (tb : TS) (D : Ends) (σ : St) (H : Hp) : tFor wi g tb D σ H = wi σ H fun J H1 => FoR J g tb D σ H1 := rfl
/-- a comprehension whose walk has begun -/
def LcR (J : It) (g : TG) (tt : TT) (te : TE) (vs : List Nat) (σ : St) (H : Hp) (Q : VK) : Prop := tLc (fun _ G R => R J G) g tt te vs σ H Q
theorem tLc_eq (wi : TI) (g : TG) (tt : TT) (te : TE) (vs : List Nat) (σ : St) (H : Hp) (Q : VK) : tLc wi g tt te vs σ H Q = wi σ H fun J H1 => LcR J g tt te vs σ H1 Q := rfl
def DcR (J : It) (g : TG) (tt : TT) (tk tv : TE) (vs : List Nat) (σ : St) (H : Hp) (Q : VK) : Prop := tDc (fun _ G R => R J G) g tt tk tv vs σ H Q
theorem tDc_eq (wi : TI) (g : TG) (tt : TT) (tk tv : TE) (vs : List Nat) (σ : St) (H : Hp) (Q : VK) : tDc wi g tt tk tv vs σ H Q = wi σ H fun J H1 => DcR J g tt tk tv vs σ H1 Q := rfl
section
variable {J : It} {n : Nat} {G : Hp → Prop} {Y : Nat → Hp → V → Hp → Prop}
theorem fo_it (w : Walk J n G Y) {g : TG} {tb : TS} {D : Ends} {σ : St} {H : Hp} (Pv : Nat → St → Hp → Prop) (h0 : Pv 0 σ H) (hG : ∀ i σ H, i ≤ n → Pv i σ H → G H)
    (hs : ∀ i x σ H H', i < n → Pv i σ H → Y i H x H' → g x σ H' fun σ2 H2 => tb { nx := Pv (i + 1), rt := D.rt, bk := D.nx, ct := Pv (i + 1) } σ2 H2) (hd : ∀ σ H, Pv n σ H → D.nx σ H) : FoR J g tb D σ H :=
  for_it w Pv h0 hG hs hd
theorem lc_itR (w : Walk J n G Y) {g : TG} {tt : TT} {te : TE} {vs : List Nat} {σ : St} {H1 : Hp} {Q : VK} (Pv : Addr → Nat → Hp → Prop) (h0 : ∀ D, H1 D = none → Pv D 0 (upd H1 D (.lst []))) (hG : ∀ D i H, H1 D = none → i ≤ n → Pv D i H → G H)
    (hs : ∀ D i x H H', H1 D = none → i < n → Pv D i H → Y i H x H' → g x (wipe σ vs) H' fun σ2 H2 => wipe σ2 vs = wipe σ vs ∧ tt σ2 H2 fun b H3 =>
      if b = true then te σ2 H3 fun y H4 => ∃ acc, H4 D = some (.lst acc) ∧ acc.length < sizeLine ∧ Pv D (i + 1) (upd H4 D (.lst (acc ++ [y]))) else Pv D (i + 1) H3)
    (hd : ∀ D H, H1 D = none → Pv D n H → Q (.ref D) H) : LcR J g tt te vs σ H1 Q := fun D hD =>
  lc_it w (Pv D) (h0 D hD) (fun i H => hG D i H hD) (fun i x H H' => hs D i x H H' hD) fun H => hd D H hD
theorem wipe1 {σ : St} {j : Nat} {x : Option V} : wipe ((wipe σ [j]).set j x) [j] = wipe σ [j] := by
  show ((σ.set j none).set j x).set j none = σ.set j none
  rw [List.set_set, List.set_set]
/-- [e for x in ..], each e a value known ahead, the heap only grows -/
theorem lcP_map (w : Walk J n G Y) (X : Nat → V → Prop) (hX : ∀ i H x H', Y i H x H' → H' = H ∧ X i x) {te : TE} {j : Nat} {σ : St} {H1 : Hp} {Q : VK} (hG : ∀ H', Same H1 H' → G H') (ys : List V) (hl : ys.length = n) (hz : n ≤ 100000)
    (step : ∀ i x y H' (N : VK), X i x → ys[i]? = some y → Same H1 H' → (∀ H4, Same H' H4 → N y H4) → te ((wipe σ [j]).set j (some x)) H' N)
    (done : ∀ D H', H1 D = none → Same H1 H' → H' D = some (.lst ys) → Q (.ref D) H') : LcR J (gName j) tYes te [j] σ H1 Q := by
  refine lc_itR w (fun D i H' => Same H1 H' ∧ H' D = some (.lst (ys.take i))) (fun D hD => ⟨same_new hD _, by rw [upd_same, List.take_zero]⟩) (fun D i H _ _ p => hG H p.1) ?_ (fun D H hD p => done D H hD p.1 (by rw [p.2, ← hl, List.take_length]))
  rintro D i x H H' hD hi ⟨s, e⟩ y
  obtain ⟨rfl, hx⟩ := hX _ _ _ _ y
  obtain ⟨z, hz'⟩ : ∃ z, ys[i]? = some z := ⟨ys[i]'(by omega), by rw [List.getElem?_eq_getElem]⟩
  refine ⟨wipe1, ?_⟩
  show te _ _ _
  refine step i x z _ _ hx hz' s fun H4 s4 => ⟨_, s4 _ _ e, ?_, same_mut (s.trans s4) hD, ?_⟩
  · rw [List.length_take]
    exact Nat.lt_of_le_of_lt (Nat.min_le_left _ _) (Nat.lt_of_lt_of_le (Nat.lt_of_lt_of_le hi hz) (by decide))
  · rw [upd_same, List.take_succ, hz']
    rfl
end
/-- a block cut behind its first statement: what holds there, and what follows it -/
theorem cutM {t u : TS} {D : Ends} {σ : St} {H : Hp} (M : St → Hp → Prop) (h1 : ∀ N : St → Hp → Prop, (∀ σ' H', M σ' H' → N σ' H') → t { D with nx := N } σ H) (h2 : ∀ σ' H', M σ' H' → u D σ' H') : tSeq t u D σ H := h1 (u D) h2
/-- the walks -/
theorem lcP_list {K : PySem.W.Frag} {a : Addr} {xs : List V} {te : TE} {j : Nat} {σ : St} {H1 : Hp} {Q : VK} (hS : SqL K H1 a xs) (ys : List V) (hl : ys.length = xs.length) (hz : xs.length ≤ 100000)
    (step : ∀ (i : Nat) x y H' (N : VK), xs[i]? = some x → ys[i]? = some y → Same H1 H' → (∀ H4, Same H' H4 → N y H4) → te ((wipe σ [j]).set j (some x)) H' N)
    (done : ∀ D H', H1 D = none → Same H1 H' → H' D = some (.lst ys) → Q (.ref D) H') : LcR (Itl K a) (gName j) tYes te [j] σ H1 Q :=
  lcP_map (walk_list (xs := xs)) (fun i x => xs[i]? = some x) (fun _ _ _ _ h => h) (fun _ s => s.seq hS) ys hl hz step done
theorem lcP_range {lo : Int} {n : Nat} {te : TE} {j : Nat} {σ : St} {H1 : Hp} {Q : VK} (ys : List V) (hl : ys.length = n) (hz : n ≤ 100000)
    (step : ∀ (i : Nat) x y H' (N : VK), x = V.int (lo + (i : Nat)) → ys[i]? = some y → Same H1 H' → (∀ H4, Same H' H4 → N y H4) → te ((wipe σ [j]).set j (some x)) H' N)
    (done : ∀ D H', H1 D = none → Same H1 H' → H' D = some (.lst ys) → Q (.ref D) H') : LcR (Itr lo n) (gName j) tYes te [j] σ H1 Q :=
  lcP_map walk_range (fun i x => x = V.int (lo + (i : Nat))) (fun _ _ _ _ h => h) (fun _ _ => trivial) ys hl hz step done
theorem lcP_keys {d : Addr} {o : Obj} {kvs : List (Key × V)} {te : TE} {j : Nat} {σ : St} {H1 : Hp} {Q : VK} (hd : H1 d = some (.frz o (.dK kvs))) (ys : List V) (hl : ys.length = kvs.length) (hz : kvs.length ≤ 100000)
    (step : ∀ (i : Nat) k v y H' (N : VK), kvs[i]? = some (k, v) → ys[i]? = some y → Same H1 H' → (∀ H4, Same H' H4 → N y H4) → te ((wipe σ [j]).set j (some (kV k))) H' N)
    (done : ∀ D H', H1 D = none → Same H1 H' → H' D = some (.lst ys) → Q (.ref D) H') : LcR (Itk d o kvs) (gName j) tYes te [j] σ H1 Q :=
  lcP_map walk_keys (fun i x => ∃ k v, kvs[i]? = some (k, v) ∧ x = kV k) (fun _ _ _ _ h => h) (fun _ s => s _ _ hd) ys hl hz (fun i x y H' N ⟨k, v, h1, h2⟩ hy s n => by subst h2; exact step i k v y H' N h1 hy s n) done
/-- under a lock: what was there is there, what the lock hid comes back -/
theorem same_lock {H H' : Hp} {d : Addr} {u : HO} {od : Obj} (hd : H d = some u) (s : Same (upd H d (.frz od u)) H') : Same H (upd H' d u) := fun b o e => by
  by_cases hb : b = d
  · subst hb
    rw [hd] at e
    cases e
    exact upd_same
  · rw [upd_ne hb]
    exact s b o (by rw [upd_ne hb]; exact e)
/-- a dict locked for a walk: it is locked here, or it was before (then some list p is locked in its place) -/
theorem lockE {t : TE} {σ : St} {H : Hp} {Q : VK} {a p : Addr} {kvs : List (Key × V)} {ps : List V} (ha : Rd H a (.dK kvs)) (hp : H p = some (.lst ps))
    (h : ∀ (H1 : Hp) (od : Obj), H1 a = some (.frz od (.dK kvs)) → (∀ b, H1 b = none → H b = none) → (∀ G : Hp, G p = none → Same G H → LSame G H1) →
      ∀ Q' : VK, (∀ v H', Same H1 H' → (∀ H2, Same H H2 → (∀ b, H b = none → H2 b = H' b) → Q v H2) → Q' v H') → t σ H1 Q') : tLockE t σ H Q := by
  have key : ∀ (c : Addr) (u : HO), H c = some u → ∀ (od : Obj) (v : V) (H' : Hp), Same (upd H c (.frz od u)) H' → (∀ H2, Same H H2 → (∀ b, H b = none → H2 b = H' b) → Q v H2) → H' c = some (.frz od u) ∧ Q v (upd H' c u) := by
    intro c u hc od v H' s q
    refine ⟨s _ _ upd_same, q _ (same_lock hc s) ?_⟩
    intro b hb
    rw [upd_ne (fun z => by rw [z, hc] at hb; cases hb)]
  have free : ∀ (c : Addr) (u : HO), H c = some u → ∀ od : Obj, ∀ b, upd H c (.frz od u) b = none → H b = none := by
    intro c u hc od b hb
    by_cases e : b = c
    · rw [e, upd_same] at hb; cases hb
    · rw [upd_ne e] at hb; exact hb
  rcases ha with ha | ⟨od, ha⟩
  · refine ⟨a, .dK kvs, ha, trivial, fun od => h _ od upd_same (free _ _ ha od) ?_ _ (key _ _ ha od)⟩
    intro G _ s b o e
    by_cases hb : b = a
    · subst hb
      have e2 := s _ _ e
      rw [ha] at e2
      cases e2
      exact .inr ⟨kvs, od, rfl, upd_same⟩
    · exact .inl (by rw [upd_ne hb]; exact s _ _ e)
  · have hap : a ≠ p := ne_of ha hp (by intro z; cases z)
    refine ⟨p, .lst ps, hp, trivial, fun od2 => h _ od (by rw [upd_ne hap]; exact ha) (free _ _ hp od2) ?_ _ (key _ _ hp od2)⟩
    intro G hG s b o e
    exact .inl (by rw [upd_ne (ne_of_none e hG)]; exact s _ _ e)
/-- [e for k in d] -/
theorem lcD_keys {a p : Addr} {kvs : List (Key × V)} {ps : List V} {te : TE} {i j : Nat} {σ : St} {H G : Hp} {Q : VK} (ha : Rd H a (.dK kvs)) (hp : H p = some (.lst ps)) (hi : σ[i]? = some (some (.ref a))) (hG : G p = none) (sG : Same G H)
    (ys : List V) (hl : ys.length = kvs.length) (hz : kvs.length ≤ 100000)
    (step : ∀ (i : Nat) k v y H' (N : VK), kvs[i]? = some (k, v) → ys[i]? = some y → LSame G H' → Rd H' a (.dK kvs) → (∀ H4, Same H' H4 → N y H4) → te ((wipe σ [j]).set j (some (kV k))) H' N)
    (done : ∀ D H', H D = none → Same H H' → H' D = some (.lst ys) → Q (.ref D) H') : tLockE (tLc (iKeys (tVar i)) (gName j) tYes te [j]) σ H Q := by
  refine lockE ha hp ?_
  intro H1 od e1 fr ls Q' hQ
  rw [tLc_eq]
  refine ⟨_, hi, a, od, rfl, .inl ⟨kvs, e1, lcP_keys e1 ys hl hz ?_ ?_⟩⟩
  · intro i k v y H' N hk hy s N'
    exact step i k v y H' N hk hy ((ls G hG sG).trans (.of s)) (.inr ⟨od, s _ _ e1⟩) N'
  · intro D H' nD s e
    refine hQ _ _ s ?_
    intro H2 s2 h2
    have hD : H D = none := fr D nD
    exact done D H2 hD s2 (by rw [h2 D hD]; exact e)
/-- a dict's value by its key -/
theorem valV_at {kvs : List (Key × V)} {i : Nat} {k : Key} {v : V} (hn : (kvs.map (·.1)).Nodup) (h : kvs[i]? = some (k, v)) : valV kvs k = some v := by
  induction kvs generalizing i with
  | nil => simp at h
  | cons p r ih =>
    cases i with
    | zero =>
      simp at h
      subst h
      simp [valV]
    | succ i =>
      simp at h
      have hm : (k, v) ∈ r := List.mem_of_getElem? h
      have hne : ¬ p.1 = k := by
        intro e
        simp only [List.map_cons, List.nodup_cons] at hn
        exact hn.1 (List.mem_map.mpr ⟨_, hm, e.symm⟩)
      have := ih (by simp only [List.map_cons, List.nodup_cons] at hn; exact hn.2) h
      simp only [valV, List.find?_cons, decide_eq_false hne] at this ⊢
      exact this
theorem cx_K {CX : CXT} {P : Program} {w : World} {K : PySem.W.Frag} {mg : Str → Option Value} {base : Heap} {N : List Str} {q : Str} {sc : Scope} {f : Addr} {cd : Value} {A : Around} {outer : List Env} {s : Shared} {H : Hp} {E : XK} : (cxOf CX P w K mg base N q sc f cd A outer s H E).K = K := rfl
/-- an item of a written list, whichever -/
theorem ix_any {K : PySem.W.Frag} {H : Hp} {p : Addr} {xs : List V} {i : Int} {Q : VK} (hp : H p = some (.lst xs)) (h0 : 0 ≤ i) (h1 : i < (xs.length : Int)) (q : ∀ v ∈ xs, Q v H) : rIxL K (.ref p) (.int i) H Q := by
  obtain ⟨j, rfl⟩ : ∃ j : Nat, i = j := ⟨i.toNat, by omega⟩
  have hl : j < xs.length := by omega
  exact ⟨p, xs, j, xs[j], rfl, rfl, SqL.of hp, atI_nat (List.getElem?_eq_getElem hl), q _ (List.getElem_mem hl)⟩
theorem mul_ok {x : Str} {n : Int} (hx : x.length = 1) (h0 : -1000 ≤ n) (h1 : n ≤ 1000) : MulOk x n := by
  refine ⟨?_, ?_, ?_⟩
  · rw [decide_eq_false (by omega), decide_eq_false (by omega)]; rfl
  · intro h2 _
    rw [hx]
    have : (2 ^ 63 - 1 : Int) / n ≥ 1 := Int.le_ediv_of_mul_le (by omega) (by omega)
    omega
  · intro h2 _
    rw [hx]
    have h3 : ∀ k : Fin 1001, PySem.Builtin.Str.tooLong (1 * k.1) = false := by decide +kernel
    exact h3 ⟨n.toNat, by omega⟩
theorem erase_map {A B : Type} (f : A → B) : ∀ (l : List A) (k : Nat), (l.map f).eraseIdx k = (l.eraseIdx k).map f
  | [], _ => rfl
  | _ :: _, 0 => rfl
  | x :: r, k + 1 => by simp [List.eraseIdx, erase_map f r k]
theorem erase_perm {A : Type} : ∀ (l : List A) (k : Nat) (x : A), l[k]? = some x → (x :: l.eraseIdx k).Perm l
  | [], _, _, h => by simp at h
  | y :: r, 0, x, h => by simp at h; subst h; exact .refl _
  | y :: r, k + 1, x, h => by
    simp at h
    exact (List.Perm.swap y x _).trans ((erase_perm r k x h).cons y)
theorem seqIx {j n : Nat} (h : j < n) : seqIndex? (j : Int) n = some j := by
  have h1 : ¬ (j : Int) < 0 := by omega
  unfold seqIndex?
  simp only [if_neg h1]
  rw [if_pos (by simp; omega)]
  simp
theorem valV_no {kvs : List (Key × V)} {k : Key} (h : k ∉ kvs.map (·.1)) : valV kvs k = none := by
  unfold valV
  rw [List.find?_eq_none.mpr]
  · rfl
  · intro p hp
    simp only [decide_eq_true_eq]
    intro e
    exact h (List.mem_map.mpr ⟨p, hp, e⟩)
theorem nd_take {A : Type} {xs : List A} {i : Nat} (h : xs.Nodup) (hi : i < xs.length) : xs[i] ∉ xs.take i := by
  intro hm
  rw [← List.take_append_drop i xs] at h
  exact (List.nodup_append.mp h).2.2 _ hm _ (List.mem_of_getElem (i := 0) (h := by rw [List.length_drop]; omega) (by simp)) rfl
theorem iteT' {c A B : Prop} [Decidable c] (hc : c) (h : A) : if c then A else B := by rw [if_pos hc]; exact h
theorem iteF' {c A B : Prop} [Decidable c] (hc : ¬ c) (h : B) : if c then A else B := by rw [if_neg hc]; exact h
theorem mod_in (n : Int) {m : Int} (h : 0 < m) : 0 ≤ n % m ∧ n % m < m := ⟨Int.emod_nonneg _ (by omega), Int.emod_lt_of_pos _ h⟩
theorem sz5 {n : Nat} (h : n ≤ 100000) : n ≤ sizeLine := Nat.le_trans h (by decide)
theorem sz5l {n : Nat} (h : n < 100000) : n < sizeLine := Nat.lt_of_lt_of_le h (by decide)
end SC

set_option Elab.async false
set_option linter.all false
set_option maxRecDepth 100000
set_option maxHeartbeats 4000000
/-! Schemacheck: defs that are called where no repr is under way; repr of data. -/
namespace SC
open PySem L2 PySem.Spec PyProof.Rows

/-- a def keeps its promise wherever nothing is being shown -/
structure FnG (P : Program) (w : World) (K : PySem.W.Frag) (mg : Str → Option Value) (base : Heap) (k : Nat) (f : Addr) (fd : FuncData) (ps : List Str) (sp : Sp) : Prop where
  len : ∀ vs H Q E, sp vs H Q E → vs.length = ps.length
  run : ∀ (A : Around) (outer : List Env) (s : Shared) (H : Hp) (args : Args) (us : List Value) (vs : List V) (Q : VK) (E : XK), A.guards = some [] → Room k A → Env0 P w K mg base A outer s H →
    BindsTo s fd args (ps.zip us) → Vals vs us → sp vs H Q E → codeAny (model P w) A (.call (.ref f) args) (CR CX0 outer P w H s Q E) s
section
variable {P : Program} {w : World} {K : PySem.W.Frag} {mg : Str → Option Value} {base : Heap} {k : Nat} {f : Addr} {fd : FuncData} {ps : List Str} {sp : Sp}
theorem FnG.of (F : FnOk P w K mg base CX0 k f fd ps sp) : FnG P w K mg base k f fd ps sp := ⟨F.len, fun A outer s H args us vs Q E _ => F.run A outer s H args us vs Q E⟩
theorem kinds_ok {N ps : List Str} {sc : Scope} (S : FnScope N ps sc) (us : List Value) : ((ps.zip us).all fun y => sc.names.lookup y.1 == some .local || sc.names.lookup y.1 == some .cell) = true := by
  rw [List.all_eq_true]
  rintro ⟨n, v⟩ hy
  have h1 := S.par n (List.of_mem_zip hy).1
  rcases h1 with q | q
  · simp [q]
  · simp [q]
/-- the rule for a def, as Fun.ok, with the guards known -/
theorem okG {x qual : Str} {st : Stmt} {N : List Str} (F : Fun K x qual st f fd) (S : FnScope N ps (defScope st)) (len : ∀ vs H Q E, sp vs H Q E → vs.length = ps.length)
    (hbody : ∀ (cdv : Value) (A : Around) (outer : List Env) (s : Shared) (H : Hp) (vs : List V) (Q : VK) (E : XK), A.guards = some [] → Room k (A.deeper (envOfC qual (defScope st) s.heap.objs.size f cdv)) → sp vs H Q E →
      ∃ t, PSs (cxOf CX0 P w K mg base N qual (defScope st) f cdv A outer s H E).nox (defBody st) t ∧ t { nx := fun _ H' => Q .non H', rt := Q } (start N vs) H) : FnG P w K mg base (k + 1) f fd ps sp := by
  obtain ⟨oc, od, kV, doc, pm, an, cdv, ct, osl, rfl, lk, hcd⟩ := F.ex
  constructor
  · exact len
  intro A outer s H args us vs Q E hg hr e0 hb r hsp
  obtain ⟨t, ht, hq⟩ := hbody cdv A outer s H vs Q E hg (hr.deeper _) hsp
  have KX : K.In s.heap := e0.mod.kin.keeps (fun b o e => (e0.bs b o e).1)
  have lim : s.heap.NoLimit := e0.mod.nolimit.keeps (fun b o e => (e0.bs b o e).1)
  refine Att.call_fn KX lim lk hcd hr.depth hb (kinds_ok S us) ?_ S.co S.gen S.kind
  intro s1 x
  have I : Inv (cxOf CX0 P w K mg base N qual (defScope st) f cdv A outer s H E) [] (start N vs) H s1 := inv_start S hr.hd e0 (len _ _ _ _ hsp) r x
  have done : ∀ {σ' : L2.St} {H' : Hp} {v : V} {u : Value} {s' : Shared}, Inv (cxOf CX0 P w K mg base N qual (defScope st) f cdv A outer s H E) [] σ' H' s' → RelV v u → Q v H' → CE outer P w H s Q u s' := by
    intro σ' H' v u s' J rv q
    exact ⟨v, H', J.os, J.bare, J.base, J.hok, rv, q⟩
  apply wpAny_mono (ht.nox.run [] s1 (start N vs) H _ I hq)
  · intro fl s' hs
    cases fl
    case ret u =>
      obtain ⟨v, σ', H', J, rv, q⟩ := hs
      exact done J rv q
    case next =>
      obtain ⟨σ', H', J, q⟩ := hs
      exact done (v := .non) (u := .none) J rfl q
    case brk =>
      obtain ⟨_, _, _, q⟩ := hs
      exact q.elim
    case cont =>
      obtain ⟨_, _, _, q⟩ := hs
      exact q.elim
  · intro e s' hs
    exact hs
end
/-! ### calls of such defs -/
def RdyG (P : Program) (w : World) (K : PySem.W.Frag) (mg : Str → Option Value) (base : Heap) (k : Nat) (x : Str) (ps : List Str) (sp : Sp) : Prop :=
  ∃ f fd, FnG P w K mg base k f fd ps sp ∧ mg x = some (.ref f) ∧ PySem.W.keepIn K (.ref f) = true ∧ Binds K fd ps []
theorem Def.rdyG {P : Program} {w : World} {K : PySem.W.Frag} {mg : Str → Option Value} {base : Heap} {k : Nat} {x : Str} {st : Stmt} {f : Addr} {fd : FuncData} {ps : List Str} {sp : Sp} (D : Def K mg x st f fd)
    (b : ∀ (kV doc pm : Value) (an : Option Addr) (cdv ct : Value) (us : List Value), us.length = ps.length → bindArgs (PySem.W.fnOf x x (defArgs st) (defBody st) (defScope st) .none kV doc pm an cdv ct) ⟨us, []⟩ = pure (ps.zip us))
    (h : FnG P w K mg base k f fd ps sp) : RdyG P w K mg base k x ps sp := ⟨f, fd, h, D.2, D.1.kp, D.1.binds b⟩
section
variable {X : Cx} {k : Nat} {x : Str} {ps ks : List Str} {sp : Sp} {p pos : Pos} {e : Expr} {es : List Expr} {t : TA}
theorem run_g {pins : List (Addr × Obj)} {σ : L2.St} {H : Hp} {s : Shared} {Q : VK} {f : Addr} {fd : FuncData} {us : List Value} {vs : List V} (F : FnG X.prog X.w X.K X.mg X.base k f fd ps sp) (hg : X.A.guards = some []) (hr : Room k X.A) (hb : Binds X.K fd ps [])
    (I : Inv X pins σ H s) (r : Vals vs us) (h : sp vs H Q E0) : wpAny (model X.prog X.w) X.A (call (.ref f) us) (EP X pins σ Q) X.xe s := by
  have hl : us.length = ps.length := by
    rw [← r.length]
    exact F.len _ _ _ _ h
  have hb' := hb s us I.kIn (by rw [List.append_nil]; exact hl)
  rw [List.append_nil] at hb'
  apply wpAny_call
  apply codeAny_mono (F.run X.A X.stack s H ⟨us, []⟩ us vs Q E0 hg hr I.env0 hb' r h)
  intro res s' hq
  cases res with
  | error e => exact False.elim hq
  | ok fl =>
    cases fl with
    | ret u => exact I.after hq
    | next => exact False.elim hq
    | brk => exact False.elim hq
    | cont => exact False.elim hq
theorem pe_cg (R : RdyG X.prog X.w X.K X.mg X.base k x ps sp) (hgd : X.A.guards = some []) (hr : Room k X.A) (hg : Gl X x) (ha : PA X (e :: es) t) (hdb : (x == ("__debug__" : Str)) = false := by decide)
    (he : starEach (e :: es) X.env = (false, eval e X.env) :: starEach es X.env := by rfl) (hpl : (backTo pos (starEach es X.env)).any (·.1) = false := by rfl) : PE X (.Call (.Name x p) (e :: es) [] pos) (tCall sp [] E0 t) := by
  obtain ⟨f, fd, h1, h2, h3, h4⟩ := R
  constructor
  intro pins s σ H Q I h
  apply wpAny_Call_Name_kw
  apply ld_glob I hg h2 _ hdb
  refine PySem.W.callWith_K (h₀ := X.base) I.ok.mod.kin h3 ?_ he hpl
  apply thn (ha.run pos pins s σ H _ I h)
  rintro us s1 ⟨vs, H1, I1, r, q⟩
  refine ⟨I1.kIn, run_g h1 hgd hr h4 I1 r ?_⟩
  rw [List.append_nil] at q
  exact q
theorem pe_cg0 (R : RdyG X.prog X.w X.K X.mg X.base k x ps sp) (hgd : X.A.guards = some []) (hr : Room k X.A) (hg : Gl X x) (hdb : (x == ("__debug__" : Str)) = false := by decide) : PE X (.Call (.Name x p) [] [] pos) (tCall sp [] E0 tNil) := by
  obtain ⟨f, fd, h1, h2, h3, h4⟩ := R
  constructor
  intro pins s σ H Q I h
  apply wpAny_Call_Name_kw
  apply ld_glob I hg h2 _ hdb
  exact PySem.W.callWith_K0 I.kIn h3 (run_g (us := []) (vs := []) h1 hgd hr h4 I .nil h)
end
/-! ### repr -/
theorem readsAll_of {h : Heap} {F : V → PyData → Prop} {G : Addr → Prop} (f : ∀ v d u, F v d → RelV v u → ∃ as, Reads h u d as ∧ ∀ b ∈ as, G b) : ∀ {xs : List V} {ds : List PyData} {us : List Value}, Paired F xs ds → Vals xs us → ∃ as, ReadsAll h us ds as ∧ ∀ b ∈ as, G b := by
  intro xs ds us hp
  induction hp generalizing us with
  | nil =>
    intro r
    cases r
    exact ⟨[], .nil, by simp⟩
  | cons q _ ih =>
    intro r
    cases r with
    | cons r1 r2 =>
      obtain ⟨as, h1, g1⟩ := f _ _ _ q r1
      obtain ⟨bs, h2, g2⟩ := ih r2
      refine ⟨_, .cons h1 h2, ?_⟩
      intro b hb
      rcases List.mem_append.mp hb with hb | hb
      · exact g1 b hb
      · exact g2 b hb
theorem reads_key {h : Heap} {k : Key} {v : Value} (hk : keyIs k v = true) : Reads h v (kD k) [] := by
  rcases keyIs_shape hk with ⟨i, t, rfl, rfl⟩ | ⟨x, t, rfl, rfl⟩
  · exact .int i t
  · exact .str x t
theorem readsKv_of {P : Program} {w : World} {h : Heap} {F : V → PyData → Prop} {G : Addr → Prop} (f : ∀ v d u, F v d → RelV v u → ∃ as, Reads h u d as ∧ ∀ b ∈ as, G b) : ∀ {kvs : List (Key × V)} {es : List (PyData × PyData)} {ws : List (Key × Value)} {ds : List DictEntry},
    Paired (fun (p : Key × V) (q : PyData × PyData) => q.1 = kD p.1 ∧ F p.2 q.2) kvs es → KV kvs ws → Pairs (mixKind P w) ds ws →
    (∃ as, ReadsAll h (ds.map (·.key)) (es.map (·.1)) as ∧ as = []) ∧ ∃ bs, ReadsAll h (ds.map (·.val)) (es.map (·.2)) bs ∧ ∀ b ∈ bs, G b := by
  intro kvs es ws ds hp
  induction hp generalizing ws ds with
  | nil =>
    intro r q
    cases r
    cases q
    exact ⟨⟨[], .nil, rfl⟩, [], .nil, by simp⟩
  | cons c _ ih =>
    intro r q
    cases r with
    | cons r1 r2 =>
      cases q with
      | cons q1 q2 q3 =>
        obtain ⟨⟨as, h1, e1⟩, bs, h2, g2⟩ := ih r2 q3
        subst e1
        obtain ⟨cs, h3, g3⟩ := f _ _ _ c.2 r1.2
        have k1 : Reads h _ (kD _) [] := reads_key q1
        rw [← r1.1, ← c.1] at k1
        rw [← q2] at h3
        refine ⟨⟨[] ++ [], ReadsAll.cons k1 h1, rfl⟩, cs ++ bs, ReadsAll.cons h3 h2, ?_⟩
        · intro b hb
          rcases List.mem_append.mp hb with hb | hb
          · exact g3 b hb
          · exact g2 b hb
theorem Rp.reads {P : Program} {w : World} {H : Hp} {h : Heap} (ok : HOk P w H h) : ∀ {n : Nat} {d : PyData} {v : V} {u : Value}, Rp H n v d → RelV v u → ∃ as, Reads h u d as ∧ ∀ b ∈ as, H b ≠ none
  | 0, _, _, _, h, _ => h.elim
  | n + 1, .none, _, _, e, r => by cases e; cases r; exact ⟨[], .none, by simp⟩
  | n + 1, .bool b, _, _, e, r => by cases e; cases r; exact ⟨[], .bool b, by simp⟩
  | n + 1, .int b, _, _, e, r => by cases e; obtain ⟨t, rfl⟩ := r; exact ⟨[], .int b t, by simp⟩
  | n + 1, .str b, _, _, e, r => by cases e; obtain ⟨t, rfl⟩ := r; exact ⟨[], .str b t, by simp⟩
  | n + 1, .list ds, _, _, ⟨a, xs, e, ha, _, hp⟩, r => by
    subst e
    cases r
    obtain ⟨_, its, m, rv, hg⟩ := ok a _ ha
    obtain ⟨as, h1, g1⟩ := readsAll_of (G := fun b => H b ≠ none) (fun v d u q r => Rp.reads ok q r) hp rv
    refine ⟨a :: as, .list hg rfl rfl (by simpa using h1), ?_⟩
    intro b hb
    rcases List.mem_cons.mp hb with rfl | hb
    · rw [ha]; simp
    · exact g1 b hb
  | n + 1, .tuple ds, _, _, ⟨a, xs, e, ha, _, hp⟩, r => by
    subst e
    cases r
    obtain ⟨_, its, rv, o, ho, hc, m, hd⟩ := ok a _ ha
    obtain ⟨as, h1, g1⟩ := readsAll_of (G := fun b => H b ≠ none) (fun v d u q r => Rp.reads ok q r) hp rv
    exact ⟨as, .tuple ho hc hd (by simpa using h1), g1⟩
  | n + 1, .dict es, _, _, ⟨a, kvs, e, ha, _, _, hp⟩, r => by
    subst e
    cases r
    obtain ⟨_, _, ws, rv, o, ds, ep, ho, hx, hd, _, hpr, _⟩ := ha.ok ok
    obtain ⟨⟨as, h1, e1⟩, bs, h2, g2⟩ := readsKv_of (G := fun b => H b ≠ none) (fun v d u q r => Rp.reads ok q r) hp rv hpr
    subst e1
    refine ⟨_, .dict ho hx.1 hd h1 h2, ?_⟩
    intro b hb
    simp only [List.append_nil, List.cons_append, List.nil_append, List.mem_cons] at hb
    rcases hb with rfl | hb
    · rcases ha with ha | ⟨_, ha⟩ <;> rw [ha] <;> simp
    · exact g2 b hb
theorem depthAll_le {n : Nat} : ∀ {ds : List PyData}, (∀ d ∈ ds, d.depth ≤ n) → PyData.depthAll ds ≤ n
  | [], _ => Nat.zero_le _
  | d :: r, h => by
    have h1 := h d (by simp)
    have h2 := depthAll_le (ds := r) fun e he => h e (by simp [he])
    show max _ _ ≤ n
    omega
theorem depthKv_le {n : Nat} : ∀ {es : List (PyData × PyData)}, (∀ e ∈ es, e.1.depth ≤ n ∧ e.2.depth ≤ n) → PyData.depthKv es ≤ n
  | [], _ => Nat.zero_le _
  | (a, b) :: r, h => by
    have h1 := h (a, b) (by simp)
    have h2 := depthKv_le (es := r) fun e he => h e (by simp [he])
    show max (max _ _) _ ≤ n
    simp at h1
    omega
theorem Rp.depth_le {H : Hp} : ∀ {n : Nat} {d : PyData} {v : V}, Rp H n v d → d.depth ≤ n
  | 0, _, _, h => h.elim
  | n + 1, .none, _, _ => Nat.zero_le _
  | n + 1, .bool _, _, _ => Nat.zero_le _
  | n + 1, .int _, _, _ => Nat.zero_le _
  | n + 1, .str _, _, _ => Nat.zero_le _
  | n + 1, .list ds, _, ⟨a, xs, e, ha, _, hp⟩ => by
    show PyData.depthAll ds + 1 ≤ n + 1
    have : PyData.depthAll ds ≤ n := depthAll_le fun d hd => by
      obtain ⟨x, _, r⟩ := pd_memR hp hd
      exact r.depth_le
    omega
  | n + 1, .tuple ds, _, ⟨a, xs, e, ha, _, hp⟩ => by
    show PyData.depthAll ds + 1 ≤ n + 1
    have : PyData.depthAll ds ≤ n := depthAll_le fun d hd => by
      obtain ⟨x, _, r⟩ := pd_memR hp hd
      exact r.depth_le
    omega
  | n + 1, .dict es, _, ⟨a, xs, e, ha, _, _, hp⟩ => by
    show PyData.depthKv es + 1 ≤ n + 1
    have : PyData.depthKv es ≤ n := depthKv_le fun q hq => by
      obtain ⟨x, _, r1, r2⟩ := pd_memR hp hq
      refine ⟨?_, r2.depth_le⟩
      rw [r1]
      cases x.1 <;> exact Nat.zero_le _
    omega
def rRepr : List V → Hp → VK → Prop := fun xs H Q => ∃ v n d, xs = [v] ∧ Rp H n v d ∧ n ≤ 90 ∧ d.showable = true ∧ d.shown.length ≤ sizeLine ∧ Q (.str d.shown) H
theorem call_repr {X : Cx} (hg : X.A.guards = some []) (hsys : ∃ o, X.base.get? sysModules = some o) (hu : X.A.units + 100 < cLine) : CallR X (.builtin "repr") rRepr := by
  intro pins s σ H xs us Q I r h
  obtain ⟨v, n, d, rfl, hd, hn, hs, hz, q⟩ := h
  obtain ⟨u, rfl, rv⟩ := vals1 r
  obtain ⟨o0, hs0⟩ := hsys
  have hsm : H sysModules = none := (I.bs _ _ hs0).2
  obtain ⟨as, rd, g⟩ := hd.reads I.hok rv
  have hdep := hd.depth_le
  have no : sysModules ∉ as := fun hm => g _ hm hsm
  cases rd with
  | none => exact PySem.P.repr_of_none ⟨.str _, H, I.tok _, ⟨_, rfl⟩, q⟩
  | bool b => exact PySem.P.repr_of_bool ⟨.str _, H, I.tok _, ⟨_, rfl⟩, q⟩
  | int i t =>
    have hi : i.natAbs.log2 < 1920 := of_decide_eq_true hs
    exact PySem.P.repr_of_int hi ⟨.str _, H, I.tok _, ⟨_, rfl⟩, q⟩
  | str x t => exact PySem.P.repr_of_str ⟨.str _, H, I.tok _, ⟨_, rfl⟩, q⟩ hz
  | list a1 a2 a3 a4 => exact repr_of_reads' (.list a1 a2 a3 a4) hs (fun _ => no) hg (by omega) (fun b o e => e) (fun h' t tk hk => ⟨.str _, H, I.un (Un.kept hk) (I.hok.kept hk), ⟨_, rfl⟩, q⟩) hz
  | tuple a1 a2 a3 a4 => exact repr_of_reads' (.tuple a1 a2 a3 a4) hs (fun _ => no) hg (by omega) (fun b o e => e) (fun h' t tk hk => ⟨.str _, H, I.un (Un.kept hk) (I.hok.kept hk), ⟨_, rfl⟩, q⟩) hz
  | dict a1 a2 a3 a4 a5 => exact repr_of_reads' (.dict a1 a2 a3 a4 a5) hs (fun _ => no) hg (by omega) (fun b o e => e) (fun h' t tk hk => ⟨.str _, H, I.un (Un.kept hk) (I.hok.kept hk), ⟨_, rfl⟩, q⟩) hz
/-! ### the law's own call -/
section
variable {P : Program} {w : World} {K : PySem.W.Frag} {mg mb : Str → Option Value} {k : Nat} {fa a : Addr} {fd : FuncData} {x : Str} {sp : Sp} {s1 : Shared} {vs : List Value} {ns : List Int}
/-- a dict of the state is not the script's place -/
theorem not_script {h : Heap} {b : Addr} {m : Str → Option Value} (n : h.Ns b m) (ha : h.get? a = some { cls := .type "list", data := .seq vs.toArray }) : b ≠ a := by
  rintro rfl
  obtain ⟨o, es, ep, e, d, _⟩ := n
  rw [ha] at e
  cases e
  cases d
theorem lawH {H : Hp} (KX : K.In s1.heap) (hns : s1.heap.Ns mainGlobals mg) (hb : s1.heap.Ns builtinsNs mb) (hbb : ∀ x : Str, x ≠ "__name__" → mb x = bootBuiltins x) (hlim : s1.heap.NoLimit) (hseer : s1.heap.NoSeer) (hg : s1.gens = #[])
    (ha : s1.heap.get? a = some { cls := .type "list", data := .seq vs.toArray }) (hr : Room k callerA) (hbind : ∀ (s : Shared) (u : Value), BindsTo s fd ⟨[u], []⟩ [(x, u)])
    (F : ∀ base : Heap, K.In base → base.Ns mainGlobals mg → (∃ o, base.get? sysModules = some o) → FnG P w K mg base k fa fd [x] sp)
    (hsp : sp [.ref a] H (fun v _ => v = .bl true) fun _ _ _ => False) (hO : Only H) (hok : HOk P w H s1.heap) (hA : ∀ b, b ≠ a → H b = none) (hK : ∀ o, K.lookup a = some o → H a = none) :
    codeAny (model P w) callerA (.call (.ref fa) ⟨[.ref a], []⟩) (fun r s' => r = .ok (.ret (.bool true)) ∧ OldK s1.heap s'.heap ∧ s'.os = s1.os ∧ AllBare s'.gens) s1 := by
  have toB : ∀ {b : Addr} {o : Obj}, s1.heap.get? b = some o → H b = none → (hidT s1.heap H).get? b = some o := fun e n => hidT_get e n
  have toN : ∀ {b : Addr} {m : Str → Option Value}, s1.heap.Ns b m → (hidT s1.heap H).Ns b m := by
    intro b m n
    have hne := not_script n ha
    obtain ⟨o, es, ep, e, r⟩ := n
    exact ⟨o, es, ep, toB e (hA b hne), r⟩
  have inB : K.In (hidT s1.heap H) := by
    intro b o e
    apply toB (KX b o e)
    by_cases hba : b = a
    · subst hba; exact hK o e
    · exact hA b hba
  have sysB : ∃ o, (hidT s1.heap H).get? sysModules = some o := by
    obtain ⟨mm, n, _⟩ := hseer.mods
    have hne := not_script n ha
    obtain ⟨o, es, ep, e, _⟩ := n
    exact ⟨o, toB e (hA _ hne)⟩
  have limB : (hidT s1.heap H).NoLimit := by
    obtain ⟨mc, h1, h2⟩ := hlim
    exact ⟨mc, toN h1, h2⟩
  have e0 : Env0 P w K mg (hidT s1.heap H) callerA [] s1 H := by
    refine ⟨rfl, ⟨inB, toN hns, ⟨mb, toN hb, hbb⟩, limB⟩, fun b o e => of_hidT e, Nat.le_of_eq (hidT_size _ _), trivial, ?_, hok, .of_eq hg⟩
    intro b hb
    exact absurd (show b ∈ ([] : List Addr) from hb) List.not_mem_nil
  have run := (F _ inB (toN hns) sysB).run callerA [] s1 H ⟨[.ref a], []⟩ [.ref a] [.ref a] _ _ rfl hr e0 (hbind s1 (.ref a)) (.cons rfl .nil) hsp
  refine codeAny_mono run ?_
  intro r s' h
  cases r with
  | error e => exact False.elim h
  | ok fl =>
    cases fl with
    | next => exact False.elim h
    | brk => exact False.elim h
    | cont => exact False.elim h
    | ret u =>
      obtain ⟨v, H', os, bare, un, hok', rv, hv⟩ := h
      obtain rfl : v = .bl true := hv
      obtain rfl : u = Value.bool true := rv
      refine ⟨rfl, OldK.of_keep ?_, os, bare⟩
      intro b o e
      rcases hO b with q | ⟨ob, xs, q⟩
      · exact un.keep b o e q (fun z => absurd (show b ∈ ([] : List Addr) from z) List.not_mem_nil) List.not_mem_nil
      · obtain ⟨e1, _⟩ := hok b _ q
        obtain ⟨e2, _⟩ := hok' b _ (un.frzs b ob _ q)
        rw [e] at e1
        cases e1
        exact e2
theorem lawG (KX : K.In s1.heap) (hns : s1.heap.Ns mainGlobals mg) (hb : s1.heap.Ns builtinsNs mb) (hbb : ∀ x : Str, x ≠ "__name__" → mb x = bootBuiltins x) (hlim : s1.heap.NoLimit) (hseer : s1.heap.NoSeer) (hg : s1.gens = #[])
    (ha : s1.heap.get? a = some { cls := .type "list", data := .seq vs.toArray }) (hi : IntsAre vs ns) (hl : ns.length ≤ sizeLine) (hr : Room k callerA) (hbind : ∀ (s : Shared) (u : Value), BindsTo s fd ⟨[u], []⟩ [(x, u)])
    (F : ∀ base : Heap, K.In base → base.Ns mainGlobals mg → (∃ o, base.get? sysModules = some o) → FnG P w K mg base k fa fd [x] sp)
    (hsp : ∀ H : Hp, Only H → SqL K H a (ns.map V.int) → sp [.ref a] H (fun v _ => v = .bl true) fun _ _ _ => False) :
    codeAny (model P w) callerA (.call (.ref fa) ⟨[.ref a], []⟩) (fun r s' => r = .ok (.ret (.bool true)) ∧ OldK s1.heap s'.heap ∧ s'.os = s1.os ∧ AllBare s'.gens) s1 := by
  have rv := vals_ints hi
  have lv : vs.length = ns.length := hi.length
  by_cases hk : ∃ o, K.lookup a = some o
  · obtain ⟨o, hk⟩ := hk
    have e := KX a o hk
    rw [ha] at e
    cases e
    have O0 : Only (fun _ => none) := fun _ => .inl rfl
    refine lawH KX hns hb hbb hlim hseer hg ha hr hbind F (hsp _ O0 ?_) O0 ?_ (fun _ _ => rfl) (fun _ _ => rfl)
    · refine .inr ⟨_, vs.toArray, _, hk, rfl, rfl, rfl, ?_, by simpa using rv⟩
      rw [List.size_toArray, lv]
      exact hl
    · intro b u z
      cases (show (none : Option HO) = some u from z)
  · let ob : Obj := { cls := .type "list", data := .seq vs.toArray }
    let H : Hp := fun b => if b = a then some (.frz ob (.lst (ns.map V.int))) else none
    have at_a : H a = some (.frz ob (.lst (ns.map V.int))) := if_pos rfl
    have off : ∀ b, b ≠ a → H b = none := fun b h => if_neg h
    have hO : Only H := by
      intro b
      by_cases hb : b = a
      · subst hb; exact .inr ⟨_, _, at_a⟩
      · exact .inl (off b hb)
    refine lawH KX hns hb hbb hlim hseer hg ha hr hbind F (hsp H hO (.inl (.inr ⟨ob, at_a⟩))) hO ?_ off (fun o e => absurd ⟨o, e⟩ hk)
    intro b u z
    by_cases hb : b = a
    · subst hb
      rw [at_a] at z
      cases z
      exact ⟨ha, by rw [List.length_map]; exact hl, vs, _, rv, ha⟩
    · rw [off b hb] at z
      cases z
end
/-- the end of a law row whose defs speak of FnG -/
theorem walkG {l : PySem.W.OpenLaw} {n k : Nat} {q : Program} {loose : List Str} {XP : (Str → Option Value) → Heap → Prop} {YP : World → Heap → Prop} {d : DefRec} {K : Params → PySem.W.Frag} {sp : PySem.W.Frag → Sp} {x : Str}
    (hn : l.most = some n) (hn2 : n ≤ sizeLine) (hdf : d.params.defaults = []) (hr : Room k callerA) (hq : importsNone q = true) (hY : ∀ (w : World) (h : Heap), YP w h → (K w.params).In h)
    (F : ∀ (w : World) (mg : Str → Option Value) (fa : Addr) (h : Heap), (K w.params).In h → h.Ns mainGlobals mg → mg d.name = some (.ref fa) →
      ∃ fd : FuncData, (∀ (s : Shared) (u : Value), BindsTo s fd ⟨[u], []⟩ [(x, u)]) ∧
        ∀ base : Heap, (K w.params).In base → base.Ns mainGlobals mg → (∃ o, base.get? sysModules = some o) → FnG l.prog w (K w.params) mg base k fa fd [x] (sp (K w.params)))
    (hsp : ∀ (K : PySem.W.Frag) (H : Hp) (a : Addr) (ns : List Int), ns.length ≤ n → Only H → SqL K H a (ns.map V.int) → sp K [.ref a] H (fun v _ => v = .bl true) fun _ _ _ => False) :
    PySem.W.WalkO q loose XP YP l.row.toRowW d [] (fun f vs => PySem.call f vs) := by
  apply Att.attach_call hn hdf
  intro w s0 s1 mg mb fa o pm cd doc a vs ns G Y ho hd hcd hmg hobj hints hlen hg
  have KX := hY w _ Y
  obtain ⟨fd, hb, hF⟩ := F w mg fa _ KX G.T.g hmg
  exact lawG KX G.T.g G.T.b G.T.builtins G.T.nolimit (G.T.seer hq) hg hobj hints (Nat.le_trans hlen hn2) hr hb hF fun H hO hS => hsp _ H a ns hlen hO hS
end SC

set_option Elab.async false
set_option linter.all false
set_option maxRecDepth 100000
set_option maxHeartbeats 4000000
/-! Schemacheck: documents, their number of parts, how long they are shown. -/
namespace SC
open PySem L2
def AsciiS (s : Str) : Prop := ∀ c ∈ s.cps.toList, c < 128
def leafD : PyData → Prop
  | .none => True
  | .bool _ => True
  | .int i => -10 ^ 30 ≤ i ∧ i ≤ 10 ^ 30
  | .str s => s.length ≤ 60 ∧ AsciiS s
  | _ => False
def LeafV (v : V) : Prop := ∃ d, leafD d ∧ ∀ G, Rp G 1 v d
theorem leaf_str (x : Str) (h : x.length ≤ 60) (h2 : ∀ c ∈ x.cps.toList, c < 128) : LeafV (.str x) := ⟨.str x, ⟨h, h2⟩, fun _ => rfl⟩
theorem leaf_int (i : Int) (h : -10 ^ 30 ≤ i ∧ i ≤ 10 ^ 30) : LeafV (.int i) := ⟨.int i, h, fun _ => rfl⟩
theorem leaf_bl (b : Bool) : LeafV (.bl b) := ⟨.bool b, trivial, fun _ => rfl⟩
theorem leaf_non : LeafV .non := ⟨.none, trivial, fun _ => rfl⟩
def NameOk (x : Str) : Prop := x.length ≤ 60 ∧ AsciiS x
def docD : Nat → PyData → Prop
  | 0, _ => False
  | n + 1, .list ds => ds.length ≤ 10 ∧ ∀ d ∈ ds, docD n d
  | n + 1, .dict es => es.length ≤ 10 ∧ ∀ e ∈ es, (∃ x, e.1 = .str x ∧ NameOk x) ∧ docD n e.2
  | _ + 1, d => leafD d
theorem docD.leaf {d : PyData} (h : leafD d) (n : Nat) : docD (n + 1) d := by
  cases d <;> first | exact h | exact h.elim
theorem docD.up1 : ∀ {n : Nat} {d : PyData}, docD n d → docD (n + 1) d
  | 0, _, h => h.elim
  | n + 1, .list ds, h => ⟨h.1, fun d hd => (h.2 d hd).up1⟩
  | n + 1, .dict es, h => ⟨h.1, fun e he => ⟨(h.2 e he).1, (h.2 e he).2.up1⟩⟩
  | n + 1, .none, h => h
  | n + 1, .bool _, h => h
  | n + 1, .int _, h => h
  | n + 1, .str _, h => h
  | n + 1, .tuple _, h => h.elim
theorem docD.up {n m : Nat} {d : PyData} (h : docD n d) (hl : n ≤ m) : docD m d := by
  induction hl with
  | refl => exact h
  | step _ ih => exact ih.up1
mutual
/-- the number of parts -/
def cnt : PyData → Nat
  | .list ds => 1 + cntAll ds
  | .tuple ds => 1 + cntAll ds
  | .dict es => 1 + cntKv es
  | .none => 1
  | .bool _ => 1
  | .int _ => 1
  | .str _ => 1
def cntAll : List PyData → Nat
  | [] => 0
  | d :: r => cnt d + cntAll r
def cntKv : List (PyData × PyData) → Nat
  | [] => 0
  | (_, d) :: r => cnt d + cntKv r
end
theorem cntAll_app (xs ys : List PyData) : cntAll (xs ++ ys) = cntAll xs + cntAll ys := by
  induction xs with
  | nil => simp [cntAll]
  | cons d r ih => simp [cntAll, ih]; omega
theorem cntKv_app (xs ys : List (PyData × PyData)) : cntKv (xs ++ ys) = cntKv xs + cntKv ys := by
  induction xs with
  | nil => simp [cntKv]
  | cons d r ih => obtain ⟨a, b⟩ := d; simp [cntKv, ih]; omega
theorem cnt_pos (d : PyData) : 1 ≤ cnt d := by
  cases d <;> simp [cnt] <;> omega
theorem leaf_cnt {d : PyData} (h : leafD d) : cnt d = 1 := by
  cases d <;> first | rfl | exact h.elim
theorem cntAll_mem {d : PyData} {ds : List PyData} (h : d ∈ ds) : cnt d ≤ cntAll ds := by
  induction ds with
  | nil => simp at h
  | cons e r ih =>
    simp only [cntAll]
    rcases List.mem_cons.mp h with rfl | h
    · omega
    · have := ih h; omega
theorem cntKv_mem {q : PyData × PyData} {es : List (PyData × PyData)} (h : q ∈ es) : cnt q.2 ≤ cntKv es := by
  induction es with
  | nil => simp at h
  | cons e r ih =>
    obtain ⟨a, b⟩ := e
    simp only [cntKv]
    rcases List.mem_cons.mp h with rfl | h
    · show cnt b ≤ _; omega
    · have := ih h; omega
theorem ascii_big {x : Str} (h : AsciiS x) : (x.cps.toList.all fun c => decide (c < 16 ^ 8)) = true := by
  rw [List.all_eq_true]
  intro c hc
  have := h c hc
  exact decide_eq_true (by omega)
theorem int30_len {i : Int} (h : -10 ^ 30 ≤ i ∧ i ≤ 10 ^ 30) : (PyData.shown (.int i)).length ≤ 40 := by
  have e := int_text_length_le10 (a := i) (k := 31) (by decide) (by omega)
  show (Str.ofString (toString i)).length ≤ 40
  rw [ofString_length]
  omega
theorem int30_log {i : Int} (h : -10 ^ 30 ≤ i ∧ i ≤ 10 ^ 30) : i.natAbs.log2 < 100 := by
  by_cases h0 : i.natAbs = 0
  · rw [h0]; decide
  · exact (Nat.log2_lt h0).mpr (by have : i.natAbs ≤ 10 ^ 30 := by omega
                                   exact Nat.lt_of_le_of_lt this (by decide))
theorem str60_weight {x : Str} (h : x.length ≤ 60) : PyData.weight (.str x) ≤ 60 := h
/-- a document can be shown, and not too long -/
def Fine (d : PyData) : Prop := d.showable = true ∧ d.leavesShort 40 = true ∧ d.weight + 64 ≤ 165 * cnt d
theorem fine_all {ds : List PyData} (h : ∀ d ∈ ds, Fine d) : PyData.showableAll ds = true ∧ PyData.leavesShortAll 40 ds = true ∧ PyData.weightAll ds ≤ 165 * cntAll ds := by
  induction ds with
  | nil => exact ⟨rfl, rfl, Nat.zero_le _⟩
  | cons d r ih =>
    obtain ⟨a1, a2, a3⟩ := h d (by simp)
    obtain ⟨b1, b2, b3⟩ := ih fun e he => h e (by simp [he])
    refine ⟨?_, ?_, ?_⟩
    · show (_ && _) = true; rw [a1, b1]; rfl
    · show (_ && _) = true; rw [a2, b2]; rfl
    · show PyData.weight d + 1 + PyData.weightAll r ≤ 165 * (cnt d + cntAll r); omega
theorem fine_kv {es : List (PyData × PyData)} (h : ∀ e ∈ es, (∃ x, e.1 = .str x ∧ NameOk x) ∧ Fine e.2) : PyData.showableKv es = true ∧ PyData.leavesShortKv 40 es = true ∧ PyData.weightKv es ≤ 165 * cntKv es := by
  induction es with
  | nil => exact ⟨rfl, rfl, Nat.zero_le _⟩
  | cons e r ih =>
    obtain ⟨k, d⟩ := e
    obtain ⟨⟨x, hx, hx1, hx2⟩, a1, a2, a3⟩ := h (k, d) (by simp)
    obtain ⟨b1, b2, b3⟩ := ih fun e he => h e (by simp [he])
    simp at hx
    subst hx
    have hw := str60_weight hx1
    refine ⟨?_, ?_, ?_⟩
    · show (PyData.showable (.str x) && PyData.showable d && _) = true; rw [a1, b1]; rfl
    · show (PyData.leavesShort 40 (.str x) && PyData.leavesShort 40 d && _) = true; rw [a2, b2]
      show ((x.cps.toList.all fun c => decide (c < 16 ^ 8)) && true && true) = true
      rw [ascii_big hx2]; rfl
    · show PyData.weight (.str x) + PyData.weight d + 2 + PyData.weightKv r ≤ 165 * (cnt d + cntKv r)
      have : PyData.weight d + 64 ≤ 165 * cnt d := a3
      omega
theorem Fine.list {ds : List PyData} (h : ∀ d ∈ ds, Fine d) : Fine (.list ds) := by
  obtain ⟨b1, b2, b3⟩ := fine_all h
  refine ⟨b1, b2, ?_⟩
  show PyData.weightAll ds + 64 ≤ 165 * (1 + cntAll ds)
  omega
theorem Fine.tuple {ds : List PyData} (h : ∀ d ∈ ds, Fine d) : Fine (.tuple ds) := by
  obtain ⟨b1, b2, b3⟩ := fine_all h
  refine ⟨b1, b2, ?_⟩
  show PyData.weightAll ds + 64 ≤ 165 * (1 + cntAll ds)
  omega
theorem Fine.dict {es : List (PyData × PyData)} (h : ∀ e ∈ es, (∃ x, e.1 = .str x ∧ NameOk x) ∧ Fine e.2) : Fine (.dict es) := by
  obtain ⟨b1, b2, b3⟩ := fine_kv h
  refine ⟨b1, b2, ?_⟩
  show PyData.weightKv es + 64 ≤ 165 * (1 + cntKv es)
  omega
theorem Fine.leaf {d : PyData} (h : leafD d) : Fine d := by
  cases d with
  | none => exact ⟨rfl, rfl, by decide⟩
  | bool b => exact ⟨rfl, rfl, by show 0 + 64 ≤ 165 * 1; decide⟩
  | int i =>
    have h1 := int30_len h
    have h2 := int30_log h
    refine ⟨decide_eq_true (show i.natAbs.log2 < 1920 by omega), decide_eq_true h1, ?_⟩
    show (if i == 0 then 0 else i.natAbs.log2 + 1) + 64 ≤ 165 * 1
    split <;> omega
  | str x =>
    have h1 := str60_weight h.1
    exact ⟨rfl, ascii_big h.2, by show PyData.weight (.str x) + 64 ≤ 165 * 1; omega⟩
  | list ds => exact h.elim
  | tuple ds => exact h.elim
  | dict ds => exact h.elim
theorem docD.fine : ∀ {n : Nat} {d : PyData}, docD n d → Fine d
  | 0, _, h => h.elim
  | n + 1, .list ds, h => Fine.list fun d hd => (h.2 d hd).fine
  | n + 1, .dict es, h => Fine.dict fun e he => ⟨(h.2 e he).1, (h.2 e he).2.fine⟩
  | n + 1, .none, h => Fine.leaf h
  | n + 1, .bool _, h => Fine.leaf h
  | n + 1, .int _, h => Fine.leaf h
  | n + 1, .str _, h => Fine.leaf h
  | n + 1, .tuple _, h => h.elim
theorem Fine.fits {d : PyData} (h : Fine d) (hc : cnt d ≤ 2000) : d.shown.length ≤ sizeLine := by
  have h1 := PyData.shown_le 40 (by decide) d h.2.1
  have h2 := h.2.2
  have e : sizeLine = 16777216 := by decide
  omega
/-- repr of a datum -/
theorem repr1 {H : Hp} {v : V} {n : Nat} {d : PyData} {Q : VK} (h : Rp H n v d) (hn : n ≤ 90) (hf : Fine d) (hc : cnt d ≤ 2000) (q : Q (.str d.shown) H) : rRepr [v] H Q := ⟨v, n, d, rfl, h, hn, hf.1, hf.fits hc, q⟩
end SC

set_option Elab.async false
set_option linter.all false
set_option maxRecDepth 100000
set_option maxHeartbeats 4000000
/-! Schemacheck: names in order, documents that are the same. -/
namespace SC
open PySem L2 PyProof.Rows

/-! ### texts in order -/
def leS (a b : Str) : Bool := !PySem.Spec.ltCps b.cps.toList a.cps.toList
theorem leS_iff (a b : Str) : leS a b = true ↔ a.cps.toList ≤ b.cps.toList := by
  unfold leS
  rw [ltCps_eq]
  simp
theorem leS_trans (a b c : Str) (h1 : leS a b = true) (h2 : leS b c = true) : leS a c = true := by
  rw [leS_iff] at *
  exact List.le_trans h1 h2
theorem leS_total (a b : Str) : (leS a b || leS b a) = true := by
  have := List.le_total a.cps.toList b.cps.toList
  rw [Bool.or_eq_true, leS_iff, leS_iff]
  exact this
theorem leS_anti (a b : Str) (h1 : leS a b = true) (h2 : leS b a = true) : a = b := by
  rw [leS_iff] at *
  have e := List.le_antisymm h1 h2
  have e2 : a.cps = b.cps := Array.toList_inj.mp e
  cases a; cases b; simp at e2; rw [e2]
def srt (xs : List Str) : List Str := xs.mergeSort leS
theorem srt_perm (xs : List Str) : (srt xs).Perm xs := List.mergeSort_perm _ _
theorem srt_pw (xs : List Str) : (srt xs).Pairwise (fun a b => leS a b = true) := List.pairwise_mergeSort leS_trans leS_total xs
theorem rising_pw : ∀ {r : List Str} {p : Str}, PyProof.Rows.risingS p r = true → (p :: r).Pairwise (fun a b => leS a b = true)
  | [], p, _ => by simp
  | x :: r, p, h => by
    have h' : (!PySem.Spec.ltCps x.cps.toList p.cps.toList && PyProof.Rows.risingS x r) = true := h
    rw [Bool.and_eq_true] at h'
    have ih := rising_pw h'.2
    refine List.pairwise_cons.mpr ⟨?_, ih⟩
    intro y hy
    rcases List.mem_cons.mp hy with rfl | hy
    · exact h'.1
    · exact leS_trans _ _ _ h'.1 ((List.pairwise_cons.mp ih).1 y hy)
theorem sorted_pw {ys : List Str} (h : PyProof.Rows.sortedS ys = true) : ys.Pairwise (fun a b => leS a b = true) := by
  cases ys with
  | nil => exact .nil
  | cons x r => exact rising_pw h
theorem srt_is {ys xs : List Str} (hp : ys.Perm xs) (hs : PyProof.Rows.sortedS ys = true) : ys = srt xs :=
  List.Perm.eq_of_pairwise (le := fun a b => leS a b = true) (fun a b _ _ h1 h2 => leS_anti a b h1 h2) (sorted_pw hs) (srt_pw xs) (hp.trans (srt_perm xs).symm)
theorem srt_congr {xs ys : List Str} (h : xs.Perm ys) : srt xs = srt ys :=
  List.Perm.eq_of_pairwise (le := fun a b => leS a b = true) (fun a b _ _ h1 h2 => leS_anti a b h1 h2) (srt_pw xs) (srt_pw ys) ((srt_perm xs).trans (h.trans (srt_perm ys).symm))
theorem perm_srt {xs ys : List Str} (h : srt xs = srt ys) : xs.Perm ys := (srt_perm xs).symm.trans (by rw [h]; exact srt_perm ys)
theorem srt_len (xs : List Str) : (srt xs).length = xs.length := (srt_perm xs).length_eq
theorem srt_nd {xs : List Str} (h : xs.Nodup) : (srt xs).Nodup := (srt_perm xs).nodup_iff.mpr h
theorem mem_srt {xs : List Str} {x : Str} : x ∈ srt xs ↔ x ∈ xs := (srt_perm xs).mem_iff

/-! ### dicts by their names -/
def strD : PyData → Str
  | .str x => x
  | _ => Str.empty
def keysD (es : List (PyData × PyData)) : List Str := es.map fun e => strD e.1
def StrKeys (es : List (PyData × PyData)) : Prop := ∀ e ∈ es, ∃ x, e.1 = .str x
def dget (es : List (PyData × PyData)) (x : Str) : Option PyData := (es.find? fun e => decide (strD e.1 = x)).map (·.2)
theorem docD.keys {n : Nat} {es : List (PyData × PyData)} (h : docD (n + 1) (.dict es)) : StrKeys es := fun e he => by
  obtain ⟨⟨x, hx, _⟩, _⟩ := h.2 e he
  exact ⟨x, hx⟩
abbrev KvR (F : V → PyData → Prop) : Key × V → PyData × PyData → Prop := fun p q => q.1 = kD p.1 ∧ F p.2 q.2
theorem keys_of {F : V → PyData → Prop} {kvs : List (Key × V)} {es : List (PyData × PyData)} (hp : Paired (KvR F) kvs es) (hs : StrKeys es) : kvs.map (·.1) = (keysD es).map Sum.inr := by
  induction hp with
  | nil => rfl
  | cons r _ ih =>
    obtain ⟨x, hx⟩ := hs _ (List.mem_cons_self)
    have h1 := ih fun e he => hs e (by simp [he])
    simp only [keysD, List.map_cons, List.map_map] at h1 ⊢
    rw [h1]
    congr 1
    have h2 := r.1
    rw [hx] at h2
    rw [hx]
    rename_i a _ _ _ _
    obtain ⟨k, v⟩ := a
    cases k with
    | inl i => cases h2
    | inr y => cases h2; rfl
theorem keysV_of {F : V → PyData → Prop} {kvs : List (Key × V)} {es : List (PyData × PyData)} (hp : Paired (KvR F) kvs es) (hs : StrKeys es) : (kvs.map fun kv => kV kv.1) = (keysD es).map V.str := by
  have h := congrArg (List.map kV) (keys_of hp hs)
  rw [List.map_map, List.map_map] at h
  exact h
theorem inr_nd {xs : List Str} (h : (xs.map (Sum.inr : Str → Key)).Nodup) : xs.Nodup := by
  induction xs with
  | nil => exact List.nodup_nil
  | cons x r ih =>
    rw [List.map_cons, List.nodup_cons] at h
    rw [List.nodup_cons]
    exact ⟨fun hm => h.1 (List.mem_map.mpr ⟨x, hm, rfl⟩), ih h.2⟩
theorem nd_inr {xs : List Str} (h : xs.Nodup) : (xs.map (Sum.inr : Str → Key)).Nodup := by
  induction xs with
  | nil => exact List.nodup_nil
  | cons x r ih =>
    rw [List.nodup_cons] at h
    rw [List.map_cons, List.nodup_cons]
    refine ⟨fun hm => ?_, ih h.2⟩
    obtain ⟨y, hy, e⟩ := List.mem_map.mp hm
    cases e
    exact h.1 hy
theorem keys_nd {F : V → PyData → Prop} {kvs : List (Key × V)} {es : List (PyData × PyData)} (hp : Paired (KvR F) kvs es) (hs : StrKeys es) (hn : (kvs.map (·.1)).Nodup) : (keysD es).Nodup := by
  rw [keys_of hp hs] at hn
  exact inr_nd hn
/-- what a name leads to, in the heap and in the datum -/
theorem get_of {F : V → PyData → Prop} {kvs : List (Key × V)} {es : List (PyData × PyData)} (hp : Paired (KvR F) kvs es) (hs : StrKeys es) (x : Str) :
    (valV kvs (Sum.inr x) = none ∧ dget es x = none) ∨ ∃ v d, valV kvs (Sum.inr x) = some v ∧ dget es x = some d ∧ F v d := by
  induction hp with
  | nil => exact .inl ⟨rfl, rfl⟩
  | cons r _ ih =>
    obtain ⟨y, hy⟩ := hs _ (List.mem_cons_self)
    have h1 := ih fun e he => hs e (by simp [he])
    rename_i a b l1 l2 _
    obtain ⟨k, v⟩ := a
    obtain ⟨b1, b2⟩ := b
    obtain ⟨r1, r2⟩ := r
    simp at hy r1 r2
    subst hy
    cases k with
    | inl i => cases r1
    | inr z =>
      cases r1
      by_cases hz : y = x
      · subst hz
        refine .inr ⟨v, b2, ?_, ?_, r2⟩
        · simp [valV]
        · simp [dget, strD]
      · have hz' : ¬ (Sum.inr y : Key) = Sum.inr x := fun e => hz (Sum.inr.inj e)
        have e1 : valV ((Sum.inr y, v) :: l1) (Sum.inr x) = valV l1 (Sum.inr x) := by
          simp only [valV, List.find?_cons, decide_eq_false hz']
        have e2 : dget ((PyData.str y, b2) :: l2) x = dget l2 x := by
          have : ¬ strD (.str y) = x := hz
          simp only [dget, List.find?_cons, decide_eq_false this]
        rw [e1, e2]
        exact h1
theorem dget_mem {es : List (PyData × PyData)} {x : Str} {d : PyData} (h : dget es x = some d) : ∃ e ∈ es, e.2 = d ∧ strD e.1 = x := by
  unfold dget at h
  cases e : es.find? fun e => decide (strD e.1 = x) with
  | none => rw [e] at h; cases h
  | some q =>
    rw [e] at h
    cases h
    exact ⟨q, List.mem_of_find?_eq_some e, rfl, by have := List.find?_some e; simpa using this⟩
theorem dget_none {es : List (PyData × PyData)} {x : Str} (h : dget es x = none) : x ∉ keysD es := by
  unfold dget at h
  intro hm
  obtain ⟨e, he, hx⟩ := List.mem_map.mp hm
  cases q : es.find? fun e => decide (strD e.1 = x) with
  | none =>
    have := List.find?_eq_none.mp q e he
    simp at this
    exact this hx
  | some z => rw [q] at h; cases h

/-! ### the same -/
def sameL : PyData → PyData → Bool
  | .none, .none => true
  | .bool a, .bool b => decide (a = b)
  | .int i, .int j => decide (i = j)
  | .str x, .str y => decide (x = y)
  | _, _ => false
def optB (o : Option PyData) (f : PyData → Bool) : Bool := match o with
  | some d => f d
  | none => false
def sameN : Nat → PyData → PyData → Bool
  | 0, _, _ => false
  | n + 1, .list xs, .list ys => decide (xs.length = ys.length) && (List.zipWith (sameN n) xs ys).all id
  | n + 1, .dict es, .dict fs => decide (srt (keysD es) = srt (keysD fs)) && (es.map fun e => optB (dget fs (strD e.1)) (sameN n e.2)).all id
  | _ + 1, d, e => sameL d e
theorem sameL_refl {d : PyData} (h : leafD d) : sameL d d = true := by
  cases d <;> first | exact h.elim | simp [sameL]
/-- names nowhere twice -/
def ndD : Nat → PyData → Prop
  | 0, _ => True
  | n + 1, .list ds => ∀ d ∈ ds, ndD n d
  | n + 1, .dict es => (keysD es).Nodup ∧ ∀ e ∈ es, ndD n e.2
  | _ + 1, _ => True
theorem Rp.nd {H : Hp} : ∀ {n m : Nat} {v : V} {d : PyData}, Rp H n v d → docD m d → ndD m d
  | 0, _, _, _, h, _ => h.elim
  | _, 0, _, _, _, _ => trivial
  | n + 1, m + 1, v, .none, _, _ => trivial
  | n + 1, m + 1, v, .bool _, _, _ => trivial
  | n + 1, m + 1, v, .int _, _, _ => trivial
  | n + 1, m + 1, v, .str _, _, _ => trivial
  | n + 1, m + 1, v, .tuple _, _, _ => trivial
  | n + 1, m + 1, v, .list ds, ⟨a, xs, _, _, _, hp⟩, hd => fun d hm => by
    obtain ⟨x, _, r⟩ := pd_memR hp hm
    exact r.nd (hd.2 d hm)
  | n + 1, m + 1, v, .dict es, ⟨a, kvs, _, _, _, hn, hp⟩, hd => ⟨keys_nd hp hd.keys hn, fun e hm => by
    obtain ⟨x, _, r⟩ := pd_memR hp hm
    exact r.2.nd (hd.2 e hm).2⟩

/-! ### rules that speak of the written part, by its name -/
section
variable {X : Cx} {K : PySem.W.Frag}
theorem ixLK (h : X.K = K) : IxR X (rIxL K) := by subst h; exact ix_list
theorem ixTK (h : X.K = K) : IxR X (rIxT K) := by subst h; exact ix_tup
theorem isiK (h : X.K = K) : CallR X (.builtin "isinstance") (rIsi K) := by subst h; exact call_isi
theorem isiTK (h : X.K = K) : CallR X (.builtin "isinstance") (rIsiT K) := by subst h; exact call_isiT
def rLenK (K : PySem.W.Frag) : List V → Hp → VK → Prop := fun xs H Q => ∃ x n, xs = [x] ∧ LenV K x H n ∧ Q (.int (n : Nat)) H
theorem lenK (h : X.K = K) : CallR X (.builtin "len") (rLenK K) := by subst h; exact call_len
theorem maxK (h : X.K = K) (hc : X.calm = true) : CallR X (.builtin "max") (rMax K) := by subst h; exact cr_max hc
theorem sumK (h : X.K = K) (hc : X.calm = true) : CallR X (.builtin "sum") (rSum K) := by subst h; exact cr_sum hc
theorem allK (h : X.K = K) (hc : X.calm = true) : CallR X (.builtin "all") (rAll K) := by subst h; exact cr_all hc
theorem anyK (h : X.K = K) (hc : X.calm = true) : CallR X (.builtin "any") (rAny K) := by subst h; exact cr_any hc
theorem sortedSK (h : X.K = K) : CallR X (.builtin "sorted") (rSortedS K) := by subst h; exact cr_sortedS
theorem inK (h : X.K = K) : OpR X (compareOp .In) (rIn K false) := by subst h; exact op_in_seq
theorem notInK (h : X.K = K) : OpR X (compareOp .NotIn) (rIn K true) := by subst h; exact op_notIn_seq
theorem eqDK (h : X.K = K) (hu : X.A.units + 64 < cLine) : OpR X (compareOp .Eq) (rEqD K) := by subst h; exact op_eqD hu
theorem neDK (h : X.K = K) (hu : X.A.units + 64 < cLine) : OpR X (compareOp .NotEq) (rNeD K) := by subst h; exact op_neD hu
theorem slLK (h : X.K = K) : SlR X (rSlL K) := by subst h; exact sl_list
theorem slTK (h : X.K = K) : SlR X (rSlT K) := by subst h; exact sl_tup
def rListK (K : PySem.W.Frag) : List V → Hp → VK → Prop := fun xs H Q => ∃ p ys, xs = [.ref p] ∧ (SqL K H p ys ∨ SqT K H p ys) ∧ ∀ l, H l = none → Q (.ref l) (upd H l (.lst ys))
theorem listK (h : X.K = K) : CallR X (.type "list") (rListK K) := by subst h; exact call_list_of
end

/-! ### kinds -/
def kindD : PyData → Str
  | .none => "null"
  | .bool _ => "boolean"
  | .int _ => "integer"
  | .str _ => "string"
  | .list _ => "array"
  | _ => "object"

theorem same_kind {n m : Nat} {d e : PyData} (hd : docD m d) (he : docD m e) (h : ¬ kindD d = kindD e) : sameN (n + 1) d e = false := by
  cases m with
  | zero => exact hd.elim
  | succ m => cases d <;> cases e <;> first | exact hd.elim | exact he.elim | rfl | exact absurd rfl h
theorem kind_inv {m : Nat} {d e : PyData} (hd : docD m d) (he : docD m e) (h : kindD d = kindD e) :
    (d = .none ∧ e = .none) ∨ (∃ a b, d = .bool a ∧ e = .bool b) ∨ (∃ a b, d = .int a ∧ e = .int b) ∨ (∃ a b, d = .str a ∧ e = .str b) ∨ (∃ a b, d = .list a ∧ e = .list b) ∨ ∃ a b, d = .dict a ∧ e = .dict b := by
  cases m with
  | zero => exact hd.elim
  | succ m =>
    cases d <;> cases e <;> first | exact hd.elim | exact he.elim | exact .inl ⟨rfl, rfl⟩ | exact .inr (.inl ⟨_, _, rfl, rfl⟩) | exact .inr (.inr (.inl ⟨_, _, rfl, rfl⟩)) | exact .inr (.inr (.inr (.inl ⟨_, _, rfl, rfl⟩))) | exact .inr (.inr (.inr (.inr (.inl ⟨_, _, rfl, rfl⟩)))) | exact .inr (.inr (.inr (.inr (.inr ⟨_, _, rfl, rfl⟩)))) | exact absurd h (by simp only [kindD]; decide +kernel)
theorem strOk_of {x : Str} (h : AsciiS x) : PyData.strOk x = true := by
  unfold PyData.strOk
  rw [Array.all_eq_true_iff_forall_mem]
  intro c hc
  have := h c (by simpa using hc)
  exact decide_eq_true (by omega)
theorem layAll_strs : ∀ {xs : List Str}, (∀ x ∈ xs, AsciiS x) → PyData.canLayAll0 (xs.map .str) = true
  | [], _ => rfl
  | x :: r, h => by
    show (PyData.strOk x && PyData.canLayAll0 (r.map .str)) = true
    rw [strOk_of (h x (by simp)), layAll_strs fun y hy => h y (by simp [hy])]
    rfl
theorem depth_strs : ∀ xs : List Str, PyData.depthAll (xs.map .str) = 0
  | [] => rfl
  | x :: r => by
    show max 0 (PyData.depthAll (r.map .str)) = 0
    rw [depth_strs r]
    rfl
theorem shaped_strs {xs : List Str} (h : ∀ x ∈ xs, AsciiS x) : SeqAt.shaped (.list (xs.map .str)) = true := by
  have h1 := layAll_strs h
  have h2 := depth_strs xs
  show (PyData.canLayAll0 (xs.map .str) && decide (PyData.depthAll (xs.map .str) + 1 ≤ 64)) = true
  rw [h1, h2]
  rfl
theorem eqv_strs : ∀ xs ys : List Str, PyData.eqv (.list (xs.map .str)) (.list (ys.map .str)) = decide (xs = ys) := by
  have h : ∀ xs ys : List Str, PyData.eqvAll (xs.map .str) (ys.map .str) = decide (xs = ys) := by
    intro xs
    induction xs with
    | nil =>
      intro ys
      cases ys with
      | nil => rfl
      | cons y r => rfl
    | cons x r ih =>
      intro ys
      cases ys with
      | nil => rfl
      | cons y q =>
        show ((x == y) && PyData.eqvAll (r.map .str) (q.map .str)) = _
        rw [ih q]
        by_cases hxy : x = y
        · subst hxy
          simp
        · simp [hxy]
  intro xs ys
  exact h xs ys
theorem Dp_strs {K : PySem.W.Frag} {H : Hp} {a : Addr} {xs : List Str} (h : H a = some (.lst (xs.map V.str))) : Dp K H (.ref a) (.list (xs.map .str)) := by
  refine .lst (SqL.of h) ?_
  induction xs generalizing H with
  | nil => exact .nil
  | cons x r ih =>
    have : ∀ l : List Str, DpAll K H (l.map V.str) (l.map PyData.str) := by
      intro l
      induction l with
      | nil => exact .nil
      | cons y q ih2 => exact .cons (.str y) ih2
    exact this _

/-! ### None, True, False are shown as nothing else is -/
theorem mem_list (ts : List Str) : 93 ∈ (listText ts).cps.toList := by
  unfold listText
  show 93 ∈ ((textFrom 0 "[" ts).cps ++ (Str.ofString "]").cps).toList
  rw [Array.toList_append]
  exact List.mem_append_right _ (by decide +kernel)
theorem mem_dict (ts : List Str) : 125 ∈ (dictText ts).cps.toList := by
  unfold dictText
  show 125 ∈ (_ ++ (Str.ofString "}").cps).toList
  rw [Array.toList_append]
  exact List.mem_append_right _ (by decide +kernel)
theorem mem_str (x : Str) : reprQuote x ∈ (reprText x).cps.toList := by
  unfold reprText
  simp
theorem quote_is (x : Str) : reprQuote x = 39 ∨ reprQuote x = 34 := by
  unfold reprQuote
  split <;> simp
def flatN : PyData → Bool
  | .none => true
  | .bool _ => true
  | _ => false
theorem flat_apart {d e : PyData} (hd : flatN d = true) (he : flatN e = false) (ht : ∀ ds, e ≠ .tuple ds) : d.shown ≠ e.shown := by
  intro h
  have h2 : ∀ c, c ∈ e.shown.cps.toList → c ∈ d.shown.cps.toList := fun c hc => by rw [h]; exact hc
  have h3 : ∀ c, c ∈ d.shown.cps.toList → c ∈ e.shown.cps.toList := fun c hc => by rw [← h]; exact hc
  have no : ∀ c ∈ [93, 125, 39, 34], c ∉ d.shown.cps.toList := by
    cases d with
    | none => decide +kernel
    | bool b => cases b <;> decide +kernel
    | _ => cases hd
  cases e with
  | none => cases he
  | bool b => cases he
  | tuple ds => exact ht ds rfl
  | list ds => exact no 93 (by simp) (h2 _ (mem_list _))
  | dict ds => exact no 125 (by simp) (h2 _ (mem_dict _))
  | str x =>
    rcases quote_is x with q | q
    · exact no 39 (by simp) (h2 _ (by rw [← q]; exact mem_str x))
    · exact no 34 (by simp) (h2 _ (by rw [← q]; exact mem_str x))
  | int i =>
    have hi : ∀ c ∈ [78, 84, 70], c ∉ (PyData.shown (.int i)).cps.toList := by
      intro c hc
      simp only [List.mem_cons, List.not_mem_nil, or_false] at hc
      rcases hc with rfl | rfl | rfl <;> exact PyProof.Rows.int_text_free' _ ⟨by decide, by decide⟩ i
    cases d with
    | none => exact hi 78 (by simp) (h3 78 (by decide +kernel))
    | bool b =>
      cases b
      · exact hi 70 (by simp) (h3 70 (by decide +kernel))
      · exact hi 84 (by simp) (h3 84 (by decide +kernel))
    | _ => cases hd
theorem flat_same {n m : Nat} {d e : PyData} (dd : docD m d) (de : docD m e) (h : flatN d = true ∨ flatN e = true) : decide (d.shown = e.shown) = sameN (n + 1) d e := by
  have nt : ∀ {x : PyData}, docD m x → ∀ ds, x ≠ .tuple ds := by
    intro x hx ds e
    subst e
    cases m with
    | zero => exact hx.elim
    | succ m => exact hx.elim
  by_cases hd : flatN d = true
  · by_cases he : flatN e = true
    · cases d <;> first | cases hd | skip
      all_goals cases e <;> first | cases he | skip
      · rfl
      · rename_i b; cases b <;> (show _ = sameL _ _; decide +kernel)
      · rename_i b; cases b <;> (show _ = sameL _ _; decide +kernel)
      · rename_i a b; cases a <;> cases b <;> (show _ = sameL _ _; decide +kernel)
    · have he' : flatN e = false := by simpa using he
      rw [decide_eq_false (flat_apart hd he' (nt de))]
      cases d <;> first | cases hd | skip
      all_goals cases e <;> first | exact absurd rfl he | rfl
  · have hd' : flatN d = false := by simpa using hd
    have he : flatN e = true := by rcases h with h | h; exact absurd h hd; exact h
    rw [decide_eq_false (fun z => flat_apart he hd' (nt dd) z.symm)]
    cases e <;> first | cases he | skip
    all_goals cases d <;> first | exact absurd rfl hd | rfl
theorem Room.u100 {k : Nat} {A : Around} (r : Room k A) : A.units + 100 < cLine := by have := r.un; omega
theorem flat_iff {H : Hp} {n : Nat} {v : V} {d : PyData} (h : Rp H n v d) : flatN d = true ↔ isT .bool d = true ∨ v = .non := by
  cases n with
  | zero => exact h.elim
  | succ n =>
    cases d with
    | none => cases h; simp [flatN]
    | bool b => cases h; simp [flatN, isT]
    | int b => cases h; simp [flatN, isT]
    | str b => cases h; simp [flatN, isT]
    | list b => obtain ⟨a, xs, rfl, _⟩ := h; simp [flatN, isT]
    | tuple b => obtain ⟨a, xs, rfl, _⟩ := h; simp [flatN, isT]
    | dict b => obtain ⟨a, xs, rfl, _⟩ := h; simp [flatN, isT]
theorem notin_false (bs : List Bool) : (!inV (.bl false) (bs.map V.bl)) = bs.all id := by
  unfold inV
  induction bs with
  | nil => rfl
  | cons b r ih =>
    simp only [List.map_cons, List.any_cons, Bool.not_or, List.all_cons]
    rw [ih]
    cases b <;> rfl
theorem flat_bls (bs : List Bool) : (bs.map V.bl).all flatV = true := by
  rw [List.all_eq_true]
  intro x hx
  obtain ⟨b, _, rfl⟩ := List.mem_map.mp hx
  rfl
/-- name = [.. for k in d], the dict locked -/
theorem tLock_asg (te : TE) (k : Nat) (D : Ends) (σ : L2.St) (H : Hp) : tLock (tAsg te (gName k)) D σ H = tLockE te σ H (fun v H' => D.nx (σ.set k (some v)) H') := rfl
end SC

set_option Elab.async false
set_option linter.all false
set_option maxRecDepth 100000
set_option maxHeartbeats 4000000
/-! Schemacheck: texts; parts of the heap. -/
namespace SC
open PySem L2

/-! ### the heap without some of it -/
def gone (S : List Addr) (H : Hp) : Hp := fun b => if b ∈ S then none else H b
theorem gone_sub (S : List Addr) (H : Hp) : Same (gone S H) H := fun b o e => by
  unfold gone at e
  split at e
  · cases e
  · exact e
theorem gone_at {S : List Addr} {H : Hp} {b : Addr} (h : b ∉ S) : gone S H b = H b := if_neg h
theorem gone_keep {S : List Addr} {H H' : Hp} (k : Keep S H H') : Same (gone S H) (gone S H') := fun b o e => by
  unfold gone at e ⊢
  split at e
  · cases e
  · rename_i h
    rw [if_neg h]
    exact k b o e h
theorem gone_same {S : List Addr} {H H' : Hp} (k : Same H H') : Same (gone S H) (gone S H') := gone_keep (.of k)
theorem gone_less {S T : List Addr} {H : Hp} (h : ∀ b ∈ S, b ∈ T) : Same (gone T H) (gone S H) := fun b o e => by
  unfold gone at e ⊢
  split at e
  · cases e
  · rename_i z
    rw [if_neg fun y => z (h b y)]
    exact e
/-- a new thing is none of the old -/
theorem gone_new {S : List Addr} {H : Hp} {D : Addr} {o : HO} (hD : H D = none) : Same (gone S H) (gone (D :: S) (upd H D o)) := fun b u e => by
  unfold gone at e ⊢
  split at e
  · cases e
  · rename_i z
    have hb : b ≠ D := ne_of_none e hD
    rw [if_neg (by simp [hb, z]), upd_ne hb]
    exact e
theorem gone_mut {S : List Addr} {H : Hp} {D : Addr} {o : HO} (hD : D ∈ S) : gone S (upd H D o) = gone S H := by
  funext b
  unfold gone
  split
  · rfl
  · rename_i z
    exact upd_ne fun e => z (e ▸ hD)
theorem gone_in {S : List Addr} {H H' : Hp} {D : Addr} (k : Same H H') (hD : H D = none) : Same (gone S H) (gone (D :: S) H') := fun b u e => by
  unfold gone at e ⊢
  split at e
  · cases e
  · rename_i z
    have hb : b ≠ D := ne_of_none e hD
    rw [if_neg (by simp [hb, z])]
    exact k _ _ e
theorem not_gone {S : List Addr} {H : Hp} {D : Addr} (hS : ∀ a ∈ S, H a ≠ none) (hD : H D = none) : D ∉ S := fun h => hS D h hD
theorem here_same {S : List Addr} {H H' : Hp} (hS : ∀ a ∈ S, H a ≠ none) (k : Same H H') : ∀ a ∈ S, H' a ≠ none := fun a ha e => by
  cases h : H a with
  | none => exact hS a ha h
  | some o => rw [k _ _ h] at e; cases e
theorem here_cons {S : List Addr} {H : Hp} {D : Addr} {o : HO} (hS : ∀ a ∈ S, H a ≠ none) (hD : H D = some o) : ∀ a ∈ D :: S, H a ≠ none := fun a ha e => by
  rcases List.mem_cons.mp ha with rfl | h
  · rw [hD] at e; cases e
  · exact hS a h e
theorem pd_rev {A B : Type} {F : A → B → Prop} {xs : List A} {ys : List B} (h : Paired F xs ys) : Paired F xs.reverse ys.reverse := by
  induction h with
  | nil => exact .nil
  | cons h1 _ ih => rw [List.reverse_cons, List.reverse_cons]; exact pd_app ih (.cons h1 .nil)
theorem pd_both {A B : Type} {F G K : A → B → Prop} {xs : List A} {ys : List B} (h : Paired F xs ys) (g : Paired G xs ys) (f : ∀ a b, F a b → G a b → K a b) : Paired K xs ys := by
  induction h with
  | nil => exact .nil
  | cons h1 _ ih => cases g with
    | cons g1 g2 => exact .cons (f _ _ h1 g1) (ih g2)
theorem news_gone {S : List Addr} {H H' : Hp} (hs : ∀ a ∈ S, H a ≠ none) : Same (news H H') (gone S H') := fun b o e => by
  unfold news at e
  split at e
  · cases e
  · rename_i h
    rw [gone_at fun z => hs b z h]
    exact e

/-! ### data no part of which is locked -/
def Re (H : Hp) : Nat → V → PyData → Prop
  | 0, _, _ => False
  | _ + 1, v, .none => v = .non
  | _ + 1, v, .bool b => v = .bl b
  | _ + 1, v, .int i => v = .int i
  | _ + 1, v, .str x => v = .str x
  | n + 1, v, .list ds => ∃ a xs, v = .ref a ∧ H a = some (.lst xs) ∧ xs.length ≤ 10000 ∧ Paired (Re H n) xs ds
  | n + 1, v, .tuple ds => ∃ a xs, v = .ref a ∧ H a = some (.tup xs) ∧ xs.length ≤ 10000 ∧ Paired (Re H n) xs ds
  | n + 1, v, .dict es => ∃ a kvs, v = .ref a ∧ H a = some (.dK kvs) ∧ kvs.length ≤ 10000 ∧ (kvs.map (·.1)).Nodup ∧ Paired (KvR (Re H n)) kvs es
theorem Re.imp {H H' : Hp} : ∀ {n : Nat} {v : V} {d : PyData}, Same H H' → Re H n v d → Re H' n v d
  | 0, _, _, _, h => h
  | n + 1, v, .none, _, h => h
  | n + 1, v, .bool _, _, h => h
  | n + 1, v, .int _, _, h => h
  | n + 1, v, .str _, _, h => h
  | n + 1, v, .list ds, e, ⟨a, xs, h1, h2, hb, h3⟩ => ⟨a, xs, h1, e _ _ h2, hb, pd_imp h3 fun _ _ _ _ q => Re.imp e q⟩
  | n + 1, v, .tuple ds, e, ⟨a, xs, h1, h2, hb, h3⟩ => ⟨a, xs, h1, e _ _ h2, hb, pd_imp h3 fun _ _ _ _ q => Re.imp e q⟩
  | n + 1, v, .dict es, e, ⟨a, xs, h1, h2, hb, hn, h3⟩ => ⟨a, xs, h1, e _ _ h2, hb, hn, pd_imp h3 fun _ _ _ _ q => ⟨q.1, Re.imp e q.2⟩⟩
theorem Re.rp {H : Hp} : ∀ {n : Nat} {v : V} {d : PyData}, Re H n v d → Rp H n v d
  | 0, _, _, h => h
  | n + 1, v, .none, h => h
  | n + 1, v, .bool _, h => h
  | n + 1, v, .int _, h => h
  | n + 1, v, .str _, h => h
  | n + 1, v, .list ds, ⟨a, xs, h1, h2, hb, h3⟩ => ⟨a, xs, h1, h2, hb, pd_imp h3 fun _ _ _ _ q => Re.rp q⟩
  | n + 1, v, .tuple ds, ⟨a, xs, h1, h2, hb, h3⟩ => ⟨a, xs, h1, h2, hb, pd_imp h3 fun _ _ _ _ q => Re.rp q⟩
  | n + 1, v, .dict es, ⟨a, xs, h1, h2, hb, hn, h3⟩ => ⟨a, xs, h1, .inl h2, hb, hn, pd_imp h3 fun _ _ _ _ q => ⟨q.1, Re.rp q.2⟩⟩
theorem Re.up1 {H : Hp} : ∀ {n : Nat} {v : V} {d : PyData}, Re H n v d → Re H (n + 1) v d
  | 0, _, _, h => h.elim
  | n + 1, v, .none, h => h
  | n + 1, v, .bool _, h => h
  | n + 1, v, .int _, h => h
  | n + 1, v, .str _, h => h
  | n + 1, v, .list ds, ⟨a, xs, h1, h2, hb, h3⟩ => ⟨a, xs, h1, h2, hb, pd_imp h3 fun _ _ _ _ q => Re.up1 q⟩
  | n + 1, v, .tuple ds, ⟨a, xs, h1, h2, hb, h3⟩ => ⟨a, xs, h1, h2, hb, pd_imp h3 fun _ _ _ _ q => Re.up1 q⟩
  | n + 1, v, .dict es, ⟨a, xs, h1, h2, hb, hn, h3⟩ => ⟨a, xs, h1, h2, hb, hn, pd_imp h3 fun _ _ _ _ q => ⟨q.1, Re.up1 q.2⟩⟩
theorem Re.up {H : Hp} {n m : Nat} {v : V} {d : PyData} (h : Re H n v d) (hl : n ≤ m) : Re H m v d := by
  induction hl with
  | refl => exact h
  | step _ ih => exact ih.up1
theorem Re.leaf {H : Hp} {n : Nat} {v : V} {d : PyData} (hd : leafD d) (h : Rp H n v d) : Re H n v d := by
  cases n with
  | zero => exact h.elim
  | succ n => cases d <;> first | exact h | exact hd.elim
/-- a part of an unlocked datum, in less of the heap -/
theorem Re.of {G H : Hp} (s : Same G H) : ∀ {n m : Nat} {v : V} {d : PyData}, Re H n v d → Rp G m v d → Re G m v d
  | 0, _, _, _, h, _ => h.elim
  | _, 0, _, _, _, h => h.elim
  | n + 1, m + 1, v, .none, h, _ => h
  | n + 1, m + 1, v, .bool _, h, _ => h
  | n + 1, m + 1, v, .int _, h, _ => h
  | n + 1, m + 1, v, .str _, h, _ => h
  | n + 1, m + 1, v, .list ds, ⟨a, xs, h1, h2, hb, h3⟩, ⟨a', xs', g1, g2, gb, g3⟩ => by
    rw [h1] at g1; cases g1
    have e := s _ _ g2
    rw [h2] at e; cases e
    exact ⟨a, xs, h1, g2, hb, pd_both h3 g3 fun _ _ q r => Re.of s q r⟩
  | n + 1, m + 1, v, .tuple ds, ⟨a, xs, h1, h2, hb, h3⟩, ⟨a', xs', g1, g2, gb, g3⟩ => by
    rw [h1] at g1; cases g1
    have e := s _ _ g2
    rw [h2] at e; cases e
    exact ⟨a, xs, h1, g2, hb, pd_both h3 g3 fun _ _ q r => Re.of s q r⟩
  | n + 1, m + 1, v, .dict es, ⟨a, xs, h1, h2, hb, hn, h3⟩, ⟨a', xs', g1, g2, gb, gn, g3⟩ => by
    rw [h1] at g1; cases g1
    rcases g2 with g2 | ⟨o, g2⟩
    · have e := s _ _ g2
      rw [h2] at e; cases e
      exact ⟨a, xs, h1, g2, hb, hn, pd_both h3 g3 fun _ _ q r => ⟨q.1, Re.of s q.2 r.2⟩⟩
    · have e := s _ _ g2
      rw [h2] at e; cases e

/-! ### rules with the given part named -/
section
variable {X : Cx} {K : PySem.W.Frag}
theorem pe_gstr {x z : Str} {t : Tok} {pos : Pos} (hg : Gl X x) (hm : X.mg x = some (.str z t)) (hd : (x == ("__debug__" : Str)) = false := by decide) : PE X (.Name x pos) (tC (.str z)) := pe_glob (v := .str z) hg hm ⟨t, rfl⟩ hd
theorem revLK {e : Expr} {te : TE} {k : Nat} {p1 p2 p3 pos : Pos} (h : X.K = K) (he : PE X e te) : PE X (.Subscript e (.Slice none none (some (.UnaryOp .USub (.Constant (.int 1) k p1) p2)) p3) pos) (tRevL K te) := by subst h; exact pe_revL he
def rJoin (K : PySem.W.Frag) : V → List V → Hp → VK → Prop := fun x xs H Q => ∃ a p, ∃ ys : List Str, x = .str a ∧ xs = [.ref p] ∧ (SqL K H p (ys.map V.str) ∨ SqT K H p (ys.map V.str)) ∧
      (ys.map (·.length)).sum + ys.length * a.length ≤ 16777216 ∧ Q (.str (Txt.join a ys)) H
theorem joinK {o e : Expr} {to te : TE} {apos pos : Pos} (h : X.K = K) (ho : PE X o to) (he : PE X e te) (hs : starEach [e] X.env = [(false, eval e X.env)] := by rfl) (hbase : attributeBase o "join" X.env (eval o X.env) = eval o X.env := by rfl) (hline : (apos.endLine == pos.line) = true := by rfl) :
    PE X (.Call (.Attribute o "join" apos) [e] [] pos) (tM1 (rJoin K) to te) := by subst h; exact pe_join ho he hs hbase hline
/-- len of a list, tuple, text or dict -/
def LenA (K : PySem.W.Frag) (x : V) (H : Hp) (n : Nat) : Prop := LenV K x H n ∨ ∃ a kvs, x = .ref a ∧ Rd H a (.dK kvs) ∧ n = kvs.length
theorem LenA.l {K : PySem.W.Frag} {H : Hp} {a : Addr} {xs : List V} (h : SqL K H a xs) : LenA K (.ref a) H xs.length := .inl (.inl ⟨xs, h, rfl⟩)
theorem LenA.d {K : PySem.W.Frag} {H : Hp} {a : Addr} {kvs : List (Key × V)} (h : Rd H a (.dK kvs)) : LenA K (.ref a) H kvs.length := .inr ⟨a, kvs, rfl, h, rfl⟩
def rLenA (K : PySem.W.Frag) : List V → Hp → VK → Prop := fun xs H Q => ∃ x n, xs = [x] ∧ LenA K x H n ∧ Q (.int (n : Nat)) H
theorem lenAK (h : X.K = K) : CallR X (.builtin "len") (rLenA K) := by
  subst h
  intro pins s σ H xs us Q I r h
  obtain ⟨x, n, rfl, e, q⟩ := h
  rcases e with e | ⟨a, kvs, rfl, e, rfl⟩
  · exact call_len pins s σ H _ us Q I r ⟨x, n, rfl, e, q⟩
  · cases r with
    | cons r rr =>
      cases rr
      cases r
      exact d_len I e fun t s' I' => ⟨.int kvs.length, H, I', ⟨t, rfl⟩, q⟩
def rTup (K : PySem.W.Frag) : List V → Hp → VK → Prop := fun xs H Q => ∃ p ys, xs = [.ref p] ∧ ((SqL K H p ys ∧ ∀ l, H l = none → Q (.ref l) (upd H l (.tup ys))) ∨ (SqT K H p ys ∧ Q (.ref p) H))
theorem tupleK (h : X.K = K) : CallR X (.type "tuple") (rTup K) := by subst h; exact call_tuple_of
end

/-! ### texts -/
theorem len_app (x y : Str) : (x ++ y).length = x.length + y.length := by
  show (x.cps ++ y.cps).size = _
  rw [Array.size_append]
  rfl
theorem int_len {i : Int} (h : -10 ^ 30 ≤ i ∧ i ≤ 10 ^ 30) : (Str.ofString (toString i)).length ≤ 40 := int30_len h
/-! ### signs of a text -/
theorem lcP_str {z : Str} {te : TE} {j : Nat} {σ : L2.St} {H1 : Hp} {Q : VK} (ys : List V) (hl : ys.length = z.length) (hz : z.length ≤ 100000)
    (step : ∀ (i : Nat) c y H' (N : VK), z.cps.toList[i]? = some c → ys[i]? = some y → Same H1 H' → (∀ H4, Same H' H4 → N y H4) → te ((wipe σ [j]).set j (some (.str ⟨#[c]⟩))) H' N)
    (done : ∀ D H', H1 D = none → Same H1 H' → H' D = some (.lst ys) → Q (.ref D) H') : LcR (Its z) (gName j) tYes te [j] σ H1 Q :=
  lcP_map walk_str (fun i x => ∃ c, z.cps[i]? = some c ∧ x = .str ⟨#[c]⟩) (fun _ _ _ _ h => h) (fun _ _ => trivial) ys hl hz (fun i x y H' N ⟨c, h1, h2⟩ hy s n => by subst h2; exact step i c y H' N (by rw [Array.getElem?_toList]; exact h1) hy s n) done
/-- [x for x in text if ..] -/
theorem lcF_str {z : Str} {tt : TT} {j : Nat} {σ : L2.St} {H1 : Hp} {Q : VK} (p : Nat → Bool) (hz : z.length ≤ 100000) (hj : j < σ.length)
    (step : ∀ c H' (N : Bool → Hp → Prop), c ∈ z.cps.toList → Same H1 H' → N (p c) H' → tt ((wipe σ [j]).set j (some (.str ⟨#[c]⟩))) H' N)
    (done : ∀ D H', H1 D = none → Same H1 H' → H' D = some (.lst (((z.cps.toList.filter p).map fun c => (⟨#[c]⟩ : Str)).map V.str)) → Q (.ref D) H') : LcR (Its z) (gName j) tt (tVar j) [j] σ H1 Q := by
  refine lc_itR walk_str (fun D i H' => Same H1 H' ∧ H' D = some (.lst ((((z.cps.toList.take i).filter p).map fun c => (⟨#[c]⟩ : Str)).map V.str))) (fun D hD => ⟨same_new hD _, by rw [upd_same]; rfl⟩) (fun _ _ _ _ _ _ => trivial) ?_ ?_
  · rintro D i x H H' hD hi ⟨s, e⟩ ⟨rfl, c, hc, rfl⟩
    have hc' : z.cps.toList[i]? = some c := by rw [Array.getElem?_toList]; exact hc
    refine ⟨wipe1, step c _ _ (List.mem_of_getElem? hc') s ?_⟩
    have ht : z.cps.toList.take (i + 1) = z.cps.toList.take i ++ [c] := by rw [List.take_succ, hc']; rfl
    split
    · rename_i hp
      refine ⟨.str ⟨#[c]⟩, ?_, _, e, ?_, same_mut s hD, ?_⟩
      · show (((σ.set j none).set j (some _)))[j]? = _
        rw [List.getElem?_set_self (by rw [List.length_set]; exact hj)]
      · rw [List.length_map, List.length_map]
        refine sz5l (Nat.lt_of_le_of_lt (List.length_filter_le _ _) ?_)
        rw [List.length_take]
        have : i < z.length := hi
        omega
      · rw [upd_same, ht, List.filter_append, List.filter_cons_of_pos hp]
        simp
    · rename_i hp
      refine ⟨s, ?_⟩
      rw [ht, List.filter_append, List.filter_cons_of_neg (by simpa using hp)]
      simpa using e
  · rintro D H' hD ⟨s, e⟩
    refine done D H' hD s ?_
    rw [List.take_of_length_le (by show z.cps.toList.length ≤ z.cps.size; simp)] at e
    exact e
theorem app_cps (x y : Str) : (x ++ y).cps.toList = x.cps.toList ++ y.cps.toList := by
  show (x.cps ++ y.cps).toList = _
  rw [Array.toList_append]
theorem str_nil {x : Str} (h : x.cps.toList = []) : x = "" := by
  obtain ⟨⟨l⟩⟩ := x
  cases h
  rfl
theorem str_one {c : Nat} (z : Nat) : (V.str ⟨#[c]⟩ = V.str ⟨#[z]⟩) ↔ c = z := by
  constructor
  · intro e; cases e; rfl
  · intro e; rw [e]
theorem emp_app (x : Str) : Str.empty ++ x = x := by
  obtain ⟨a⟩ := x
  show (⟨#[] ++ a⟩ : Str) = ⟨a⟩
  rw [Array.empty_append]
theorem of_len (x : String) : (Str.ofString x).length = x.length := PyProof.Rows.ofString_length x
theorem app_assoc (x y z : Str) : x ++ y ++ z = x ++ (y ++ z) := by
  show (⟨x.cps ++ y.cps ++ z.cps⟩ : Str) = ⟨x.cps ++ (y.cps ++ z.cps)⟩
  rw [Array.append_assoc]
theorem emp_len : Str.empty.length = 0 := rfl
theorem int_log {i : Int} (h : -10 ^ 30 ≤ i ∧ i ≤ 10 ^ 30) : i.natAbs.log2 < 1920 := Nat.lt_trans (int30_log h) (by decide)
/-! ### texts that can be laid -/
theorem ok_ofString (x : String) : PyData.strOk (Str.ofString x) = true := by
  unfold PyData.strOk
  rw [Str.ofString_eq_toList, Array.all_eq_true_iff_forall_mem]
  intro c hc
  obtain ⟨d, _, rfl⟩ := List.mem_map.mp (by simpa using hc : c ∈ x.toList.map Char.toNat)
  refine decide_eq_true ?_
  have := d.valid
  rcases this with h | ⟨_, h⟩
  · exact Nat.lt_trans h (by decide)
  · exact h
theorem ok_app {x y : Str} (hx : PyData.strOk x = true) (hy : PyData.strOk y = true) : PyData.strOk (x ++ y) = true := by
  unfold PyData.strOk at *
  show (x.cps ++ y.cps).all _ = true
  rw [Array.all_append, hx, hy]
  rfl
theorem layAll_strsK : ∀ {xs : List Str}, (∀ x ∈ xs, PyData.strOk x = true) → PyData.canLayAll0 (xs.map .str) = true
  | [], _ => rfl
  | x :: r, h => by
    show (PyData.strOk x && PyData.canLayAll0 (r.map .str)) = true
    rw [h x (by simp), layAll_strsK fun y hy => h y (by simp [hy])]
    rfl
theorem shaped_strsK {xs : List Str} (h : ∀ x ∈ xs, PyData.strOk x = true) : SeqAt.shaped (.list (xs.map .str)) = true := by
  have h1 := layAll_strsK h
  have h2 := depth_strs xs
  show (PyData.canLayAll0 (xs.map .str) && decide (PyData.depthAll (xs.map .str) + 1 ≤ 64)) = true
  rw [h1, h2]
  rfl
theorem app_emp (x : Str) : x ++ Str.ofString "" = x := by
  obtain ⟨a⟩ := x
  show (⟨a ++ (Str.ofString "").cps⟩ : Str) = ⟨a⟩
  rw [show (Str.ofString "").cps = #[] by decide +kernel, Array.append_empty]
theorem join_foldl : ∀ (ys : List Str) (a : Str), a ++ Txt.join (Str.ofString "") ys = ys.foldl (· ++ ·) a := by
  intro ys
  rw [TL.join_eq]
  induction ys with
  | nil => intro a; exact app_emp a
  | cons x r ih =>
    intro a
    cases r with
    | nil => rfl
    | cons y r =>
      show a ++ (x ++ Str.ofString "" ++ Str.join (Str.ofString "") (y :: r)) = _
      rw [app_emp, ← app_assoc, ih]
      rfl
theorem sum_len {A : Type} (f : A → Nat) (b : Nat) : ∀ xs : List A, (∀ x ∈ xs, f x ≤ b) → (xs.map f).sum ≤ b * xs.length
  | [], _ => by simp
  | x :: r, h => by
    have h1 := h x (by simp)
    have h2 := sum_len f b r fun y hy => h y (by simp [hy])
    simp only [List.map_cons, List.sum_cons, List.length_cons, Nat.mul_succ]
    omega
theorem ix_last {n : Nat} : ixN (n + 1) (-1) = some n := by
  unfold ixN
  simp
  try omega
theorem nd_rev {A : Type} {l : List A} (h : l.Nodup) : l.reverse.Nodup := (List.reverse_perm l).nodup_iff.mpr h
theorem dget_nd : ∀ {fs : List (PyData × PyData)} {e : PyData × PyData}, (keysD fs).Nodup → e ∈ fs → dget fs (strD e.1) = some e.2
  | [], _, _, h => by cases h
  | q :: r, e, hn, h => by
    have hn' : strD q.1 ∉ keysD r ∧ (keysD r).Nodup := List.nodup_cons.mp hn
    rcases List.mem_cons.mp h with rfl | h
    · simp [dget]
    · have hne : ¬ strD q.1 = strD e.1 := fun z => hn'.1 (by rw [z]; exact List.mem_map.mpr ⟨e, h, rfl⟩)
      have := dget_nd hn'.2 h
      unfold dget at this ⊢
      rw [List.find?_cons_of_neg (by simpa using hne)]
      exact this
theorem pd_take {A B : Type} {F : A → B → Prop} {xs : List A} {ys : List B} (h : Paired F xs ys) : ∀ j : Nat, Paired F (xs.take j) (ys.take j) := by
  induction h with
  | nil => intro j; simp only [List.take_nil]; exact .nil
  | cons h1 _ ih => intro j; cases j with
    | zero => exact .nil
    | succ j => exact .cons h1 (ih j)
theorem pd_drop {A B : Type} {F : A → B → Prop} {xs : List A} {ys : List B} (h : Paired F xs ys) : ∀ j : Nat, Paired F (xs.drop j) (ys.drop j) := by
  induction h with
  | nil => intro j; simp only [List.drop_nil]; exact .nil
  | cons h1 h2 ih => intro j; cases j with
    | zero => exact .cons h1 h2
    | succ j => exact ih j
theorem cut_take (xs : List V) (j : Nat) (h : j ≤ xs.length) : cutV xs none (some (j : Int)) = xs.take j := by
  unfold cutV
  rw [HT.sIx_none, HT.sIx_nat]
  simp [Nat.min_eq_left h]
theorem cut_drop (xs : List V) (j : Nat) (h : j ≤ xs.length) : cutV xs (some (j : Int)) none = xs.drop j := by
  unfold cutV
  rw [HT.sIx_none, HT.sIx_nat, Nat.min_eq_left h]
  exact List.take_of_length_le (by simp)
theorem cntAll_split : ∀ {ds : List PyData} {j : Nat} {d : PyData}, ds[j]? = some d → cntAll ds = cntAll (ds.take j) + cnt d + cntAll (ds.drop (j + 1))
  | [], _, _, h => by simp at h
  | e :: r, 0, d, h => by
    simp at h; subst h
    simp [cntAll]
  | e :: r, j + 1, d, h => by
    have := cntAll_split (ds := r) (j := j) (d := d) (by simpa using h)
    simp only [List.take_succ_cons, List.drop_succ_cons, cntAll]
    omega
/-! ### bools -/
theorem Dp_bls {K : PySem.W.Frag} {H : Hp} {a : Addr} {xs : List Bool} (h : H a = some (.lst (xs.map V.bl))) : Dp K H (.ref a) (.list (xs.map .bool)) := by
  refine .lst (SqL.of h) ?_
  have : ∀ l : List Bool, DpAll K H (l.map V.bl) (l.map PyData.bool) := by
    intro l
    induction l with
    | nil => exact .nil
    | cons y q ih2 => exact .cons (.bl y) ih2
  exact this _
theorem Rp_bls {H : Hp} {a : Addr} {xs : List Bool} (h : H a = some (.lst (xs.map V.bl))) (hl : xs.length ≤ 10000) : Rp H 2 (.ref a) (.list (xs.map .bool)) := by
  refine ⟨a, _, rfl, h, by simpa using hl, ?_⟩
  clear h
  induction xs with
  | nil => exact .nil
  | cons x r ih => exact .cons rfl (ih (by simp at hl; omega))
theorem doc_bls (xs : List Bool) (hl : xs.length ≤ 10) : docD 2 (.list (xs.map .bool)) := ⟨by simpa using hl, fun d hd => by
  obtain ⟨b, _, rfl⟩ := List.mem_map.mp hd
  trivial⟩
theorem cnt_bls : ∀ xs : List Bool, cntAll (xs.map .bool) = xs.length
  | [] => rfl
  | x :: r => by simp only [List.map_cons, cntAll, cnt, List.length_cons]; rw [cnt_bls r]; omega
/-- repr of a list of bools -/
theorem repr_bls {H : Hp} {a : Addr} {xs : List Bool} {Q : VK} (h : H a = some (.lst (xs.map V.bl))) (hl : xs.length ≤ 10) (q : Q (.str (PyData.shown (.list (xs.map .bool)))) H) : rRepr [.ref a] H Q :=
  repr1 (Rp_bls h (by omega)) (by omega) (doc_bls xs hl).fine (by simp only [cnt]; rw [cnt_bls]; omega) q
theorem sameN_up : ∀ {n m : Nat} {d e : PyData}, docD n d → docD m e → n ≤ m → ∀ k, sameN (n + k) d e = sameN n d e
  | 0, _, _, _, h, _, _, _ => h.elim
  | n + 1, m + 1, .list ds, .list es, h, g, hl, k => by
    rw [show n + 1 + k = (n + k) + 1 by omega]
    simp only [sameN]
    congr 2
    apply List.ext_getElem?
    intro i
    rw [List.getElem?_zipWith, List.getElem?_zipWith]
    cases h1 : ds[i]? <;> cases h2 : es[i]? <;> simp
    exact sameN_up (h.2 _ (List.mem_of_getElem? h1)) (g.2 _ (List.mem_of_getElem? h2)) (by omega) k
  | n + 1, m + 1, .dict ds, .dict es, h, g, hl, k => by
    rw [show n + 1 + k = (n + k) + 1 by omega]
    simp only [sameN]
    congr 2
    apply List.map_congr_left
    intro e he
    cases h2 : dget es (strD e.1) with
    | none => rfl
    | some d2 =>
      obtain ⟨e2, he2, rfl, _⟩ := dget_mem h2
      exact sameN_up (h.2 e he).2 (g.2 e2 he2).2 (by omega) k
  | n + 1, 0, _, _, _, _, hl, _ => by omega
  | n + 1, m + 1, .none, e, _, _, _, k => by rw [show n + 1 + k = (n + k) + 1 by omega]; cases e <;> rfl
  | n + 1, m + 1, .bool _, e, _, _, _, k => by rw [show n + 1 + k = (n + k) + 1 by omega]; cases e <;> rfl
  | n + 1, m + 1, .int _, e, _, _, _, k => by rw [show n + 1 + k = (n + k) + 1 by omega]; cases e <;> rfl
  | n + 1, m + 1, .str _, e, _, _, _, k => by rw [show n + 1 + k = (n + k) + 1 by omega]; cases e <;> rfl
  | n + 1, m + 1, .tuple _, _, h, _, _, _ => h.elim
  | n + 1, m + 1, .list _, .none, _, _, _, k => by rw [show n + 1 + k = (n + k) + 1 by omega]; rfl
  | n + 1, m + 1, .list _, .bool _, _, _, _, k => by rw [show n + 1 + k = (n + k) + 1 by omega]; rfl
  | n + 1, m + 1, .list _, .int _, _, _, _, k => by rw [show n + 1 + k = (n + k) + 1 by omega]; rfl
  | n + 1, m + 1, .list _, .str _, _, _, _, k => by rw [show n + 1 + k = (n + k) + 1 by omega]; rfl
  | n + 1, m + 1, .list _, .tuple _, _, _, _, k => by rw [show n + 1 + k = (n + k) + 1 by omega]; rfl
  | n + 1, m + 1, .list _, .dict _, _, _, _, k => by rw [show n + 1 + k = (n + k) + 1 by omega]; rfl
  | n + 1, m + 1, .dict _, .none, _, _, _, k => by rw [show n + 1 + k = (n + k) + 1 by omega]; rfl
  | n + 1, m + 1, .dict _, .bool _, _, _, _, k => by rw [show n + 1 + k = (n + k) + 1 by omega]; rfl
  | n + 1, m + 1, .dict _, .int _, _, _, _, k => by rw [show n + 1 + k = (n + k) + 1 by omega]; rfl
  | n + 1, m + 1, .dict _, .str _, _, _, _, k => by rw [show n + 1 + k = (n + k) + 1 by omega]; rfl
  | n + 1, m + 1, .dict _, .tuple _, _, _, _, k => by rw [show n + 1 + k = (n + k) + 1 by omega]; rfl
  | n + 1, m + 1, .dict _, .list _, _, _, _, k => by rw [show n + 1 + k = (n + k) + 1 by omega]; rfl
end SC

set_option Elab.async false
set_option linter.all false
set_option maxRecDepth 100000
set_option maxHeartbeats 4000000
/-! Schemacheck: for i, k in enumerate(d), d a dict. -/
namespace SC
open PySem L2 PySem.Spec PyProof.Rows
open Sem (wp)
section
variable {prog : Program} {w : World} {A : Around} {E : Value → Shared → Prop} {s : Shared}
theorem nextOf_key_item {it d : Addr} {i n ep : Nat} {od : Obj} {es : Array DictEntry} {en : DictEntry} {Q : Value → Shared → Prop} (hit : s.heap.IsKeyIter it d i n ep) (hod : s.heap.get? d = some od) (hdd : od.data = .dict es ep)
    (hsz : es.size = n) (hx : es[i]? = some en) (hQ : ∀ h', h'.IsKeyIter it d (i + 1) n ep → Heap.SameBut it s.heap h' → Q en.key { s with heap := h' }) : wpAny (model prog w) A (Builtin.SmallTypes.nextOf (.ref it)) Q E s := by
  obtain ⟨o, ho, hc, hd⟩ := id hit
  unfold Builtin.SmallTypes.nextOf
  refine wpAny_bind (wpAny_callSpecial?_slot (name := Str.ofString "__next__") hit.typeIs F.slot_dict_keyiterator_next
    (wpAny_call_entry F.slot_dict_keyiterator_next hit.typeIs F.entry_dict_keyiterator_next ?_ (F.args_dict_keyiterator_next_1 _)))
  refine wpAny_bind (wpAny_pure ?_)
  refine wpAny_bind ?_
  refine wpAny_bind ?_
  first | refine wpAny_bind (wpAny_typeNameOfWhole_keyiter hit.typeIs (wpAny_pure ?_)) | refine wpAny_bind (wpAny_typeNameOf_keyiter hit.typeIs (wpAny_pure ?_))
  refine wpAny_bind (wpAny_fieldsOf ho hd ?_)
  have hown : Builtin.Dict_items.ownsTuple "dict_keyiterator" = false := by decide
  simp only [hown, Bool.false_eq_true, if_false]
  show wpAny _ _ (if (Value.ref d == Value.none) = true then _ else _) _ _ s
  rw [if_neg (show ¬ ((Value.ref d == Value.none) = true) from Bool.false_ne_true)]
  refine wpAny_bind (wpAny_pure ?_)
  refine wpAny_bind (wpAny_dictEntries hod hdd ?_)
  rw [if_neg (by rw [hsz]; simp)]
  refine wpAny_bind (wpAny_pure ?_)
  refine wpAny_bind (wpAny_dictEpoch hod hdd ?_)
  rw [if_neg (by simp)]
  refine wpAny_pure ?_
  obtain ⟨hlt', hen⟩ := Array.getElem?_eq_some_iff.mp hx
  simp only [show ¬ ((i : Int) < 0) from by omega, if_false, Int.toNat_natCast, Array.getElem?_eq_getElem hlt']
  refine wpAny_bind ?_
  first | refine wpAny_bind (wpAny_typeNameOfWhole_keyiter hit.typeIs (wpAny_pure ?_)) | refine wpAny_bind (wpAny_typeNameOf_keyiter hit.typeIs (wpAny_pure ?_))
  refine wpAny_bind (wpAny_isOneOf_keyiter hit.typeIs ?_)
  show wpAny _ _ (setField (.ref it) 1 (rawInt ((i : Int) + 1)) >>= _) _ _ s
  refine wpAny_bind (wpAny_setField ho hd (by simp) ?_)
  have hit' : (s.heap.update it (Obj.mapFields (·.setIfInBounds 1 (rawInt ((i : Int) + 1))))).IsKeyIter it d (i + 1) n ep :=
    ⟨_, Heap.get?_update_self _ ho (Obj.isFreed_of_fields (Obj.data_mapFields hd _)), (Obj.cls_mapFields ..).trans hc, by rw [Obj.data_mapFields hd]; simp [rawInt]⟩
  refine wpAny_bind (wpAny_holding ?_)
  refine wpAny_bind (wpAny_isOneOf_keyiter (s := { s with heap := s.heap.update it (Obj.mapFields (·.setIfInBounds 1 (rawInt ((i : Int) + 1)))) }) hit'.typeIs ?_)
  show wpAny _ _ (pure es[i].key) _ _ _
  rw [hen]
  exact wpAny_pure (wpAny_pure ⟨_, rfl, wpAny_pure (hQ _ hit' (Heap.SameBut.update ..))⟩)
theorem nextOf_key_end {it d : Addr} {i n ep : Nat} {od : Obj} {es : Array DictEntry} {Q : Value → Shared → Prop} (hh : A.handled = none) (hit : s.heap.IsKeyIter it d i n ep) (hod : s.heap.get? d = some od) (hdd : od.data = .dict es ep)
    (hsz : es.size = n) (hge : n ≤ i) (hE : ∀ h' e, Heap.ExtBut it s.heap h' → (∃ o, h'.get? e = some o ∧ o.cls = .type "StopIteration") → E (.ref e) { s with heap := h' }) : wpAny (model prog w) A (Builtin.SmallTypes.nextOf (.ref it)) Q E s := by
  obtain ⟨o, ho, hc, hd⟩ := id hit
  unfold Builtin.SmallTypes.nextOf
  refine wpAny_bind (wpAny_callSpecial?_slot (name := Str.ofString "__next__") hit.typeIs F.slot_dict_keyiterator_next
    (wpAny_call_entry F.slot_dict_keyiterator_next hit.typeIs F.entry_dict_keyiterator_next ?_ (F.args_dict_keyiterator_next_1 _)))
  refine wpAny_bind (wpAny_pure ?_)
  refine wpAny_bind ?_
  refine wpAny_bind ?_
  first | refine wpAny_bind (wpAny_typeNameOfWhole_keyiter hit.typeIs (wpAny_pure ?_)) | refine wpAny_bind (wpAny_typeNameOf_keyiter hit.typeIs (wpAny_pure ?_))
  refine wpAny_bind (wpAny_fieldsOf ho hd ?_)
  have hown : Builtin.Dict_items.ownsTuple "dict_keyiterator" = false := by decide
  simp only [hown, Bool.false_eq_true, if_false]
  show wpAny _ _ (if (Value.ref d == Value.none) = true then _ else _) _ _ s
  rw [if_neg (show ¬ ((Value.ref d == Value.none) = true) from Bool.false_ne_true)]
  refine wpAny_bind (wpAny_pure ?_)
  refine wpAny_bind (wpAny_dictEntries hod hdd ?_)
  rw [if_neg (by rw [hsz]; simp)]
  refine wpAny_bind (wpAny_pure ?_)
  refine wpAny_bind (wpAny_dictEpoch hod hdd ?_)
  rw [if_neg (by simp)]
  refine wpAny_pure ?_
  have hge' : es.size ≤ i := by rw [hsz]; exact hge
  simp only [show ¬ ((i : Int) < 0) from by omega, if_false, Int.toNat_natCast, Array.getElem?_eq_none hge']
  refine wpAny_bind ?_
  first | refine wpAny_bind (wpAny_typeNameOfWhole_keyiter hit.typeIs (wpAny_pure ?_)) | refine wpAny_bind (wpAny_typeNameOf_keyiter hit.typeIs (wpAny_pure ?_))
  show wpAny _ _ (setField (.ref it) 0 .none >>= _) _ _ s
  refine wpAny_bind (wpAny_setField ho hd (by simp) ?_)
  show wpAny _ _ (newExc (.type "StopIteration") [] >>= _) _ _ _
  refine wpAny_bind ?_
  simp only [newExc, newTuple]
  refine wpAny_bind (wpAny_newObj_type ?_ (by size_fits))
  refine wpAny_bind (m := firstArgMember _ _) (wpAny_of_eq (a := Value.none) (by first | rfl | (simp only [firstArgMember]; rfl)) ?_)
  refine wpAny_newObj_type ?_ (by size_fits)
  simp only [raiseNew]
  refine wpAny_bind (wpAny_handled ?_)
  first | rw [show A.in1.handled = none from hh] | rw [hh]
  refine wpAny_bind (wpAny_pure (wpAny_throw ?_))
  exact hE _ _ (((Heap.SameBut.update ..).extBut.push _).push _) ⟨_, Heap.get?_push_size _ rfl, rfl⟩
end
/-- what a dict's key iterator draws -/
theorem draws_keys {prog : Program} {w : World} {A : Around} (hh : A.handled = none) (it d : Addr) (hne : d ≠ it) (o : Obj) (es : Array DictEntry) (ep : Nat) (hdt : o.data = .dict es ep) :
    Draws prog w A it [it, d] es.size (fun i v => ∃ en, es[i]? = some en ∧ en.key = v) (fun i h => h.IsKeyIter it d i es.size ep ∧ h.get? d = some o) where
  live := fun _ _ st => let ⟨o, ho, _⟩ := st.1; ⟨o, ho⟩
  frame := fun _ _ _ st hk => ⟨st.1.at fun o e => hk it (by simp) o e, hk d (by simp) o st.2⟩
  item := fun i s Q E hi st hQ => by
    refine nextOf_key_item (en := es[i]) st.1 st.2 hdt rfl (by simp [hi]) fun h' hit' hs' => ?_
    exact hQ _ h' s.toks ⟨_, by simp [hi], rfl⟩ ⟨hit', hs'.extBut _ _ hne st.2⟩ hs'
  done := fun s Q E st hE => nextOf_key_end hh st.1 st.2 hdt rfl (Nat.le_refl _) hE
theorem begins_keys (d : Addr) (o : Obj) (es : Array DictEntry) (ep : Nat) (hd : (d == sysModules) = false) (hx : o.ExactDict) (hdt : o.data = .dict es ep) :
    Begins (.ref d) { cls := .type "dict_keyiterator", data := .fields #[.ref d, .int 0 0, .int es.size 0, .int ep 0] } fun h => h.get? d = some o where
  iter := fun prog w A E s Q hl h => iter_keys hd hl hx hdt h
  keeps := fun h h' x hk => hk d o x
  free := rfl
set_option maxHeartbeats 1000000 in
theorem meets_enumerate_new1 {v : Value} {o : Obj} {H : Heap → Prop} (B : Begins v o H) :
    Meets (Builtin.«enumerate.__new__» ⟨[.type "enumerate", v], []⟩) (fun _ R s => H s.heap ∧
      R (.ok (.ret (.ref (s.heap.push o).objs.size))) { s with heap := (s.heap.push o).push { cls := .type "enumerate", data := .fields #[.none, .bool false, .ref s.heap.objs.size, rawInt 0, .none, .none] } }) :=
  .of_wp fun prog w A R s h => by
    obtain ⟨hp, g, d, tk, os⟩ := s; obtain ⟨h1, h⟩ := h
    have hsub := sub_enumerate
    have q1 : ∀ {A' : Around} {E : Value → Shared → Prop} {Q : Value → Shared → Prop}, Q (.ref hp.objs.size) ⟨hp.push o, g, d, tk, os⟩ → wpAny (model prog w) A' (pyIter v) Q E ⟨hp, g, d, tk, os⟩ :=
      fun q => B.iter prog w _ _ ⟨hp, g, d, tk, os⟩ _ h1 q
    wp_walk using q1
    refine wpAny_stack_any fun st => wpAny_pure ?_
    split
    · rename_i c _ _ _ _ _
      cases (c == Value.type "enumerate")
      · wp_walk using q1
        exact ⟨_, rfl, h⟩
      · wp_walk using q1
        exact ⟨_, rfl, h⟩
    · wp_walk using q1
      exact ⟨_, rfl, h⟩
section
variable {prog : Program} {w : World} {A : Around} {E : Value → Shared → Prop} {s : Shared}
theorem enum_begins1 {v : Value} {o : Obj} {H : Heap → Prop} {Q : Value → Shared → Prop} (B : Begins v o H) (h1 : H s.heap)
    (h : ∀ h', IsEnum h' (s.heap.objs.size + 1) s.heap.objs.size 0 .none → h'.get? s.heap.objs.size = some o → h'.objs.size = s.heap.objs.size + 2 →
      (∀ b o, s.heap.get? b = some o → h'.get? b = some o) → Q (.ref (s.heap.objs.size + 1)) { s with heap := h' }) :
    wpAny (model prog w) A (call (.type "enumerate") [v]) Q E s := by
  refine callType_new F.called_enumerate (by decide) (F.typeCall_enumerate_1 _) (F.newCall_enumerate_1 _) (fun obj => F.args_object_init_2 obj _) F.entry_enumerate_new
    (meets_enumerate_new1 B) ⟨h1, ?_⟩
  have hz : (s.heap.push o).objs.size = s.heap.objs.size + 1 := Heap.size_push ..
  show _ ∧ _
  rw [hz]
  have he : IsEnum ((s.heap.push o).push { cls := .type "enumerate", data := .fields #[.none, .bool false, .ref s.heap.objs.size, rawInt 0, .none, .none] }) (s.heap.objs.size + 1) s.heap.objs.size 0 .none := by
    have := Heap.get?_push_size (s.heap.push o) (o := { cls := .type "enumerate", data := .fields #[.none, .bool false, .ref s.heap.objs.size, rawInt 0, .none, .none] }) rfl
    rw [hz] at this; exact this
  refine ⟨⟨_, he, rfl⟩, h _ he (Heap.get?_push_of_some _ (Heap.get?_push_size _ B.free)) (by rw [Heap.size_push, hz]) fun b o x => Heap.get?_push_of_some _ (Heap.get?_push_of_some _ x)⟩
end
theorem next_enumK_end {prog : Program} {w : World} {A : Around} {E : Value → Shared → Prop} {s : Shared} {e it d : Addr} {i n ep : Nat} {c : Int} {old : Value} {od : Obj} {es : Array DictEntry} {Q : Option Value → Shared → Prop} (hh : A.in1.handled = none)
    (he : IsEnum s.heap e it c old) (hit : s.heap.IsKeyIter it d i n ep) (hod : s.heap.get? d = some od) (hdd : od.data = .dict es ep) (hsz : es.size = n) (hge : n ≤ i)
    (hQ : ∀ h', Heap.ExtBut it s.heap h' → Q none { s with heap := h' }) : wpAny (model prog w) A (pyNext (.ref e)) Q E s := by
  have hT : s.TypeIs (.ref e) "enumerate" := ⟨_, he, rfl⟩
  unfold pyNext
  refine wpAny_bind (wpAny_attempt (wpAny_callSpecial?_slot (name := Str.ofString "__next__") hT F.slot_enumerate_next
    (wpAny_call_entry F.slot_enumerate_next hT F.entry_enumerate_next ?_ (F.args_enumerate_next_1 _))))
  show wpAny _ _ (field (.ref e) 2 >>= _) _ _ _
  refine wpAny_bind (wpAny_field he rfl (x := .ref it) rfl ?_)
  refine wpAny_bind (nextOf_key_end hh hit hod hdd hsz hge fun h' x he' hx' => ?_)
  obtain ⟨o, ho, hc⟩ := hx'
  refine wpAny_bind (wpAny_isInstance (T := "StopIteration") (b := true) ⟨o, ho, hc⟩ isSubtype_stop ?_)
  exact wpAny_pure (hQ _ he')
/-- the keys of the locked dict at d, each in a new pair -/
def Itke (d : Addr) (o : Obj) (kvs : List (Key × V)) : It :=
  ⟨fun i H => H d = some (.frz o (.dK kvs)) ∧ i < kvs.length, fun i H v H' => ∃ T k x, kvs[i]? = some (k, x) ∧ v = .ref T ∧ H T = none ∧ H' = upd H T (.tup [.int (i : Nat), kV k]), fun i H => H d = some (.frz o (.dK kvs)) ∧ kvs.length ≤ i⟩
theorem turn_enumK {P : Program} {w : World} {K : PySem.W.Frag} {elts : List Expr} {kk : Nat} {tpos : Pos} {d : Addr} {o : Obj} {es : Array DictEntry} {ep : Nat} {kvs : List (Key × V)} (e it : Addr) (hod : o.data = .dict es ep) (hsz : es.size = kvs.length) (hde : d ≠ e) (hdi : d ≠ it) :
    Turn P w K (.Tuple elts kk tpos) (Itke d o kvs) [e, it] e (fun i h => (∃ old, IsEnum h e it ((i : Nat) : Int) old) ∧ h.IsKeyIter it d i es.size ep ∧ e ≠ it) where
  mem := by simp
  obj := fun i h st b hb => by
    obtain ⟨⟨old, he⟩, ⟨o, ho, hc, hd⟩, _⟩ := st
    have e' : b = e ∨ b = it := by simpa using hb
    rcases e' with z | z
    · rw [z]; exact ⟨_, he, fun v q => nomatch q⟩
    · rw [z]; exact ⟨o, ho, fun v q => by rw [hd] at q; cases q⟩
  keep := fun i h h' st k => let ⟨⟨old, he⟩, hi, hne⟩ := st; ⟨⟨old, k e (by simp) _ he⟩, hi.at fun o q => k it (by simp) o q, hne⟩
  item := by
    intro X hP hw hK hc i pins s σ H E I hf st hg
    subst hP hw hK
    obtain ⟨⟨old, he⟩, hit, hne⟩ := st
    obtain ⟨hd, hi⟩ := hg
    obtain ⟨hs, hgd, hx, es', ep', vs, hdt, hsz', kv, hm⟩ := I.frzK hd
    obtain ⟨rfl, rfl⟩ := dict_ep hod hdt
    obtain ⟨⟨k, v⟩, hkv⟩ : ∃ p, kvs[i]? = some p := ⟨kvs[i], List.getElem?_eq_getElem hi⟩
    obtain ⟨u, hu, ru⟩ := kv_get kv hkv
    obtain ⟨od, es2, hod2, hcd, hdd, hk2, hp2, hn2⟩ := id hm
    have e3 : od = o := by rw [hgd] at hod2; exact (Option.some.inj hod2).symm
    subst e3
    obtain ⟨rfl, _⟩ := dict_ep hdt hdd
    have hel : e < s.heap.objs.size := Heap.lt_size he
    have hil : it < s.heap.objs.size := by obtain ⟨_, q, _⟩ := hit; exact Heap.lt_size q
    have hh : X.A.in1.handled = none := I.ok.hd hc
    refine wpAny_pyNext_enum_itemD (draws_keys hh it d hdi od es2 ep' hdt) he ⟨hit, hgd⟩ (by omega) hne (by simp [hne, hde.symm]) fun x h' tk ⟨en, hen, hkx⟩ ho st' hT hsz2 hk => ?_
    refine ⟨_, rfl, wpAny_letOwnedTupleGo_enum (s := { s with heap := h', toks := tk + 1 }) ho fun h'' he' sb => ?_⟩
    have hkey : keyIs k x = true := by rw [← hkx]; exact (hp2.get? (e := en) (by simpa using hen) hu).1
    have hT2 : h''.get? s.heap.objs.size = some { cls := .type "tuple", data := .seq #[.int i tk, x] } := (sb.2 _ (Nat.ne_of_gt hel)).trans hT
    have new : ObjOk X.prog X.w (upd H s.heap.objs.size (.tup [.int (i : Nat), kV k])) h'' s.heap.objs.size (.tup [.int (i : Nat), kV k]) :=
      ⟨by show 2 ≤ sizeLine; decide, [.int i tk, x], .cons ⟨_, rfl⟩ (.cons (relV_key hkey) .nil), ⟨_, hT2, rfl, _, rfl⟩⟩
    have I1 : Inv X pins σ (upd H s.heap.objs.size (.tup [.int (i : Nat), kV k])) { s with heap := h'', toks := tk + 1 } :=
      I.turnedNew (ch := [e, it]) (fun b ob hb q => (sb.2 b (fun z => hb (by simp [z]))).trans (hk b ob (fun z => hb (by simp [z])) (fun z => hb (by simp [z])) q)) hf (Nat.le_refl _) new
    refine ⟨.ref s.heap.objs.size, _, I1, rfl, ⟨_, k, v, hkv, rfl, I.hok.fresh (Nat.le_refl _), rfl⟩, ⟨⟨x, ?_⟩, st'.1.at fun o q => (sb.2 it (Ne.symm hne)).trans q, hne⟩, fun b hb => ?_⟩
    · have e1 : ((i + 1 : Nat) : Int) = (i : Int) + 1 := by omega
      rw [e1]; exact he'
    · have hb' : b < s.heap.objs.size := by
        have e' : b = e ∨ b = it := by simpa using hb
        rcases e' with z | z
        · rw [z]; exact hel
        · rw [z]; exact hil
      rw [upd_ne (Nat.ne_of_lt hb')]
      exact (hf b hb).1
  done := by
    intro X hP hw hK hc i pins s σ H E I hf st hg
    subst hP hw hK
    obtain ⟨⟨old, he⟩, hit, hne⟩ := st
    obtain ⟨hd, hi⟩ := hg
    obtain ⟨hs, hgd, hx, es', ep', vs, hdt, hsz', kv, hm⟩ := I.frzK hd
    obtain ⟨rfl, rfl⟩ := dict_ep hod hdt
    obtain ⟨f0, f1, f2, f3, f4, f5⟩ := hf it (by simp)
    have hh : X.A.in1.handled = none := I.ok.hd hc
    exact next_enumK_end hh he hit hgd hdt rfl (by omega) fun h' eb => ⟨rfl, I.turned (t' := s.toks) (fun b o hb q => eb b o hb q) f0 f1 f3 f4 f5⟩
  self := fun A i s Q E st h => let ⟨⟨_, he⟩, _⟩ := st; wpAny_pyIter_enum he h
def iEnumK (ta : TA) : TI := fun σ H R => ta σ H fun vs H1 => ∃ d o kvs, vs = [.ref d] ∧ H1 d = some (.frz o (.dK kvs)) ∧ R (Itke d o kvs) H1
theorem pi_enumK {X : Cx} {e : Expr} {ta : TA} {p pos tpos : Pos} {elts : List Expr} {kk : Nat} (hg : Gl X "enumerate") (hm : X.mg "enumerate" = none) (ha : PA X [e] ta) (hs : starEach [e] X.env = [(false, eval e X.env)] := by rfl) :
    PI X (.Tuple elts kk tpos) (.Call (.Name "enumerate" p) [e] [] pos) (iEnumK ta) := by
  refine ⟨fun pins s σ H R I h => ?_⟩
  refine Call_ (ld_blt I hg hm boot_enumerate (PyProof.Rows.callWith_type1 (thn (ha.run pos pins s σ H _ I h) fun us s1 ⟨vs, H1, I1, r1, q1⟩ => ?_) hs rfl))
  obtain ⟨d, o, kvs, ex, hd, q⟩ := q1
  subst ex
  cases r1 with
  | cons r rr =>
    cases rr
    cases r
    obtain ⟨hs', hgd, hx, es, ep, vs, hdt, hsz, kv, hm'⟩ := I1.frzK hd
    refine enum_begins1 (begins_keys d o es ep hs' hx hdt) hgd fun h' he hit hsz2 hk => wpAny_pyIter_enum he ?_
    have I2 : Inv X pins σ H1 { s1 with heap := h' } := I1.kept (t' := s1.toks) hk
    have hdl : d < s1.heap.objs.size := Heap.lt_size hgd
    refine ⟨s1.heap.objs.size + 1, [s1.heap.objs.size + 1, s1.heap.objs.size], _, _, H1, rfl, I2, turn_enumK (s1.heap.objs.size + 1) s1.heap.objs.size hdt hsz (Nat.ne_of_lt (Nat.lt_succ_of_lt hdl)) (Nat.ne_of_lt hdl), ⟨⟨.none, he⟩, ⟨_, hit, rfl, rfl⟩, Nat.succ_ne_self _⟩, fun b hb => ?_, q⟩
    have e' : b = s1.heap.objs.size + 1 ∨ b = s1.heap.objs.size := by simpa using hb
    have hle : s1.heap.objs.size ≤ b := by
      rcases e' with z | z
      · rw [z]; exact Nat.le_add_right _ _
      · rw [z]; exact Nat.le_refl _
    exact I1.fpOk hle (I1.hok.fresh hle)
theorem walk_enumK {d : Addr} {o : Obj} {kvs : List (Key × V)} : Walk (Itke d o kvs) kvs.length (fun H => H d = some (.frz o (.dK kvs))) (YPair (fun i => some (.int (i : Nat))) (fun i => kvs[i]?.map fun kv => kV kv.1)) := by
  refine ⟨fun _ _ hi q => ⟨q, hi⟩, fun _ q => ⟨q, Nat.le_refl _⟩, fun i H x H' _ _ y => ?_⟩
  obtain ⟨T, k, v, h1, h2, h3, h4⟩ := y
  exact ⟨T, .int (i : Nat), kV k, h2, h3, h4, rfl, by simp [h1]⟩
end SC

set_option Elab.async false
set_option linter.all false
set_option maxRecDepth 100000
set_option maxHeartbeats 4000000
/-! Schemacheck: list(enumerate(xs)). -/
namespace SC
open PySem L2 PySem.Spec PyProof.Rows
open Sem (wp)
theorem enum_no_len : typeLookup (.type "enumerate") "__len__" = pure none := by rw [typeLookup_type, builtinLookup_eq_fast]; kernel_rfl
theorem enum_no_hint : typeLookup (.type "enumerate") "__length_hint__" = pure none := by rw [typeLookup_type, builtinLookup_eq_fast]; kernel_rfl
/-- an enumerate at its i-th turn, whose pairs are kept -/
structure EnSt (e it l S : Addr) (i : Nat) (h : Heap) : Prop where
  li : h.IsListIter it l i
  ne : e ≠ it
  st : (∃ old, IsEnum h e it ((i : Nat) : Int) old) ∨ ∃ old T f oT, IsEnumHeld h e it ((i : Nat) : Int) old T f ∧ h.get? T = some oT ∧ T ≠ e ∧ T ≠ it ∧ T ≠ S
/-- the pairs so far -/
def EnRows (H1 H : Hp) (S : Addr) (xs : List V) (ts : List Addr) : Prop := Keep [S] H1 H ∧ H S = some (.lst (ts.map V.ref)) ∧ ∀ (j : Nat) (T : Addr), ts[j]? = some T → ∃ x, xs[j]? = some x ∧ H T = some (.tup [.int (j : Nat), x]) ∧ H1 T = none
theorem sql_ne {K : PySem.W.Frag} {H : Hp} {l S : Addr} {o : HO} {xs : List V} (h : SqL K H l xs) (hn : l ≠ S) : SqL K (upd H S o) l xs := by
  rcases h with (h | ⟨u, h⟩) | h
  · exact .inl (.inl (by rw [upd_ne hn]; exact h))
  · exact .inl (.inr ⟨u, by rw [upd_ne hn]; exact h⟩)
  · exact .inr h
theorem sql_new {K : PySem.W.Frag} {H : Hp} {l S : Addr} {o : HO} {xs : List V} (h : SqL K H l xs) (hn : H S = none) : SqL K (upd H S o) l xs := (same_new hn o).seq h
theorem lst_there {X : Cx} {pins : List (Addr × Obj)} {σ : L2.St} {H : Hp} {s : Shared} {S : Addr} {xs : List V} (I : Inv X pins σ H s) (h : H S = some (.lst xs)) : s.heap.get? S = some (lstObj ((I.hok S _ h).2.choose).toArray ((I.hok S _ h).2.choose_spec.choose)) := (I.hok S _ h).2.choose_spec.choose_spec.2
section
variable {X : Cx} {pins : List (Addr × Obj)} {σ : L2.St} {A : Around} {R : Result → Shared → Prop} {res : Value} {e it l S : Addr} {xs : List V} {H1 : Hp}
theorem enum_loop (hh : A.in1.handled = none) (hel : l ≠ e) (hil : l ≠ it) (hSe : S ≠ e) (hSi : S ≠ it) (hlS : l ≠ S) (hsz : xs.length < sizeLine) (hl1 : SqL X.K H1 l xs) (hS1 : H1 S = some (.lst []))
    (hend : ∀ s' H' ts, Inv X pins σ H' s' → EnRows H1 H' S xs ts → ts.length = xs.length → R (.ok (.ret res)) s') :
    ∀ (k i : Nat) (s : Shared) (H : Hp) (ts : List Addr), xs.length - i = k → i ≤ xs.length → Inv X pins σ H s → EnRows H1 H S xs ts → ts.length = i → SqL X.K H l xs → EnSt e it l S i s.heap → (∀ b ∈ [e, it], FpOk X pins H b) →
      codeAny (model X.prog X.w) A (.builtin "list.extend.loop" ⟨[.ref S, .ref e, res], []⟩) R s := by
  intro k
  induction k with
  | zero =>
    intro i s H ts hk hi I hrow hlen hq st hf
    have hin : i = xs.length := by omega
    refine codeAny_builtin F.entry_extend_loop ?_
    rw [Around.under_plainId F.plain_extend_loop _]
    show wpAny _ A.in1 (pyNext (.ref e) >>= _) _ _ s
    obtain ⟨its, rv, p, hz⟩ := I.list hq
    have hx : its.toArray[i]? = none := by
      have := rv.length
      simp
      omega
    have fin : ∀ h', Heap.ExtBut it s.heap h' → R (.ok (.ret res)) { s with heap := h' } := fun h' eb => by
      obtain ⟨f0, f1, f2, f3, f4, f5⟩ := hf it (by simp)
      exact hend _ H ts (I.turned (t' := s.toks) (fun b o hb q => eb b o hb q) f0 f1 f3 f4 f5) hrow (by omega)
    rcases st.st with ⟨old, he⟩ | ⟨old, T, f, oT, he, hT, r1, r2, r3⟩
    · exact wpAny_bind (wpAny_pyNext_enum_end hh he st.li p.isList hx fun h' eb => wpAny_pure (fin h' eb))
    · exact wpAny_bind (wpAny_pyNext_enum_end_held hh he st.li p.isList hx fun h' eb => wpAny_pure (fin h' eb))
  | succ k ih =>
    intro i s H ts hk hi I hrow hlen hq st hf
    have hlt : i < xs.length := by omega
    refine codeAny_builtin F.entry_extend_loop ?_
    rw [Around.under_plainId F.plain_extend_loop _]
    show wpAny _ A.in1 (pyNext (.ref e) >>= _) _ _ s
    obtain ⟨its, rv, p, hz⟩ := I.list hq
    have hx : xs[i]? = some xs[i] := List.getElem?_eq_getElem hlt
    obtain ⟨u, hu, ru⟩ := rv.get hx
    have hu' : its.toArray[i]? = some u := by simpa using hu
    have hil' : it < s.heap.objs.size := by obtain ⟨_, q, _⟩ := st.li; exact Heap.lt_size q
    -- one turn
    have go : ∀ (h' : Heap) (old : Value) (T : Addr) (f : Bool) (oT : Obj), IsEnumHeld h' e it (((i + 1 : Nat)) : Int) old T f → h'.get? T = some oT → T ≠ e → T ≠ it → T ≠ S → h'.IsListIter it l (i + 1) →
        h'.get? s.heap.objs.size = some { cls := .type "tuple", data := .seq #[.int i s.toks, u] } → (∀ b o, b ≠ e → b ≠ it → s.heap.get? b = some o → h'.get? b = some o) →
        wpAny (model X.prog X.w) A.in1 (updateSeq S (·.push (.ref s.heap.objs.size)) >>= fun _ => again (.builtin "list.extend.loop" ⟨[.ref S, .ref e, res], []⟩))
          (fun fin s' => match fin with | .done f => R (.ok f) s' | .again c' => c'.quiet = true ∧ codeAny (model X.prog X.w) A c' R s') (fun e s' => R (.error e) s') { s with heap := h', toks := s.toks + 1 } := by
      intro h' old T f oT ho hT r1 r2 r3 hit' hT2 hkp
      have hel' : e < s.heap.objs.size := by
        rcases st.st with ⟨_, he⟩ | ⟨_, _, _, _, he, _⟩ <;> exact Heap.lt_size he
      have new : ObjOk X.prog X.w (upd H s.heap.objs.size (.tup [.int (i : Nat), xs[i]])) h' s.heap.objs.size (.tup [.int (i : Nat), xs[i]]) :=
        ⟨by show 2 ≤ sizeLine; decide, [.int i s.toks, u], .cons ⟨_, rfl⟩ (.cons ru .nil), ⟨_, hT2, rfl, _, rfl⟩⟩
      have I1 : Inv X pins σ (upd H s.heap.objs.size (.tup [.int (i : Nat), xs[i]])) { s with heap := h', toks := s.toks + 1 } :=
        I.turnedNew (ch := [e, it]) (fun b ob hb q => hkp b ob (fun z => hb (by simp [z])) (fun z => hb (by simp [z])) q) hf (Nat.le_refl _) new
      have hfr : H s.heap.objs.size = none := I.hok.fresh (Nat.le_refl _)
      have hSz : S ≠ s.heap.objs.size := ne_of_none hrow.2.1 hfr
      have hS2 : upd H s.heap.objs.size (.tup [.int (i : Nat), xs[i]]) S = some (.lst (ts.map V.ref)) := by rw [upd_ne hSz]; exact hrow.2.1
      obtain ⟨hl3, acc, c, r3', hS3⟩ := I1.hok S _ hS2
      have hal : acc.length = i := by rw [← r3'.length, List.length_map, hlen]
      have hlH : SqL X.K (upd H s.heap.objs.size (.tup [.int (i : Nat), xs[i]])) l xs := sql_new hq hfr
      have hupd : ∀ b o, b ≠ S → h'.get? b = some o → (h'.update S (Obj.mapSeq (·.push (.ref s.heap.objs.size)))).get? b = some o := fun b o hb q => (Heap.get?_update_other _ _ (Ne.symm hb)).trans q
      have hself := Heap.get?_update_self (Obj.mapSeq (·.push (Value.ref s.heap.objs.size))) hS3 rfl
      have I2 : Inv X pins σ (upd (upd H s.heap.objs.size (.tup [.int (i : Nat), xs[i]])) S (.lst ((ts ++ [s.heap.objs.size]).map V.ref))) { s with heap := h'.update S (Obj.mapSeq (·.push (.ref s.heap.objs.size))), toks := s.toks + 1 } := by
        have := I1.lset (its' := acc ++ [.ref s.heap.objs.size]) hS2 hS3 (f := (·.push (.ref s.heap.objs.size))) (t' := s.toks + 1) (by simp) (ys := ts.map V.ref ++ [V.ref s.heap.objs.size]) (r3'.append (Paired.cons (show RelV (V.ref s.heap.objs.size) (Value.ref s.heap.objs.size) from rfl) .nil)) (by simp; omega)
        rw [List.map_append]
        exact this
      refine wpAny_bind (wpAny_updateSeq hS3 rfl (wpAny_pure ⟨plainId_quiet F.plain_extend_loop _, ih (i + 1) _ _ (ts ++ [s.heap.objs.size]) (by omega) hlt I2 ⟨(hrow.1.new hfr).mut (by simp), upd_same, ?_⟩ (by simp [hlen]) (sql_ne hlH hlS) ⟨hit'.at fun o q => hupd _ _ hSi.symm q, st.ne, .inr ⟨old, T, f, oT, hupd _ _ hSe.symm ho, hupd _ _ r3 hT, r1, r2, r3⟩⟩ fun b hb => ?_⟩) (by simp; omega) (by simp; omega))
      · intro j T' hj
        by_cases hji : j < ts.length
        · rw [List.getElem?_append_left hji] at hj
          obtain ⟨x, h1, h2, h3⟩ := hrow.2.2 j T' hj
          refine ⟨x, h1, ?_, h3⟩
          rw [upd_ne (ne_of h2 hrow.2.1 (by intro z; cases z)), upd_ne (ne_of_none h2 hfr)]
          exact h2
        · have hj2 : j = i := by
            have := (List.getElem?_eq_some_iff.mp hj).1
            simp at this
            omega
          subst hj2
          rw [← hlen, List.getElem?_append_right (Nat.le_refl _)] at hj
          simp at hj
          subst hj
          exact ⟨xs[j], hx, by rw [upd_ne (Ne.symm hSz), upd_same], hrow.1.free hfr (by simp [Ne.symm hSz])⟩
      · have hb2 : b < s.heap.objs.size ∧ b ≠ S := by
          have e' : b = e ∨ b = it := by simpa using hb
          rcases e' with z | z
          · rw [z]; exact ⟨hel', hSe.symm⟩
          · rw [z]; exact ⟨hil', hSi.symm⟩
        obtain ⟨f0, f1⟩ := hf b hb
        refine ⟨?_, f1⟩
        rw [upd_ne hb2.2, upd_ne (Nat.ne_of_lt hb2.1)]
        exact f0
    rcases st.st with ⟨old, he⟩ | ⟨old, T, f, oT, he, hT, r1, r2, r3⟩
    · refine wpAny_bind (wpAny_pyNext_enum_item he st.li p.isList hu' st.ne fun h' ho hit' hT hs2 hkp => ?_)
      have hel' : e < s.heap.objs.size := Heap.lt_size he
      have hSl : S < s.heap.objs.size := Heap.lt_size (lst_there I hrow.2.1)
      exact go h' _ s.heap.objs.size false _ (by rw [show ((i + 1 : Nat) : Int) = (i : Int) + 1 by omega]; exact ho) hT (Nat.ne_of_gt hel') (Nat.ne_of_gt hil') (Nat.ne_of_gt hSl) hit' hT hkp
    · refine wpAny_bind (wpAny_pyNext_enum_item_held he hT r1 r2 st.li p.isList hu' st.ne fun h' ho hit' hT' hs2 hkp => ?_)
      exact go h' old T true oT (by rw [show ((i + 1 : Nat) : Int) = (i : Int) + 1 by omega]; exact ho) (hkp _ _ r1 r2 hT) r1 r2 r3 hit' hT' hkp
end
/-- list(enumerate(xs)) -/
def tListEn (K : PySem.W.Frag) (te : TE) : TE := fun σ H Q => te σ H fun x H1 => ∃ a xs, x = .ref a ∧ SqL K H1 a xs ∧ xs.length < sizeLine ∧
  ∀ (S : Addr) (ts : List Addr) (H2 : Hp), H1 S = none → Same H1 H2 → H2 S = some (.lst (ts.map V.ref)) → ts.length = xs.length → (∀ (j : Nat) (T : Addr), ts[j]? = some T → ∃ x, xs[j]? = some x ∧ H2 T = some (.tup [.int (j : Nat), x]) ∧ H1 T = none) → Q (.ref S) H2
theorem pe_listEn {X : Cx} {e : Expr} {te : TE} {p p2 pos pos2 : Pos} {K : PySem.W.Frag} (hK : X.K = K) (hc : X.calm = true) (he : PE X e te) (hg1 : Gl X "list") (hm1 : X.mg "list" = none) (hg : Gl X "enumerate") (hm : X.mg "enumerate" = none)
    (hs1 : starEach [.Call (.Name "enumerate" p2) [e] [] pos2] X.env = (false, eval (.Call (.Name "enumerate" p2) [e] [] pos2) X.env) :: starEach [] X.env := by rfl) (hs : starEach [e] X.env = (false, eval e X.env) :: starEach [] X.env := by rfl) :
    PE X (.Call (.Name "list" p) [.Call (.Name "enumerate" p2) [e] [] pos2] [] pos) (tListEn K te) := by
  subst hK
  refine ⟨fun pins s σ H Q I h => ?_⟩
  refine wpAny_Call_Name_kw (ld_blt (u := .type "list") I hg1 hm1 (by decide +kernel) ?_)
  refine PyProof.Rows.callWith_type1 ?_ hs1 rfl
  rw [hs1]
  show wpAny _ _ (spliced ((false, eval (.Call (.Name "enumerate" p2) [e] [] pos2) X.env) :: backTo pos (starEach [] X.env))) _ _ s
  refine Calls.spliced_cons ?_
  refine wpAny_Call_Name_kw (ld_blt I hg hm boot_enumerate ?_)
  refine PyProof.Rows.callWith_type1 ?_ hs rfl
  rw [hs]
  show wpAny _ _ (spliced ((false, eval e X.env) :: backTo pos2 (starEach [] X.env))) _ _ s
  refine Calls.spliced_cons (thn (he.run pins s σ H _ I h) fun u s1 ⟨x, H1, I1, r1, q1⟩ => ?_)
  refine Calls.spliced_nil ?_
  obtain ⟨l, xs, rfl, hq, hz, q⟩ := q1
  cases r1
  obtain ⟨its, rv, p', hz'⟩ := I1.list hq
  refine call_enumerate_list p'.isList fun h2 hen hit hsz hk => ?_
  refine Calls.spliced_nil ?_
  have I2 : Inv X pins σ H1 { s1 with heap := h2 } := I1.kept (t' := s1.toks) hk
  have hll : l < s1.heap.objs.size := by obtain ⟨_, q, _⟩ := p'.isList; exact Heap.lt_size q
  have hh : X.A.handled = none := I1.ok.hd hc
  obtain ⟨z, ez⟩ : ∃ z, z = s1.heap.objs.size := ⟨_, rfl⟩
  rw [← ez] at hen hit hsz hll
  have hS0 : h2.objs.size = z + 2 := hsz
  refine callType_codes (Q₁ := fun obj s₁ => obj = .ref h2.objs.size ∧ s₁ = { s1 with heap := h2.push { cls := .type "list", data := .seq #[] } }) F.called_list (F.typeCall_list_1 _) F.entry_list_init
    (code_list_new _ ⟨rfl, rfl⟩) fun obj s₁ h₁ => ?_
  obtain ⟨rfl, rfl⟩ := h₁
  have hS : (h2.push { cls := .type "list", data := .seq #[] }).get? h2.objs.size = some { cls := .type "list", data := .seq #[] } := Heap.get?_push_size _ rfl
  refine ⟨⟨_, hS, rfl⟩, F.args_list_init_2 _ _, ?_⟩
  rw [← ez]
  show wpAny _ X.A.in1.in1 (do let old ← Builtin.List.listItems (.ref h2.objs.size); Builtin.List.listUpdate (.ref h2.objs.size) (fun _ => #[]); letGo old.toList.reverse; Builtin.List.listExtendWith (.ref h2.objs.size) (.ref (z + 1)) .none) _ _ _
  refine wpAny_bind ?_
  unfold Builtin.List.listItems
  refine wpAny_bind (wpAny_seqItems hS rfl (wpAny_pure ?_))
  show wpAny _ X.A.in1.in1 (updateSeq h2.objs.size (fun _ => #[]) >>= fun _ => letGo (#[] : Array Value).toList.reverse >>= fun _ => Builtin.List.listExtendWith (.ref h2.objs.size) (.ref (z + 1)) .none) _ _ _
  refine wpAny_bind (wpAny_updateSeq hS rfl ?_)
  have hS2 := Heap.get?_update_self (Obj.mapSeq (fun _ => (#[] : Array Value))) hS rfl
  refine wpAny_bind (wpAny_letGo ?_)
  unfold Builtin.List.listExtendWith
  have up : ∀ (h : Heap) (f : Obj → Obj), (∀ b o, h2.get? b = some o → h.get? b = some o) → ∀ b o, h2.get? b = some o → (h.update h2.objs.size f).get? b = some o := fun h f q b o e =>
    (Heap.get?_update_other _ _ (Ne.symm (Nat.ne_of_lt (Heap.lt_size e)))).trans (q b o e)
  have k1 : ∀ b o, h2.get? b = some o → (h2.push { cls := .type "list", data := .seq #[] }).get? b = some o := fun b o e => Heap.get?_push_of_some _ e
  have k2 := up _ (Obj.mapSeq (fun _ => (#[] : Array Value))) k1
  have ty : ∀ {h : Heap} {tk : Nat}, (∀ b o, h2.get? b = some o → h.get? b = some o) → ({ s1 with heap := h, toks := tk } : Shared).TypeIs (.ref (z + 1)) "enumerate" := fun {h tk} q => ⟨_, q _ _ hen, rfl⟩
  have hSa : h2.objs.size ≠ z + 1 := by rw [hS0]; exact Nat.succ_ne_self _
  refine wpAny_bind (wpAny_typeOf (ty k2) ?_)
  have h1 : Builtin.List.listSameRef (.ref h2.objs.size) (.ref (z + 1)) = false := by simp [Builtin.List.listSameRef, hSa]
  have h2' : (Value.type "enumerate" == Value.type "list") = false := by decide
  have h3 : (Value.type "enumerate" == Value.type "tuple") = false := by decide
  simp only [h1, h2', h3, Bool.or_false, Bool.false_eq_true, if_false]
  refine wpAny_bind (wpAny_pyIter_enum (k2 _ _ hen) ?_)
  refine wpAny_bind (wpAny_holding ?_)
  unfold Builtin.List.listLengthHint
  refine wpAny_bind (wpAny_specialOf (ty k2) enum_no_len ?_)
  show wpAny _ X.A.in1.in1 (specialOf (Value.ref (z + 1)) (Str.ofString "__length_hint__") >>= _) _ _ _
  refine wpAny_bind (wpAny_specialOf (ty k2) enum_no_hint ?_)
  refine wpAny_pure ?_
  show wpAny _ X.A.in1.in1 (rule "list.extend.makes-room" >>= fun _ => Builtin.List.listTouch (.ref h2.objs.size) >>= fun _ =>
    again (.builtin "list.extend.loop" ⟨[.ref h2.objs.size, .ref (z + 1), .none], []⟩)) _ _ _
  refine wpAny_bind (wpAny_rule ?_)
  refine wpAny_bind ?_
  show wpAny _ X.A.in1.in1 (updateSeq h2.objs.size (·.push .none) >>= fun _ => updateSeq h2.objs.size (·.pop)) _ _ _
  refine wpAny_bind (wpAny_updateSeq hS2 rfl ?_)
  have hS3 := Heap.get?_update_self (Obj.mapSeq (·.push Value.none)) hS2 rfl
  refine wpAny_updateSeq (hz := by seq_fits) hS3 rfl ?_
  have hS4 := Heap.get?_update_self (Obj.mapSeq (·.pop)) hS3 rfl
  have k4 := up _ (Obj.mapSeq (·.pop)) (up _ (Obj.mapSeq (·.push Value.none)) k2)
  refine wpAny_pure ⟨plainId_quiet F.plain_extend_loop _, ?_⟩
  have hn1 : H1 h2.objs.size = none := I2.hok.fresh (Nat.le_refl _)
  have I4 : Inv X pins σ (upd H1 h2.objs.size (.lst [])) { s1 with heap := _ } := I2.laid (t' := s1.toks) k4 (Nat.le_refl _) ⟨Nat.zero_le _, [], _, .nil, hS4⟩
  have hsq : SqL X.K (upd H1 h2.objs.size (.lst [])) l xs := sql_new hq hn1
  have n0 : ∀ b, z ≤ b → b < h2.objs.size → upd H1 h2.objs.size (.lst []) b = none := fun b h1 h2 => by
    rw [upd_ne (Nat.ne_of_lt h2)]
    exact I1.hok.fresh (by rw [← ez]; exact h1)
  have hzS : z < h2.objs.size := by rw [hS0]; exact Nat.lt_add_of_pos_right (by decide)
  have a1 : l ≠ z + 1 := Nat.ne_of_lt (Nat.lt_succ_of_lt hll)
  have a2 : l ≠ z := Nat.ne_of_lt hll
  have a3 : h2.objs.size ≠ z := Nat.ne_of_gt hzS
  have a4 : l ≠ h2.objs.size := Nat.ne_of_lt (Nat.lt_trans hll hzS)
  have hfp : ∀ b ∈ [z + 1, z], FpOk X pins (upd H1 h2.objs.size (.lst [])) b := fun b hb => by
    have e' : b = z + 1 ∨ b = z := by simpa using hb
    rcases e' with rfl | rfl
    · exact I1.fpOk (by rw [← ez]; exact Nat.le_succ _) (n0 _ (Nat.le_succ _) (by rw [hS0]; exact Nat.lt_succ_self _))
    · exact I1.fpOk (by rw [← ez]; exact Nat.le_refl _) (n0 _ (Nat.le_refl _) hzS)
  refine enum_loop (A := X.A.in1) (X := X) (pins := pins) (σ := σ) (H1 := upd H1 h2.objs.size (.lst [])) (l := l) (it := z) (xs := xs) hh a1 a2 hSa a3 a4 hz hsq upd_same (fun s' H' ts I' hrow hlen => ?_)
    xs.length 0 _ _ [] (Nat.sub_zero _) (Nat.zero_le _) I4 ⟨Keep.refl _ _, upd_same, by simp⟩ rfl hsq ⟨hit.at fun o q => k4 _ _ q, Nat.succ_ne_self _, .inl ⟨_, k4 _ _ hen⟩⟩ hfp
  refine ⟨rfl, .ref h2.objs.size, H', I', rfl, ?_⟩
  refine q _ ts H' hn1 (fun b o eb => hrow.1 b o (by rw [upd_ne (ne_of_none eb hn1)]; exact eb) (by simp [ne_of_none eb hn1])) hrow.2.1 hlen fun j T hj => ?_
  obtain ⟨x, b1, b2, b3⟩ := hrow.2.2 j T hj
  refine ⟨x, b1, b2, ?_⟩
  rw [upd_ne fun y => by rw [y, upd_same] at b3; cases b3] at b3
  exact b3
/-- [e for k in d], d not locked -/
theorem lcU_keys {a : Addr} {kvs : List (Key × V)} {te : TE} {i j : Nat} {σ : L2.St} {H : Hp} {Q : VK} (ha : H a = some (.dK kvs)) (hi : σ[i]? = some (some (.ref a)))
    (ys : List V) (hl : ys.length = kvs.length) (hz : kvs.length ≤ 100000)
    (step : ∀ (i : Nat) k v y H' (N : VK), kvs[i]? = some (k, v) → ys[i]? = some y → LSame H H' → Rd H' a (.dK kvs) → (∀ H4, Same H' H4 → N y H4) → te ((wipe σ [j]).set j (some (kV k))) H' N)
    (done : ∀ D H', H D = none → Same H H' → H' D = some (.lst ys) → Q (.ref D) H') : tLockE (tLc (iKeys (tVar i)) (gName j) tYes te [j]) σ H Q := by
  refine ⟨a, .dK kvs, ha, trivial, fun od => ?_⟩
  have e1 : upd H a (.frz od (.dK kvs)) a = some (.frz od (.dK kvs)) := upd_same
  have ls : LSame H (upd H a (.frz od (.dK kvs))) := fun b o e => by
    by_cases hb : b = a
    · subst hb
      rw [ha] at e
      cases e
      exact .inr ⟨kvs, od, rfl, upd_same⟩
    · exact .inl (by rw [upd_ne hb]; exact e)
  rw [tLc_eq]
  refine ⟨_, hi, a, od, rfl, .inl ⟨kvs, e1, lcP_keys e1 ys hl hz ?_ ?_⟩⟩
  · intro i k v y H' N hk hy s N'
    exact step i k v y H' N hk hy (ls.trans (.of s)) (.inr ⟨od, s _ _ e1⟩) N'
  · intro D H' nD s e
    have hDa : D ≠ a := fun z => by rw [z, upd_same] at nD; cases nD
    have nD' : H D = none := by rw [upd_ne hDa] at nD; exact nD
    exact ⟨s _ _ e1, done D _ nD' (same_lock ha s) (by rw [upd_ne hDa]; exact e)⟩
theorem ps_never {X : Cx} {st : Stmt} : PS X st (fun _ _ _ => False) := ⟨fun _ _ _ _ _ _ h => h.elim⟩
theorem pe_gint {X : Cx} {x : Str} {z : Int} {t : Tok} {pos : Pos} (hg : Gl X x) (hm : X.mg x = some (.int z t)) (hd : (x == ("__debug__" : Str)) = false := by decide) : PE X (.Name x pos) (tC (.int z)) := pe_glob (v := .int z) hg hm ⟨t, rfl⟩ hd
/-! ### the first wrong place of a datum -/
/-- no text is longer than this -/
def smallD : Nat → PyData → Prop
  | 0, _ => True
  | n + 1, .list ds => ∀ d ∈ ds, smallD n d
  | n + 1, .tuple ds => ∀ d ∈ ds, smallD n d
  | n + 1, .dict es => es.length ≤ 60 ∧ ∀ e ∈ es, (∀ x, e.1 = .str x → x.length ≤ 1000 ∧ AsciiS x) ∧ smallD n e.2
  | _ + 1, .str x => x.length ≤ 1000
  | _ + 1, _ => True
def isTextD : PyData → Bool
  | .str x => decide (x.length ≤ 60)
  | _ => false
def isIntD : PyData → Bool
  | .int _ => true
  | _ => false
def fstR (f : PyData → Option (List Key)) : List (Key × PyData) → Option (List Key)
  | [] => none
  | (k, d) :: r => match f d with
    | some p => some (k :: p)
    | none => fstR f r
def rowsL (ds : List PyData) : List (Key × PyData) := ds.zipIdx.map fun p => (.inl (p.2 : Int), p.1)
def rowsD (es : List (PyData × PyData)) : List (Key × PyData) := (srt (keysD es)).map fun x => (.inr x, (dget es x).getD .none)
def fwN : Nat → PyData → Option (List Key)
  | 0, _ => none
  | n + 1, .list ds => fstR (fwN n) (rowsL ds)
  | n + 1, .dict es => if es.all (fun e => isTextD e.1) then fstR (fwN n) (rowsD es) else some []
  | _ + 1, .none => none
  | _ + 1, .bool _ => none
  | _ + 1, .str x => if x.length ≤ 60 then none else some []
  | _ + 1, .int i => if -10 ^ 30 ≤ i ∧ i ≤ 10 ^ 30 then none else some []
  | _ + 1, .tuple _ => some []
theorem fstR_at {f : PyData → Option (List Key)} : ∀ {rs : List (Key × PyData)} {i : Nat} {k : Key} {d : PyData} {p : List Key}, (∀ j < i, ∀ q, rs[j]? = some q → f q.2 = none) → rs[i]? = some (k, d) → f d = some p → fstR f rs = some (k :: p)
  | [], _, _, _, _, _, h, _ => by simp at h
  | q :: r, 0, k, d, p, _, h, g => by
    simp at h; subst h
    simp [fstR, g]
  | q :: r, i + 1, k, d, p, h0, h, g => by
    obtain ⟨k0, d0⟩ := q
    have h1 := h0 0 (by omega) (k0, d0) rfl
    simp only at h1
    simp only [fstR, h1]
    exact fstR_at (i := i) (fun j hj q hq => h0 (j + 1) (by omega) q (by simpa using hq)) (by simpa using h) g
theorem fstR_none {f : PyData → Option (List Key)} : ∀ {rs : List (Key × PyData)}, (∀ q ∈ rs, f q.2 = none) → fstR f rs = none
  | [], _ => rfl
  | (k, d) :: r, h => by
    have h1 := h (k, d) (by simp)
    simp only at h1
    simp only [fstR, h1]
    exact fstR_none fun q hq => h q (by simp [hq])
theorem fstR_congr {f g : PyData → Option (List Key)} : ∀ {rs : List (Key × PyData)}, (∀ q ∈ rs, f q.2 = g q.2) → fstR f rs = fstR g rs
  | [], _ => rfl
  | (k, d) :: r, h => by
    have h1 := h (k, d) (by simp)
    simp only at h1
    simp only [fstR, h1]
    cases g d with
    | some p => rfl
    | none => exact fstR_congr fun q hq => h q (by simp [hq])
theorem fstR_inv {f : PyData → Option (List Key)} : ∀ {rs : List (Key × PyData)} {p : List Key}, fstR f rs = some p → ∃ k d q, (k, d) ∈ rs ∧ f d = some q ∧ p = k :: q
  | [], _, h => by cases h
  | (k, d) :: r, p, h => by
    cases hf : f d with
    | some q =>
      simp only [fstR, hf] at h
      cases h
      exact ⟨k, d, q, by simp, hf, rfl⟩
    | none =>
      simp only [fstR, hf] at h
      obtain ⟨k2, d2, q, h1, h2, h3⟩ := fstR_inv h
      exact ⟨k2, d2, q, by simp [h1], h2, h3⟩
theorem fwN_len : ∀ {n : Nat} {d : PyData} {p : List Key}, fwN n d = some p → p.length ≤ n
  | 0, _, _, h => by cases h
  | n + 1, .list ds, p, h => by
    obtain ⟨k, d, q, _, h2, rfl⟩ := fstR_inv h
    have := fwN_len h2
    simp; omega
  | n + 1, .dict es, p, h => by
    simp only [fwN] at h
    split at h
    · obtain ⟨k, d, q, _, h2, rfl⟩ := fstR_inv h
      have := fwN_len h2
      simp; omega
    · cases h; simp
  | n + 1, .none, p, h => by cases h
  | n + 1, .bool _, p, h => by cases h
  | n + 1, .str x, p, h => by simp only [fwN] at h; split at h <;> cases h; simp
  | n + 1, .int x, p, h => by simp only [fwN] at h; split at h <;> cases h; simp
  | n + 1, .tuple _, p, h => by cases h; simp
theorem small_up {G : Hp} : ∀ {n : Nat} {v : V} {d : PyData}, smallD n d → Re G n v d → smallD (n + 1) d
  | 0, _, _, _, r => r.elim
  | n + 1, v, .list ds, h, ⟨a, xs, _, _, _, hp⟩ => fun d hd => by
    obtain ⟨x, _, hx⟩ := pd_memR hp hd
    exact small_up (h d hd) hx
  | n + 1, v, .tuple ds, h, ⟨a, xs, _, _, _, hp⟩ => fun d hd => by
    obtain ⟨x, _, hx⟩ := pd_memR hp hd
    exact small_up (h d hd) hx
  | n + 1, v, .dict es, h, ⟨a, xs, _, _, _, _, hp⟩ => ⟨h.1, fun e he => by
    obtain ⟨x, _, hx⟩ := pd_memR hp he
    exact ⟨(h.2 e he).1, small_up (h.2 e he).2 hx.2⟩⟩
  | n + 1, v, .none, _, _ => trivial
  | n + 1, v, .bool _, _, _ => trivial
  | n + 1, v, .int _, _, _ => trivial
  | n + 1, v, .str _, h, _ => h
/-! paths -/
/-- what it hands back -/
def pathV (r : Option (List Key)) (H : Hp) (v : V) : Prop := match r with
  | none => v = .non
  | some p => ∃ t, v = .ref t ∧ H t = some (.tup (p.map kV))
theorem pathV.imp {r : Option (List Key)} {H H' : Hp} {v : V} (h : pathV r H v) (s : Same H H') : pathV r H' v := by
  cases r with
  | none => exact h
  | some p => obtain ⟨t, h1, h2⟩ := h; exact ⟨t, h1, s _ _ h2⟩
theorem fwN_ok {G : Hp} : ∀ {n : Nat} {v : V} {d : PyData} {p : List Key}, Re G n v d → smallD n d → fwN n d = some p → ∀ k ∈ p, leafD (kD k)
  | 0, _, _, _, r, _, _ => r.elim
  | n + 1, v, .list ds, p, ⟨a, xs, _, _, hb, hp⟩, sm, h => by
    obtain ⟨k, d, q, hm, h2, rfl⟩ := fstR_inv h
    obtain ⟨⟨d', i⟩, hz, he⟩ := List.mem_map.mp hm
    cases he
    have hi := List.mem_zipIdx' hz
    have hd : d' ∈ ds := by rw [hi.2]; exact List.getElem_mem _
    obtain ⟨x, _, hx⟩ := pd_memR hp hd
    intro k hk
    rcases List.mem_cons.mp hk with rfl | hk
    · have := hi.1
      have hl := pd_len hp
      exact ⟨by omega, by omega⟩
    · exact fwN_ok hx (sm d' hd) h2 k hk
  | n + 1, v, .dict es, p, ⟨a, xs, _, _, hb, hn, hp⟩, sm, h => by
    simp only [fwN] at h
    split at h
    · rename_i hall
      obtain ⟨k, d, q, hm, h2, rfl⟩ := fstR_inv h
      obtain ⟨x, hx, he⟩ := List.mem_map.mp hm
      cases he
      obtain ⟨e, he, hxe⟩ := List.mem_map.mp (mem_srt.mp hx)
      have ht := List.all_eq_true.mp hall e he
      obtain ⟨y, hy⟩ : ∃ y, e.1 = .str y := by
        cases h : e.1 with
        | str y => exact ⟨y, rfl⟩
        | _ => rw [h] at ht; cases ht
      rw [hy] at ht hxe
      have hxe : y = x := hxe
      subst hxe
      cases hg : dget es y with
      | none => exact absurd (mem_srt.mp hx) (dget_none hg)
      | some d2 =>
        rw [hg] at h2
        obtain ⟨e2, he2, rfl, _⟩ := dget_mem hg
        obtain ⟨z, _, hz⟩ := pd_memR hp he2
        intro k hk
        rcases List.mem_cons.mp hk with rfl | hk
        · exact ⟨of_decide_eq_true ht, ((sm.2 e he).1 y hy).2⟩
        · exact fwN_ok hz.2 (sm.2 e2 he2).2 h2 k hk
    · cases h; intro k hk; cases hk
  | n + 1, v, .none, p, _, _, h => by cases h
  | n + 1, v, .bool _, p, _, _, h => by cases h
  | n + 1, v, .str x, p, _, _, h => by
    simp only [fwN] at h
    split at h <;> cases h
    intro k hk; cases hk
  | n + 1, v, .int x, p, _, _, h => by
    simp only [fwN] at h
    split at h <;> cases h
    intro k hk; cases hk
  | n + 1, v, .tuple _, p, _, _, h => by cases h; intro k hk; cases hk
theorem fine_path {p : List Key} (h : ∀ k ∈ p, leafD (kD k)) : Fine (.tuple (p.map kD)) := Fine.tuple fun d hd => by
  obtain ⟨k, hk, rfl⟩ := List.mem_map.mp hd
  exact Fine.leaf (h k hk)
theorem cnt_keys : ∀ p : List Key, cntAll (p.map kD) = p.length
  | [] => rfl
  | k :: r => by
    simp only [List.map_cons, cntAll, List.length_cons]
    rw [cnt_keys r]
    cases k <;> simp [kD, cnt] <;> omega
theorem Rp_path {H : Hp} {t : Addr} {p : List Key} (h : H t = some (.tup (p.map kV))) (hl : p.length ≤ 1000) : Rp H 2 (.ref t) (.tuple (p.map kD)) := by
  refine ⟨t, _, rfl, h, by simp; omega, ?_⟩
  clear h
  induction p with
  | nil => exact .nil
  | cons k r ih => exact .cons (by cases k <;> rfl) (ih (by simp at hl; omega))
/-- a path, shown -/
def showP : Option (List Key) → Str
  | none => PyData.shown .none
  | some p => PyData.shown (.tuple (p.map kD))
theorem repr_path {H : Hp} {v : V} {r : Option (List Key)} {Q : VK} (h : pathV r H v) (hk : ∀ p, r = some p → p.length ≤ 1000 ∧ ∀ k ∈ p, leafD (kD k)) (q : Q (.str (showP r)) H) : rRepr [v] H Q := by
  cases r with
  | none =>
    cases h
    exact repr1 (n := 1) (d := .none) rfl (by omega) (Fine.leaf trivial) (by simp [cnt]) q
  | some p =>
    obtain ⟨t, rfl, ht⟩ := h
    obtain ⟨h1, h2⟩ := hk p rfl
    exact repr1 (Rp_path ht h1) (by omega) (fine_path h2) (by simp only [cnt]; rw [cnt_keys]; omega) q
/-! fuel -/
theorem fw_up {G : Hp} : ∀ {n : Nat} {v : V} {d : PyData}, Re G n v d → fwN (n + 1) d = fwN n d
  | 0, _, _, r => r.elim
  | n + 1, v, .list ds, ⟨a, xs, _, _, hb, hp⟩ => by
    simp only [fwN]
    exact fstR_congr fun q hq => by
      obtain ⟨⟨d', i⟩, hz, he⟩ := List.mem_map.mp hq
      cases he
      have hi := List.mem_zipIdx' hz
      have hd : d' ∈ ds := by rw [hi.2]; exact List.getElem_mem _
      obtain ⟨x, _, hx⟩ := pd_memR hp hd
      exact fw_up hx
  | n + 1, v, .dict es, ⟨a, xs, _, _, hb, hn, hp⟩ => by
    simp only [fwN]
    split
    · exact fstR_congr fun q hq => by
        obtain ⟨x, hx, he⟩ := List.mem_map.mp hq
        cases he
        cases hg : dget es x with
        | none => exact absurd (mem_srt.mp hx) (dget_none hg)
        | some d2 =>
          obtain ⟨e2, he2, rfl, _⟩ := dget_mem hg
          obtain ⟨z, _, hz⟩ := pd_memR hp he2
          exact fw_up hz.2
    · rfl
  | n + 1, v, .none, _ => rfl
  | n + 1, v, .bool _, _ => rfl
  | n + 1, v, .str x, _ => rfl
  | n + 1, v, .int x, _ => rfl
  | n + 1, v, .tuple _, _ => rfl
/-- xs[::2], xs of five -/
theorem pick2 (u0 u1 u2 u3 u4 : Value) : slicePick [u0, u1, u2, u3, u4].toArray none none (some 2) = [u0, u2, u4].toArray := by
  have e : sliceRange 0 5 2 = [0, 2, 4] := by decide +kernel
  show ((sliceRange 0 5 2).filterMap ([u0, u1, u2, u3, u4].toArray[·]?)).toArray = _
  rw [e]
  rfl
def tTwo5 (K : PySem.W.Frag) (te : TE) : TE := fun σ H Q => te σ H fun x H1 => ∃ a y0 y1 y2 y3 y4, x = .ref a ∧ SqL K H1 a [y0, y1, y2, y3, y4] ∧ ∀ p, H1 p = none → Q (.ref p) (upd H1 p (.lst [y0, y2, y4]))
theorem pe_two5 {X : Cx} {K : PySem.W.Frag} {e : Expr} {te : TE} {k : Nat} {p1 p3 pos : Pos} (hK : X.K = K) (he : PE X e te) : PE X (.Subscript e (.Slice none none (some (.Constant (.int 2) k p1)) p3) pos) (tTwo5 K te) := by
  subst hK
  refine ⟨fun pins s σ H Q I h => ?_⟩
  refine Subscript_ (thn (he.run pins s σ H _ I h) fun v s1 ⟨x, H1, I1, r1, q1⟩ => ?_)
  obtain ⟨a, y0, y1, y2, y3, y4, ex, hx, q⟩ := q1
  subst ex
  cases r1
  have hst : PO X (some (.Constant (.int 2) k p1)) (tPart (tC (.int 2))) := po_some pe_int
  refine wpAny_Slice (thn (po_none.run pins s1 σ H1 (fun o H2 => o = none ∧ H2 = H1) I1 ⟨rfl, rfl⟩) fun vl s2 ⟨l, H2, I2, pl, el, e2⟩ => ?_)
  subst el e2
  refine thn (po_none.run pins s2 σ H2 (fun o H3 => o = none ∧ H3 = H2) I2 ⟨rfl, rfl⟩) fun vu s3 ⟨u, H3, I3, pu, eu, e3⟩ => ?_
  subst eu e3
  refine thn (hst.run pins s3 σ H3 (fun o H4 => o = some 2 ∧ H4 = H3) I3 ⟨2, rfl, rfl, rfl⟩) fun vs s4 ⟨o, H4, I4, ps, eo, e4⟩ => ?_
  subst eo e4
  have I5 : Inv X pins σ H4 { s4 with heap := s4.heap.push { cls := .type "slice", data := .fields #[vl, vu, vs] } } := I4.kept (t' := s4.toks) fun b ob q => Heap.get?_push_of_some _ q
  obtain ⟨its, r, ht, hz⟩ := I5.list hx
  have hlen := r.length
  show wpAny (model X.prog X.w) X.A (subscriptTail e (.Slice none none (some (.Constant (.int 2) k p1)) p3) (.ref a) (.ref s4.heap.objs.size)) (EP X pins σ Q) X.xe { s4 with heap := s4.heap.push { cls := .type "slice", data := .fields #[vl, vu, vs] } }
  refine tail_any (ops := [.ref a, .ref s4.heap.objs.size]) ht.isList.typeIs (PySem.slot_list_getitem.lookup) ?_ (by with_unfolding_all rfl)
  refine wpAny_getItem_list_slice ht.isList (Heap.IsSliceOf.new _ vl vu vs) pl pu ps (by decide) ?_ (by rw [List.size_toArray]; omega)
  cases r with
  | cons a0 r => cases r with
    | cons a1 r => cases r with
      | cons a2 r => cases r with
        | cons a3 r => cases r with
          | cons a4 r =>
            cases r
            rw [pick2]
            refine ⟨.ref _, _, I5.laid (t' := s4.toks) (o := .lst [y0, y2, y4]) (fun b ob q => Heap.get?_push_of_some _ q) (Nat.le_refl _) ?_, rfl, q _ (I5.hok.fresh (Nat.le_refl _))⟩
            exact ⟨sz5 (by simp), _, 0, .cons a0 (.cons a2 (.cons a4 .nil)), Heap.get?_push_size _ rfl⟩
theorem op_catAK {X : Cx} {K : PySem.W.Frag} (h : X.K = K) : OpR X (binaryOp .Add) (rCatA K) := by subst h; exact op_catA
end SC

set_option Elab.async false
set_option linter.all false
set_option maxRecDepth 100000
set_option maxHeartbeats 4000000
/-! data of its own: no part of it is shared -/
namespace SC
open PySem L2
/-- the part of a heap with the colour i -/
def sel (G : Hp) (c : Addr → Nat) (i : Nat) : Hp := fun b => if c b = i then G b else none
theorem sel_sub {G : Hp} {c : Addr → Nat} {i : Nat} : Same (sel G c i) G := fun b o e => by
  unfold sel at e
  split at e
  · exact e
  · cases e
theorem sel_at {G : Hp} {c : Addr → Nat} {i : Nat} {b : Addr} {o : HO} (e : sel G c i b = some o) : c b = i ∧ G b = some o := by
  unfold sel at e
  split at e
  · exact ⟨‹_›, e⟩
  · cases e
theorem sel_of {G : Hp} {c : Addr → Nat} {i : Nat} {b : Addr} {o : HO} (h : c b = i) (e : G b = some o) : sel G c i b = some o := by
  unfold sel
  rw [if_pos h]; exact e
theorem sel_mono {G G' : Hp} {c : Addr → Nat} {i : Nat} (s : Same G G') : Same (sel G c i) (sel G' c i) := fun b o e => by
  obtain ⟨h, e⟩ := sel_at e
  exact sel_of h (s _ _ e)
/-- rows whose parts have colours of their own -/
def OwP {A B : Type} (F : Hp → A → B → Prop) (G : Hp) (c : Addr → Nat) (xs : List A) (ds : List B) : Prop := xs.length = ds.length ∧ ∀ i x d, xs[i]? = some x → ds[i]? = some d → F (sel G c i) x d
theorem OwP.imp {A B : Type} {F F' : Hp → A → B → Prop} {G G' : Hp} {c c' : Addr → Nat} {xs : List A} {ds : List B} (h : OwP F G c xs ds) (s : ∀ i < xs.length, Same (sel G c i) (sel G' c' i)) (f : ∀ g g' x d, x ∈ xs → d ∈ ds → Same g g' → F g x d → F' g' x d) : OwP F' G' c' xs ds :=
  ⟨h.1, fun i x d hx hd => f _ _ x d (List.mem_of_getElem? hx) (List.mem_of_getElem? hd) (s i (List.getElem?_eq_some_iff.mp hx).1) (h.2 i x d hx hd)⟩
theorem pd_of {A B : Type} {F : A → B → Prop} : ∀ {xs : List A} {ds : List B}, xs.length = ds.length → (∀ (i : Nat) (x : A) (d : B), xs[i]? = some x → ds[i]? = some d → F x d) → Paired F xs ds
  | [], [], _, _ => .nil
  | [], _ :: _, h, _ => by simp at h
  | _ :: _, [], h, _ => by simp at h
  | x :: xs, d :: ds, h, f => .cons (f 0 x d rfl rfl) (pd_of (by simpa using h) fun i y e hy he => f (i + 1) y e (by simpa using hy) (by simpa using he))
/-- data in G, each list and dict in one place only -/
def Ow : Nat → Hp → V → PyData → Prop
  | 0, _, _, _ => False
  | _ + 1, _, v, .none => v = .non
  | _ + 1, _, v, .bool b => v = .bl b
  | _ + 1, _, v, .int i => v = .int i
  | _ + 1, _, v, .str x => v = .str x
  | n + 1, G, v, .list ds => ∃ a xs c, v = .ref a ∧ G a = some (.lst xs) ∧ xs.length ≤ 10000 ∧ xs.length ≤ c a ∧ OwP (Ow n) G c xs ds
  | n + 1, G, v, .dict es => ∃ a kvs c, v = .ref a ∧ G a = some (.dK kvs) ∧ kvs.length ≤ 10000 ∧ (kvs.map (·.1)).Nodup ∧ kvs.length ≤ c a ∧ OwP (fun g => KvR (Ow n g)) G c kvs es
  | _ + 1, _, _, .tuple _ => False
theorem Ow.imp : ∀ {n : Nat} {G G' : Hp} {v : V} {d : PyData}, Same G G' → Ow n G v d → Ow n G' v d
  | 0, _, _, _, _, _, h => h
  | n + 1, _, _, v, .none, _, h => h
  | n + 1, _, _, v, .bool _, _, h => h
  | n + 1, _, _, v, .int _, _, h => h
  | n + 1, _, _, v, .str _, _, h => h
  | n + 1, _, _, v, .tuple _, _, h => h
  | n + 1, _, _, v, .list ds, s, ⟨a, xs, c, h1, h2, hb, hc, h3⟩ => ⟨a, xs, c, h1, s _ _ h2, hb, hc, h3.imp (fun _ _ => sel_mono s) fun _ _ _ _ _ _ s' q => Ow.imp s' q⟩
  | n + 1, _, _, v, .dict es, s, ⟨a, xs, c, h1, h2, hb, hn, hc, h3⟩ => ⟨a, xs, c, h1, s _ _ h2, hb, hn, hc, h3.imp (fun _ _ => sel_mono s) fun _ _ _ _ _ _ s' q => ⟨q.1, Ow.imp s' q.2⟩⟩
theorem Ow.re : ∀ {n : Nat} {G : Hp} {v : V} {d : PyData}, Ow n G v d → Re G n v d
  | 0, _, _, _, h => h
  | n + 1, _, v, .none, h => h
  | n + 1, _, v, .bool _, h => h
  | n + 1, _, v, .int _, h => h
  | n + 1, _, v, .str _, h => h
  | n + 1, _, v, .tuple _, h => h.elim
  | n + 1, G, v, .list ds, ⟨a, xs, c, h1, h2, hb, hc, h3⟩ => ⟨a, xs, h1, h2, hb, pd_of h3.1 fun i x d hx hd => (h3.2 i x d hx hd).re.imp sel_sub⟩
  | n + 1, G, v, .dict es, ⟨a, xs, c, h1, h2, hb, hn, hc, h3⟩ => ⟨a, xs, h1, h2, hb, hn, pd_of h3.1 fun i x d hx hd => ⟨(h3.2 i x d hx hd).1, (h3.2 i x d hx hd).2.re.imp sel_sub⟩⟩
theorem Ow.up1 : ∀ {n : Nat} {G : Hp} {v : V} {d : PyData}, Ow n G v d → Ow (n + 1) G v d
  | 0, _, _, _, h => h.elim
  | n + 1, _, v, .none, h => h
  | n + 1, _, v, .bool _, h => h
  | n + 1, _, v, .int _, h => h
  | n + 1, _, v, .str _, h => h
  | n + 1, _, v, .tuple _, h => h.elim
  | n + 1, G, v, .list ds, ⟨a, xs, c, h1, h2, hb, hc, h3⟩ => ⟨a, xs, c, h1, h2, hb, hc, h3.1, fun i x d hx hd => (h3.2 i x d hx hd).up1⟩
  | n + 1, G, v, .dict es, ⟨a, xs, c, h1, h2, hb, hn, hc, h3⟩ => ⟨a, xs, c, h1, h2, hb, hn, hc, h3.1, fun i x d hx hd => ⟨(h3.2 i x d hx hd).1, (h3.2 i x d hx hd).2.up1⟩⟩
theorem Ow.up {n m : Nat} {G : Hp} {v : V} {d : PyData} (h : Ow n G v d) (hl : n ≤ m) : Ow m G v d := by
  induction hl with
  | refl => exact h
  | step _ ih => exact ih.up1
theorem Ow.leaf {G : Hp} {n : Nat} {v : V} {d : PyData} (hd : leafD d) (h : Rp G n v d) : Ow n G v d := by
  cases n with
  | zero => exact h.elim
  | succ n => cases d <;> first | exact h | exact hd.elim
theorem OwP.nil {A B : Type} {F : Hp → A → B → Prop} {G : Hp} {c : Addr → Nat} : OwP F G c ([] : List A) ([] : List B) := ⟨rfl, fun i x d h => by simp at h⟩
/-- one row more, made anew -/
theorem OwP.snoc {A B : Type} {F : Hp → A → B → Prop} (hF : ∀ g g' x d, Same g g' → F g x d → F g' x d) {S : List Addr} {Hx H1 H4 : Hp} {D : Addr} {o : HO} {c : Addr → Nat} {xs : List A} {ds : List B} {x : A} {d : B}
    (k1 : Keep S Hx H1) (k2 : Keep S H1 H4) (hx : ∀ a ∈ S, Hx a ≠ none) (h1 : ∀ a ∈ S, H1 a ≠ none) (hD : D ∈ S) (h : OwP F (news Hx H1) c xs ds) (hv : F (news H1 H4) x d) : ∃ c', OwP F (news Hx (upd H4 D o)) c' (xs ++ [x]) (ds ++ [d]) := by
  have g := grow (o := o) k1 k2 hx h1 hD
  refine ⟨fun b => match H1 b with | none => xs.length | some _ => c b, by simp [h.1], fun i y e hy he => ?_⟩
  by_cases hi : i < xs.length
  · rw [List.getElem?_append_left hi] at hy
    rw [List.getElem?_append_left (by rw [← h.1]; exact hi)] at he
    refine hF _ _ y e (fun b u q => ?_) (h.2 i y e hy he)
    obtain ⟨hc, q⟩ := sel_at q
    have e1 := news_sub _ _ _ _ q
    exact sel_of (by simp only [e1]; exact hc) (g.1 _ _ q)
  · have hl : i = xs.length := by
      have := (List.getElem?_eq_some_iff.mp hy).1
      simp at this
      omega
    subst hl
    rw [List.getElem?_append_right (Nat.le_refl _), Nat.sub_self] at hy
    rw [h.1, List.getElem?_append_right (Nat.le_refl _), Nat.sub_self] at he
    cases hy
    cases he
    refine hF _ _ x d (fun b u q => ?_) hv
    have e1 : H1 b = none := by
      cases e : H1 b with
      | none => rfl
      | some z => rw [news_no e] at q; cases q
    exact sel_of (by simp only [e1]) (g.2 _ _ q)
theorem OwP.more {A B : Type} {F : Hp → A → B → Prop} (hF : ∀ g g' x d, Same g g' → F g x d → F g' x d) {Hx H H' : Hp} {D : Addr} {c : Addr → Nat} {xs : List A} {ds : List B} (hDx : Hx D ≠ none) (hn : Same (news Hx H') (news H H')) (h : OwP F (news Hx H') c xs ds) :
    ∃ c', xs.length ≤ c' D ∧ OwP F (news H H') c' xs ds := by
  refine ⟨fun b => if b = D then xs.length else c b, by simp, h.1, fun i x d hx hd => hF _ _ x d (fun b u q => ?_) (h.2 i x d hx hd)⟩
  obtain ⟨hc, q⟩ := sel_at q
  have hb : b ≠ D := fun z => by
    rw [z] at q
    cases e : Hx D with
    | none => exact hDx e
    | some w => rw [news_no e] at q; cases q
  exact sel_of (by rw [if_neg hb]; exact hc) (hn _ _ q)
theorem Ow.mkL {n : Nat} {Hx H H' : Hp} {D : Addr} {c : Addr → Nat} {vs : List V} {ds : List PyData} (hDH : H D = none) (hDx : Hx D ≠ none) (hn : Same (news Hx H') (news H H')) (e : H' D = some (.lst vs)) (hl : vs.length ≤ 10000) (h : OwP (Ow n) (news Hx H') c vs ds) :
    Ow (n + 1) (news H H') (.ref D) (.list ds) := by
  obtain ⟨c', h1, h2⟩ := OwP.more (F := Ow n) (fun _ _ _ _ s q => Ow.imp s q) hDx hn h
  exact ⟨D, vs, c', rfl, by rw [news_at hDH]; exact e, hl, h1, h2⟩
theorem Ow.mkD {n : Nat} {Hx H H' : Hp} {D : Addr} {c : Addr → Nat} {kvs : List (Key × V)} {es : List (PyData × PyData)} (hDH : H D = none) (hDx : Hx D ≠ none) (hn : Same (news Hx H') (news H H')) (e : H' D = some (.dK kvs)) (hl : kvs.length ≤ 10000) (hk : (kvs.map (·.1)).Nodup) (h : OwP (fun g => KvR (Ow n g)) (news Hx H') c kvs es) :
    Ow (n + 1) (news H H') (.ref D) (.dict es) := by
  obtain ⟨c', h1, h2⟩ := OwP.more (F := fun g => KvR (Ow n g)) (fun _ _ _ _ s q => ⟨q.1, Ow.imp s q.2⟩) hDx hn h
  exact ⟨D, kvs, c', rfl, by rw [news_at hDH]; exact e, hl, hk, h1, h2⟩
theorem news_upd {Hx H' : Hp} {p : Addr} {o : HO} (h : Hx p ≠ none) : news Hx (upd H' p o) = news Hx H' := by
  funext b
  by_cases hb : b = p
  · subst hb
    cases e : Hx b with
    | none => exact absurd e h
    | some z => rw [news_no e, news_no e]
  · cases e : Hx b with
    | none => rw [news_at e, news_at e, upd_ne hb]
    | some z => rw [news_no e, news_no e]
/-- a part of an unlocked datum stands beside its whole -/
theorem Re.part {H : Hp} {a : Addr} {m n : Nat} {v : V} {d D : PyData} (hD : Re H m (.ref a) D) (hs : sizeOf d < sizeOf D) (h : Re H n v d) : Re (SC.del H a) n v d := Re.of (del_sub H a) h (Rp.del hD.rp hs h.rp)
/-- either of two readings -/
theorem pe_either {X : Cx} {e : Expr} {t u : TE} (h : PE X e t) (g : PE X e u) : PE X e (fun σ H Q => t σ H Q ∨ u σ H Q) :=
  ⟨fun pins s σ H Q I z => z.elim (h.run pins s σ H Q I) (g.run pins s σ H Q I)⟩
/-- isinstance(xs, T), xs a list -/
theorem isiL {K : PySem.W.Frag} {H : Hp} {a : Addr} {xs : List V} (T : Ty) {Q : VK} (h : H a = some (.lst xs)) (q : Q (.bl (isT T (.list []))) H) : rIsi K [.ref a, .ty T.nm] H Q :=
  ⟨.ref a, .ty T.nm, _, _, isT T (.list []), rfl, .ty T.nm, .base (.lst h), kit_ty (kit_isT T (.list [])), q⟩
theorem sameN_refl : ∀ {n : Nat} {d : PyData}, docD n d → ndD n d → sameN n d d = true
  | 0, _, h, _ => h.elim
  | n + 1, .list ds, h, g => by
    simp only [sameN, List.zipWith_self, Bool.and_eq_true, decide_true, List.all_eq_true, List.mem_map, true_and]
    rintro _ ⟨d, hd, rfl⟩
    exact sameN_refl (h.2 d hd) (g d hd)
  | n + 1, .dict es, h, g => by
    simp only [sameN, Bool.and_eq_true, decide_true, List.all_eq_true, List.mem_map, true_and]
    rintro _ ⟨e, he, rfl⟩
    rw [dget_nd g.1 he]
    exact sameN_refl (h.2 e he).2 (g.2 e he)
  | n + 1, .none, h, _ => sameL_refl h
  | n + 1, .bool _, h, _ => sameL_refl h
  | n + 1, .int i, h, _ => sameL_refl h
  | n + 1, .str x, h, _ => sameL_refl h
  | n + 1, .tuple _, h, _ => h.elim
theorem news_inv {H H' : Hp} {b : Addr} {o : HO} (e : news H H' b = some o) : H b = none ∧ H' b = some o := by
  cases h : H b with
  | none => exact ⟨rfl, news_sub _ _ _ _ e⟩
  | some z => rw [news_no h] at e; cases e
theorem same_none {H H' : Hp} {b : Addr} (s : Same H H') (h : H' b = none) : H b = none := by
  cases e : H b with
  | none => rfl
  | some z => rw [s _ _ e] at h; cases h
/-- one step of a path -/
def stepN : PyData → Key → Option PyData
  | .list ds, .inl i => if 0 ≤ i then ds[i.toNat]? else none
  | .dict es, .inr x => dget es x
  | _, _ => none
def walkD : PyData → List Key → Option PyData
  | d, [] => some d
  | d, k :: r => (stepN d k).bind fun e => walkD e r
theorem walk_app : ∀ (p r : List Key) (d : PyData), walkD d (p ++ r) = (walkD d p).bind fun e => walkD e r
  | [], r, d => rfl
  | k :: p, r, d => by
    simp only [List.cons_append, walkD]
    cases stepN d k with
    | none => rfl
    | some e => exact walk_app p r e
section
variable {J : It} {n : Nat} {G : Hp → Prop} {Y : Nat → Hp → V → Hp → Prop}
/-- {k: v for ..} -/
theorem dc_itR (w : Walk J n G Y) {g : TG} {tt : TT} {tk tv : TE} {vs : List Nat} {σ : L2.St} {H1 : Hp} {Q : VK} (Pv : Addr → Nat → Hp → Prop) (h0 : ∀ D, H1 D = none → Pv D 0 (upd H1 D (.dK []))) (hG : ∀ D i H, H1 D = none → i ≤ n → Pv D i H → G H)
    (hs : ∀ D i x H H', H1 D = none → i < n → Pv D i H → Y i H x H' → g x (wipe σ vs) H' fun σ2 H2 => wipe σ2 vs = wipe σ vs ∧ tt σ2 H2 fun b H3 =>
      if b = true then tk σ2 H3 fun y H4 => tv σ2 H4 fun z H5 => ∃ kvs k, y = kV k ∧ H5 D = some (.dK kvs) ∧ kvs.length < sizeLine ∧ Pv D (i + 1) (upd H5 D (.dK (putK kvs k z))) else Pv D (i + 1) H3)
    (hd : ∀ D H, H1 D = none → Pv D n H → Q (.ref D) H) : DcR J g tt tk tv vs σ H1 Q := fun D hD => by
  refine ⟨fun i m H => m = n - i ∧ i ≤ n ∧ Pv D i H, ⟨n, by simp, Nat.zero_le _, h0 D hD⟩, ?_⟩
  rintro i m H ⟨rfl, hi, p⟩
  have q := hG D i H hD hi p
  by_cases hlt : i < n
  · refine .inr ⟨w.goes i H hlt q, Pv D (i + 1), fun H' p' => ⟨n - (i + 1), by omega, rfl, hlt, p'⟩, fun x H' y => hs D i x H H' hD hlt p (w.yields i H x H' hlt q y)⟩
  · have e : i = n := by omega
    subst e
    exact .inl ⟨w.stops H q, hd D H hD p⟩
end
end SC

set_option Elab.async false
set_option linter.all false
set_option maxRecDepth 100000
set_option maxHeartbeats 4000000
/-! Sleeping generators: code that does not know of them leaves them as they are. A sleeping generator is replaced by one that can't be woken; what runs there runs here. -/
namespace SY
open PySem
open Sem (wp)
def stuck : GenState → GenState
  | .suspended _ l c p fs cl => .suspended (fun _ => .unsupported "asleep") l c p fs cl
  | x => x
def susp : GenState → Bool
  | .suspended .. => true
  | _ => false
theorem stuck_seen (x : GenState) : (stuck x).seen = x.seen := by cases x <;> rfl
theorem stuck_bare (x : GenState) : (stuck x).bare = x.bare := by cases x <;> rfl
theorem stuck_of_not {x : GenState} (h : susp x = false) : stuck x = x := by cases x <;> first | rfl | cases h
structure Tw (N : Nat) (O : Nat → Option GenState) (z s : Shared) : Prop where
  heap : z.heap = s.heap
  drawn : z.drawn = s.drawn
  toks : z.toks = s.toks
  os : z.os = s.os
  size : z.gens.size = s.gens.size
  blk : ∀ i x, O i = some x → susp x = true ∧ s.gens[i]? = some x ∧ z.gens[i]? = some (stuck x)
  oth : ∀ i, O i = none → z.gens[i]? = s.gens[i]?
  ng : ∀ i k l c p fs cl, O i = none → z.gens[i]? = some (.suspended k l c p fs cl) → splitAtGen fs = none
  lo : N ≤ s.gens.size
def NgE : End → Prop
  | .ret _ => True
  | .susp _ _ _ _ _ _ fs => splitAtGen fs = none
theorem split_app : ∀ {xs ys : List Frame}, splitAtGen xs = none → splitAtGen ys = none → splitAtGen (xs ++ ys) = none
  | [], _, _, h => h
  | .ret .. :: xs, ys, h, g => by
    simp only [splitAtGen, Option.map_eq_none_iff] at h
    simp only [List.cons_append, splitAtGen, Option.map_eq_none_iff]
    exact split_app h g
  | .gen .. :: _, _, h, _ => by simp [splitAtGen] at h
theorem split_ret {k h g l c p kp} {xs : List Frame} (e : splitAtGen (.ret k h g l c p kp :: xs) = none) : splitAtGen xs = none := by
  simpa only [splitAtGen, Option.map_eq_none_iff] using e
theorem split_ret' {k h g l c p kp} {xs : List Frame} (e : splitAtGen xs = none) : splitAtGen (.ret k h g l c p kp :: xs) = none := by
  simpa only [splitAtGen, Option.map_eq_none_iff] using e
section
variable {M : Model} {N : Nat} {O : Nat → Option GenState}
theorem no_run0 {Γ : Ctx} {p : Pos} {w : String} {s s' : Shared} {e : End} : ¬ Runs M Γ p (.unsupported w) [] s e s' := by
  intro h
  cases h
theorem no_run {Γ : Ctx} {p : Pos} {w : String} {fs : List Frame} {s s' : Shared} {e : End} (h : Runs M Γ p (.unsupported w) fs s e s') : False := by
  cases h with
  | segRet h _ => exact no_run0 h
  | segGen h _ => exact no_run0 h
  | segSuspOut _ h => exact no_run0 h
  | segSuspGen _ h _ _ => exact no_run0 h
theorem Tw.heaps {z s : Shared} (h : Tw N O z s) (x : Heap) : Tw N O { z with heap := x } { s with heap := x } := ⟨rfl, h.drawn, h.toks, h.os, h.size, h.blk, h.oth, h.ng, h.lo⟩
theorem Tw.set {z s : Shared} {g : Nat} {x : GenState} (h : Tw N O z s) (ho : O g = none) (hx : ∀ k l c p fs cl, x = .suspended k l c p fs cl → splitAtGen fs = none) : Tw N O (z.setGen g x) (s.setGen g x) := by
  have at_ : ∀ (y : Shared) (i : Nat), (y.setGen g x).gens[i]? = if i = g then (if g < y.gens.size then some x else none) else y.gens[i]? := fun y i => by
    show (y.gens.setIfInBounds g x)[i]? = _
    rw [Array.getElem?_setIfInBounds]
    by_cases e : g = i
    · subst e; simp
    · rw [if_neg e, if_neg (Ne.symm e)]
  refine ⟨h.heap, h.drawn, h.toks, h.os, ?_, fun i y e => ?_, fun i e => ?_, fun i k l c p fs cl e q => ?_, by show N ≤ (s.gens.setIfInBounds g x).size; simp [h.lo]⟩
  · show (z.gens.setIfInBounds g x).size = (s.gens.setIfInBounds g x).size
    simp [h.size]
  · have hi : i ≠ g := fun q => by rw [q, ho] at e; cases e
    obtain ⟨a, b, c⟩ := h.blk i y e
    exact ⟨a, by rw [at_, if_neg hi]; exact b, by rw [at_, if_neg hi]; exact c⟩
  · rw [at_, at_, h.size]
    split
    · rfl
    · exact h.oth i e
  · rw [at_] at q
    split at q
    · split at q
      · exact hx k l c p fs cl (Option.some.inj q)
      · cases q
    · exact h.ng i k l c p fs cl e q
theorem Tw.running {z s : Shared} {g : Nat} (h : Tw N O z s) (ho : O g = none) : Tw N O (z.setGen g .running) (s.setGen g .running) := h.set ho fun _ _ _ _ _ _ e => by cases e
theorem Tw.finished {z s : Shared} {g : Nat} (h : Tw N O z s) (ho : O g = none) : Tw N O (z.setGen g .finished) (s.setGen g .finished) := h.set ho fun _ _ _ _ _ _ e => by cases e
theorem Tw.ended {z s : Shared} {g : Nat} {e : End} (h : Tw N O z s) (ho : O g = none) (hn : NgE e) : Tw N O (z.setGen g e.genState) (s.setGen g e.genState) := h.set ho fun k l c p fs cl q => by
  cases e with
  | ret r => cases q
  | susp v g0 l0 k0 c0 p0 fs0 => cases q; exact hn
theorem Tw.push {z s : Shared} {c : Code} (h : Tw N O z s) : Tw N O { z with gens := z.gens.push (.fresh c) } { s with gens := s.gens.push (.fresh c) } := by
  have at_ : ∀ (y : Array GenState) (i : Nat) (v : GenState), y[i]? = some v → (y.push (.fresh c))[i]? = some v := fun y i v e => by
    have := (Array.getElem?_eq_some_iff.mp e).1
    rw [Array.getElem?_push_lt this]
    rw [Array.getElem?_eq_getElem this] at e
    exact e
  refine ⟨h.heap, h.drawn, h.toks, h.os, ?_, fun i y e => ?_, fun i e => ?_, fun i k l c' p fs cl e q => ?_, by show N ≤ (s.gens.push _).size; rw [Array.size_push]; exact Nat.le_succ_of_le h.lo⟩
  · simp [h.size]
  · obtain ⟨a, b, d⟩ := h.blk i y e
    exact ⟨a, at_ _ _ _ b, at_ _ _ _ d⟩
  · show (z.gens.push (.fresh c))[i]? = (s.gens.push (.fresh c))[i]?
    rw [Array.getElem?_push, Array.getElem?_push, h.size, h.oth i e]
  · have q' : (z.gens.push (.fresh c))[i]? = some (.suspended k l c' p fs cl) := q
    rw [Array.getElem?_push] at q'
    split at q'
    · cases q'
    · exact h.ng i k l c' p fs cl e q'
/-- what is not blocked -/
theorem Tw.open {z s : Shared} {g : Nat} {x : GenState} (h : Tw N O z s) (hx : susp x = false) (e : z.gens[g]? = some x) : O g = none ∧ s.gens[g]? = some x := by
  cases q : O g with
  | none => exact ⟨rfl, by rw [← h.oth g q]; exact e⟩
  | some y =>
    obtain ⟨a, _, c⟩ := h.blk g y q
    rw [c] at e
    cases y <;> first | cases a | skip
    cases e
    cases hx
theorem Tw.seen {z s : Shared} {g : Nat} {x : GenState} (h : Tw N O z s) (e : z.gens[g]? = some x) : ∃ y, s.gens[g]? = some y ∧ y.seen = x.seen := by
  cases q : O g with
  | none => exact ⟨x, by rw [← h.oth g q]; exact e, rfl⟩
  | some y =>
    obtain ⟨_, b, c⟩ := h.blk g y q
    rw [c] at e
    cases e
    exact ⟨y, b, (stuck_seen y).symm⟩
theorem runs_tw {Γ : Ctx} {p : Pos} {t : Sem Fin} {fs : List Frame} {z z' : Shared} {e : End} (h : Runs M Γ p t fs z e z') : splitAtGen fs = none → ∀ s, Tw N O z s → ∃ s', Runs M Γ p t fs s e s' ∧ Tw N O z' s' ∧ NgE e := by
  induction h with
  | done => intro _ s h; exact ⟨s, .done, h, trivial⟩
  | raise => intro _ s h; exact ⟨s, .raise, h, trivial⟩
  | again hq _ ih => intro hn s h; obtain ⟨s', a, b, c⟩ := ih hn s h; exact ⟨s', .again hq a, b, c⟩
  | rule _ ih => intro hn s h; obtain ⟨s', a, b, c⟩ := ih hn s h; exact ⟨s', .rule a, b, c⟩
  | «at» _ ih => intro hn s h; obtain ⟨s', a, b, c⟩ := ih hn s h; exact ⟨s', .at a, b, c⟩
  | load ho _ ih => intro hn s h; obtain ⟨s', a, b, c⟩ := ih hn s h; exact ⟨s', .load (by rw [← h.heap]; exact ho) a, b, c⟩
  | update ho _ ih =>
    intro hn s h
    rw [h.heap] at ih ho
    obtain ⟨s', a, b, c⟩ := ih hn _ (h.heaps _)
    exact ⟨s', .update ho a, b, c⟩
  | loadIfAlive _ ih =>
    intro hn s h
    obtain ⟨s', a, b, c⟩ := ih hn s h
    rw [h.heap] at a
    exact ⟨s', .loadIfAlive a, b, c⟩
  | point _ ih => intro hn s h; obtain ⟨s', a, b, c⟩ := ih hn s h; exact ⟨s', .point a, b, c⟩
  | alloc _ ih =>
    intro hn s h
    rw [h.heap] at ih
    obtain ⟨s', a, b, c⟩ := ih hn _ (h.heaps _)
    exact ⟨s', .alloc a, b, c⟩
  | fresh _ ih =>
    intro hn s h
    rw [h.toks] at ih
    obtain ⟨s', a, b, c⟩ := ih hn { s with toks := s.toks + 1 } ⟨h.heap, h.drawn, rfl, h.os, h.size, h.blk, h.oth, h.ng, h.lo⟩
    exact ⟨s', .fresh a, b, c⟩
  | ask _ ih => intro hn s h; obtain ⟨s', a, b, c⟩ := ih hn s h; exact ⟨s', .ask a, b, c⟩
  | choose hz _ ih =>
    intro hn s h
    rw [h.drawn] at ih
    obtain ⟨s', a, b, c⟩ := ih hn { s with drawn := s.drawn.bump _ } ⟨h.heap, rfl, h.toks, h.os, h.size, h.blk, h.oth, h.ng, h.lo⟩
    exact ⟨s', .choose hz a, b, c⟩
  | os _ ih =>
    intro hn s h
    rw [h.os] at ih
    obtain ⟨s', a, b, c⟩ := ih hn { s with os := (Os.step s.os _).1 } ⟨h.heap, h.drawn, h.toks, rfl, h.size, h.blk, h.oth, h.ng, h.lo⟩
    exact ⟨s', .os a, b, c⟩
  | handled _ ih => intro hn s h; obtain ⟨s', a, b, c⟩ := ih hn s h; exact ⟨s', .handled a, b, c⟩
  | genState hg _ ih =>
    intro hn s h
    obtain ⟨s', a, b, c⟩ := ih hn s h
    obtain ⟨y, q1, q2⟩ := h.seen hg
    rw [← q2] at a
    exact ⟨s', .genState q1 a, b, c⟩
  | stack _ ih => intro hn s h; obtain ⟨s', a, b, c⟩ := ih hn s h; exact ⟨s', .stack a, b, c⟩
  | thread _ ih => intro hn s h; obtain ⟨s', a, b, c⟩ := ih hn s h; exact ⟨s', .thread a, b, c⟩
  | newGen _ ih =>
    intro hn s h
    rw [h.size] at ih
    obtain ⟨s', a, b, c⟩ := ih hn _ h.push
    exact ⟨s', .newGen a, b, c⟩
  | call _ _ ih1 ih2 =>
    intro hn s h
    obtain ⟨s1, a1, b1, _⟩ := ih1 hn s h
    obtain ⟨s', a, b, c⟩ := ih2 hn s1 b1
    exact ⟨s', .call a1 a, b, c⟩
  | callSusp _ ih =>
    intro hn s h
    obtain ⟨s', a, b, c⟩ := ih hn s h
    exact ⟨s', .callSusp a, b, split_app c rfl⟩
  | yield => intro _ s h; exact ⟨s, .yield, h, rfl⟩
  | @resumeFresh Γ p g l k s0 c e1 s1 e s' hg h1 hq h2 ih1 ih2 =>
    intro hn s h
    obtain ⟨ho, hg'⟩ := h.open rfl hg
    obtain ⟨u, a1, b1, c1⟩ := ih1 rfl _ (h.running ho)
    obtain ⟨u', a, b, c⟩ := ih2 hn _ (b1.ended ho c1)
    exact ⟨u', .resumeFresh hg' a1 hq a, b, c⟩
  | @resumeSuspended Γ p g r l k s0 k0 l0 c0 p0 fs0 cl e1 s1 e s' hg h1 hq h2 ih1 ih2 =>
    intro hn s h
    cases q : O g with
    | none =>
      obtain ⟨u, a1, b1, c1⟩ := ih1 (h.ng _ _ _ _ _ _ _ q hg) _ (h.running q)
      obtain ⟨u', a, b, c⟩ := ih2 hn _ (b1.ended q c1)
      exact ⟨u', .resumeSuspended (by rw [← h.oth g q]; exact hg) a1 hq a, b, c⟩
    | some y =>
      obtain ⟨d0, _, d2⟩ := h.blk g y q
      rw [d2] at hg
      cases y <;> first | cases d0 | skip
      cases hg
      exact (no_run h1).elim
  | resumeJustStarted hg hv _ ih =>
    intro hn s h
    obtain ⟨ho, hg'⟩ := h.open rfl hg
    obtain ⟨s', a, b, c⟩ := ih hn s h
    exact ⟨s', .resumeJustStarted hg' hv a, b, c⟩
  | resumeThrowFresh hg _ ih =>
    intro hn s h
    obtain ⟨ho, hg'⟩ := h.open rfl hg
    obtain ⟨s', a, b, c⟩ := ih hn _ (h.finished ho)
    exact ⟨s', .resumeThrowFresh hg' a, b, c⟩
  | resumeRunning hg _ ih =>
    intro hn s h
    obtain ⟨ho, hg'⟩ := h.open rfl hg
    obtain ⟨s', a, b, c⟩ := ih hn s h
    exact ⟨s', .resumeRunning hg' a, b, c⟩
  | resumeFinished hg _ ih =>
    intro hn s h
    obtain ⟨ho, hg'⟩ := h.open rfl hg
    obtain ⟨s', a, b, c⟩ := ih hn s h
    exact ⟨s', .resumeFinished hg' a, b, c⟩
  | segRet _ _ ih1 ih2 =>
    intro hn s h
    obtain ⟨s1, a1, b1, _⟩ := ih1 rfl s h
    obtain ⟨s', a, b, c⟩ := ih2 (split_ret hn) s1 b1
    exact ⟨s', .segRet a1 a, b, c⟩
  | segGen _ _ _ _ => intro hn s h; simp [splitAtGen] at hn
  | segSuspOut hs _ ih =>
    intro hn s h
    obtain ⟨s', a, b, c⟩ := ih rfl s h
    exact ⟨s', .segSuspOut hs a, b, split_app c hs⟩
  | segSuspGen hs _ _ _ _ _ => intro hn s h; rw [hn] at hs; cases hs
theorem wakes_tw {Γ : Ctx} {p : Pos} {g : Nat} {r : Resume} {z z' : Shared} {res : GenResult} (h : Wakes M Γ p g r z res z') (s : Shared) (t : Tw N O z s) : ∃ s', Wakes M Γ p g r s res s' ∧ Tw N O z' s' := by
  unfold Wakes at h
  split at h
  · exact h.elim
  · rename_i c hg
    obtain ⟨ho, hg'⟩ := t.open rfl hg
    split at h
    · obtain ⟨e1, s1, hr, hq, h3, rfl⟩ := h
      obtain ⟨u, a, b, c⟩ := runs_tw hr rfl _ (t.running ho)
      exact ⟨_, by unfold Wakes; rw [hg']; exact ⟨e1, u, a, hq, h3, rfl⟩, b.ended ho c⟩
    · rename_i hne
      obtain ⟨h1, rfl⟩ := h
      refine ⟨s, ?_, t⟩
      unfold Wakes
      rw [hg']
      split
      · rename_i e; cases e
      · rename_i e
        split
        · rename_i q; cases q; exact (hne rfl).elim
        · exact ⟨h1, rfl⟩
        · rename_i q; cases q
      all_goals (rename_i e; cases e)
    · obtain ⟨h1, rfl⟩ := h
      exact ⟨_, by unfold Wakes; rw [hg']; exact ⟨h1, rfl⟩, t.finished ho⟩
  · rename_i k0 l0 c0 p0 fs cl hg
    obtain ⟨e1, s1, hr, hq, h3, rfl⟩ := h
    cases q : O g with
    | none =>
      obtain ⟨u, a, b, c⟩ := runs_tw hr (t.ng _ _ _ _ _ _ _ q hg) _ (t.running q)
      exact ⟨_, by unfold Wakes; rw [← t.oth g q, hg]; exact ⟨e1, u, a, hq, h3, rfl⟩, b.ended q c⟩
    | some y =>
      obtain ⟨d0, _, d2⟩ := t.blk g y q
      rw [d2] at hg
      cases y <;> first | cases d0 | skip
      cases hg
      exact (no_run hr).elim
  · rename_i hg
    obtain ⟨ho, hg'⟩ := t.open rfl hg
    obtain ⟨h1, rfl⟩ := h
    exact ⟨s, by unfold Wakes; rw [hg']; exact ⟨h1, rfl⟩, t⟩
  · rename_i hg
    obtain ⟨ho, hg'⟩ := t.open rfl hg
    obtain ⟨h1, rfl⟩ := h
    exact ⟨s, by unfold Wakes; rw [hg']; exact ⟨h1, rfl⟩, t⟩
theorem wp_tw {α : Type} {Γ : Ctx} (t : Sem α) : ∀ (Q : α → Pos → Shared → Prop) (E : Value → Pos → Shared → Prop) (p : Pos) (z s : Shared), Tw N O z s → wp M Γ t Q E p z →
    wp M Γ t (fun a p' s' => ∃ z', Tw N O z' s' ∧ Q a p' z') (fun e p' s' => ∃ z', Tw N O z' s' ∧ E e p' z') p s := by
  induction t with
  | pure a => intro Q E p z s h q; exact ⟨z, h, q⟩
  | raise e => intro Q E p z s h q; exact ⟨z, h, q⟩
  | unsupported _ => intro Q E p z s _ q; exact q
  | finish _ => intro Q E p z s _ q; exact q
  | rule _ k ih => intro Q E p z s h q; exact ih () Q E p z s h q
  | «at» p' k ih => intro Q E p z s h q; exact ih () Q E p' z s h q
  | load a _ k ih => intro Q E p z s h q; obtain ⟨o, ho, q⟩ := q; exact ⟨o, by rw [← h.heap]; exact ho, ih o Q E p z s h q⟩
  | update a _ f k ih =>
    intro Q E p z s h q
    obtain ⟨q1, q2⟩ := q
    rw [h.heap] at q1 q2
    exact ⟨q1, ih () Q E p _ _ (h.heaps _) q2⟩
  | loadIfAlive a k ih =>
    intro Q E p z s h q
    have q' : wp M Γ (k (z.heap.get? a)) Q E p z := q
    rw [h.heap] at q'
    exact ih _ Q E p z s h q'
  | point _ k ih => intro Q E p z s h q; exact ih () Q E p z s h q
  | register _ _ => intro Q E p z s _ q; exact q
  | alloc o k ih =>
    intro Q E p z s h q
    have q' : wp M Γ (k z.heap.objs.size) Q E p { z with heap := z.heap.push o } := q
    rw [h.heap] at q'
    exact ih _ Q E p _ _ (h.heaps _) q'
  | fresh k ih =>
    intro Q E p z s h q
    have q' : wp M Γ (k z.toks) Q E p { z with toks := z.toks + 1 } := q
    rw [h.toks] at q'
    exact ih _ Q E p { z with toks := s.toks + 1 } { s with toks := s.toks + 1 } ⟨h.heap, h.drawn, rfl, h.os, h.size, h.blk, h.oth, h.ng, h.lo⟩ q'
  | ask k ih => intro Q E p z s h q; exact ih _ Q E p z s h q
  | choose src m k ih =>
    intro Q E p z s h q
    obtain ⟨q1, q2⟩ := q
    rw [h.drawn] at q2
    exact ⟨q1, ih _ Q E p { z with drawn := s.drawn.bump src } { s with drawn := s.drawn.bump src } ⟨h.heap, rfl, h.toks, h.os, h.size, h.blk, h.oth, h.ng, h.lo⟩ q2⟩
  | os o _ k ih =>
    intro Q E p z s h q
    have q' : wp M Γ (k (Os.step z.os o).2) Q E p { z with os := (Os.step z.os o).1 } := q
    rw [h.os] at q'
    exact ih _ Q E p { z with os := (Os.step s.os o).1 } { s with os := (Os.step s.os o).1 } ⟨h.heap, h.drawn, h.toks, rfl, h.size, h.blk, h.oth, h.ng, h.lo⟩ q'
  | call c hd _ _ k ih =>
    intro Q E p z s h q
    obtain ⟨r, z', hr, q⟩ := q
    obtain ⟨s', a, b, _⟩ := runs_tw hr rfl s h
    exact ⟨r, s', a, ih r Q E p z' s' b q⟩
  | handled own k ih => intro Q E p z s h q; exact ih _ Q E p z s h q
  | genState g k ih =>
    intro Q E p z s h q
    obtain ⟨st, hs, q⟩ := q
    obtain ⟨y, q1, q2⟩ := h.seen hs
    refine ⟨y, q1, ?_⟩
    rw [q2]
    exact ih _ Q E p z s h q
  | newGen c k ih =>
    intro Q E p z s h q
    have q' : wp M Γ (k z.gens.size) Q E p { z with gens := z.gens.push (.fresh c) } := q
    rw [h.size] at q'
    exact ih _ Q E p _ _ h.push q'
  | resume g r _ k ih =>
    intro Q E p z s h q
    obtain ⟨res, z', hw, q⟩ := q
    obtain ⟨s', a, b⟩ := wakes_tw hw s h
    exact ⟨res, s', a, ih res Q E p z' s' b q⟩
  | yield _ _ _ _ => intro Q E p z s _ q; exact q
  | stack k ih => intro Q E p z s h q; exact ih _ Q E p z s h q
  | fork _ _ => intro Q E p z s _ q; exact q
  | thread k ih => intro Q E p z s h q; exact ih _ Q E p z s h q
  | await _ _ _ _ _ => intro Q E p z s _ q; exact q
theorem wpAny_tw {α : Type} {A : Around} {t : Sem α} {Q : α → Shared → Prop} {E : Value → Shared → Prop} {z s : Shared} (h : wpAny M A t Q E z) (tw : Tw N O z s) : wpAny M A t (fun a s' => ∃ z', Tw N O z' s' ∧ Q a z') (fun e s' => ∃ z', Tw N O z' s' ∧ E e z') s :=
  fun Γ p hΓ => wp_tw (N := N) (O := O) t _ _ p z s tw (h Γ p hΓ)
/-- all that sleeps, blocked -/
def asleep (s : Shared) : Shared := { s with gens := s.gens.map stuck }
def blkd (s : Shared) : Nat → Option GenState := fun i => match s.gens[i]? with
  | some x => if susp x = true then some x else none
  | none => none
theorem blkd_some {s : Shared} {i : Nat} {x : GenState} : blkd s i = some x ↔ s.gens[i]? = some x ∧ susp x = true := by
  unfold blkd
  constructor
  · intro h
    split at h
    · rename_i y e
      split at h
      · rename_i z; cases h; exact ⟨e, z⟩
      · cases h
    · cases h
  · rintro ⟨e, h⟩
    rw [e]
    simp [h]
theorem tw_asleep (s : Shared) : Tw s.gens.size (blkd s) (asleep s) s := by
  refine ⟨rfl, rfl, rfl, rfl, by simp [asleep], fun i x e => ?_, fun i e => ?_, fun i k l c p fs cl e q => ?_, Nat.le_refl _⟩
  · obtain ⟨h1, h2⟩ := blkd_some.mp e
    exact ⟨h2, h1, by simp [asleep, h1]⟩
  · show (s.gens.map stuck)[i]? = s.gens[i]?
    rw [Array.getElem?_map]
    cases h : s.gens[i]? with
    | none => rfl
    | some x =>
      have : susp x = false := by
        cases hx : susp x with
        | false => rfl
        | true => rw [blkd_some.mpr ⟨h, hx⟩] at e; cases e
      simp [stuck_of_not this]
  · have q' : (s.gens.map stuck)[i]? = some (.suspended k l c p fs cl) := q
    rw [Array.getElem?_map] at q'
    cases h : s.gens[i]? with
    | none => rw [h] at q'; cases q'
    | some x =>
      rw [h] at q'
      have hx : susp x = true := by
        cases x <;> first | rfl | cases q'
      rw [blkd_some.mpr ⟨h, hx⟩] at e
      cases e
/-- what sleeps is as it was -/
def Slp (s s' : Shared) : Prop := s.gens.size ≤ s'.gens.size ∧ ∀ (i : Nat) (x : GenState), s.gens[i]? = some x → susp x = true → s'.gens[i]? = some x
theorem Slp.refl (s : Shared) : Slp s s := ⟨Nat.le_refl _, fun _ _ h _ => h⟩
theorem Slp.trans {s s1 s2 : Shared} (a : Slp s s1) (b : Slp s1 s2) : Slp s s2 := ⟨Nat.le_trans a.1 b.1, fun i x h hx => b.2 i x (a.2 i x h hx) hx⟩
theorem wpAny_asleep {α : Type} {A : Around} {t : Sem α} {Q : α → Shared → Prop} {E : Value → Shared → Prop} {s : Shared} (h : wpAny M A t Q E (asleep s)) :
    wpAny M A t (fun a s' => Slp s s' ∧ ∃ z', Tw s.gens.size (blkd s) z' s' ∧ Q a z') (fun e s' => Slp s s' ∧ ∃ z', Tw s.gens.size (blkd s) z' s' ∧ E e z') s := by
  intro Γ p hΓ
  have key := wp_tw (N := s.gens.size) (O := blkd s) t _ _ p _ s (tw_asleep s) (h Γ p hΓ)
  have sl : ∀ z' s', Tw s.gens.size (blkd s) z' s' → Slp s s' := fun z' s' h => ⟨h.lo, fun i x e hx => (h.blk i x (blkd_some.mpr ⟨e, hx⟩)).2.1⟩
  exact Sem.wp_mono M Γ t (fun a _ s' ⟨z', b, c⟩ => ⟨sl _ _ b, z', b, c⟩) (fun a _ s' ⟨z', b, c⟩ => ⟨sl _ _ b, z', b, c⟩) p s key
end
end SY

set_option Elab.async false
set_option linter.all false
set_option maxRecDepth 100000
set_option maxHeartbeats 4000000
/-! Generators that only make new things, woken by whoever: what is promised at each waking. -/
namespace SY
open PySem L2 PySem.Spec PyProof.Rows GenW PySem.W.X SC

/-! ### the invariant does not look at the generators -/
section
variable {X : Cx} {pins : List (Addr × Obj)} {σ : L2.St} {H : Hp} {s z : Shared}
theorem inv_gens (I : Inv X pins σ H z) (hh : z.heap = s.heap) (ho : z.os = s.os) (hb : AllBare s.gens) : Inv X pins σ H s := by
  obtain ⟨h1, h2, h3, h4, h5, h6, h7, h8, h9, h10, h11⟩ := I
  rw [hh] at h4 h5 h6 h9 h10
  exact ⟨h1, ho ▸ h2, hb, h4, h5, h6, h7, h8, h9, h10, h11⟩
theorem asleep_bare (h : AllBare s.gens) : AllBare (asleep s).gens := fun y hy => by
  obtain ⟨x, hx, rfl⟩ := Array.mem_map.mp hy
  rw [stuck_bare]
  exact h x hx
theorem tw_bare {s' : Shared} (t : Tw s.gens.size (blkd s) z s') (h : AllBare s.gens) (hz : AllBare z.gens) : AllBare s'.gens := fun y hy => by
  obtain ⟨i, hi, e⟩ := Array.mem_iff_getElem.mp hy
  have e' : s'.gens[i]? = some y := by rw [Array.getElem?_eq_getElem hi, e]
  cases q : blkd s i with
  | none => exact hz y (Array.mem_of_getElem? (by rw [t.oth i q]; exact e'))
  | some x =>
    obtain ⟨_, b, _⟩ := t.blk i x q
    have ex : x = y := Option.some.inj (b.symm.trans e')
    rw [← ex]
    exact h x (Array.mem_of_getElem? (blkd_some.mp q).1)
theorem tw_slp {s' : Shared} (t : Tw s.gens.size (blkd s) z s') : Slp s s' := ⟨t.lo, fun i x e hx => (t.blk i x (blkd_some.mpr ⟨e, hx⟩)).2.1⟩
theorem tw_inv {s' : Shared} (t : Tw s.gens.size (blkd s) z s') (h : AllBare s.gens) (I : Inv X pins σ H z) : Inv X pins σ H s' := inv_gens I t.heap t.os (tw_bare t h I.bare)
theorem inv_asleep (I : Inv X pins σ H s) : Inv X pins σ H (asleep s) := inv_gens I rfl rfl (asleep_bare I.bare)
/-- code that is told of the invariant alone leaves what sleeps -/
theorem run_slp {α : Type} {M : Model} {A : Around} {t : Sem α} {Q Q' : α → Shared → Prop} (I : Inv X pins σ H s) (h : ∀ z, Inv X pins σ H z → z.heap = s.heap → wpAny M A t Q (fun _ _ => False) z)
    (hQ : ∀ a z s', z.heap = s'.heap → z.os = s'.os → (AllBare z.gens → AllBare s'.gens) → Q a z → Q' a s') {E : Value → Shared → Prop} : wpAny M A t (fun a s' => Slp s s' ∧ Q' a s') E s :=
  wpAny_mono (wpAny_asleep (h (asleep s) (inv_gens I rfl rfl (asleep_bare I.bare)) rfl))
    (fun a s' ⟨h1, z, h2, h3⟩ => ⟨h1, hQ a z s' h2.heap h2.os (fun hz => tw_bare h2 I.bare hz) h3⟩) fun e s' ⟨_, z, _, h3⟩ => h3.elim
theorem ep_gens {Q : VK} {u : Value} {s' : Shared} (hh : z.heap = s'.heap) (ho : z.os = s'.os) (hb : AllBare z.gens → AllBare s'.gens) (h : EP X pins σ Q u z) : EP X pins σ Q u s' := by
  obtain ⟨v, H', I, r⟩ := h
  exact ⟨v, H', inv_gens I hh ho (hb I.bare), r⟩
theorem sp_gens {D : Ends} {f : Flow} {s' : Shared} (hh : z.heap = s'.heap) (ho : z.os = s'.os) (hb : AllBare z.gens → AllBare s'.gens) (h : SP X pins D f z) : SP X pins D f s' := by
  cases f with
  | next => obtain ⟨σ', H', I, q⟩ := h; exact ⟨σ', H', inv_gens I hh ho (hb I.bare), q⟩
  | brk => obtain ⟨σ', H', I, q⟩ := h; exact ⟨σ', H', inv_gens I hh ho (hb I.bare), q⟩
  | cont => obtain ⟨σ', H', I, q⟩ := h; exact ⟨σ', H', inv_gens I hh ho (hb I.bare), q⟩
  | ret u => obtain ⟨v, σ', H', I, q⟩ := h; exact ⟨v, σ', H', inv_gens I hh ho (hb I.bare), q⟩
end

/-! ### a heap's older part -/
def cut (h : Heap) (n : Nat) : Heap := ⟨h.objs.extract 0 n, h.life⟩
theorem cut_size (h : Heap) (n : Nat) : (cut h n).objs.size = min n h.objs.size := by
  show (h.objs.extract 0 n).size = _
  rw [Array.size_extract]; omega
theorem cut_get {h : Heap} {n : Nat} {b : Addr} (hb : b < n) : (cut h n).get? b = h.get? b := by
  have e : (h.objs.extract 0 n)[b]? = h.objs[b]? := by
    have key : ∀ b : Nat, b < n → (h.objs.extract 0 n)[b]? = h.objs[b]? := fun b hb => by
      rw [Array.getElem?_extract]
      by_cases q : b < h.objs.size
      · rw [if_pos (by omega), Nat.zero_add]
      · rw [if_neg (by omega), Array.getElem?_eq_none (by omega)]
    exact key b hb
  unfold Heap.get? cut
  simp only [e]
theorem cut_lt {h : Heap} {n : Nat} {b : Addr} {o : Obj} (e : (cut h n).get? b = some o) : b < n := by
  have := Heap.lt_size e
  rw [cut_size] at this
  exact Nat.lt_of_lt_of_le this (Nat.min_le_left _ _)
theorem of_cut {h : Heap} {n : Nat} {b : Addr} {o : Obj} (e : (cut h n).get? b = some o) : h.get? b = some o := by
  rw [← cut_get (cut_lt e)]; exact e
theorem cut_funs {h base : Heap} {n : Nat} : ∀ {l : List Env}, h.FunFrames base l → (∀ b ∈ frs l, b < n) → (cut h n).FunFrames base l
  | [], _, _ => trivial
  | env :: r, hl, hn => by
    obtain ⟨hk, ⟨L, o, hf, hb, ho, hd⟩, hr⟩ := hl
    have hL : L < n := hn L (by unfold frs; rw [List.filterMap_cons, hf]; exact List.mem_cons_self)
    refine ⟨hk, ⟨L, o, hf, hb, by rw [cut_get hL]; exact ho, hd⟩, cut_funs hr fun b q => hn b ?_⟩
    unfold frs
    rw [List.filterMap_cons, hf]
    exact List.mem_cons_of_mem _ q

/-! ### segments -/
section
variable {P : Program} {w : World} {A : Around} {c : Code} {fs : List Frame} {s : Shared} {R : End → Shared → Prop}
theorem sx_wrap {α : Type} {m : Sem α} {K : α → Sem PySem.Fin} {J : Value → Sem PySem.Fin} {gd : Bool → Bool} {lv : List Value → List Value}
    (h : wpAny (model P w) (A.over c fs) m (fun a s' => SegX (model P w) A c (K a) fs s' R) (fun _ _ => False) s) : SegX (model P w) A c (m.wrap K J gd lv) fs s R := by
  rintro Γ p rfl hΓ
  obtain ⟨e, s', hr, hq⟩ := runs_wrap_of_wp (Φ := fun e s' => e.quiet = true ∧ R e s') K J gd lv m (h (Γ.over fs) p (hΓ.over fs)) (fun a p' s' h' => h' Γ p' rfl hΓ) (fun x p' s' h' => h'.elim)
  exact ⟨e, s', hr, hq⟩
theorem sx_bindw {α β : Type} {m : Sem α} {f : α → Sem β} {K : β → Sem PySem.Fin} {J : Value → Sem PySem.Fin} {gd : Bool → Bool} {lv : List Value → List Value}
    (h : wpAny (model P w) (A.over c fs) m (fun a s' => SegX (model P w) A c ((f a).wrap K J gd lv) fs s' R) (fun _ _ => False) s) : SegX (model P w) A c ((m >>= f).wrap K J gd lv) fs s R := by
  rw [Sem.bind_eq_wrap', Sem.wrap_wrap]
  exact sx_wrap h
end

/-! ### a generator that was made -/
structure Gn where
  P : Program
  w : World
  K : PySem.W.Frag
  mg : Str → Option Value
  base : Heap
  N : List Str
  env : Env
  outer : List Env
  k : Nat
  a : Addr
  g : Nat
  go : Obj
  /-- the cells of its frame, by their slots, and what they hold all the time -/
  cs : List (Addr × Nat × V)
  n : Nat
  item : Nat → V → Hp → Prop
def cellX (c : Addr) (v : V) : HO := .ext fun h => ∃ u, h.IsCell c (some u) ∧ RelV v u
def Gn.cel (G : Gn) (b : Addr) : Option (Nat × V) := G.cs.lookup b
/-- its own view; the view of the others while it sleeps -/
def Gn.hid (G : Gn) (H : Hp) : Hp := fun b => match G.cel b with
  | some _ => none
  | none => H b
def Gn.shw (G : Gn) (H : Hp) : Hp := fun b => match G.cel b with
  | some q => some (cellX b q.2)
  | none => H b
/-- the cells stand in H -/
def Gn.has (G : Gn) (H : Hp) : Prop := ∀ b q, G.cel b = some q → H b = some (cellX b q.2)
/-- the slots of the cells are as at the start -/
def Gn.cok (G : Gn) (σ : L2.St) : Prop := ∀ b q, G.cel b = some q → σ[q.1]? = some (some q.2)
def Gn.cx (G : Gn) (A : Around) (s : Shared) (H : Hp) (pn : List (Addr × Obj)) : Cx where
  prog := G.P
  w := G.w
  K := G.K
  mg := G.mg
  base := G.base
  A := A.deeper G.env
  N := G.N
  s_0 := { s with heap := cut s.heap G.env.locals }
  H_0 := H
  env := G.env
  outer := G.outer
  stack := G.env :: G.outer
  ex := []
  fn := fun _ => true
  calm := true
  pn := pn ++ [(G.a, G.go)]
  xe := fun _ _ => False
structure Gn.Ok (G : Gn) : Prop where
  kind : G.env.scope.kind = .function
  glob : G.env.globals = mainGlobals
  blt : G.env.builtins = builtinsNs
  frame : G.env.frame = some G.env.locals
  inj : ∀ x y c, G.env.cells.lookup x = some c → G.env.cells.lookup y = some c → x = y
  hasc : ∀ x, (G.env.kindOf x = some .cell ∨ G.env.kindOf x = some .free) → ∃ c, G.env.cells.lookup x = some c
  above : ∀ x c, G.env.cells.lookup x = some c → G.env.locals < c
  celx : ∀ x c, G.env.cells.lookup x = some c → G.env.kindOf x = some .cell ∧ ∃ i v, G.cel c = some (i, v) ∧ G.N[i]? = some x
  xcel : ∀ c q, G.cel c = some q → ∃ x, G.env.cells.lookup x = some c ∧ G.N[q.1]? = some x
  nd : G.N.Nodup
  mod : Mod G.K G.mg G.base
  bsz : G.base.objs.size ≤ G.env.locals
  frl : ∀ b ∈ frs G.outer, b < G.env.locals
  la : G.env.locals < G.a
  ac : G.cel G.a = none
  gen : ∃ nm qn, G.go.cls = .type "generator" ∧ G.go.data = .fields #[.int G.g 0, nm, qn] ∧ G.go.slots = #[]
  mono : ∀ i x H H', Same H H' → G.item i x H → G.item i x H'
section
variable {G : Gn}
theorem hid_at {H : Hp} {b : Addr} (h : G.cel b = none) : G.hid H b = H b := by unfold Gn.hid; rw [h]
theorem shw_at {H : Hp} {b : Addr} (h : G.cel b = none) : G.shw H b = H b := by unfold Gn.shw; rw [h]
theorem hid_no {H : Hp} {b : Addr} {q : Nat × V} (h : G.cel b = some q) : G.hid H b = none := by unfold Gn.hid; rw [h]
theorem shw_is {H : Hp} {b : Addr} {q : Nat × V} (h : G.cel b = some q) : G.shw H b = some (cellX b q.2) := by unfold Gn.shw; rw [h]
theorem hid_sub (H : Hp) : Same (G.hid H) H := fun b o e => by
  cases h : G.cel b with
  | none => rw [hid_at h] at e; exact e
  | some q => rw [hid_no h] at e; cases e
theorem hid_none {H : Hp} {b : Addr} (h : H b = none) : G.hid H b = none := by
  cases e : G.cel b with
  | none => rw [hid_at e]; exact h
  | some q => exact hid_no e
theorem has_shw (H : Hp) : G.has (G.shw H) := fun b q h => shw_is h
theorem same_hid {H H' : Hp} (h : Same H H') : Same (G.hid H) (G.hid H') := fun b o e => by
  cases q : G.cel b with
  | none => rw [hid_at q] at e ⊢; exact h b o e
  | some z => rw [hid_no q] at e; cases e
/-- a heap that the generator has, within what the others have -/
theorem same_of_shw {Hg H : Hp} (h : Same (G.shw Hg) H) (hn : ∀ b q, G.cel b = some q → Hg b = none) : Same Hg (G.hid H) := fun b o e => by
  cases q : G.cel b with
  | none => rw [hid_at q]; exact h b o (by rw [shw_at q]; exact e)
  | some z => rw [hn b z q] at e; cases e
theorem same_shw {H H1 : Hp} (hc : G.has H) (h : Same (G.hid H) H1) : Same H (G.shw H1) := fun b o e => by
  cases q : G.cel b with
  | none => rw [shw_at q]; exact h b o (by rw [hid_at q]; exact e)
  | some z => rw [shw_is q, ← hc b z q]; exact e
theorem shw_mono {H H1 : Hp} (h : Same H H1) : Same (G.shw H) (G.shw H1) := fun b o e => by
  cases q : G.cel b with
  | none => rw [shw_at q] at e ⊢; exact h b o e
  | some z => rw [shw_is q] at e ⊢; exact e
theorem hok_hid {P : Program} {w : World} {H : Hp} {h : Heap} (hc : G.has H) (ok : HOk P w H h) : HOk P w (G.hid H) h := fun b o e => by
  have e' := hid_sub H b o e
  refine (ok b o e').stay (fun _ _ _ z => z) (fun d z => ?_) fun d xs z => ?_
  · cases q : G.cel d with
    | none => rw [hid_at q]; exact z
    | some y => rw [hc d y q] at z; cases z
  · cases q : G.cel d with
    | none => rw [hid_at q]; exact z
    | some y => rw [hc d y q] at z; cases z
end

/-! ### what is given at a waking, what is promised -/
structure Adm (G : Gn) (Hg : Hp) (fp : List (Addr × Obj)) (gp : List (Nat × GenState)) (A : Around) (s : Shared) (H : Hp) (pn : List (Addr × Obj)) : Prop where
  e0 : Env0 G.P G.w G.K G.mg G.base A G.outer s H
  room : Room G.k A
  rely : Same Hg H
  has : G.has Hg
  fps : ∀ p ∈ fp, s.heap.get? p.1 = some p.2 ∧ H p.1 = none
  gps : ∀ q ∈ gp, s.gens[q.1]? = some q.2
  gsz : G.g < s.gens.size
  pns : ∀ p ∈ pn, s.heap.get? p.1 = some p.2 ∧ H p.1 = none ∧ p.1 ∉ frs G.outer ∧ (∀ v, p.2.data ≠ .cell v) ∧ ∀ q ∈ fp, p.1 ≠ q.1
structure Res (G : Gn) (s : Shared) (H : Hp) (pn : List (Addr × Obj)) (s1 : Shared) (H1 : Hp) : Prop where
  os : s1.os = s.os
  bare : AllBare s1.gens
  hok : HOk G.P G.w H1 s1.heap
  keep : ∀ b o, b < G.env.locals → s.heap.get? b = some o → H b = none → b ∉ frs G.outer → s1.heap.get? b = some o
  slot : ∀ b o, b < G.env.locals → s.heap.get? b = some o → H b = none → b ∈ frs G.outer → ∃ sl, s1.heap.get? b = some { o with slots := sl }
  free : ∀ b o, b < G.env.locals → s.heap.get? b = some o → H b = none → H1 b = none
  there : ∀ b o, b < G.env.locals → s.heap.get? b = some o → ∃ o', s1.heap.get? b = some o'
  same : Same H H1
  pins : ∀ p ∈ pn, s1.heap.get? p.1 = some p.2 ∧ H1 p.1 = none
/-- what the generator keeps for itself while it sleeps -/
structure Prv (G : Gn) (s1 : Shared) (H1 : Hp) (pn fp : List (Addr × Obj)) (gp : List (Nat × GenState)) : Prop where
  fps : ∀ p ∈ fp, s1.heap.get? p.1 = some p.2 ∧ H1 p.1 = none ∧ G.env.locals ≤ p.1 ∧ (∀ v, p.2.data ≠ .cell v) ∧ ∀ q ∈ pn, p.1 ≠ q.1
  ga : (G.a, G.go) ∈ fp
  gps : ∀ q ∈ gp, s1.gens[q.1]? = some q.2 ∧ susp q.2 = true ∧ G.g < q.1
def Wk (M : Model) (gs : GenState) (A : Around) (s : Shared) (R : End → Shared → Prop) : Prop := match gs with
  | .fresh c => SegX M A c (M.den c) [] s R
  | .suspended k _ c _ fs _ => SegX M A c (k (.send .none)) fs s R
  | _ => False
def RdyP (G : Gn) : Nat → Nat → Hp → Shared → Hp → List (Addr × Obj) → End → Shared → Prop
  | 0, _, _, s, H, pn, e, s1 => e = .ret (.ok (.ret .none)) ∧ ∃ H1, Res G s H pn s1 H1
  | m + 1, i, Hg, s, H, pn, e, s1 => ∃ v x H1 Hg1 fp1 gp1, e.result = .yielded v ∧ RelV x v ∧ Res G s H pn s1 H1 ∧ G.item i x H1 ∧ Same Hg1 H1 ∧ G.has Hg1 ∧ (∀ b o, Hg1 b = some o → Hg b = some o ∨ H b = none) ∧ Prv G s1 H1 pn fp1 gp1 ∧
      ∀ A s2 H2 pn2, Adm G Hg1 fp1 gp1 A s2 H2 pn2 → Wk (model G.P G.w) e.genState A s2 (RdyP G m (i + 1) Hg1 s2 H2 pn2)
def Rdy (G : Gn) (i : Nat) (Hg : Hp) (fp : List (Addr × Obj)) (gp : List (Nat × GenState)) (gs : GenState) : Prop :=
  ∀ A s H pn, Adm G Hg fp gp A s H pn → Wk (model G.P G.w) gs A s (RdyP G (G.n - i) i Hg s H pn)

/-! ### within the generator -/
structure Wd where
  A : Around
  s : Shared
  H : Hp
  pn : List (Addr × Obj)
  Hg : Hp
abbrev Gn.at (G : Gn) (ω : Wd) : Cx := G.cx ω.A ω.s (G.hid ω.H) ω.pn
structure WdOk (G : Gn) (ω : Wd) : Prop where
  e0 : Env0 G.P G.w G.K G.mg G.base ω.A G.outer ω.s ω.H
  room : Room G.k ω.A
  rely : Same ω.Hg ω.H
  has : G.has ω.Hg
  pn : ∀ p ∈ ω.pn, ω.H p.1 = none
  wl : G.env.locals < ω.s.heap.objs.size
structure GIv (G : Gn) (ω : Wd) (ip : List (Addr × Obj)) (gp : List (Nat × GenState)) (σ : L2.St) (H : Hp) (s : Shared) : Prop where
  inv : Inv (G.at ω) ip σ H s
  gens : ∀ q ∈ gp, s.gens[q.1]? = some q.2 ∧ susp q.2 = true ∧ G.g < q.1
  dis : ∀ p ∈ ω.pn, (∀ q ∈ ip, p.1 ≠ q.1) ∧ p.1 ≠ G.a
  ge : ∀ q ∈ ip, G.env.locals ≤ q.1
  gsz : G.g < s.gens.size
/-- by the rely, the heap at the waking, the number of what is out, the slots, the heap -/
abbrev GK := Hp → Hp → Nat → L2.St → Hp → Prop
structure GD where
  nx : GK
  bk : GK := fun _ _ _ _ _ => False
  ct : GK := fun _ _ _ _ _ => False
abbrev TY := GD → GK
def GD.at (D : GD) : Flow → GK
  | .next => D.nx
  | .brk => D.bk
  | .cont => D.ct
  | .ret _ => fun _ _ _ _ _ => False
structure GCn (G : Gn) (c : Code) (fs : List Frame) (gd : Bool → Bool) : Prop where
  over : ∀ A : Around, A.over c fs = A.deeper G.env
  split : splitAtGen fs = none
  guard : fs.any Frame.guarded = false
  gd : gd false = false
/-- what a segment has to reach -/
abbrev Gn.goal (G : Gn) (ω : Wd) (i : Nat) : End → Shared → Prop := RdyP G (G.n - i) i ω.Hg ω.s ω.H ω.pn
def GCont (G : Gn) (ip : List (Addr × Obj)) (gp : List (Nat × GenState)) (c : Code) (fs : List Frame) (K : Flow → Sem PySem.Fin) (D : GD) : Prop :=
  ∀ (ω : Wd) (s : Shared) (σ : L2.St) (H : Hp) (i : Nat) (f : Flow), WdOk G ω → GIv G ω ip gp σ H s → D.at f (G.hid ω.Hg) (G.hid ω.H) i σ H → SegX (model G.P G.w) ω.A c (K f) fs s (G.goal ω i)
/-- fl: only where no other generator sleeps within -/
structure GS (G : Gn) (fl : Bool) (st : Stmt) (t : TY) : Prop where
  run : ∀ (ω : Wd) (ip : List (Addr × Obj)) (gp : List (Nat × GenState)) (c : Code) (fs : List Frame) (K : Flow → Sem PySem.Fin) (J : Value → Sem PySem.Fin) (gd : Bool → Bool) (lv : List Value → List Value) (s : Shared) (σ : L2.St) (H : Hp) (i : Nat) (D : GD),
    (fl = true → gp = []) → GCn G c fs gd → WdOk G ω → GIv G ω ip gp σ H s → t D (G.hid ω.Hg) (G.hid ω.H) i σ H → GCont G ip gp c fs K D → SegX (model G.P G.w) ω.A c ((exec st G.env).wrap K J gd lv) fs s (G.goal ω i)
structure GSs (G : Gn) (fl : Bool) (st : List Stmt) (t : TY) : Prop where
  run : ∀ (ω : Wd) (ip : List (Addr × Obj)) (gp : List (Nat × GenState)) (c : Code) (fs : List Frame) (K : Flow → Sem PySem.Fin) (J : Value → Sem PySem.Fin) (gd : Bool → Bool) (lv : List Value → List Value) (s : Shared) (σ : L2.St) (H : Hp) (i : Nat) (D : GD),
    (fl = true → gp = []) → GCn G c fs gd → WdOk G ω → GIv G ω ip gp σ H s → t D (G.hid ω.Hg) (G.hid ω.H) i σ H → GCont G ip gp c fs K D → SegX (model G.P G.w) ω.A c ((execs st G.env).wrap K J gd lv) fs s (G.goal ω i)
end SY

set_option Elab.async false
set_option linter.all false
set_option maxRecDepth 100000
set_option maxHeartbeats 4000000
/-! Generators: falling asleep, waking; the statements of a generator's body. -/
namespace SY
open PySem L2 PySem.Spec PyProof.Rows GenW PySem.W.X SC
section
variable {G : Gn} {ω : Wd} {ip pn : List (Addr × Obj)} {gp : List (Nat × GenState)} {σ : L2.St} {H Hg : Hp} {s : Shared}
/-- what a sleeping generator leans on, whenever it wakes -/
structure Asl (G : Gn) (ip : List (Addr × Obj)) (gp : List (Nat × GenState)) (σ : L2.St) (oL : Obj) : Prop where
  ns : ∃ m, (∀ h : Heap, h.get? G.env.locals = some oL → h.Ns G.env.locals m) ∧ ∀ (i : Nat) (x : Str) (v : V), G.N[i]? = some x → σ[i]? = some (some v) → Vis G.env.scope x → (G.env.kindOf x = some .local ∧ ∃ u, RelV v u ∧ m x = some u) ∨ ((G.env.kindOf x = some .cell ∨ G.env.kindOf x = some .free) ∧ ∃ c, G.env.cells.lookup x = some c)
  dl : ∀ v, oL.data ≠ .cell v
  cok : G.cok σ
  len : σ.length = G.N.length
  ips : ∀ p ∈ ip, p.1 ≠ G.env.locals ∧ G.env.locals ≤ p.1 ∧ ∀ v, p.2.data ≠ .cell v
  gps : ∀ q ∈ gp, susp q.2 = true ∧ G.g < q.1
abbrev Gn.fp (G : Gn) (oL : Obj) (ip : List (Addr × Obj)) : List (Addr × Obj) := (G.env.locals, oL) :: (G.a, G.go) :: ip
theorem cel_above (ok : G.Ok) {b : Addr} {q : Nat × V} (h : G.cel b = some q) : G.env.locals < b := by
  obtain ⟨x, h1, _⟩ := ok.xcel b q h
  exact ok.above x b h1
theorem cel_old (ok : G.Ok) {b : Addr} (h : b ≤ G.env.locals) : G.cel b = none := by
  cases e : G.cel b with
  | none => rfl
  | some q => exact absurd (Nat.lt_of_lt_of_le (cel_above ok e) h) (Nat.lt_irrefl _)
theorem GIv.asl (ok : G.Ok) (I : GIv G ω ip gp σ H s) (hc : G.cok σ) : ∃ oL, s.heap.get? G.env.locals = some oL ∧ Asl G ip gp σ oL := by
  obtain ⟨m, ⟨oL, es, ep, ho, hd, hr⟩, hl⟩ := I.inv.loc
  refine ⟨oL, ho, ⟨m, fun h e => ⟨oL, es, ep, e, hd, hr⟩, fun i x v h1 h2 h3 => ?_⟩, fun v z => (by rw [hd] at z; cases z), hc, I.inv.len, fun p hp => ?_, fun q hq => ⟨(I.gens q hq).2.1, (I.gens q hq).2.2⟩⟩
  · obtain ⟨u, r, l⟩ := hl i x v h1 h2 h3
    rcases l with ⟨k, l⟩ | ⟨k, c, e, _⟩
    · exact .inl ⟨k, u, r, l⟩
    · exact .inr ⟨k, c, e⟩
  · obtain ⟨_, _, h3, _, h5⟩ := I.inv.pin p (List.mem_append_right _ hp)
    exact ⟨h3, I.ge p hp, h5⟩
theorem Adm.wd {oL : Obj} {A : Around} (h : Adm G Hg (G.fp oL ip) gp A s H pn) : WdOk G ⟨A, s, H, pn, Hg⟩ := ⟨h.e0, h.room, h.rely, h.has, fun p hp => (h.pns p hp).2.1, Heap.lt_size (h.fps _ List.mem_cons_self).1⟩
theorem cellX_ok {P : Program} {w : World} {h : Heap} {c : Addr} {v : V} {H : Hp} (x : ObjOk P w H h c (cellX c v)) : ∃ u, h.IsCell c (some u) ∧ RelV v u := x.1
theorem cellX_mk {P : Program} {w : World} {h : Heap} {c : Addr} {v : V} {u : Value} {H : Hp} (h1 : h.IsCell c (some u)) (h2 : RelV v u) : ObjOk P w H h c (cellX c v) := by
  obtain ⟨o, ho, hd⟩ := h1
  refine ⟨⟨u, ⟨o, ho, hd⟩, h2⟩, ⟨o, ho⟩, fun a b ⟨u', ⟨o', ho', hd'⟩, r⟩ k => ⟨u', ⟨o', k _ ho', hd'⟩, r⟩⟩
theorem wake (ok : G.Ok) {oL : Obj} {A : Around} (a : Asl G ip gp σ oL) (h : Adm G Hg (G.fp oL ip) gp A s H pn) : GIv G ⟨A, s, H, pn, Hg⟩ ip gp σ (G.hid H) s := by
  have hcH : G.has H := fun b q e => h.rely _ _ (h.has b q e)
  have fL := h.fps (G.env.locals, oL) List.mem_cons_self
  have fA := h.fps (G.a, G.go) (List.mem_cons_of_mem _ List.mem_cons_self)
  have fI : ∀ p ∈ ip, s.heap.get? p.1 = some p.2 ∧ H p.1 = none := fun p hp => h.fps p (List.mem_cons_of_mem _ (List.mem_cons_of_mem _ hp))
  have hL : G.env.locals < s.heap.objs.size := Heap.lt_size fL.1
  have csz : (cut s.heap G.env.locals).objs.size = G.env.locals := by rw [cut_size]; exact Nat.min_eq_left (Nat.le_of_lt hL)
  have cell : ∀ x c, G.env.cells.lookup x = some c → ∃ i v u, G.N[i]? = some x ∧ σ[i]? = some (some v) ∧ s.heap.IsCell c (some u) ∧ RelV v u := fun x c e => by
    obtain ⟨_, i, v, h1, h2⟩ := ok.celx x c e
    obtain ⟨u, h3, h4⟩ := cellX_ok (h.e0.hok c _ (hcH c _ h1))
    exact ⟨i, v, u, h2, a.cok c _ h1, h3, h4⟩
  have frL : ∀ b, G.env.locals ≤ b → b ∉ frs G.outer := fun b hb hm => absurd (Nat.lt_of_lt_of_le (ok.frl b hm) hb) (Nat.lt_irrefl _)
  obtain ⟨m, hns, hlk⟩ := a.ns
  refine ⟨⟨⟨ok.mod, ok.kind, ok.glob, ok.blt, ?_, ok.inj, ok.hasc, fun x c _ e => ?_, fun _ => h.room.hd, Around.frames_deeper h.e0.frames, .inr ⟨rfl, ok.frame⟩, fun b hb => absurd (show b ∈ ([] : List Addr) from hb) (by simp), fun b o e => ?_, ?_,
      fun b o _ hb => absurd (show b ∈ ([] : List Addr) from hb) (by simp), fun b hb => absurd (show b ∈ ([] : List Addr) from hb) (by simp), cut_funs h.e0.funs ok.frl, fun b hb => hid_none (h.e0.frf b hb)⟩, rfl, h.e0.bare, Un.kept fun b o e => of_cut e, ?_, fun x c e => ?_, ?_, fun x c e => ?_, fun p hp => ?_, hok_hid hcH h.e0.hok, a.len⟩, fun q hq => ?_, fun p hp => ?_, fun q hq => (a.ips q hq).2.1, h.gsz⟩
  · show (cut s.heap G.env.locals).objs.size ≤ _
    rw [csz]; exact Nat.le_refl _
  · show (cut s.heap G.env.locals).objs.size ≤ c
    rw [csz]; exact Nat.le_of_lt (ok.above x c e)
  · refine ⟨?_, hid_none (h.e0.bs b o e).2⟩
    show (cut s.heap G.env.locals).get? b = some o
    rw [cut_get (Nat.lt_of_lt_of_le (Heap.lt_size e) ok.bsz)]
    exact (h.e0.bs b o e).1
  · show G.base.objs.size ≤ (cut s.heap G.env.locals).objs.size
    rw [csz]; exact ok.bsz
  · refine ⟨m, hns _ fL.1, fun i x v h1 h2 h3 => ?_⟩
    rcases hlk i x v h1 h2 h3 with ⟨k, u, r, e⟩ | ⟨k, c, e⟩
    · exact ⟨u, r, .inl ⟨k, e⟩⟩
    · obtain ⟨i', v', u, q1, q2, q3, q4⟩ := cell x c e
      have ei : i = i' := (List.getElem?_inj (List.getElem?_eq_some_iff.mp h1).1 ok.nd).mp (h1.trans q1.symm)
      subst ei
      rw [h2] at q2
      cases q2
      exact ⟨u, q4, .inr ⟨k, c, e, q3⟩⟩
  · obtain ⟨_, _, u, _, _, q3, _⟩ := cell x c e
    exact ⟨_, q3⟩
  · exact hid_none fL.2
  · obtain ⟨_, i, v, h1, _⟩ := ok.celx x c e
    exact hid_no h1
  · rcases List.mem_append.mp hp with hp | hp
    · rcases List.mem_append.mp (show p ∈ pn ++ [(G.a, G.go)] from hp) with hp | hp
      · obtain ⟨q1, q2, q3, q4, q5⟩ := h.pns p hp
        exact ⟨q1, hid_none q2, q5 _ List.mem_cons_self, q3, q4⟩
      · rw [List.mem_singleton.mp hp]
        obtain ⟨nm, qn, _, gd, _⟩ := ok.gen
        exact ⟨fA.1, hid_none fA.2, Nat.ne_of_gt ok.la, frL _ (Nat.le_of_lt ok.la), fun v z => by rw [gd] at z; cases z⟩
    · obtain ⟨q1, q2, q3⟩ := a.ips p hp
      exact ⟨(fI p hp).1, hid_none (fI p hp).2, q1, frL _ q2, q3⟩
  · exact ⟨h.gps q hq, a.gps q hq⟩
  · obtain ⟨_, _, _, _, q5⟩ := h.pns p hp
    exact ⟨fun q hq => q5 q (List.mem_cons_of_mem _ (List.mem_cons_of_mem _ hq)), q5 _ (List.mem_cons_of_mem _ List.mem_cons_self)⟩
/-- what a segment has kept -/
theorem GIv.res (ok : G.Ok) (wd : WdOk G ω) (I : GIv G ω ip gp σ H s) (hc : G.cok σ) (hs : Same (G.hid ω.H) H) : Res G ω.s ω.H ω.pn s (G.shw H) := by
  have hcH : G.has ω.H := fun b q e => wd.rely _ _ (wd.has b q e)
  have nocel : ∀ b, ω.H b = none → G.cel b = none := fun b hb => by
    cases e : G.cel b with
    | none => rfl
    | some q => rw [hcH b q e] at hb; cases hb
  have untr : ∀ b q, G.cel b = some q → H b = none := fun b q e => by
    obtain ⟨x, h1, _⟩ := ok.xcel b q e
    exact I.inv.freeC x b h1
  have nex : ∀ b : Addr, b ∉ (G.at ω).ex := fun b hb => absurd (show b ∈ ([] : List Addr) from hb) (by simp)
  refine ⟨I.inv.os, I.inv.bare, fun b o e => ?_, fun b o h1 h2 h3 h4 => ?_, fun b o h1 h2 h3 h4 => ?_, fun b o h1 h2 h3 => ?_, fun b o h1 h2 => ?_, same_shw hcH hs, fun p hp => ?_⟩
  · cases q : G.cel b with
    | none =>
      rw [shw_at q] at e
      refine (I.inv.hok b o e).stay (fun _ _ _ z => z) (fun d z => ?_) fun d xs z => ?_
      · cases y : G.cel d with
        | none => rw [shw_at y]; exact z
        | some t => rw [untr d t y] at z; cases z
      · cases y : G.cel d with
        | none => rw [shw_at y]; exact z
        | some t => rw [untr d t y] at z; cases z
    | some t =>
      rw [shw_is q] at e
      cases e
      obtain ⟨x, h1, h2⟩ := ok.xcel b t q
      obtain ⟨m, _, hl⟩ := I.inv.loc
      have hk := (ok.celx x b h1).1
      obtain ⟨u, r, l⟩ := hl t.1 x t.2 h2 (hc b t q) (.inr (.inl hk))
      rcases l with ⟨k, _⟩ | ⟨_, c, e, z⟩
      · have hk' : (G.at ω).env.kindOf x = some .cell := hk
        rw [hk'] at k; cases k
      · have e' : G.env.cells.lookup x = some c := e
        rw [h1] at e'; cases e'
        exact cellX_mk z r
  · exact I.inv.base.keep b o (by show (cut _ _).get? b = _; rw [cut_get h1]; exact h2) (hid_none h3) h4 (nex b)
  · exact I.inv.base.slot b o (by show (cut _ _).get? b = _; rw [cut_get h1]; exact h2) (hid_none h3) h4 (nex b)
  · rw [shw_at (nocel b h3)]
    exact I.inv.base.free b o (by show (cut _ _).get? b = _; rw [cut_get h1]; exact h2) (hid_none h3) (nex b)
  · exact I.inv.base.there b o (by show (cut _ _).get? b = _; rw [cut_get h1]; exact h2) (nex b)
  · obtain ⟨q1, q2, _⟩ := I.inv.pin p (List.mem_append_left _ (List.mem_append_left _ hp))
    exact ⟨q1, by rw [shw_at (nocel p.1 (wd.pn p hp))]; exact q2⟩
theorem GIv.prv (ok : G.Ok) (I : GIv G ω ip gp σ H s) {oL : Obj} (ho : s.heap.get? G.env.locals = some oL) (a : Asl G ip gp σ oL) : Prv G s (G.shw H) ω.pn (G.fp oL ip) gp := by
  obtain ⟨nm, qn, _, gd, _⟩ := ok.gen
  refine ⟨fun p hp => ?_, List.mem_cons_of_mem _ List.mem_cons_self, fun q hq => I.gens q hq⟩
  rcases List.mem_cons.mp hp with rfl | hp
  · refine ⟨ho, by rw [shw_at (cel_old ok (Nat.le_refl _))]; exact I.inv.free, Nat.le_refl _, a.dl, fun q hq z => ?_⟩
    exact (I.inv.pin q (List.mem_append_left _ (List.mem_append_left _ hq))).2.2.1 z.symm
  · rcases List.mem_cons.mp hp with rfl | hp
    · obtain ⟨q1, q2, _⟩ := I.inv.pin (G.a, G.go) (List.mem_append_left _ (List.mem_append_right _ (List.mem_singleton.mpr rfl)))
      exact ⟨q1, by rw [shw_at ok.ac]; exact q2, Nat.le_of_lt ok.la, fun v z => (by rw [gd] at z; cases z), fun q hq z => (I.dis q hq).2 z.symm⟩
    · obtain ⟨q1, q2, q3, q4, q5⟩ := I.inv.pin p (List.mem_append_right _ hp)
      refine ⟨q1, ?_, I.ge p hp, q5, fun q hq z => (I.dis q hq).1 p hp z.symm⟩
      cases e : G.cel p.1 with
      | none => rw [shw_at e]; exact q2
      | some t =>
        obtain ⟨x, h1, _⟩ := ok.xcel p.1 t e
        obtain ⟨v, o, ho', hd⟩ := I.inv.cell x p.1 h1
        rw [q1] at ho'; cases ho'
        exact absurd hd (q5 v)
end

/-! ### statements -/
section
variable {G : Gn} {fl : Bool} {st : Stmt} {rest : List Stmt}
def tyPlain (t : TS) : TY := fun D Hg Hw i σ H => t { nx := D.nx Hg Hw i, rt := fun _ _ => False, bk := D.bk Hg Hw i, ct := D.ct Hg Hw i } σ H
theorem GIv.next {ω : Wd} {ip : List (Addr × Obj)} {gp : List (Nat × GenState)} {σ σ' : L2.St} {H H' : Hp} {s s' : Shared} (I : GIv G ω ip gp σ H s) (sl : Slp s s') (J : Inv (G.at ω) ip σ' H' s') : GIv G ω ip gp σ' H' s' :=
  ⟨J, fun q hq => ⟨sl.2 _ _ (I.gens q hq).1 (I.gens q hq).2.1, (I.gens q hq).2⟩, I.dis, I.ge, Nat.lt_of_lt_of_le I.gsz sl.1⟩
theorem gs_ps {t : TS} (h : ∀ ω, WdOk G ω → PS (G.at ω) st t) : GS G fl st (tyPlain t) := by
  refine ⟨fun ω ip gp c fs K J gd lv s σ H i D hfl g wd I ht k => sx_wrap ?_⟩
  rw [g.over]
  refine wpAny_mono (run_slp (Q' := SP (G.at ω) ip { nx := D.nx (G.hid ω.Hg) (G.hid ω.H) i, rt := fun _ _ => False, bk := D.bk (G.hid ω.Hg) (G.hid ω.H) i, ct := D.ct (G.hid ω.Hg) (G.hid ω.H) i }) I.inv (fun z Iz _ => (h ω wd).run ip z σ H _ Iz ht) (fun a z s' h1 h2 h3 h4 => sp_gens h1 h2 h3 h4)) (fun f s' ⟨sl, hs⟩ => ?_) fun _ _ x => x
  cases f with
  | next => obtain ⟨σ', H', I', q⟩ := hs; exact k ω s' σ' H' i .next wd (I.next sl I') q
  | brk => obtain ⟨σ', H', I', q⟩ := hs; exact k ω s' σ' H' i .brk wd (I.next sl I') q
  | cont => obtain ⟨σ', H', I', q⟩ := hs; exact k ω s' σ' H' i .cont wd (I.next sl I') q
  | ret u => obtain ⟨_, _, _, _, _, q⟩ := hs; exact q.elim
def tyNil : TY := fun D Hg Hw i σ H => D.nx Hg Hw i σ H
theorem gss_nil : GSs G fl [] tyNil := ⟨fun ω ip gp c fs K J gd lv s σ H i D hfl g wd I ht k => k ω s σ H i .next wd I ht⟩
def tyThen (t u : TY) : TY := fun D Hg Hw i σ H => t { D with nx := fun a b j σ' H' => u D a b j σ' H' } Hg Hw i σ H
theorem gss_cons {t u : TY} (a : GS G fl st t) (b : GSs G fl rest u) : GSs G fl (st :: rest) (tyThen t u) := by
  refine ⟨fun ω ip gp c fs K J gd lv s σ H i D hfl g wd I ht k => ?_⟩
  rw [execs_cons_wrap]
  refine a.run ω ip gp c fs _ J gd lv s σ H i _ hfl g wd I ht fun ω' s' σ' H' i' f wd' I' q => ?_
  cases f with
  | next => exact b.run ω' ip gp c fs K J gd lv s' σ' H' i' D hfl g wd' I' q k
  | brk => exact k ω' s' σ' H' i' .brk wd' I' q
  | cont => exact k ω' s' σ' H' i' .cont wd' I' q
  | ret u => exact q.elim
/-! ### yield -/
def tyYield (G : Gn) (te : TE) : TY := fun D Hg Hw i σ H => te σ H fun x H1 => i < G.n ∧ G.cok σ ∧ Same Hw H1 ∧ G.item i x H1 ∧
  ∃ Hg', Same Hg' H1 ∧ (∀ b o, Hg' b = some o → Hg b = some o ∨ Hw b = none) ∧ ∀ H2, Same Hg' H2 → D.nx Hg' H2 (i + 1) σ H2
theorem gs_yield {e : Expr} {te : TE} {yp pos : Pos} (ok : G.Ok) (he : ∀ ω, WdOk G ω → PE (G.at ω) e te) (hco : G.env.scope.isCoroutine = false := by rfl) (hi : interactive G.env = false := by rfl) : GS G fl (.Expr (.Yield (some e) yp) pos) (tyYield G te) := by
  refine ⟨fun ω ip gp c fs K J gd lv s σ H i D hfl g wd I ht k => ?_⟩
  rw [exec_Expr G.env _ pos hi rfl]
  have hy : ∀ v, yieldOut G.env v = yieldValue v := fun v => by simp only [yieldOut, hco, Bool.false_eq_true, if_false]
  show SegX (model G.P G.w) ω.A c (.at pos fun _ => ((eval e G.env >>= fun v => (standAt yp >>= fun _ => yieldOut G.env v)) >>= fun x => dropValue (.Yield (some e) yp) pos x).wrap K J gd lv) fs s _
  simp only [hy]
  refine sx_wrap (m := standAt pos) (K := fun _ => ((eval e G.env >>= fun v => (standAt yp >>= fun _ => yieldValue v)) >>= fun x => dropValue (.Yield (some e) yp) pos x).wrap K J gd lv) (J := .raise) (gd := id) (lv := id) (wpAny_standAt ?_)
  rw [Sem.bind_eq_wrap', Sem.bind_eq_wrap', Sem.wrap_wrap, Sem.wrap_wrap]
  refine sx_wrap ?_
  rw [g.over]
  refine wpAny_mono (run_slp (Q' := EP (G.at ω) ip σ _) I.inv (fun z Iz _ => (he ω wd).run ip z σ H _ Iz ht) (fun a z s' h1 h2 h3 h4 => ep_gens h1 h2 h3 h4)) (fun v s' ⟨sl, hs⟩ => ?_) fun _ _ x => x
  obtain ⟨x, H1, I1, rv, hlt, hc, hsm, hit, Hg', hg1, hg2, hnx⟩ := hs
  have J1 := I.next sl I1
  obtain ⟨oL, ho, asl⟩ := J1.asl ok hc
  refine sx_wrap (m := standAt yp) (K := fun _ => _) (J := .raise) (gd := id) (lv := id) (wpAny_standAt ?_)
  obtain ⟨m, hm⟩ : ∃ m, G.n - i = m + 1 := ⟨G.n - i - 1, by omega⟩
  have ncel : ∀ b q, G.cel b = some q → Hg' b = none := fun b q e => by
    cases z : Hg' b with
    | none => rfl
    | some o =>
      obtain ⟨y, h1, _⟩ := ok.xcel b q e
      have h2 : H1 b = none := I1.freeC y b h1
      rw [hg1 b o z] at h2; cases h2
  rintro Γ p rfl hΓ
  refine ⟨_, s', Runs.yield' fs g.split, by simp [End.quiet, g.gd, g.guard], ?_⟩
  rw [show G.goal ω i = RdyP G (m + 1) i ω.Hg ω.s ω.H ω.pn by unfold Gn.goal; rw [hm]]
  refine ⟨v, x, G.shw H1, G.shw Hg', G.fp oL ip, gp, rfl, rv, J1.res ok wd hc hsm, ok.mono _ _ _ _ (fun b o e => ?_) hit, shw_mono hg1, has_shw _, fun b o e => ?_, J1.prv ok ho asl, fun A s2 H2 pn2 ad => ?_⟩
  · cases q : G.cel b with
    | none => rw [shw_at q]; exact e
    | some z =>
      obtain ⟨y, h1, _⟩ := ok.xcel b z q
      have h2 : H1 b = none := I1.freeC y b h1
      rw [e] at h2; cases h2
  · cases q : G.cel b with
    | none =>
      rw [shw_at q] at e
      rcases hg2 b o e with z | z
      · exact .inl (hid_sub _ _ _ z)
      · rw [hid_at q] at z; exact .inr z
    | some z =>
      rw [shw_is q] at e
      exact .inl ((wd.has b z q).trans e)
  · have W := wake ok asl ad
    have sm : Same Hg' (G.hid H2) := same_of_shw ad.rely ncel
    have key := k ⟨A, s2, H2, pn2, G.shw Hg'⟩ s2 σ (G.hid H2) (i + 1) .next ad.wd W (by
      have : G.hid (G.shw Hg') = Hg' := by
        funext b
        cases q : G.cel b with
        | none => rw [hid_at q, shw_at q]
        | some z => rw [hid_no q, ncel b z q]
      show D.nx (G.hid (G.shw Hg')) (G.hid H2) (i + 1) σ (G.hid H2)
      rw [this]
      exact hnx _ sm)
    have e1 : G.n - (i + 1) = m := by omega
    show SegX _ A Γ.code _ fs s2 (RdyP G m (i + 1) (G.shw Hg') s2 H2 pn2)
    rw [← e1]
    exact key
end
end SY

set_option Elab.async false
set_option linter.all false
set_option maxRecDepth 100000
set_option maxHeartbeats 4000000
/-! Generators: who wakes them. -/
namespace SY
open PySem L2 PySem.Spec PyProof.Rows GenW PySem.W.X SC
open Sem (wp)
section
variable {P : Program} {w : World} {A : Around} {E : Value → Shared → Prop} {s : Shared}
theorem sx_quiet {M : Model} {c : Code} {t : Sem PySem.Fin} {fs : List Frame} {R : End → Shared → Prop} (h : SegX M A c t fs s R) : SegX M A c t fs s (fun e s' => e.quiet = true ∧ R e s') := fun Γ p hc hΓ => by
  obtain ⟨e, s', hr, hq, hp⟩ := h Γ p hc hΓ
  exact ⟨e, s', hr, hq, hq, hp⟩
theorem resume_wk {α : Type} {g : Nat} {gs : GenState} {R : End → Shared → Prop} {l : List Value} {k : GenResult → Sem α} {Q : α → Shared → Prop} (hg : s.gens[g]? = some gs) (hw : Wk (model P w) gs A (s.setGen g .running) R)
    (h : ∀ e s1, e.quiet = true → R e s1 → wpAny (model P w) A (k e.result) Q E (s1.setGen g e.genState)) : wpAny (model P w) A (.resume g (.send .none) l k) Q E s := by
  cases gs with
  | fresh c => exact wake_any α P w hg (.inl ⟨rfl, rfl, rfl, rfl⟩) (fun Γ => Γ.In A) (fun _ h => h) ((sx_quiet hw).mono fun e s1 ⟨q, r⟩ => h e s1 q r)
  | suspended k0 l0 c0 p0 fs cl => exact wake_any α P w hg (.inr ⟨k0, l0, p0, cl, rfl, rfl⟩) (fun Γ => Γ.In A) (fun _ h => h) ((sx_quiet hw).mono fun e s1 ⟨q, r⟩ => h e s1 q r)
  | running => exact hw.elim
  | finished => exact hw.elim
/-- next(g) -/
theorem next_wk {a : Addr} {g : Nat} {gs : GenState} {R : End → Shared → Prop} {Q : Option Value → Shared → Prop} (hh : A.handled = none) (hl : s.heap.NoLimit) (hd : A.depth < recursionLimit) (hg : s.heap.IsGen a g) (hgs : s.gens[g]? = some gs)
    (hw : Wk (model P w) gs A.in1 (s.setGen g .running) R) (hR : ∀ e s1, R e s1 → e = .ret (.ok (.ret .none)) ∨ ∃ v, e.result = .yielded v)
    (hY : ∀ e s1 v, e.quiet = true → R e s1 → e.result = .yielded v → Q (some v) (s1.setGen g e.genState))
    (hP : ∀ s1, R (.ret (.ok (.ret .none))) s1 → ∀ h', (∀ b o, s1.heap.get? b = some o → h'.get? b = some o) → Q none { s1.setGen g .finished with heap := h' }) : wpAny (model P w) A (pyNext (.ref a)) Q E s := by
  unfold pyNext
  refine wpAny_bind (wpAny_attempt (wpAny_callSpecial?_slot (name := Str.ofString "__next__") hg.typeIs slot_gen_next (wpAny_call_entry slot_gen_next hg.typeIs entry_gen_next ?_ (args_gen_next _))))
  show wpAny (model P w) A.in1 (Builtin.Generator.genWake (.ref a) (.send .none)) _ _ s
  unfold Builtin.Generator.genWake
  refine wpAny_bind (wpAny_holding (wpAny_genNumber hg (wpAny_bind (wpAny_genState hgs ?_))))
  have fin : ∀ (e : End) (s1 : Shared) (S : Option Value → Shared → Prop), e.quiet = true → R e s1 → True := fun _ _ _ _ _ => trivial
  cases gs with
  | running => exact hw.elim
  | finished => exact hw.elim
  | _ =>
    refine wpAny_bind (wpAny_roomToWake hl hd ?_)
    show wpAny (model P w) A.in1 (.resume g (.send .none) [] _) _ _ s
    refine resume_wk hgs hw fun e s1 hq hr => ?_
    rcases hR e s1 hr with rfl | ⟨v, hv⟩
    · show wpAny (model P w) A.in1 (newExc (.type "StopIteration") [] >>= _) _ _ _
      refine wpAny_bind ?_
      simp only [newExc, newTuple]
      refine wpAny_bind (wpAny_newObj_type ?_ (by size_fits))
      refine wpAny_bind (m := firstArgMember _ _) (wpAny_of_eq (a := Value.none) (by first | rfl | (simp only [firstArgMember]; rfl)) ?_)
      refine wpAny_newObj_type ?_ (by size_fits)
      simp only [raiseNew]
      refine wpAny_bind (wpAny_bind (wpAny_handled ?_))
      first | rw [show A.in1.handled = none from hh] | rw [hh]
      refine wpAny_throw (wpAny_bind (wpAny_isInstance (T := "StopIteration") (b := true) ⟨_, Heap.get?_push_size _ rfl, rfl⟩ isSubtype_stop ?_))
      exact wpAny_pure (hP s1 hr _ fun b o hb => Heap.get?_push_of_some _ (Heap.get?_push_of_some _ hb))
    · rw [hv]
      exact wpAny_pure ⟨v, rfl, wpAny_pure (hY e s1 v hq hr hv)⟩
end
/-! ### a consumer and its generator -/
structure Fits (G : Gn) (X : Cx) : Prop where
  ok : G.Ok
  prog : X.prog = G.P
  w : X.w = G.w
  K : X.K = G.K
  mg : X.mg = G.mg
  base : X.base = G.base
  stack : X.stack = G.outer
  s0 : X.s_0.heap.objs.size ≤ G.env.locals
  cells : ∀ x c, X.env.cells.lookup x = some c → c < G.env.locals
  loc : X.env.locals < G.env.locals ∨ (G.env.locals < X.env.locals ∧ X.env.locals ∉ frs G.outer)
/-- the i-th turn is to come -/
structure Held (G : Gn) (X : Cx) (pins : List (Addr × Obj)) (i : Nat) (Hg : Hp) (fp : List (Addr × Obj)) (gp : List (Nat × GenState)) (gs : GenState) (H : Hp) (s : Shared) : Prop where
  at_ : s.gens[G.g]? = some gs
  rdy : Rdy G i Hg fp gp gs
  has : G.has Hg
  fps : ∀ p ∈ fp, s.heap.get? p.1 = some p.2 ∧ H p.1 = none ∧ G.env.locals ≤ p.1 ∧ (∀ v, p.2.data ≠ .cell v) ∧ p.1 ≠ X.env.locals ∧ ∀ q ∈ X.pn ++ pins, p.1 ≠ q.1
  ga : (G.a, G.go) ∈ fp
  gps : ∀ q ∈ gp, s.gens[q.1]? = some q.2 ∧ susp q.2 = true ∧ G.g < q.1
section
variable {G : Gn} {X : Cx} {pins fp : List (Addr × Obj)} {gp : List (Nat × GenState)} {gs : GenState} {σ : L2.St} {H Hg : Hp} {s : Shared} {i : Nat}
/-- the consumer's frame, if it is younger -/
def lpin (G : Gn) (X : Cx) (h : Heap) : List (Addr × Obj) := if X.env.locals < G.env.locals then [] else pinsAt [X.env.locals] h
theorem lpin_loc {o : Obj} {h : Heap} (e : h.get? X.env.locals = some o) (hl : ¬ X.env.locals < G.env.locals) : (X.env.locals, o) ∈ lpin G X h := by
  unfold lpin
  rw [if_neg hl]
  exact mem_pinsAt List.mem_cons_self e
theorem of_lpin {h : Heap} {p : Addr × Obj} (hp : p ∈ lpin G X h) : p.1 = X.env.locals ∧ h.get? p.1 = some p.2 ∧ ¬ X.env.locals < G.env.locals := by
  unfold lpin at hp
  split at hp
  · simp at hp
  · rename_i hl
    obtain ⟨h1, h2⟩ := of_pinsAt hp
    exact ⟨List.mem_singleton.mp h1, h2, hl⟩
abbrev cpn (G : Gn) (X : Cx) (pins : List (Addr × Obj)) (h : Heap) : List (Addr × Obj) := X.pn ++ pins ++ lpin G X h
theorem held_adm {A : Around} (F : Fits G X) (I : Inv X pins σ H s) (hs : Held G X pins i Hg fp gp gs H s) (hr : Same Hg H) (hA : A.frames = some X.stack) (ro : Room G.k A) : Adm G Hg fp gp A (s.setGen G.g .running) H (cpn G X pins s.heap) := by
  obtain ⟨e1, e2, e3, e4, e5, e6, e7, e8⟩ := I.env0
  rw [F.prog, F.w] at e7
  rw [F.K, F.mg, F.base] at e2
  rw [F.base] at e3 e4 e5
  rw [F.stack] at e5 e6
  refine ⟨⟨by rw [hA, F.stack], e2, e3, e4, e5, e6, e7, allBare_setGen e8 rfl⟩, ro, hr, hs.has, fun p hp => ⟨(hs.fps p hp).1, (hs.fps p hp).2.1⟩, fun q hq => ?_, by show G.g < (s.setGen G.g .running).gens.size; rw [GenW.setGen_size]; exact (Array.getElem?_eq_some_iff.mp hs.at_).1, fun p hp => ?_⟩
  · obtain ⟨h1, _, h3⟩ := hs.gps q hq
    show (s.gens.setIfInBounds G.g .running)[q.1]? = _
    rw [Array.getElem?_setIfInBounds_ne (Nat.ne_of_lt h3)]
    exact h1
  · rcases List.mem_append.mp hp with hp | hp
    · obtain ⟨q1, q2, q3, q4, q5⟩ := I.pin p hp
      refine ⟨q1, q2, ?_, q5, fun q hq z => (hs.fps q hq).2.2.2.2.2 p hp z.symm⟩
      rw [← F.stack]
      intro hm
      rcases List.mem_cons.mp (I.stkSub p.1 hm) with z | z
      · exact q3 z
      · exact q4 z
    · obtain ⟨q1, q2, q3⟩ := of_lpin hp
      refine ⟨q2, by rw [q1]; exact I.free, ?_, fun v z => ?_, fun q hq z => (hs.fps q hq).2.2.2.2.1 (z.symm.trans q1)⟩
      · rw [q1]
        rcases F.loc with z | z
        · exact absurd z q3
        · exact z.2
      · obtain ⟨m, ⟨o, es, ep, ho, hd, _⟩, _⟩ := I.loc
        rw [q1, ho] at q2
        cases q2
        rw [hd] at z
        cases z
theorem inv_res {s1 s2 : Shared} {H1 : Hp} (F : Fits G X) (I : Inv X pins σ H s) (R : Res G (s.setGen G.g .running) H (cpn G X pins s.heap) s1 H1) (ho : s2.os = s1.os) (hh : ∀ b o, s1.heap.get? b = some o → s2.heap.get? b = some o) (hb : AllBare s2.gens) : Inv X pins σ H1 s2 := by
  have neL : ∀ b o, X.s_0.heap.get? b = some o → b ≠ X.env.locals := fun b o e => Nat.ne_of_lt (Nat.lt_of_lt_of_le (Heap.lt_size e) I.ok.above)
  have lt : ∀ b o, X.s_0.heap.get? b = some o → b < G.env.locals := fun b o e => Nat.lt_of_lt_of_le (Heap.lt_size e) F.s0
  have nofr : ∀ b, b ≠ X.env.locals → b ∉ X.fs → b ∉ frs G.outer := fun b h1 h2 hm => by
    rw [← F.stack] at hm
    rcases List.mem_cons.mp (I.stkSub b hm) with z | z
    · exact h1 z
    · exact h2 z
  have any : ∀ b o, b < G.env.locals → s.heap.get? b = some o → H b = none → ∃ sl, s2.heap.get? b = some { o with slots := sl } := fun b o h1 h2 h3 => by
    by_cases hm : b ∈ frs G.outer
    · obtain ⟨sl, q⟩ := R.slot b o h1 h2 h3 hm
      exact ⟨sl, hh _ _ q⟩
    · exact ⟨o.slots, hh _ _ (R.keep b o h1 h2 h3 hm)⟩
  have cellK : ∀ x c, X.env.cells.lookup x = some c → ∀ v, s.heap.IsCell c v → s2.heap.IsCell c v := fun x c e v ⟨o, h1, h2⟩ => by
    obtain ⟨sl, q⟩ := any c o (F.cells x c e) h1 (I.freeC x c e)
    exact ⟨_, q, h2⟩
  have hok : HOk X.prog X.w H1 s2.heap := by rw [F.prog, F.w]; exact R.hok.kept hh
  refine ⟨I.ok, ho.trans (R.os.trans I.os), hb, ⟨fun b o e n hb hx => ?_, fun b o e n hb hx => ?_, fun b o e n hx => ?_, fun b o e hx => ?_, fun b xs e => R.same _ _ (I.base.tups b xs e), fun b o xs e => R.same _ _ (I.base.frzs b o xs e), fun b ps e => ?_⟩, ?_, fun x c e => ?_, ?_, fun x c e => ?_, fun p hp => ?_, hok, I.len⟩
  · exact hh _ _ (R.keep b o (lt b o e) (I.base.keep b o e n hb hx) (I.base.free b o e n hx) (nofr b (neL b o e) hb))
  · obtain ⟨sl, e1⟩ := I.base.slot b o e n hb hx
    obtain ⟨sl2, e2⟩ := any b _ (lt b o e) e1 (I.base.free b o e n hx)
    exact ⟨sl2, e2⟩
  · obtain ⟨o', e1⟩ := I.base.there b o e hx
    exact R.free b o' (lt b o e) e1 (I.base.free b o e n hx)
  · obtain ⟨o', e1⟩ := I.base.there b o e hx
    obtain ⟨o2, e2⟩ := R.there b o' (lt b o e) e1
    exact ⟨o2, hh _ _ e2⟩
  · obtain ⟨more, e1⟩ := I.base.tbls b ps e
    exact ⟨more, R.same _ _ e1⟩
  · obtain ⟨m, ⟨o, es, ep, h1, h2⟩, hl⟩ := I.loc
    have hL : ∃ o', s2.heap.get? X.env.locals = some o' ∧ o'.data = o.data := by
      by_cases z : X.env.locals < G.env.locals
      · obtain ⟨sl, q⟩ := any _ o z h1 I.free
        exact ⟨_, q, rfl⟩
      · exact ⟨o, hh _ _ (R.pins (X.env.locals, o) (List.mem_append_right _ (lpin_loc h1 z))).1, rfl⟩
    obtain ⟨o', q1, q2⟩ := hL
    refine ⟨m, ⟨o', es, ep, q1, by rw [q2]; exact h2.1, h2.2⟩, fun i x v e1 e2 e3 => ?_⟩
    obtain ⟨u, r, l⟩ := hl i x v e1 e2 e3
    rcases l with l | ⟨k, c, e, z⟩
    · exact ⟨u, r, .inl l⟩
    · exact ⟨u, r, .inr ⟨k, c, e, cellK x c e _ z⟩⟩
  · obtain ⟨v, z⟩ := I.cell x c e
    exact ⟨v, cellK x c e v z⟩
  · obtain ⟨m, ⟨o, es, ep, h1, h2⟩, hl⟩ := I.loc
    by_cases z : X.env.locals < G.env.locals
    · exact R.free _ o z h1 I.free
    · exact (R.pins (X.env.locals, o) (List.mem_append_right _ (lpin_loc h1 z))).2
  · obtain ⟨v, o, h1, h2⟩ := I.cell x c e
    exact R.free c o (F.cells x c e) h1 (I.freeC x c e)
  · obtain ⟨q1, q2, q3, q4, q5⟩ := I.pin p hp
    obtain ⟨r1, r2⟩ := R.pins p (List.mem_append_left _ hp)
    exact ⟨hh _ _ r1, r2, q3, q4, q5⟩
theorem held_gen (F : Fits G X) (hs : Held G X pins i Hg fp gp gs H s) : s.heap.IsGen G.a G.g := by
  obtain ⟨nm, qn, h1, h2, h3⟩ := F.ok.gen
  exact ⟨G.go, nm, qn, (hs.fps _ hs.ga).1, h1, h2, h3⟩
theorem setGen_susp {s1 : Shared} {e : End} {v : Value} {g : Nat} (he : e.result = .yielded v) : susp e.genState = true := by
  cases e with
  | ret r => cases r with
    | ok f => cases he
    | error x => cases he
  | susp _ _ _ _ _ _ _ => rfl
/-- what comes at a turn -/
structure Item (G : Gn) (X : Cx) (pins : List (Addr × Obj)) (i : Nat) (σ : L2.St) (H Hg : Hp) (x : V) (H1 Hg1 : Hp) (fp1 : List (Addr × Obj)) (gp1 : List (Nat × GenState)) (gs1 : GenState) (s1 : Shared) : Prop where
  inv : Inv X pins σ H1 s1
  same : Same H H1
  item : G.item i x H1
  rely : Same Hg1 H1
  less : ∀ b o, Hg1 b = some o → Hg b = some o ∨ H b = none
  held : Held G X pins (i + 1) Hg1 fp1 gp1 gs1 H1 s1
  susp : SY.susp gs1 = true
theorem next_item {A : Around} {E : Value → Shared → Prop} {Q : Option Value → Shared → Prop} (F : Fits G X) (I : Inv X pins σ H s) (hs : Held G X pins i Hg fp gp gs H s) (hr : Same Hg H) (hi : i < G.n) (hA : A.frames = some X.stack) (ro : Room (G.k + 1) A)
    (hQ : ∀ u x H1 Hg1 fp1 gp1 gs1 s1, RelV x u → Item G X pins i σ H Hg x H1 Hg1 fp1 gp1 gs1 s1 → Q (some u) s1) : wpAny (model X.prog X.w) A (pyNext (.ref G.a)) Q E s := by
  have ad := held_adm (A := A.in1) F I hs hr hA ro.in1
  obtain ⟨m, hm⟩ : ∃ m, G.n - i = m + 1 := ⟨G.n - i - 1, by omega⟩
  have hw := hs.rdy A.in1 _ H _ ad
  rw [hm] at hw
  rw [F.prog, F.w]
  have gl : G.g < s.gens.size := (Array.getElem?_eq_some_iff.mp hs.at_).1
  refine wpAny_gsz (n := G.g + 1) gl (next_wk ro.hd I.nolimit (by have := ro.dp; omega) (held_gen F hs) hs.at_ hw ?_ ?_ ?_)
  · rintro e s1 ⟨v, _, _, _, _, _, h, _⟩
    exact .inr ⟨v, h⟩
  · rintro e s1 v hq ⟨v', x, H1, Hg1, fp1, gp1, h1, h2, h3, h4, h5, h6, h7, h8, h9⟩ hv hsz
    rw [hv] at h1
    cases h1
    have hb : e.genState.bare = true := End.bare_of_quiet hq
    have gl1 : G.g < s1.gens.size := by
      have q : (s1.setGen G.g e.genState).gens.size = s1.gens.size := GenW.setGen_size _ _ _
      have : G.g + 1 ≤ (s1.setGen G.g e.genState).gens.size := hsz
      omega
    refine hQ v x H1 Hg1 fp1 gp1 e.genState _ h2 ⟨inv_res F I h3 rfl (fun b o e => e) (allBare_setGen h3.bare hb), h3.same, h4, h5, h7, ⟨setGen_at gl1, ?_, h6, fun p hp => ?_, h8.ga, fun q hq => ?_⟩, setGen_susp (s1 := s1) (g := G.g) hv⟩
    · intro A2 s2 H2 pn2 a2
      have q := h9 A2 s2 H2 pn2 a2
      rw [show G.n - (i + 1) = m by omega]
      exact q
    · obtain ⟨q1, q2, q3, q4, q5⟩ := h8.fps p hp
      refine ⟨q1, q2, q3, q4, fun z => ?_, fun q hq => q5 q (List.mem_append_left _ hq)⟩
      by_cases hl : X.env.locals < G.env.locals
      · rw [z] at q3
        exact absurd (Nat.lt_of_lt_of_le hl q3) (Nat.lt_irrefl _)
      · obtain ⟨m', ⟨o, es, ep, ho, _⟩, _⟩ := I.loc
        exact q5 _ (List.mem_append_right _ (lpin_loc ho hl)) z
    · obtain ⟨q1, q2, q3⟩ := h8.gps q hq
      refine ⟨?_, q2, q3⟩
      show (s1.gens.setIfInBounds G.g e.genState)[q.1]? = _
      rw [Array.getElem?_setIfInBounds_ne (Nat.ne_of_lt q3)]
      exact q1
  · rintro s1 ⟨v, _, _, _, _, _, h, _⟩
    cases h
theorem next_done {A : Around} {E : Value → Shared → Prop} {Q : Option Value → Shared → Prop} (F : Fits G X) (I : Inv X pins σ H s) (hs : Held G X pins i Hg fp gp gs H s) (hr : Same Hg H) (hi : i = G.n) (hA : A.frames = some X.stack) (ro : Room (G.k + 1) A)
    (hQ : ∀ H1 s1, Inv X pins σ H1 s1 → Same H H1 → Q none s1) : wpAny (model X.prog X.w) A (pyNext (.ref G.a)) Q E s := by
  have ad := held_adm (A := A.in1) F I hs hr hA ro.in1
  have hw := hs.rdy A.in1 _ H _ ad
  rw [show G.n - i = 0 by omega] at hw
  rw [F.prog, F.w]
  refine next_wk ro.hd I.nolimit (by have := ro.dp; omega) (held_gen F hs) hs.at_ hw ?_ ?_ ?_
  · rintro e s1 ⟨h, _⟩
    exact .inl h
  · rintro e s1 v hq ⟨rfl, _⟩ hv
    cases hv
  · rintro s1 ⟨_, H1, R⟩ h' hk
    exact hQ H1 _ (inv_res F I R rfl hk (allBare_setGen R.bare rfl)) R.same
end
end SY

set_option Elab.async false
set_option linter.all false
set_option maxRecDepth 100000
set_option maxHeartbeats 4000000
/-! Generators: for loops in a generator's body. -/
namespace SY
open PySem L2 PySem.Spec PyProof.Rows GenW PySem.W.X SC
/-- what a for walks, made -/
def comp (iter : Expr) (env : Env) : Sem Value := eval iter env >>= fun v => foldedSetIterable iter env v >>= fun x => standAt iter.pos >>= fun _ => holding [x] (pyIter x)
theorem exec_for_comp {tg iter : Expr} {body : List Stmt} {pos : Pos} {env : Env} : exec (.For tg iter body [] pos) env = (standAt pos >>= fun _ => comp iter env >>= fun it => runOwn (.forLoop tg it body [] env) env) := by
  rw [exec_For]
  unfold comp
  simp only [bind_assoc]
theorem comp_run {M : Model} {A : Around} {iter : Expr} {env : Env} {E : Value → Shared → Prop} {s : Shared} {Q : Value → Shared → Prop} (hs : ∀ x, foldedSetIterable iter env x = pure x) (h : wpAny M A (eval iter env) (fun v s1 => wpAny M A (pyIter v) Q E s1) E s) : wpAny M A (comp iter env) Q E s :=
  wpAny_bind (thn h fun v s1 h1 => wpAny_bind (wpAny_of_eq (hs v) (wpAny_bind (wpAny_standAt (wpAny_holding h1)))))
theorem pie_gens {X : Cx} {pins : List (Addr × Obj)} {σ : L2.St} {tg : Expr} {R : It → Hp → Prop} {u : Value} {z s' : Shared} (hh : z.heap = s'.heap) (ho : z.os = s'.os) (hb : AllBare z.gens → AllBare s'.gens) (h : PIE X pins σ tg R u z) : PIE X pins σ tg R u s' := by
  obtain ⟨it, fp, tn, J, H', h1, h2, h3, h4, h5, h6⟩ := h
  exact ⟨it, fp, tn, J, H', h1, inv_gens h2 hh ho (hb h2.bare), h3, hh ▸ h4, h5, h6⟩
section
variable {P : Program} {w : World} {A : Around} {fs : List Frame} {s : Shared} {R : End → Shared → Prop} {tg : Expr} {it : Value} {body : List Stmt} {env : Env}
/-- one turn of a for: nothing more -/
abbrev forGoes (P : Program) (w : World) (A : Around) (fs : List Frame) (R : End → Shared → Prop) (tg : Expr) (it : Value) (body : List Stmt) (env : Env) (s : Shared) : Prop := SegX (model P w) A (.forLoop tg it body [] env) (denote table (.forLoop tg it body [] env)) fs s R
def forK (tg : Expr) (it : Value) (body : List Stmt) (env : Env) : Flow → Sem PySem.Fin
  | .next => .pure (.again (.forLoop tg it body [] env))
  | .cont => .pure (.again (.forLoop tg it body [] env))
  | .brk => .pure (.done .next)
  | .ret v => .pure (.done (.ret v))
def forJ (env : Env) (x : Value) : Sem PySem.Fin := (do noteFrame x env; theTreesLotGoes x : Sem Unit).bind fun _ => .raise x
theorem sx_for (h : wpAny (model P w) (A.over (.forLoop tg it body [] env) fs) (pyNext it) (fun r s1 => match r with
      | none => SegX (model P w) A (.block [] env) (.pure (.done .next)) fs s1 R
      | some v => SegX (model P w) A (.forLoop tg it body [] env) ((letOwnedTupleGo tg it v >>= fun _ => assign tg env v >>= fun _ => execs body env).wrap (forK tg it body env) (forJ env) id id) fs s1 R) (fun _ _ => False) s) : forGoes P w A fs R tg it body env s := by
  show SegX (model P w) A _ ((forTurn tg it body [] env).onRaise (fun x => do noteFrame x env; theTreesLotGoes x)) fs s R
  rw [Sem.onRaise_eq_wrap]
  unfold forTurn
  refine sx_bindw (wpAny_standAt (sx_bindw (wpAny_onRaise (wpAny_mono h (fun r s1 h1 => ?_) fun _ _ z => z.elim))))
  cases r with
  | none => exact s_again P w A _ fs R s1 (.block [] env) rfl h1
  | some v =>
    have e : ((letOwnedTupleGo tg it v >>= fun _ => assign tg env v >>= fun _ => execs body env >>= fun f => match f with
        | .next | .cont => again (.forLoop tg it body [] env)
        | .brk => pure (.done .next)
        | .ret v => pure (.done (.ret v)))).wrap .pure (fun e => (do noteFrame e env; theTreesLotGoes e : Sem Unit).bind fun _ => .raise e) id id =
        (letOwnedTupleGo tg it v >>= fun _ => assign tg env v >>= fun _ => execs body env).wrap (forK tg it body env) (forJ env) id id := by
      rw [show (letOwnedTupleGo tg it v >>= fun _ => assign tg env v >>= fun _ => execs body env >>= fun f => match f with
        | .next | .cont => again (.forLoop tg it body [] env)
        | .brk => pure (.done .next)
        | .ret v => pure (.done (.ret v))) = ((letOwnedTupleGo tg it v >>= fun _ => assign tg env v >>= fun _ => execs body env) >>= fun f => match f with
        | .next | .cont => again (.forLoop tg it body [] env)
        | .brk => pure (.done .next)
        | .ret v => pure (.done (.ret v))) by simp only [bind_assoc]]
      rw [Sem.bind_eq_wrap', Sem.wrap_wrap]
      exact Sem.wrap_congr _ _ _ (fun f => by cases f <;> rfl) (fun _ => rfl)
    exact s_eq P w A _ fs R s1 _ _ e h1
end
section
variable {G : Gn} {fl : Bool} {tg iter : Expr} {body : List Stmt} {pos : Pos}
/-- for over what PI serves, with yields within -/
def tyFor (wi : TI) (g : TG) (tb : TY) : TY := fun D Hg Hw i σ H => wi σ H fun J H1 => ∃ W : Nat → Nat → GK, (∃ m, W 0 m Hg Hw i σ H1) ∧ ∀ j m Hg Hw i σ H, W j m Hg Hw i σ H →
  (J.stop j H ∧ D.nx Hg Hw i σ H) ∨ (J.go j H ∧ ∃ N : GK, (∀ a b i' σ' H', N a b i' σ' H' → ∃ m', m' < m ∧ W (j + 1) m' a b i' σ' H') ∧ ∀ x H', J.yld j H x H' → g x σ H' fun σ2 H2 => tb { nx := N, ct := N, bk := D.nx } Hg Hw i σ2 H2)
theorem gcn_loop {c c' : Code} {fs : List Frame} {gd : Bool → Bool} {k : Result → Sem PySem.Fin} {l kp : List Value} {p : Pos} (g : GCn G c fs gd) (hw : c'.weight = 0) (hu : c'.cUnits = 0) : GCn G c' (.ret k none (gd false) l c p kp :: fs) id where
  over := fun A => (over_loop hw hu).trans (g.over A)
  split := split_ret' g.split
  guard := by
    show (gd false || fs.any Frame.guarded) = false
    rw [g.gd, g.guard]; rfl
  gd := rfl
theorem GIv.unpin {ω : Wd} {ip pl : List (Addr × Obj)} {gp : List (Nat × GenState)} {σ : L2.St} {H : Hp} {s : Shared} (I : GIv G ω (ip ++ pl) gp σ H s) : GIv G ω ip gp σ H s :=
  ⟨I.inv.unpinned, I.gens, fun p hp => ⟨fun q hq => (I.dis p hp).1 q (List.mem_append_left _ hq), (I.dis p hp).2⟩, fun q hq => I.ge q (List.mem_append_left _ hq), I.gsz⟩
/-- what stays true of an iterator's objects -/
structure FpS (G : Gn) (ip : List (Addr × Obj)) (b : Addr) : Prop where
  l : b ≠ G.env.locals
  f : b ∉ frs G.outer
  ge : G.env.locals ≤ b
  c : ∀ x c, G.env.cells.lookup x = some c → c ≠ b
  a : b ≠ G.a
  i : ∀ p ∈ ip, p.1 ≠ b
theorem FpS.of {ω : Wd} {ip : List (Addr × Obj)} {H : Hp} {b : Addr} (wd : WdOk G ω) (h : FpOk (G.at ω) ip H b) : FpS G ip b := by
  obtain ⟨_, q2, q3, q4, q5, q6⟩ := h
  refine ⟨q2, q3, ?_, q5, fun z => q6 (G.a, G.go) (List.mem_append_left _ (List.mem_append_right _ (List.mem_singleton.mpr rfl))) z.symm, fun p hp => q6 p (List.mem_append_right _ hp)⟩
  rcases q4 with z | z
  · exact absurd (show b ∈ ([] : List Addr) from z) (by simp)
  · have z' : (cut ω.s.heap G.env.locals).objs.size ≤ b := z
    rw [cut_size, Nat.min_eq_left (Nat.le_of_lt wd.wl)] at z'
    exact z'
theorem FpS.ok {ω : Wd} {ip : List (Addr × Obj)} {H : Hp} {b : Addr} (wd : WdOk G ω) (h : FpS G ip b) (hn : H b = none) (hp : ∀ p ∈ ω.pn, p.1 ≠ b) : FpOk (G.at ω) ip H b := by
  refine ⟨hn, h.l, h.f, .inr ?_, h.c, fun p hq => ?_⟩
  · show (cut ω.s.heap G.env.locals).objs.size ≤ b
    rw [cut_size, Nat.min_eq_left (Nat.le_of_lt wd.wl)]
    exact h.ge
  · rcases List.mem_append.mp hq with hq | hq
    · rcases List.mem_append.mp (show p ∈ ω.pn ++ [(G.a, G.go)] from hq) with hq | hq
      · exact hp p hq
      · rw [List.mem_singleton.mp hq]; exact fun z => h.a z.symm
    · exact h.i p hq
theorem pg_slp {X : Cx} {pins : List (Addr × Obj)} {σ : L2.St} {H : Hp} {s : Shared} {t : TG} {x : V} {u : Value} {Q : L2.St → Hp → Prop} {E : Value → Shared → Prop} (hx : ∀ e s, X.xe e s → False) (h : PG X tg t) (I : Inv X pins σ H s) (r : RelV x u) (ht : t x σ H Q) :
    wpAny (model X.prog X.w) X.A (assign tg X.env u) (fun _ s' => Slp s s' ∧ ∃ σ' H', Inv X pins σ' H' s' ∧ Q σ' H') E s :=
  run_slp I (fun z Iz _ => wpAny_mono (h.run pins z σ H x u Q Iz r ht) (fun _ _ y => y) fun e s q => (hx e s q)) fun _ z s' h1 h2 h3 ⟨σ', H', I', q⟩ => ⟨σ', H', inv_gens I' h1 h2 (h3 I'.bare), q⟩
theorem gs_loop {wi : TI} {g : TG} {tb : TY} {D : GD} {ip : List (Addr × Obj)} {gp : List (Nat × GenState)} {c : Code} {fs : List Frame} {K : Flow → Sem PySem.Fin} {gd : Bool → Bool} {kf : Result → Sem PySem.Fin} {l : List Value} {p : Pos}
    {it : Addr} {fpT : List Addr} {tn : Nat → Heap → Prop} {Jt : It} {W : Nat → Nat → GK} (hg : ∀ ω, WdOk G ω → PG (G.at ω) tg g) (hb : GSs G fl body tb) (hfl : fl = true → gp = []) (gc : GCn G c fs gd) (k : GCont G ip gp c fs K D) (hk : kf (.ok .next) = K .next) (T : Turn G.P G.w G.K tg Jt fpT it tn) (hf : ∀ b ∈ fpT, FpS G ip b)
    (turn : ∀ j m Hg Hw i σ H, W j m Hg Hw i σ H → (Jt.stop j H ∧ D.nx Hg Hw i σ H) ∨ (Jt.go j H ∧ ∃ N : GK, (∀ a b i' σ' H', N a b i' σ' H' → ∃ m', m' < m ∧ W (j + 1) m' a b i' σ' H') ∧ ∀ x H', Jt.yld j H x H' → g x σ H' fun σ2 H2 => tb { nx := N, ct := N, bk := D.nx } Hg Hw i σ2 H2)) :
    ∀ (m : Nat) (ω : Wd) (s : Shared) (σ : L2.St) (H : Hp) (i j : Nat), WdOk G ω → GIv G ω ip gp σ H s → tn j s.heap → (∀ b ∈ fpT, H b = none ∧ ∀ p ∈ ω.pn, p.1 ≠ b) → W j m (G.hid ω.Hg) (G.hid ω.H) i σ H →
      forGoes G.P G.w ω.A (.ret kf none (gd false) l c p [] :: fs) (G.goal ω i) tg (.ref it) body G.env s := by
  have gl := gcn_loop (k := kf) (c' := .forLoop tg (.ref it) body [] G.env) (l := l) (kp := []) (p := p) gc rfl rfl
  intro m
  induction m using Nat.strongRecOn with
  | ind m ih =>
    intro ω s σ H i j wd I st fr w
    have fok : ∀ b ∈ fpT, FpOk (G.at ω) ip H b := fun b hb => (hf b hb).ok wd (fr b hb).1 (fr b hb).2
    refine sx_for ?_
    rw [gl.over]
    rcases turn j m _ _ i σ H w with ⟨stop, qn⟩ | ⟨go, N, hN, step⟩
    · refine wpAny_mono (run_slp (Q' := fun r s1 => r = none ∧ Inv (G.at ω) ip σ H s1) I.inv (fun z Iz hz => T.done (G.at ω) rfl rfl rfl rfl j ip z σ H _ Iz fok (hz ▸ st) stop) (fun r z s' h1 h2 h3 ⟨hr, I'⟩ => ⟨hr, inv_gens I' h1 h2 (h3 I'.bare)⟩)) (fun r s1 ⟨sl, hr, I1⟩ => ?_) fun _ _ x => x
      subst hr
      refine s_pop G.P G.w ω.A _ fs _ s1 (.ok .next) _ rfl kf none (gd false) l c p [] ?_
      rw [hk]
      exact k ω s1 σ H i .next wd (I.next sl I1) qn
    · refine wpAny_mono (wpAny_tw (T.item (G.at ω) rfl rfl rfl rfl j ip (asleep s) σ H (fun _ _ => False) (inv_asleep I.inv) fok st go) (tw_asleep s)) (fun r s1 ⟨z1, t1, u, hr, h1⟩ => ?_) fun _ _ ⟨_, _, x⟩ => x
      subst hr
      refine sx_bindw ?_
      rw [gl.over]
      refine wpAny_mono (wpAny_tw h1 t1) (fun _ s2 ⟨z2, t2, x, H2, I2, r2, y2, st2, n2⟩ => ?_) fun _ _ ⟨_, _, x⟩ => x
      have I2' : Inv (G.at ω) ip σ H2 s2 := tw_inv t2 I.inv.bare I2
      have st2' : tn (j + 1) s2.heap := t2.heap ▸ st2
      have J2 := I.next (tw_slp t2) I2'
      have fok2 : ∀ b ∈ fpT, FpOk (G.at ω) ip H2 b := fun b hb => (hf b hb).ok wd (n2 b hb) (fr b hb).2
      have I3 := I2'.pinned fok2 (T.obj _ _ st2')
      have J3 : GIv G ω (ip ++ pinsAt fpT s2.heap) gp σ H2 s2 := ⟨I3, J2.gens, fun p hp => ⟨fun q hq => ?_, (J2.dis p hp).2⟩, fun q hq => ?_, J2.gsz⟩
      · refine sx_bindw ?_
        rw [gl.over]
        refine wpAny_mono (pg_slp (fun _ _ h => h) (hg ω wd) I3 r2 (step x H2 y2)) (fun _ s3 ⟨sl3, σ3, H3, I4, q4⟩ => ?_) fun _ _ x => x
        refine hb.run ω (ip ++ pinsAt fpT s2.heap) gp _ _ _ _ id id s3 σ3 H3 i _ hfl gl wd (J3.next sl3 I4) q4 fun ω' s' σ' H' i' f wd' I' q => ?_
        have again : N (G.hid ω'.Hg) (G.hid ω'.H) i' σ' H' → forGoes G.P G.w ω'.A (.ret kf none (gd false) l c p [] :: fs) (G.goal ω' i') tg (.ref it) body G.env s' := fun q => by
          obtain ⟨m', hm, w'⟩ := hN _ _ _ _ _ q
          have pin' : ∀ b ∈ fpT, ∀ o, s2.heap.get? b = some o → s'.heap.get? b = some o ∧ H' b = none := fun b hb o e =>
            let z := I'.inv.pin (b, o) (List.mem_append_right _ (List.mem_append_right _ (mem_pinsAt hb e)))
            ⟨z.1, z.2.1⟩
          refine ih m' hm ω' s' σ' H' i' (j + 1) wd' I'.unpin (T.keep _ _ _ st2' fun b hb o e => (pin' b hb o e).1) (fun b hb => ?_) w'
          obtain ⟨o, e, _⟩ := T.obj _ _ st2' b hb
          exact ⟨(pin' b hb o e).2, fun p hp => (I'.dis p hp).1 (b, o) (List.mem_append_right _ (mem_pinsAt hb e))⟩
        cases f with
        | next => exact s_again G.P G.w ω'.A _ _ _ s' _ rfl (again q)
        | cont => exact s_again G.P G.w ω'.A _ _ _ s' _ rfl (again q)
        | brk =>
          refine s_pop G.P G.w ω'.A _ fs _ s' (.ok .next) _ rfl kf none (gd false) l c p [] ?_
          rw [hk]
          exact k ω' s' σ' H' i' .next wd' I'.unpin q
        | ret v => exact q.elim
      · rcases List.mem_append.mp hq with hq | hq
        · exact (J2.dis p hp).1 q hq
        · obtain ⟨h1, _⟩ := of_pinsAt hq
          exact (fr q.1 h1).2 p hp
      · rcases List.mem_append.mp hq with hq | hq
        · exact J2.ge q hq
        · obtain ⟨h1, _⟩ := of_pinsAt hq
          exact (hf q.1 h1).ge
theorem gs_for {wi : TI} {g : TG} {tb : TY} (hL : ∀ ω, WdOk G ω → PI (G.at ω) tg iter wi) (hg : ∀ ω, WdOk G ω → PG (G.at ω) tg g) (hb : GSs G fl body tb) (hs : ∀ x, foldedSetIterable iter G.env x = pure x := by intro _; rfl) : GS G fl (.For tg iter body [] pos) (tyFor wi g tb) := by
  refine ⟨fun ω ip gp c fs K J gd lv s σ H i D hfl gc wd I ht k => ?_⟩
  rw [exec_for_comp]
  refine sx_bindw (wpAny_standAt (sx_bindw ?_))
  rw [gc.over]
  refine wpAny_mono (run_slp (Q' := PIE (G.at ω) ip σ tg _) I.inv (fun z Iz _ => comp_run hs ((hL ω wd).run ip z σ H _ Iz ht)) (fun a z s' h1 h2 h3 h4 => pie_gens h1 h2 h3 h4)) (fun itv s2 ⟨sl, hp⟩ => ?_) fun _ _ x => x
  obtain ⟨it, fpT, tn, Jt, H2, rfl, I2, T, st2, f2, W, ⟨m0, w0⟩, turn⟩ := hp
  refine s_call G.P G.w ω.A c fs _ s2 (.forLoop tg (.ref it) body [] G.env) none (gd false) (lv []) _ fun p => ?_
  refine gs_loop (it := it) (wi := wi) hg hb hfl gc k rfl T (fun b hb => FpS.of wd (f2 b hb)) turn m0 ω s2 σ H2 i 0 wd (I.next sl I2) st2 (fun b hb => ⟨(f2 b hb).1, fun p hp => (f2 b hb).2.2.2.2.2 p (List.mem_append_left _ (List.mem_append_left _ hp))⟩) w0
end
end SY

set_option Elab.async false
set_option linter.all false
set_option maxRecDepth 100000
set_option maxHeartbeats 4000000
/-! Generators walked by a for, in a generator's body and in a def's. -/
namespace SY
open PySem L2 PySem.Spec PyProof.Rows GenW PySem.W.X SC
/-- an expression whose value is a generator: how many it gives, what each is, what it leans on, the heap -/
abbrev TGy := L2.St → Hp → (Nat → (Nat → V → Hp → Prop) → Hp → Hp → Prop) → Prop
def Made (X : Cx) (pins : List (Addr × Obj)) (kk lo : Nat) (σ : L2.St) (R : Nat → (Nat → V → Hp → Prop) → Hp → Hp → Prop) (u : Value) (s : Shared) : Prop :=
  ∃ G H1 Hg fp gs, u = .ref G.a ∧ G.k = kk ∧ lo ≤ G.g ∧ Fits G X ∧ Inv X pins σ H1 s ∧ Held G X pins 0 Hg fp [] gs H1 s ∧ susp gs = false ∧ X.env.locals < G.env.locals ∧ Same Hg H1 ∧ R G.n G.item Hg H1
structure PGn (X : Cx) (kk : Nat) (e : Expr) (t : TGy) : Prop where
  run : ∀ (pins : List (Addr × Obj)) (s : Shared) (σ : L2.St) (H : Hp) (R : Nat → (Nat → V → Hp → Prop) → Hp → Hp → Prop), Inv X pins σ H s → t σ H R → wpAny (model X.prog X.w) X.A (eval e X.env) (Made X pins kk s.gens.size σ R) X.xe s
section
variable {X : Cx} {pins : List (Addr × Obj)} {σ : L2.St} {kk lo : Nat} {R : Nat → (Nat → V → Hp → Prop) → Hp → Hp → Prop} {u : Value} {s z s' : Shared}
theorem made_tw (t : Tw s.gens.size (blkd s) z s') (hb : AllBare s.gens) (h : Made X pins kk lo σ R u z) : Made X pins kk lo σ R u s' := by
  obtain ⟨G, H1, Hg, fp, gs, h1, h2, h3, h4, h5, h6, h7, h8, h9, h10⟩ := h
  refine ⟨G, H1, Hg, fp, gs, h1, h2, h3, h4, tw_inv t hb h5, ⟨(t.open h7 h6.at_).2, h6.rdy, h6.has, fun p hp => ?_, h6.ga, fun q hq => by simp at hq⟩, h7, h8, h9, h10⟩
  have := h6.fps p hp
  rw [t.heap] at this
  exact this
theorem made_iter {M : Model} {E : Value → Shared → Prop} {A : Around} (h : Made X pins kk lo σ R u s) : wpAny (model X.prog X.w) A (pyIter u) (Made X pins kk lo σ R) E s := by
  obtain ⟨G, H1, Hg, fp, gs, rfl, h⟩ := h
  exact wpAny_pyIter_gen (held_gen h.2.2.1 h.2.2.2.2.1) ⟨G, H1, Hg, fp, gs, rfl, h⟩
/-- all that a held generator keeps is pinned -/
theorem held_pin {G : Gn} {i : Nat} {Hg H : Hp} {fp : List (Addr × Obj)} {gp : List (Nat × GenState)} {gs : GenState} (F : Fits G X) (I : Inv X pins σ H s) (hs : Held G X pins i Hg fp gp gs H s) : Inv X (pins ++ fp) σ H s :=
  I.pins_of fun p hp => (List.mem_append.mp hp).elim (fun z => I.pin p (List.mem_append_right _ z)) fun z => by
    obtain ⟨h1, h2, h3, h4, h5, h6⟩ := hs.fps p z
    refine ⟨h1, h2, h5, fun hm => ?_, h4⟩
    have : p.1 ∈ frs G.outer := by
      rw [← F.stack]
      rcases I.ok.stk with e | ⟨e, hf⟩
      · rw [e]; exact hm
      · rw [e]
        unfold frs
        rw [List.filterMap_cons, hf]
        exact List.mem_cons_of_mem _ hm
    exact absurd (Nat.lt_of_lt_of_le (F.ok.frl _ this) h3) (Nat.lt_irrefl _)
theorem let_gen {G : Gn} {A : Around} {tg : Expr} {v : Value} {Q : Unit → Shared → Prop} {E : Value → Shared → Prop} {M : Model} (ok : G.Ok) (h : s.heap.get? G.a = some G.go) (hQ : Q () s) : wpAny M A (letOwnedTupleGo tg (.ref G.a) v) Q E s := by
  obtain ⟨nm, qn, h1, h2, _⟩ := ok.gen
  exact go_of h h1 h2 (by decide) hQ
end
section
variable {G : Gn} {tg iter : Expr} {body : List Stmt} {pos : Pos}
def tyForG (ti : TGy) (g : TG) (tb : TY) : TY := fun D Hg Hw i σ H => ti σ H fun n item Hq H1 => ∃ W : Nat → Hp → GK, W 0 Hq Hg Hw i σ H1 ∧ ∀ j Hq Hg Hw i σ H, W j Hq Hg Hw i σ H → j ≤ n ∧ Same Hq H ∧ (j = n → ∀ H', Same H H' → D.nx Hg Hw i σ H') ∧
  (j < n → ∀ x H' Hq', Same H H' → item j x H' → Same Hq' H' → (∀ b o, Hq' b = some o → Hq b = some o ∨ H b = none) → g x σ H' fun σ2 H2 => tb { nx := W (j + 1) Hq', ct := W (j + 1) Hq', bk := D.nx } Hg Hw i σ2 H2)
/-- the inner generator fits at every waking of the outer one -/
theorem fits_any {G2 : Gn} {ω ω' : Wd} (F : Fits G2 (G.at ω)) (wd : WdOk G ω) (wd' : WdOk G ω') : Fits G2 (G.at ω') :=
  ⟨F.ok, F.prog, F.w, F.K, F.mg, F.base, F.stack, by
    have h1 := F.s0
    show (cut ω'.s.heap G.env.locals).objs.size ≤ _
    have h2 : (cut ω.s.heap G.env.locals).objs.size ≤ G2.env.locals := h1
    rw [cut_size, Nat.min_eq_left (Nat.le_of_lt wd.wl)] at h2
    rw [cut_size, Nat.min_eq_left (Nat.le_of_lt wd'.wl)]
    exact h2, F.cells, F.loc⟩
theorem gs_loopG {g : TG} {tb : TY} {D : GD} {ip : List (Addr × Obj)} {c : Code} {fs : List Frame} {K : Flow → Sem PySem.Fin} {gd : Bool → Bool} {kf : Result → Sem PySem.Fin} {l : List Value} {p : Pos}
    {G2 : Gn} {W : Nat → Hp → GK} (hg : ∀ ω, WdOk G ω → PG (G.at ω) tg g) (hb : GSs G false body tb) (gc : GCn G c fs gd) (k : GCont G ip [] c fs K D) (hk : kf (.ok .next) = K .next) (hkk : G2.k + 2 ≤ G.k) (hlt : G.g < G2.g) (hF : ∀ ω, WdOk G ω → Fits G2 (G.at ω))
    (turn : ∀ j Hq Hg Hw i σ H, W j Hq Hg Hw i σ H → j ≤ G2.n ∧ Same Hq H ∧ (j = G2.n → ∀ H', Same H H' → D.nx Hg Hw i σ H') ∧
      (j < G2.n → ∀ x H' Hq', Same H H' → G2.item j x H' → Same Hq' H' → (∀ b o, Hq' b = some o → Hq b = some o ∨ H b = none) → g x σ H' fun σ2 H2 => tb { nx := W (j + 1) Hq', ct := W (j + 1) Hq', bk := D.nx } Hg Hw i σ2 H2)) :
    ∀ (r : Nat) (ω : Wd) (s : Shared) (σ : L2.St) (H : Hp) (i j : Nat) (Hq : Hp) (fp : List (Addr × Obj)) (gp : List (Nat × GenState)) (gs : GenState), G2.n - j = r → WdOk G ω → GIv G ω ip [] σ H s → Held G2 (G.at ω) ip j Hq fp gp gs H s → W j Hq (G.hid ω.Hg) (G.hid ω.H) i σ H →
      forGoes G.P G.w ω.A (.ret kf none (gd false) l c p [] :: fs) (G.goal ω i) tg (.ref G2.a) body G.env s := by
  have gl := gcn_loop (k := kf) (c' := .forLoop tg (.ref G2.a) body [] G.env) (l := l) (kp := []) (p := p) gc rfl rfl
  intro r
  induction r with
  | zero =>
    intro ω s σ H i j Hq fp gp gs hr wd I hd w
    obtain ⟨h1, h2, h3, h4⟩ := turn j Hq _ _ i σ H w
    have F := hF ω wd
    have ro : Room (G2.k + 1) (ω.A.deeper G.env) := Room.deeper (wd.room.mono (by omega)) G.env
    refine sx_for ?_
    rw [gl.over]
    refine wpAny_gsz (n := G.g + 1) I.gsz (next_done (X := G.at ω) F I.inv hd h2 (by omega) I.inv.ok.frames ro fun H1 s1 I1 sm hsz => ?_)
    refine s_pop G.P G.w ω.A _ fs _ s1 (.ok .next) _ rfl kf none (gd false) l c p [] ?_
    rw [hk]
    exact k ω s1 σ H1 i .next wd ⟨I1, fun q hq => by simp at hq, I.dis, I.ge, hsz⟩ (h3 (by omega) H1 sm)
  | succ r ih =>
    intro ω s σ H i j Hq fp gp gs hr wd I hd w
    obtain ⟨h1, h2, h3, h4⟩ := turn j Hq _ _ i σ H w
    have F := hF ω wd
    have ro : Room (G2.k + 1) (ω.A.deeper G.env) := Room.deeper (wd.room.mono (by omega)) G.env
    refine sx_for ?_
    rw [gl.over]
    refine wpAny_gsz (n := G.g + 1) I.gsz (next_item (X := G.at ω) F I.inv hd h2 (by omega) I.inv.ok.frames ro fun u x H1 Hg1 fp1 gp1 gs1 s1 rv it hsz => ?_)
    refine sx_bindw (let_gen F.ok ((it.held.fps _ it.held.ga).1) ?_)
    have I3 := held_pin F it.inv it.held
    have J3 : GIv G ω (ip ++ fp1) ((G2.g, gs1) :: gp1) σ H1 s1 := by
      refine ⟨I3, fun q hq => ?_, fun p hp => ⟨fun q hq => ?_, (I.dis p hp).2⟩, fun q hq => ?_, hsz⟩
      · rcases List.mem_cons.mp hq with rfl | hq
        · exact ⟨it.held.at_, it.susp, hlt⟩
        · obtain ⟨q1, q2, q3⟩ := it.held.gps q hq
          exact ⟨q1, q2, Nat.lt_trans hlt q3⟩
      · rcases List.mem_append.mp hq with hq | hq
        · exact (I.dis p hp).1 q hq
        · exact fun z => (it.held.fps q hq).2.2.2.2.2 p (List.mem_append_left _ (List.mem_append_left _ hp)) z.symm
      · rcases List.mem_append.mp hq with hq | hq
        · exact I.ge q hq
        · have h5 := (it.held.fps q hq).2.2.1
          have h6 : G.env.locals < G2.env.locals := F.ok.frl _ (by
            rw [← F.stack]
            show G.env.locals ∈ frs (G.env :: G.outer)
            have hf : G.env.frame = some G.env.locals := by
              rcases I.inv.ok.stk with e | ⟨_, e⟩
              · exact absurd (congrArg List.length e) (by show (G.env :: G.outer).length ≠ G.outer.length; simp)
              · exact e
            unfold frs
            rw [List.filterMap_cons, hf]
            exact List.mem_cons_self)
          exact Nat.le_of_lt (Nat.lt_of_lt_of_le h6 h5)
    refine sx_bindw ?_
    rw [gl.over]
    refine wpAny_mono (pg_slp (fun _ _ h => h) (hg ω wd) I3 rv (h4 (by omega) x H1 Hg1 it.same it.item it.rely it.less)) (fun _ s3 ⟨sl3, σ3, H3, I4, q4⟩ => ?_) fun _ _ x => x
    refine hb.run ω (ip ++ fp1) ((G2.g, gs1) :: gp1) _ _ _ _ id id s3 σ3 H3 i _ (fun z => by cases z) gl wd (J3.next sl3 I4) q4 fun ω' s' σ' H' i' f wd' I' q => ?_
    have un : GIv G ω' ip [] σ' H' s' := ⟨I'.inv.unpinned, fun q hq => by simp at hq, fun p hp => ⟨fun q hq => (I'.dis p hp).1 q (List.mem_append_left _ hq), (I'.dis p hp).2⟩, fun q hq => I'.ge q (List.mem_append_left _ hq), I'.gsz⟩
    have again : W (j + 1) Hg1 (G.hid ω'.Hg) (G.hid ω'.H) i' σ' H' → forGoes G.P G.w ω'.A (.ret kf none (gd false) l c p [] :: fs) (G.goal ω' i') tg (.ref G2.a) body G.env s' := fun q => by
      refine ih ω' s' σ' H' i' (j + 1) Hg1 fp1 gp1 gs1 (by omega) wd' un ⟨(I'.gens _ List.mem_cons_self).1, it.held.rdy, it.held.has, fun p hp => ?_, it.held.ga, fun q hq => ?_⟩ q
      · obtain ⟨q1, q2, q3, q4, q5⟩ := I'.inv.pin p (List.mem_append_right _ (List.mem_append_right _ hp))
        obtain ⟨_, _, r3, r4, r5, r6⟩ := it.held.fps p hp
        refine ⟨q1, q2, r3, r4, q3, fun q hq => ?_⟩
        rcases List.mem_append.mp hq with hq | hq
        · rcases List.mem_append.mp (show q ∈ ω'.pn ++ [(G.a, G.go)] from hq) with hq | hq
          · exact fun z => (I'.dis q hq).1 p (List.mem_append_right _ hp) z.symm
          · exact r6 q (List.mem_append_left _ (List.mem_append_right _ hq))
        · exact r6 q (List.mem_append_right _ hq)
      · exact ⟨(I'.gens q (List.mem_cons_of_mem _ hq)).1, (it.held.gps q hq).2⟩
    cases f with
    | next => exact s_again G.P G.w ω'.A _ _ _ s' _ rfl (again q)
    | cont => exact s_again G.P G.w ω'.A _ _ _ s' _ rfl (again q)
    | brk =>
      refine s_pop G.P G.w ω'.A _ fs _ s' (.ok .next) _ rfl kf none (gd false) l c p [] ?_
      rw [hk]
      exact k ω' s' σ' H' i' .next wd' un q
    | ret v => exact q.elim
theorem gs_forG {kk : Nat} {ti : TGy} {g : TG} {tb : TY} (hL : ∀ ω, WdOk G ω → PGn (G.at ω) kk iter ti) (hkk : kk + 2 ≤ G.k) (hg : ∀ ω, WdOk G ω → PG (G.at ω) tg g) (hb : GSs G false body tb) (hs : ∀ x, foldedSetIterable iter G.env x = pure x := by intro _; rfl) : GS G true (.For tg iter body [] pos) (tyForG ti g tb) := by
  refine ⟨fun ω ip gp c fs K J gd lv s σ H i D hfl gc wd I ht k => ?_⟩
  obtain rfl := hfl rfl
  rw [exec_for_comp]
  refine sx_bindw (wpAny_standAt (sx_bindw ?_))
  rw [gc.over]
  have r0 := comp_run (M := model G.P G.w) (A := ω.A.deeper G.env) (E := fun _ _ => False) hs (thn ((hL ω wd).run ip (asleep s) σ H _ (inv_asleep I.inv) ht) fun u s1 h1 => made_iter (M := model G.P G.w) h1)
  refine wpAny_mono (wpAny_tw r0 (tw_asleep s)) (fun itv s2 ⟨z2, t2, hm⟩ => ?_) fun _ _ ⟨_, _, x⟩ => x
  have hm' := made_tw t2 I.inv.bare hm
  have sl := tw_slp t2
  obtain ⟨G2, H1, Hq, fp, gs, rfl, hk2, h3, h4, h5, h6, h7, _, h8, W, w0, turn⟩ := hm'
  have e3 : (asleep s).gens.size = s.gens.size := by simp [asleep]
  rw [e3] at h3
  refine s_call G.P G.w ω.A c fs _ s2 (.forLoop tg (.ref G2.a) body [] G.env) none (gd false) (lv []) _ fun p => ?_
  exact gs_loopG (G2 := G2) hg hb gc k rfl (by omega) (Nat.lt_of_lt_of_le I.gsz h3) (fun ω' wd' => fits_any h4 wd wd') turn _ ω s2 σ H1 i 0 Hq fp [] gs rfl wd (I.next sl h5) h6 w0
end
end SY

set_option Elab.async false
set_option linter.all false
set_option maxRecDepth 100000
set_option maxHeartbeats 4000000
/-! Generators: a generator def, its call; for over one in a def. -/
namespace SY
open PySem L2 PySem.Spec PyProof.Rows GenW PySem.W.X SC
/-- a generator def's promise: arguments, heap, how many, what each is, what it leans on -/
abbrev SpY := List V → Hp → Nat → (Nat → V → Hp → Prop) → Hp → Prop
def csOf (one : Option (Str × Nat)) (L : Addr) (vs : List V) : List (Addr × Nat × V) := match one with
  | none => []
  | some p => [(L + 1, p.2, (vs[p.2]?).getD .non)]
def clOf (one : Option (Str × Nat)) (n : Nat) : List (Str × Addr) := match one with
  | none => []
  | some p => [(p.1, n)]
def gnOf (P : Program) (w : World) (K : PySem.W.Frag) (mg : Str → Option Value) (base : Heap) (N : List Str) (qual : Str) (scope : Scope) (f : Addr) (cd : Value) (L : Addr) (outer : List Env) (k : Nat) (a : Addr) (g : Nat) (go : Obj) (cs : List (Addr × Nat × V)) (n : Nat) (item : Nat → V → Hp → Prop) : Gn :=
  { P := P, w := w, K := K, mg := mg, base := base, N := N, env := envOfC qual scope L f cd, outer := outer, k := k, a := a, g := g, go := go, cs := cs, n := n, item := item }
def GMadeY (P : Program) (w : World) (K : PySem.W.Frag) (mg : Str → Option Value) (base : Heap) (k : Nat) (outer : List Env) (H : Hp) (s : Shared) (n : Nat) (item : Nat → V → Hp → Prop) (Hg : Hp) (u : Value) (s' : Shared) : Prop :=
  ∃ G fp gs, u = .ref G.a ∧ G.P = P ∧ G.w = w ∧ G.K = K ∧ G.mg = mg ∧ G.base = base ∧ G.outer = outer ∧ G.k = k ∧ G.n = n ∧ G.item = item ∧ G.Ok ∧ s.gens.size ≤ G.g ∧ s.heap.objs.size ≤ G.env.locals ∧ s'.os = s.os ∧ AllBare s'.gens ∧ (∀ b o, s.heap.get? b = some o → s'.heap.get? b = some o) ∧
    HOk P w (G.shw H) s'.heap ∧ s'.gens[G.g]? = some gs ∧ susp gs = false ∧ Rdy G 0 (G.shw Hg) fp [] gs ∧ (∀ p ∈ fp, s'.heap.get? p.1 = some p.2 ∧ G.shw H p.1 = none ∧ G.env.locals ≤ p.1 ∧ ∀ v, p.2.data ≠ .cell v) ∧ (G.a, G.go) ∈ fp
structure GFnY (P : Program) (w : World) (K : PySem.W.Frag) (mg : Str → Option Value) (base : Heap) (k : Nat) (f : Addr) (fd : FuncData) (ps : List Str) (sp : SpY) : Prop where
  len : ∀ vs H n item Hg, sp vs H n item Hg → vs.length = ps.length
  run : ∀ (A : Around) (outer : List Env) (s : Shared) (H : Hp) (args : Args) (us : List Value) (vs : List V) (n : Nat) (item : Nat → V → Hp → Prop) (Hg : Hp), Room k A → Env0 P w K mg base A outer s H → BindsTo s fd args (ps.zip us) → Vals vs us → sp vs H n item Hg →
    codeAny (model P w) A (.call (.ref f) args) (fun r s' => match r with | .ok (.ret u) => GMadeY P w K mg base k outer H s n item Hg u s' | _ => False) s
theorem GFnY.mono {P : Program} {w : World} {K : PySem.W.Frag} {mg : Str → Option Value} {base : Heap} {k : Nat} {f : Addr} {fd : FuncData} {ps : List Str} {sp sp' : SpY} (F : GFnY P w K mg base k f fd ps sp) (h : ∀ vs H n item Hg, sp' vs H n item Hg → sp vs H n item Hg) : GFnY P w K mg base k f fd ps sp' :=
  ⟨fun vs H n item Hg q => F.len _ _ _ _ _ (h _ _ _ _ _ q), fun A outer s H args us vs n item Hg h1 h2 h3 h4 h5 => F.run A outer s H args us vs n item Hg h1 h2 h3 h4 (h _ _ _ _ _ h5)⟩
theorem start_at {N : List Str} {vs : List V} {i : Nat} (h : i < vs.length) : (L2.start N vs)[i]? = some (some ((vs[i]?).getD .non)) := by
  unfold L2.start
  rw [List.getElem?_append_left (by simpa using h), List.getElem?_map, List.getElem?_eq_getElem h]
  rfl
/-- the rule for a generator def -/
theorem gfn_y {P : Program} {w : World} {K : PySem.W.Frag} {mg : Str → Option Value} {base : Heap} {k : Nat} {f : Addr} {name qual : Str} {params : Arguments} {body : List Stmt} {scope : Scope} {dV kV doc pm cdv ct oc : Value} {an od : Option Addr}
    {osl : Array (Option Value)} {N ps : List Str} {sp : SpY} (lk : K.lookup f = some ⟨oc, od, .func (PySem.W.fnOf name qual params body scope dV kV doc pm an cdv ct), osl⟩) (hcd : PySem.W.codeIn K cdv qual = true) (S : GScope N ps scope) (one : Option (Str × Nat))
    (hone : ∀ n, cellsFrom n scope.names [] = clOf one n) (hslot : ∀ p, one = some p → N[p.2]? = some p.1 ∧ p.2 < ps.length ∧ scope.names.lookup p.1 = some .cell)
    (len : ∀ vs H n item Hg, sp vs H n item Hg → vs.length = ps.length) (hrel : ∀ vs H n item Hg, sp vs H n item Hg → Same Hg H ∧ ∀ i x H H', Same H H' → item i x H → item i x H')
    (hbody : ∀ (L : Addr) (outer : List Env) (a : Addr) (g : Nat) (go : Obj) (vs : List V) (H : Hp) (n : Nat) (item : Nat → V → Hp → Prop) (Hg : Hp), sp vs H n item Hg →
      (∀ σ : L2.St, (∀ p, one = some p → σ[p.2]? = some (some ((vs[p.2]?).getD .non))) → (gnOf P w K mg base N qual scope f cdv L outer (k + 1) a g go (csOf one L vs) n item).cok σ) →
      (gnOf P w K mg base N qual scope f cdv L outer (k + 1) a g go (csOf one L vs) n item).Ok →
      ∃ t, GSs (gnOf P w K mg base N qual scope f cdv L outer (k + 1) a g go (csOf one L vs) n item) true body t ∧ ∀ H0, Same Hg H0 → t { nx := fun _ Hw i σ H' => i = n ∧ (gnOf P w K mg base N qual scope f cdv L outer (k + 1) a g go (csOf one L vs) n item).cok σ ∧ Same Hw H' } Hg H0 0 (L2.start N vs) H0) :
    GFnY P w K mg base (k + 1) f (PySem.W.fnOf name qual params body scope dV kV doc pm an cdv ct) ps sp := by
  refine ⟨len, fun A outer s H args us vs n item Hg hr e0 hb r hsp => ?_⟩
  have hl := len _ _ _ _ _ hsp
  obtain ⟨hgH, hmono⟩ := hrel _ _ _ _ _ hsp
  have KX : K.In s.heap := e0.mod.kin.keeps fun b o e => (e0.bs b o e).1
  have lim : s.heap.NoLimit := e0.mod.nolimit.keeps fun b o e => (e0.bs b o e).1
  have hkind : ∀ y ∈ ps.zip us, scope.names.lookup y.1 = some .local ∨ (scope.names.lookup y.1 = some .cell ∧ ((cellsFrom (s.heap.objs.size + 1) scope.names []).lookup y.1).isSome = true) := fun ⟨y, v⟩ hy =>
    (S.par y (List.of_mem_zip hy).1).imp (fun q => q) fun q => ⟨q, PySem.W.cellsFrom_some _ _ _ (.inl q)⟩
  refine codeAny_call_generator hr.depth (KX _ _ lk) rfl S.co S.gen rfl (PySem.W.codeRec_of KX hcd) (hb _ _ _ _ (wpAny_newFunctionEnv_cells S.kind hkind fun env he s1 x => ?_))
  subst he
  have kp1 : ∀ b o, s.heap.get? b = some o → s1.heap.get? b = some o := x.toInCall.keep
  refine ⟨lim.keeps kp1, ?_⟩
  have I1 : Inv (gcxOf P w K mg base N qual scope f cdv A outer s H (fun _ _ _ => False) []) [] (L2.start N vs) H s1 := inv_startG S hr.hd e0 hl r x
  obtain ⟨h1, tk, es1, hk1⟩ := x.done
  have os1 : s1.os = s.os := by rw [es1]
  have gen1 : s1.gens = s.gens := by rw [es1]
  have lt1 : s.heap.objs.size < s1.heap.objs.size := x.toInCall.ns.lt
  generalize hL : s.heap.objs.size = L at *
  show GMadeY P w K mg base (k + 1) outer H s n item Hg (.ref s1.heap.objs.size) _
  generalize hgo : ({ cls := .type "generator", data := .fields #[.int s1.gens.size 0, .str name s1.toks, .str qual (s1.toks + 1)] } : Obj) = go
  have hpush : (s1.heap.push go).get? s1.heap.objs.size = some go := by rw [← hgo]; exact Heap.get?_push_size _ rfl
  let G := gnOf P w K mg base N qual scope f cdv L outer (k + 1) s1.heap.objs.size s1.gens.size go (csOf one L vs) n item
  have hcells : G.env.cells = clOf one (L + 1) := hone (L + 1)
  have cel_of : ∀ b q, G.cel b = some q → ∃ p, one = some p ∧ b = L + 1 ∧ q = (p.2, (vs[p.2]?).getD .non) := fun b q e => by
    have e' : (csOf one L vs).lookup b = some q := e
    cases ho : one with
    | none => rw [ho] at e'; simp [csOf] at e'
    | some p =>
      rw [ho] at e'
      simp only [csOf, List.lookup] at e'
      split at e'
      · rename_i hb
        cases e'
        exact ⟨p, rfl, by simpa using hb, rfl⟩
      · simp at e'
  have cel_is : ∀ p, one = some p → G.cel (L + 1) = some (p.2, (vs[p.2]?).getD .non) := fun p ho => by
    show (csOf one L vs).lookup (L + 1) = _
    rw [ho]
    simp [csOf, List.lookup]
  have lk_of : ∀ y c, G.env.cells.lookup y = some c → ∃ p, one = some p ∧ y = p.1 ∧ c = L + 1 := fun y c e => by
    rw [hcells] at e
    cases ho : one with
    | none => rw [ho] at e; simp [clOf] at e
    | some p =>
      rw [ho] at e
      simp only [clOf, List.lookup] at e
      split at e
      · rename_i hb
        cases e
        exact ⟨p, rfl, by simpa using hb, rfl⟩
      · simp at e
  have lk_is : ∀ p, one = some p → G.env.cells.lookup p.1 = some (L + 1) := fun p ho => by
    rw [hcells, ho]
    simp [clOf, List.lookup]
  have cold : ∀ b, b ≤ L → G.cel b = none := fun b hb => by
    cases e : G.cel b with
    | none => rfl
    | some q =>
      obtain ⟨p, _, rfl, _⟩ := cel_of b q e
      exact absurd hb (Nat.not_le_of_lt (Nat.lt_succ_self _))
  have cok_of : ∀ σ : L2.St, (∀ p, one = some p → σ[p.2]? = some (some ((vs[p.2]?).getD .non))) → G.cok σ := fun σ h b q e => by
    obtain ⟨p, h1, _, rfl⟩ := cel_of b q e
    exact h p h1
  have ok : G.Ok := by
    refine ⟨S.kind, rfl, rfl, rfl, fun y z c h1 h2 => ?_, fun y hy => ?_, fun y c h => ?_, fun y c h => ?_, fun c q h => ?_, S.nd, e0.mod, (show base.objs.size ≤ L by rw [← hL]; exact e0.bsz), fun b hb => ?_, lt1, ?_, ⟨.str name s1.toks, .str qual (s1.toks + 1), by show go.cls = _; rw [← hgo], by show go.data = _; rw [← hgo]; rfl, by show go.slots = _; rw [← hgo]⟩, hmono⟩
    · obtain ⟨p, q1, rfl, _⟩ := lk_of y c h1
      obtain ⟨p', q2, rfl, _⟩ := lk_of z c h2
      rw [q1] at q2; cases q2; rfl
    · have hy : scope.names.lookup y = some .cell ∨ scope.names.lookup y = some .free := hy
      rcases hy with hy | hy
      · exact cell_has hy
      · exact absurd rfl (S.nofree _ (PySem.mem_of_lookup hy))
    · obtain ⟨p, _, _, rfl⟩ := lk_of y c h
      exact Nat.lt_succ_self _
    · obtain ⟨p, q1, rfl, rfl⟩ := lk_of y c h
      exact ⟨(hslot p q1).2.2, p.2, _, cel_is p q1, (hslot p q1).1⟩
    · obtain ⟨p, q1, rfl, rfl⟩ := cel_of c q h
      exact ⟨p.1, lk_is p q1, (hslot p q1).1⟩
    · obtain ⟨_, o, ho, _⟩ := e0.funs.mem hb
      show b < L
      rw [← hL]
      exact Heap.lt_size ho
    · cases e : G.cel s1.heap.objs.size with
      | none => exact e
      | some q =>
        obtain ⟨p, q1, q2, _⟩ := cel_of _ q e
        obtain ⟨v, o, ho, _⟩ := I1.cell p.1 (L + 1) (by
          show (cellsFrom (s.heap.objs.size + 1) scope.names []).lookup p.1 = _
          rw [hL]
          exact lk_is p q1)
        have := Heap.lt_size ho
        rw [← q2] at this
        exact absurd this (Nat.lt_irrefl _)
  obtain ⟨m, ⟨oL, es, ep, ho, hd, hrr⟩, hlk⟩ := id I1.loc
  have hloc : (gcxOf P w K mg base N qual scope f cdv A outer s H (fun _ _ _ => False) []).env = G.env := by
    show envOfC qual scope s.heap.objs.size f cdv = envOfC qual scope L f cdv
    rw [hL]
  rw [hloc] at ho hlk
  have kp2 : ∀ b o, s1.heap.get? b = some o → (s1.heap.push go).get? b = some o := fun b o e => Heap.get?_push_of_some _ e
  have c0 : G.cok (L2.start N vs) := cok_of _ fun p hp => start_at (by rw [hl]; exact (hslot p hp).2.1)
  have asl : Asl G [] [] (L2.start N vs) oL := by
    refine ⟨⟨m, fun h e => ⟨oL, es, ep, e, hd, hrr⟩, fun i y v q1 q2 q3 => ?_⟩, fun v z => (by rw [hd] at z; cases z), c0, I1.len, fun p hp => by simp at hp, fun q hq => by simp at hq⟩
    obtain ⟨u, ru, l⟩ := hlk i y v q1 q2 q3
    rcases l with ⟨k1, l⟩ | ⟨k1, c, e, _⟩
    · exact .inl ⟨k1, u, ru, l⟩
    · exact .inr ⟨k1, c, e⟩
  have hnL : ∀ b, L ≤ b → H b = none := fun b hb => e0.hok.fresh (by rw [hL]; exact hb)
  have nocelH : ∀ b q, G.cel b = some q → H b = none := fun b q e => by
    obtain ⟨p, _, rfl, _⟩ := cel_of b q e
    exact hnL _ (Nat.le_succ _)
  refine ⟨G, G.fp oL [], .fresh (.func body G.env), rfl, rfl, rfl, rfl, rfl, rfl, rfl, rfl, rfl, rfl, ok, by rw [← gen1]; exact Nat.le_refl _, by rw [hL]; exact Nat.le_refl _, os1, AllBare.push (by rw [gen1]; exact e0.bare) rfl, fun b o e => kp2 _ _ (kp1 b o e), ?_, ?_, rfl, ?_, ?_, List.mem_cons_of_mem _ List.mem_cons_self⟩
  · have hok1 : HOk P w H (s1.heap.push go) := I1.hok.kept kp2
    intro b o e
    cases q : G.cel b with
    | none =>
      rw [shw_at q] at e
      refine (hok1 b o e).stay (fun _ _ _ z => z) (fun d z => ?_) fun d xs z => ?_
      · cases y : G.cel d with
        | none => rw [shw_at y]; exact z
        | some t => rw [nocelH d t y] at z; cases z
      · cases y : G.cel d with
        | none => rw [shw_at y]; exact z
        | some t => rw [nocelH d t y] at z; cases z
    | some t =>
      rw [shw_is q] at e
      cases e
      obtain ⟨p, q1, rfl, rfl⟩ := cel_of b t q
      obtain ⟨u, ru, l⟩ := hlk p.2 p.1 _ (hslot p q1).1 (start_at (by rw [hl]; exact (hslot p q1).2.1)) (.inr (.inl (hslot p q1).2.2))
      rcases l with ⟨k1, _⟩ | ⟨_, c, e, z⟩
      · have k2 : scope.names.lookup p.1 = some .local := k1
        rw [(hslot p q1).2.2] at k2; cases k2
      · have e' : G.env.cells.lookup p.1 = some c := e
        rw [lk_is p q1] at e'
        cases e'
        exact cellX_mk (z.keeps kp2) ru
  · show (s1.gens.push _)[s1.gens.size]? = _
    exact Array.getElem?_push_size
  · intro A2 s2 H2 pn ad
    have W := wake ok asl ad
    have sm : Same Hg (G.hid H2) := same_of_shw ad.rely fun b q e => by
      cases z : Hg b with
      | none => rfl
      | some o => have := hgH b o z; rw [nocelH b q e] at this; cases this
    obtain ⟨t, ht, hq⟩ := hbody L outer s1.heap.objs.size s1.gens.size go vs H n item Hg hsp cok_of ok
    have e1 : G.hid (G.shw Hg) = Hg := by
      funext b
      cases q : G.cel b with
      | none => rw [hid_at q, shw_at q]
      | some z =>
        rw [hid_no q]
        cases y : Hg b with
        | none => rfl
        | some o => have := hgH b o y; rw [nocelH b z q] at this; cases this
    show SegX (model P w) A2 (.func body G.env) (.point [] fun _ => ((execs body G.env).onRaise (leaving G.env)) >>= fun f => match f with | .ret v => ret v | _ => ret .none) [] s2 _
    refine sx_wrap (m := point) (K := fun _ => _) (J := .raise) (gd := id) (lv := id) (wpAny_point ?_)
    rw [Sem.onRaise_eq_wrap, Sem.bind_eq_wrap', Sem.wrap_wrap]
    have gc : GCn G (.func body G.env) [] (fun g => id (id g)) := ⟨fun A => over_func, rfl, rfl, rfl⟩
    refine ht.run ⟨A2, s2, H2, pn, G.shw Hg⟩ [] [] (.func body G.env) [] _ _ _ _ s2 (L2.start N vs) (G.hid H2) 0 _ (fun _ => rfl) gc ad.wd W (by rw [e1]; exact hq _ sm) fun ω s' σ' H' i f wd' I' q => ?_
    cases f with
    | next =>
      obtain ⟨rfl, q2, q3⟩ := q
      refine s_end G.P G.w ω.A _ _ s' (.ok (.ret .none)) _ rfl ?_
      show RdyP G (G.n - G.n) G.n ω.Hg ω.s ω.H ω.pn _ _
      rw [Nat.sub_self]
      exact ⟨rfl, _, I'.res ok wd' q2 q3⟩
    | brk => exact q.elim
    | cont => exact q.elim
    | ret v => exact q.elim
  · intro p hp
    rcases List.mem_cons.mp hp with rfl | hp
    · exact ⟨kp2 _ _ ho, (shw_at (H := H) (cold L (Nat.le_refl _))).trans (hnL _ (Nat.le_refl _)), Nat.le_refl _, asl.dl⟩
    · rcases List.mem_cons.mp hp with rfl | hp
      · refine ⟨hpush, (shw_at (H := H) ok.ac).trans (hnL _ (Nat.le_of_lt lt1)), Nat.le_of_lt lt1, fun v z => ?_⟩
        have : go.data = .cell v := z
        rw [← hgo] at this
        cases this
      · simp at hp
end SY

set_option Elab.async false
set_option linter.all false
set_option maxRecDepth 100000
set_option maxHeartbeats 4000000
/-! Generators: calls of generator defs; for in a def; list(g). -/
namespace SY
open PySem L2 PySem.Spec PyProof.Rows GenW PySem.W.X SC
section
variable {X : Cx} {pins : List (Addr × Obj)} {σ : L2.St} {H : Hp} {s : Shared} {k : Nat} {f : Addr} {fd : FuncData} {ps ks : List Str} {sp : SpY} {x : Str} {p pos : Pos}
theorem made_of {n : Nat} {item : Nat → V → Hp → Prop} {Hg : Hp} {R : Nat → (Nat → V → Hp → Prop) → Hp → Hp → Prop} {u : Value} {s' : Shared} {lo : Nat} (I : Inv X pins σ H s) (hlo : lo ≤ s.gens.size) (hg : Same Hg H) (h : GMadeY X.prog X.w X.K X.mg X.base k X.stack H s n item Hg u s')
    (hR : ∀ Hq H1, Same H H1 → Same Hq H1 → (∀ b o, Hq b = some o → Hg b = some o ∨ H b = none) → R n item Hq H1) : Made X pins k lo σ R u s' := by
  obtain ⟨G, fp, gs, rfl, h1, h2, h3, h4, h5, h6, h7, h8, h9, ok, h11, h12, h13, h14, h15, h16, h17, h18, h19, h20, h21⟩ := h
  have lt : ∀ b o, s.heap.get? b = some o → b < G.env.locals := fun b o e => Nat.lt_of_lt_of_le (Heap.lt_size e) h12
  have nc : ∀ b q, G.cel b = some q → H b = none := fun b q e => I.hok.fresh (Nat.le_trans h12 (Nat.le_of_lt (cel_above ok e)))
  have sm : Same H (G.shw H) := fun b o e => by
    cases q : G.cel b with
    | none => rw [shw_at q]; exact e
    | some z => rw [nc b z q] at e; cases e
  have I' : Inv X pins σ (G.shw H) s' := I.call' (ch := []) h13 ⟨fun b o e _ _ _ => h15 b o e, fun b o e _ _ _ => ⟨o.slots, h15 b o e⟩, fun b o e n _ => by rw [shw_at (cel_old ok (Nat.le_of_lt (lt b o e)))]; exact n, fun b o e _ => ⟨o, h15 b o e⟩, fun b xs e => sm _ _ e, fun b o u e => sm _ _ e, fun b qs e => ⟨#[], by rw [sm _ _ e]; simp⟩⟩ h16 h14 fun b hb => by simp at hb
  have locL : X.env.locals < G.env.locals := Nat.lt_of_lt_of_le I.lt h12
  refine ⟨G, G.shw H, G.shw Hg, fp, gs, rfl, h7, Nat.le_trans hlo h11, ⟨ok, h1.symm, h2.symm, h3.symm, h4.symm, h5.symm, h6.symm, Nat.le_trans I.sz h12, fun y c e => ?_, .inl locL⟩, I', ⟨h17, h19, has_shw _, fun p hp => ?_, h21, fun q hq => by simp at hq⟩, h18, locL, shw_mono hg, ?_⟩
  · obtain ⟨v, o, ho, _⟩ := I.cell y c e
    exact lt c o ho
  · obtain ⟨q1, q2, q3, q4⟩ := h20 p hp
    refine ⟨q1, q2, q3, q4, fun z => ?_, fun q hq z => ?_⟩
    · rw [z] at q3
      exact absurd (Nat.lt_of_lt_of_le locL q3) (Nat.lt_irrefl _)
    · have := lt q.1 q.2 (I.pin q hq).1
      rw [← z] at this
      exact absurd (Nat.lt_of_lt_of_le this q3) (Nat.lt_irrefl _)
  · rw [h8, h9]
    refine hR _ _ sm (shw_mono hg) fun b o e => ?_
    cases q : G.cel b with
    | none => rw [shw_at q] at e; exact .inl e
    | some z => exact .inr (nc b z q)
def tGnCall (sp : SpY) (t : TA) : TGy := fun σ H R => t σ H fun vs H1 => ∃ n item Hg, sp vs H1 n item Hg ∧ Same Hg H1 ∧ ∀ Hq H2, Same H1 H2 → Same Hq H2 → (∀ b o, Hq b = some o → Hg b = some o ∨ H1 b = none) → R n item Hq H2
def tGnCallK (sp : SpY) (gV : List V → List V → List V) (t : TA) : TGy := fun σ H R => t σ H fun zs H1 => ∃ n item Hg, sp (gV [] zs) H1 n item Hg ∧ Same Hg H1 ∧ ∀ Hq H2, Same H1 H2 → Same Hq H2 → (∀ b o, Hq b = some o → Hg b = some o ∨ H1 b = none) → R n item Hq H2
/-- a generator def that may be called -/
def RdyY (P : Program) (w : World) (K : PySem.W.Frag) (mg : Str → Option Value) (base : Heap) (k : Nat) (x : Str) (ps : List Str) (sp : SpY) : Prop :=
  ∃ f fd, GFnY P w K mg base k f fd ps sp ∧ mg x = some (.ref f) ∧ PySem.W.keepIn K (.ref f) = true ∧ Binds K fd ps []
def RdyYK (P : Program) (w : World) (K : PySem.W.Frag) (mg : Str → Option Value) (base : Heap) (k : Nat) (x : Str) (ps ks : List Str) (gV : List V → List V → List V) (sp : SpY) : Prop :=
  ∃ f fd g, GFnY P w K mg base k f fd ps sp ∧ mg x = some (.ref f) ∧ PySem.W.keepIn K (.ref f) = true ∧ KBinds K fd ps ks g gV
theorem pgn_call {e : Expr} {es : List Expr} {t : TA} (R : RdyY X.prog X.w X.K X.mg X.base k x ps sp) (hr : Room k X.A) (hg : Gl X x) (ha : PA X (e :: es) t) (hdb : (x == ("__debug__" : Str)) = false := by decide)
    (he : starEach (e :: es) X.env = (false, eval e X.env) :: starEach es X.env := by rfl) (hpl : (backTo pos (starEach es X.env)).any (·.1) = false := by rfl) : PGn X k (.Call (.Name x p) (e :: es) [] pos) (tGnCall sp t) := by
  obtain ⟨f, fd, F, h2, h3, h4⟩ := R
  refine ⟨fun pins s σ H R I h => wpAny_Call_Name_kw (ld_glob I hg h2 ?_ hdb)⟩
  refine PySem.W.callWith_K (h₀ := X.base) I.ok.mod.kin h3 (wpAny_gsz (n := s.gens.size) (Nat.le_refl _) (wpAny_mono (ha.run pos pins s σ H _ I h) (fun us s1 ⟨vs, H1, I1, r, n, item, Hg, h5, h6, h7⟩ hsz => ⟨I1.kIn, ?_⟩) fun e s' q _ => q)) he hpl
  have hl : us.length = ps.length := by rw [← r.length]; exact F.len _ _ _ _ _ h5
  have hb := h4 s1 us I1.kIn (by rw [List.append_nil]; exact hl)
  rw [List.append_nil] at hb
  refine wpAny_call (codeAny_mono (F.run X.A X.stack s1 H1 ⟨us, []⟩ us vs n item Hg hr I1.env0 hb r h5) fun res s' hq => ?_)
  cases res with
  | error e => exact hq.elim
  | ok fl => cases fl with
    | ret u => exact made_of I1 hsz h6 hq h7
    | next => exact hq.elim
    | brk => exact hq.elim
    | cont => exact hq.elim
theorem pgn_callK {kws : List Keyword} {t : TA} {gV : List V → List V → List V} (_R : RdyY X.prog X.w X.K X.mg X.base k x ps sp) (hr : Room k X.A) (hg : Gl X x) (R : RdyYK X.prog X.w X.K X.mg X.base k x ps ks gV sp) (hkw : PK X kws t)
    (hall : (backToKw pos (keywordEach kws X.env)).all (·.1.isSome) = true := by rfl) (hks : (backToKw pos (keywordEach kws X.env)).filterMap (·.1) = ks := by rfl) (hdb : (x == ("__debug__" : Str)) = false := by decide)
    (hpl : ((backTo pos (starEach [] X.env)).any (·.1) || (backToKw pos (keywordEach kws X.env)).any (·.1.isNone)) = false := by rfl) : PGn X k (.Call (.Name x p) [] kws pos) (tGnCallK sp gV t) := by
  obtain ⟨f, fd, g, F, h2, h3, h4⟩ := R
  refine ⟨fun pins s σ H R I h => wpAny_Call_Name_kw (ld_glob I hg h2 ?_ hdb)⟩
  refine PySem.W.callWith_KW0 (h₀ := X.base) I.ok.mod.kin h3 hall (wpAny_gsz (n := s.gens.size) (Nat.le_refl _) (wpAny_mono (hkw.run pos pins s σ H _ I h) (fun ws s1 ⟨zs, H1, I1, r, n, item, Hg, h5, h6, h7⟩ hsz => ⟨I1.kIn, ?_⟩) fun e s' q _ => q)) hpl
  rw [hks]
  have r2 : Vals (gV [] zs) (g [] ws) := h4.rel .nil r
  have hl : (g [] ws).length = ps.length := by rw [← r2.length]; exact F.len _ _ _ _ _ h5
  refine wpAny_call (codeAny_mono (F.run X.A X.stack s1 H1 ⟨[], ks.zip ws⟩ (g [] ws) (gV [] zs) n item Hg hr I1.env0 (h4.to s1 [] ws I1.kIn hl) r2 h5) fun res s' hq => ?_)
  cases res with
  | error e => exact hq.elim
  | ok fl => cases fl with
    | ret u => exact made_of I1 hsz h6 hq h7
    | next => exact hq.elim
    | brk => exact hq.elim
    | cont => exact hq.elim
end
/-! ### for in a def -/
section
variable {X : Cx} {tg iter : Expr} {body : List Stmt} {pos : Pos}
def FoG (n : Nat) (item : Nat → V → Hp → Prop) (g : TG) (tb : TS) (D : Ends) (Hq : Hp) (σ : L2.St) (H1 : Hp) : Prop := ∃ W : Nat → Hp → L2.St → Hp → Prop, W 0 Hq σ H1 ∧ ∀ j Hq σ H, W j Hq σ H → j ≤ n ∧ Same Hq H ∧ (j = n → ∀ H', Same H H' → D.nx σ H') ∧
  (j < n → ∀ x H' Hq', Same H H' → item j x H' → Same Hq' H' → (∀ b o, Hq' b = some o → Hq b = some o ∨ H b = none) → g x σ H' fun σ2 H2 => tb { nx := W (j + 1) Hq', rt := D.rt, ct := W (j + 1) Hq', bk := D.nx } σ2 H2)
def tForG (ti : TGy) (g : TG) (tb : TS) : TS := fun D σ H => ti σ H fun n item Hq H1 => FoG n item g tb D Hq σ H1
theorem held_next {G : Gn} {pins fp1 : List (Addr × Obj)} {gp1 : List (Nat × GenState)} {gs1 : GenState} {j : Nat} {Hq H H' : Hp} {s s' : Shared} {σ' : L2.St} (it : Held G X pins j Hq fp1 gp1 gs1 H s) (su : susp gs1 = true) (sl : Slp s s') (I : Inv X (pins ++ fp1) σ' H' s') : Held G X pins j Hq fp1 gp1 gs1 H' s' := by
  refine ⟨sl.2 _ _ it.at_ su, it.rdy, it.has, fun p hp => ?_, it.ga, fun q hq => ⟨sl.2 _ _ (it.gps q hq).1 (it.gps q hq).2.1, (it.gps q hq).2⟩⟩
  obtain ⟨q1, q2, q3, _⟩ := I.pin p (List.mem_append_right _ (List.mem_append_right _ hp))
  obtain ⟨_, _, r3, r4, r5, r6⟩ := it.fps p hp
  exact ⟨q1, q2, r3, r4, r5, r6⟩
theorem ps_forG {kk : Nat} {ti : TGy} {g : TG} {tb : TS} (hx : ∀ e s, X.xe e s → False) (hi : PGn X kk iter ti) (hr : Room (kk + 1) X.A) (hg : PG X tg g) (hb : PSs X body tb) (hs : ∀ x, foldedSetIterable iter X.env x = pure x := by intro _; rfl) : PS X (.For tg iter body [] pos) (tForG ti g tb) := by
  refine ⟨fun pins s σ H D I h => wpAny_For (thn (hi.run pins s σ H _ I h) fun v s1 h1 => thn (made_iter (M := model X.prog X.w) (E := X.xe) h1) fun itv s2 h2 => ?_) hs⟩
  obtain ⟨G, H2, Hq, fp, gs, rfl, hk2, _, F, I2, hd2, _, _, sm2, W, w0, turn⟩ := h2
  have ro : Room (G.k + 1) X.A := by rw [hk2]; exact hr
  refine codeAny_forLoop_any (fun m s' => ∃ j Hq σ' H' fp gp gs, m = G.n - j ∧ Inv X pins σ' H' s' ∧ Held G X pins j Hq fp gp gs H' s' ∧ W j Hq σ' H') ?_ (G.n - 0) ⟨0, Hq, σ, H2, fp, [], gs, rfl, I2, hd2, w0⟩
  rintro m s3 ⟨j, Hq3, σ3, H3, fp3, gp3, gs3, rfl, I3, hd3, w3⟩
  obtain ⟨t1, t2, t3, t4⟩ := turn j Hq3 σ3 H3 w3
  by_cases hj : j = G.n
  · exact next_done F I3 hd3 t2 hj I3.ok.frames ro fun H4 s4 I4 sm => wpAny_execs_nil ⟨σ3, H4, I4, t3 hj H4 sm⟩
  · refine next_item F I3 hd3 t2 (by omega) I3.ok.frames ro fun u x H4 Hq4 fp4 gp4 gs4 s4 rv it => let_gen F.ok ((it.held.fps _ it.held.ga).1) ?_
    have I5 := held_pin F it.inv it.held
    refine wpAny_mono (pg_slp hx hg I5 rv (t4 (by omega) x H4 Hq4 it.same it.item it.rely it.less)) (fun _ s6 ⟨sl6, σ6, H6, I6, q6⟩ => ?_) fun _ _ z => z
    refine wpAny_mono (run_slp (Q' := SP X (pins ++ fp4) _) I6 (fun z Iz _ => wpAny_mono (hb.run _ z σ6 H6 _ Iz q6) (fun _ _ y => y) hx) (fun a z s' h1 h2 h3 h4 => sp_gens h1 h2 h3 h4)) (fun fl s7 ⟨sl7, q7⟩ => ?_) fun _ _ z => z
    have again : ∀ {σ7 : L2.St} {H7 : Hp}, Inv X (pins ++ fp4) σ7 H7 s7 → W (j + 1) Hq4 σ7 H7 → ∃ m, m < G.n - j ∧ ∃ j Hq σ' H' fp gp gs, m = G.n - j ∧ Inv X pins σ' H' s7 ∧ Held G X pins j Hq fp gp gs H' s7 ∧ W j Hq σ' H' := fun {σ7 H7} I7 w7 =>
      ⟨G.n - (j + 1), by omega, j + 1, Hq4, σ7, H7, fp4, gp4, gs4, rfl, I7.unpinned, held_next it.held it.susp (sl6.trans sl7) I7, w7⟩
    cases fl with
    | next => obtain ⟨σ7, H7, I7, n7⟩ := q7; exact again I7 n7
    | cont => obtain ⟨σ7, H7, I7, n7⟩ := q7; exact again I7 n7
    | brk => obtain ⟨σ7, H7, I7, q7⟩ := q7; exact ⟨σ7, H7, I7.unpinned, q7⟩
    | ret v => obtain ⟨v', σ7, H7, I7, q7⟩ := q7; exact ⟨v', σ7, H7, I7.unpinned, q7⟩
end
end SY

set_option Elab.async false
set_option linter.all false
set_option maxRecDepth 100000
set_option maxHeartbeats 4000000
/-! Generators: list(g). -/
namespace SY
open PySem L2 PySem.Spec PyProof.Rows GenW PySem.W.X SC
section
variable {G : Gn} {X : Cx} {pins : List (Addr × Obj)} {σ : L2.St} {S : Addr}
theorem held_pins {G : Gn} {X : Cx} {p1 p2 : List (Addr × Obj)} {j : Nat} {Hq H : Hp} {fp : List (Addr × Obj)} {gp : List (Nat × GenState)} {gs : GenState} {s s' : Shared} (h : Held G X p1 j Hq fp gp gs H s) (hg : s'.gens = s.gens) (hh : ∀ p ∈ fp, s'.heap.get? p.1 = s.heap.get? p.1) (hp : ∀ q ∈ p2, (∃ q' ∈ p1, q'.1 = q.1) ∨ ∀ p ∈ fp, p.1 ≠ q.1) : Held G X p2 j Hq fp gp gs H s' := by
  refine ⟨by rw [hg]; exact h.at_, h.rdy, h.has, fun p hp' => ?_, h.ga, fun q hq => by rw [hg]; exact h.gps q hq⟩
  obtain ⟨q1, q2, q3, q4, q5, q6⟩ := h.fps p hp'
  refine ⟨by rw [hh p hp']; exact q1, q2, q3, q4, q5, fun q hq => ?_⟩
  rcases List.mem_append.mp hq with hq | hq
  · exact q6 q (List.mem_append_left _ hq)
  · rcases hp q hq with ⟨q', h1, h2⟩ | h1
    · rw [← h2]; exact q6 q' (List.mem_append_right _ h1)
    · exact h1 p hp'
theorem drainY {A : Around} {R : Result → Shared → Prop} {res : Value} {H0 : Hp} (F : Fits G X) (hr : Room (G.k + 2) A) (hA : A.frames = some X.stack) (hn : G.n < sizeLine) (hS0 : X.s_0.heap.objs.size ≤ S) (hSc : ∀ x c, X.env.cells.lookup x = some c → c ≠ S) (hSp : ∀ p ∈ X.pn ++ pins, p.1 ≠ S)
    (hend : ∀ s' H' ys acc c, Inv X (pins ++ [(S, lstObj acc c)]) σ H' s' → Same H0 H' → ys.length = G.n → Vals ys acc.toList → (∀ i x, ys[i]? = some x → G.item i x H') → R (.ok (.ret res)) s') :
    ∀ (r j : Nat) (s : Shared) (H Hq : Hp) (fp : List (Addr × Obj)) (gp : List (Nat × GenState)) (gs : GenState) (ys : List V) (acc : Array Value) (c : Nat), G.n - j = r → j ≤ G.n → Inv X (pins ++ [(S, lstObj acc c)]) σ H s → Held G X (pins ++ [(S, lstObj acc c)]) j Hq fp gp gs H s → Same Hq H → Same H0 H → ys.length = j → Vals ys acc.toList → (∀ i x, ys[i]? = some x → G.item i x H) →
      codeAny (model X.prog X.w) A (.builtin "list.extend.loop" ⟨[.ref S, .ref G.a, res], []⟩) R s := by
  intro r
  induction r with
  | zero =>
    intro j s H Hq fp gp gs ys acc c hj hle I hd hq h0 hl hv hit
    refine codeAny_builtin PySem.F.entry_extend_loop ?_
    rw [Around.under_plainId PySem.F.plain_extend_loop _]
    show wpAny (model X.prog X.w) A.in1 (pyNext (.ref G.a) >>= _) _ _ s
    refine wpAny_bind (next_done F I hd hq (by omega) hA (Room.in1 hr) fun H1 s1 I1 sm => wpAny_pure ?_)
    exact hend s1 H1 ys acc c I1 (h0.trans sm) (by omega) hv fun i x e => F.ok.mono _ _ _ _ sm (hit i x e)
  | succ r ih =>
    intro j s H Hq fp gp gs ys acc c hj hle I hd hq h0 hl hv hit
    refine codeAny_builtin PySem.F.entry_extend_loop ?_
    rw [Around.under_plainId PySem.F.plain_extend_loop _]
    show wpAny (model X.prog X.w) A.in1 (pyNext (.ref G.a) >>= _) _ _ s
    refine wpAny_bind (next_item F I hd hq (by omega) hA (Room.in1 hr) fun u x H1 Hq1 fp1 gp1 gs1 s1 rv it => ?_)
    obtain ⟨eS, nS, lS, fS, _⟩ := it.inv.pin (S, lstObj acc c) (List.mem_append_right _ (List.mem_append_right _ (List.mem_singleton.mpr rfl)))
    have hsz : acc.size = ys.length := by
      have e1 := hv.length
      have e2 : acc.toList.length = acc.size := by simp
      omega
    show wpAny (model X.prog X.w) A.in1 (updateSeq S (·.push u) >>= _) _ _ _
    refine wpAny_bind (wpAny_updateSeq eS rfl (wpAny_pure ⟨plainId_quiet PySem.F.plain_extend_loop _, ?_⟩) (by show acc.size ≤ sizeLine; omega) (by show (acc.push u).size ≤ sizeLine + 1; rw [Array.size_push]; omega))
    have keep : ∀ b o, b ≠ S → s1.heap.get? b = some o → (s1.heap.update S (Obj.mapSeq (·.push u))).get? b = some o := fun b o hb e => (Heap.get?_update_other _ _ (Ne.symm hb)).trans e
    obtain ⟨c', eS'⟩ : ∃ c', (s1.heap.update S (Obj.mapSeq (·.push u))).get? S = some (lstObj (acc.push u) c') := ⟨_, Heap.get?_update_self _ eS rfl⟩
    have I2 : Inv X pins σ H1 { s1 with heap := s1.heap.update S (Obj.mapSeq (·.push u)) } := it.inv.unpinned.turned (t' := s1.toks) keep nS lS (.inr hS0) hSc hSp
    have I3 : Inv X (pins ++ [(S, lstObj (acc.push u) c')]) σ H1 { s1 with heap := s1.heap.update S (Obj.mapSeq (·.push u)) } := I2.pins_of fun p hp => (List.mem_append.mp hp).elim (fun z => I2.pin p (List.mem_append_right _ z)) fun z => by
      rw [List.mem_singleton.mp z]
      exact ⟨eS', nS, lS, fS, fun v q => by cases q⟩
    refine ih (j + 1) _ H1 Hq1 fp1 gp1 gs1 (ys ++ [x]) (acc.push u) c' (by omega) (by omega) I3 (held_pins it.held rfl (fun p hp => ?_) fun q hq => ?_) it.rely (h0.trans it.same) (by simp; omega) ?_ ?_
    · have hne : p.1 ≠ S := (it.held.fps p hp).2.2.2.2.2 (S, lstObj acc c) (List.mem_append_right _ (List.mem_append_right _ (List.mem_singleton.mpr rfl)))
      exact Heap.get?_update_other _ _ (Ne.symm hne)
    · rcases List.mem_append.mp hq with hq | hq
      · exact .inl ⟨q, List.mem_append_left _ hq, rfl⟩
      · rw [List.mem_singleton.mp hq]
        exact .inl ⟨_, List.mem_append_right _ (List.mem_singleton.mpr rfl), rfl⟩
    · rw [Array.toList_push]
      exact hv.append (.cons rv .nil)
    · intro i y e
      by_cases hi : i < ys.length
      · rw [List.getElem?_append_left hi] at e
        exact F.ok.mono _ _ _ _ it.same (hit i y e)
      · have hi' : i = ys.length := by
          have := (List.getElem?_eq_some_iff.mp e).1
          simp at this
          omega
        subst hi'
        rw [List.getElem?_append_right (Nat.le_refl _), Nat.sub_self] at e
        cases e
        rw [hl]
        exact it.item
/-- the list is tracked -/
theorem inv_track {H : Hp} {s : Shared} {ys : List V} {acc : Array Value} {c : Nat} (I : Inv X (pins ++ [(S, lstObj acc c)]) σ H s) (hv : Vals ys acc.toList) (hl : ys.length ≤ sizeLine) (hS0 : X.s_0.heap.objs.size ≤ S) (hSc : ∀ x c, X.env.cells.lookup x = some c → c ≠ S) (hSp : ∀ p ∈ X.pn ++ pins, p.1 ≠ S) : Inv X pins σ (upd H S (.lst ys)) s := by
  obtain ⟨eS, nS, lS, fS, _⟩ := I.pin (S, lstObj acc c) (List.mem_append_right _ (List.mem_append_right _ (List.mem_singleton.mpr rfl)))
  have ne : ∀ b, b ∉ [S] → b ≠ S := fun b hb z => hb (by simp [z])
  refine I.unpinned.step (h' := s.heap) (g' := s.gens) (t' := s.toks) (d' := s.drawn) (ch := [S]) (fun b hb => ?_) (fun b o _ _ _ e _ => e) (fun b o _ _ _ e _ => ⟨o.slots, e⟩) (fun b o hb _ n => by rw [upd_ne (ne b hb)]; exact n) (fun b o _ e => ⟨o, e⟩)
    (fun b xs e => by rw [upd_ne (ne_of_none e nS)]; exact e) (fun b o u e => by rw [upd_ne (ne_of_none e nS)]; exact e) (fun b qs e => ⟨#[], by rw [upd_ne (ne_of_none e nS), e]; simp⟩) (fun m h => h) (fun b u e => ?_) I.bare
  · rw [List.mem_singleton.mp hb]
    exact ⟨.inr hS0, fun z => lS z, hSc, hSp⟩
  · by_cases hb : b = S
    · subst hb
      rw [upd_same] at e
      cases e
      exact ⟨hl, acc.toList, c, hv, by rw [eS]⟩
    · rw [upd_ne hb] at e
      exact (I.hok b u e).stay (fun _ _ _ z => z) (fun d z => by rw [upd_ne (ne_of_none z nS)]; exact z) fun d xs z => by rw [upd_ne (ne_of_none z nS)]; exact z
theorem call_listY {kk lo : Nat} {u : Value} {s : Shared} {Q : VK} {E : Value → Shared → Prop} (hr : Room (kk + 4) X.A)
    (h : Made X pins kk lo σ (fun n item Hq H1 => n < sizeLine ∧ ∀ ys H' p, Same H1 H' → ys.length = n → (∀ i x, ys[i]? = some x → item i x H') → H' p = none → Q (.ref p) (upd H' p (.lst ys))) u s) : wpAny (model X.prog X.w) X.A (call (.type "list") [u]) (EP X pins σ Q) E s := by
  obtain ⟨G, H1, Hq, fp, gs, rfl, hk, _, Fi, I, hd, _, _, sm, hn, hQ⟩ := h
  have ro : Room (G.k + 4) X.A := by rw [hk]; exact hr
  have hga := (hd.fps _ hd.ga).1
  have hSa : s.heap.objs.size ≠ G.a := Nat.ne_of_gt (Heap.lt_size hga)
  refine callType_codes (Q₁ := fun o t => o = .ref s.heap.objs.size ∧ t = { s with heap := s.heap.push { cls := .type "list", data := .seq #[] } }) PySem.F.called_list (PySem.F.typeCall_list_1 _) PySem.F.entry_list_init (code_list_new _ ⟨rfl, rfl⟩) fun o t h1 => ?_
  obtain ⟨rfl, rfl⟩ := h1
  generalize hS : s.heap.objs.size = S at *
  have e1 : (s.heap.push { cls := .type "list", data := .seq #[] }).get? S = some { cls := .type "list", data := .seq #[] } := by rw [← hS]; exact Heap.get?_push_size _ rfl
  refine ⟨⟨_, e1, rfl⟩, PySem.F.args_list_init_2 _ _, ?_⟩
  show wpAny (model X.prog X.w) X.A.in1.in1 (do let old ← Builtin.List.listItems (.ref S); Builtin.List.listUpdate (.ref S) (fun _ => #[]); letGo old.toList.reverse; Builtin.List.listExtendWith (.ref S) (.ref G.a) .none) _ _ _
  unfold Builtin.List.listItems
  refine wpAny_bind (wpAny_bind (wpAny_seqItems e1 rfl (wpAny_pure ?_)))
  show wpAny (model X.prog X.w) X.A.in1.in1 (updateSeq S (fun _ => #[]) >>= fun _ => letGo (#[] : Array Value).toList.reverse >>= fun _ => Builtin.List.listExtendWith (.ref S) (.ref G.a) .none) _ _ _
  have e2 := Heap.get?_update_self (Obj.mapSeq (fun _ => (#[] : Array Value))) e1 rfl
  refine wpAny_bind (wpAny_updateSeq e1 rfl (wpAny_bind (wpAny_letGo ?_)))
  unfold Builtin.List.listExtendWith
  have up : ∀ (h : Heap) (fn : Obj → Obj), (∀ b o, s.heap.get? b = some o → h.get? b = some o) → ∀ b o, s.heap.get? b = some o → (h.update S fn).get? b = some o := fun h fn q b o e => (Heap.get?_update_other _ _ (Ne.symm (Nat.ne_of_lt (by rw [← hS]; exact Heap.lt_size e)))).trans (q b o e)
  have k1 : ∀ b o, s.heap.get? b = some o → (s.heap.push { cls := .type "list", data := .seq #[] }).get? b = some o := fun b o e => Heap.get?_push_of_some _ e
  have k2 := up _ (Obj.mapSeq (fun _ => (#[] : Array Value))) k1
  have gty : ∀ {h : Heap}, (∀ b o, s.heap.get? b = some o → h.get? b = some o) → h.IsGen G.a G.g := fun {h} q => (held_gen Fi hd).keeps q
  refine wpAny_bind (wpAny_typeOf (Heap.IsGen.typeIs (s := { s with heap := _ }) (gty k2)) ?_)
  have b1 : Builtin.List.listSameRef (.ref S) (.ref G.a) = false := by simp [Builtin.List.listSameRef, hSa]
  have b2 : (Value.type "generator" == Value.type "list") = false := by decide
  have b3 : (Value.type "generator" == Value.type "tuple") = false := by decide
  simp only [b1, b2, b3, Bool.or_false, Bool.false_eq_true, if_false]
  refine wpAny_bind (wpAny_pyIter_gen (s := { s with heap := _ }) (gty k2) (wpAny_bind (wpAny_holding ?_)))
  unfold Builtin.List.listLengthHint
  refine wpAny_bind (wpAny_specialOf (Heap.IsGen.typeIs (s := { s with heap := _ }) (gty k2)) PySem.F.gen_no_len ?_)
  show wpAny (model X.prog X.w) X.A.in1.in1 (specialOf (Value.ref G.a) (Str.ofString "__length_hint__") >>= _) _ _ _
  refine wpAny_bind (wpAny_specialOf (Heap.IsGen.typeIs (s := { s with heap := _ }) (gty k2)) PySem.F.gen_no_hint (wpAny_pure ?_))
  show wpAny (model X.prog X.w) X.A.in1.in1 (rule "list.extend.makes-room" >>= fun _ => Builtin.List.listTouch (.ref S) >>= fun _ => again (.builtin "list.extend.loop" ⟨[.ref S, .ref G.a, .none], []⟩)) _ _ _
  refine wpAny_bind (wpAny_rule (wpAny_bind ?_))
  show wpAny (model X.prog X.w) X.A.in1.in1 (updateSeq S (·.push .none) >>= fun _ => updateSeq S (·.pop)) _ _ _
  refine wpAny_bind (wpAny_updateSeq e2 rfl ?_)
  have e3 := Heap.get?_update_self (Obj.mapSeq (·.push Value.none)) e2 rfl
  refine wpAny_updateSeq (hz := by seq_fits) e3 rfl ?_
  have e4 := Heap.get?_update_self (Obj.mapSeq (·.pop)) e3 rfl
  have k4 := up _ (Obj.mapSeq (·.pop)) (up _ (Obj.mapSeq (·.push Value.none)) k2)
  refine wpAny_pure ⟨plainId_quiet PySem.F.plain_extend_loop _, ?_⟩
  have nS : H1 S = none := I.hok.fresh (by rw [hS]; exact Nat.le_refl _)
  have lt : ∀ b o, s.heap.get? b = some o → b ≠ S := fun b o e => Nat.ne_of_lt (by rw [← hS]; exact Heap.lt_size e)
  have hS0 : X.s_0.heap.objs.size ≤ S := by rw [← hS]; exact I.sz
  have hSc : ∀ x c, X.env.cells.lookup x = some c → c ≠ S := fun x c e => by
    obtain ⟨v, o, ho, _⟩ := I.cell x c e
    exact lt c o ho
  have hSp : ∀ p ∈ X.pn ++ pins, p.1 ≠ S := fun p hp => lt p.1 p.2 (I.pin p hp).1
  have lS : S ≠ X.env.locals := Nat.ne_of_gt (by rw [← hS]; exact I.lt)
  have fS : S ∉ X.fs := I.nofs (by rw [hS]; exact Nat.le_refl _)
  have I2 := I.kept (t' := s.toks) k4
  have I3 := I2.pins_of (pins' := pins ++ [(S, lstObj (((#[] : Array Value).push .none).pop) _)]) fun p hp => (List.mem_append.mp hp).elim (fun z => I2.pin p (List.mem_append_right _ z)) fun z => by
    rw [List.mem_singleton.mp z]
    exact ⟨e4, nS, lS, fS, fun v q => by cases q⟩
  refine drainY (pins := pins) (σ := σ) (H0 := H1) (A := X.A.in1) Fi (Room.in1 (ro.mono (by omega))) I.ok.frames hn hS0 hSc hSp (fun s' H' ys acc c Ie sme hle hv hit => ⟨rfl, ?_⟩) _ 0 _ H1 Hq fp [] gs [] _ _ rfl (Nat.zero_le _) I3 (held_pins hd rfl (fun p hp => ?_) fun q hq => ?_) sm (fun _ _ e => e) rfl .nil (fun i x e => by simp at e)
  · exact (k4 p.1 p.2 (hd.fps p hp).1).trans (hd.fps p hp).1.symm
  · rcases List.mem_append.mp hq with hq | hq
    · exact .inl ⟨q, hq, rfl⟩
    · rw [List.mem_singleton.mp hq]
      exact .inr fun p hp => lt p.1 p.2 (hd.fps p hp).1
  · exact ⟨.ref S, _, inv_track Ie hv (by omega) hS0 hSc hSp, rfl, hQ ys H' S sme hle hit (Ie.pin (S, lstObj acc c) (List.mem_append_right _ (List.mem_append_right _ (List.mem_singleton.mpr rfl)))).2.1⟩
def tListY (ti : TGy) : TE := fun σ H Q => ti σ H fun n item Hq H1 => n < sizeLine ∧ ∀ ys H' p, Same H1 H' → ys.length = n → (∀ (i : Nat) x, ys[i]? = some x → item i x H') → H' p = none → Q (.ref p) (upd H' p (.lst ys))
theorem pe_listY {e : Expr} {ti : TGy} {kk : Nat} {nm : Str} {p pos : Pos} (h : PGn X kk e ti) (hr : Room (kk + 4) X.A) (hg : Gl X nm) (hmg : X.mg nm = none) (hv : bootBuiltins nm = some (.type "list")) (hnm : nm ≠ "__name__" := by decide) (hdb : (nm == ("__debug__" : Str)) = false := by decide)
    (he : starEach [e] X.env = (false, eval e X.env) :: starEach [] X.env := by rfl) : PE X (.Call (.Name nm p) [e] [] pos) (tListY ti) := by
  refine ⟨fun pins s σ H Q I hq => wpAny_Call_Name_kw (ld_blt I hg hmg hv (PyProof.Rows.callWith_type1 ?_ he rfl) hnm hdb)⟩
  rw [he]
  exact Calls.spliced_cons (thn (h.run pins s σ H _ I hq) fun u s1 hm => Calls.spliced_nil (call_listY hr hm))
end
end SY

set_option Elab.async false
set_option linter.all false
set_option maxRecDepth 100000
set_option maxHeartbeats 4000000
/-! Generators: [.. for .. in g]. -/
namespace SY
open PySem L2 PySem.Spec PyProof.Rows GenW PySem.W.X SC
section
variable {X : Cx} {pins : List (Addr × Obj)} {σ : L2.St} {H : Hp} {s : Shared}
theorem cells_none : ∀ {names : List (Str × NameKind)} {n : Nat} {acc : List (Str × Addr)}, (∀ y ∈ names, y.2 ≠ .cell) → cellsFrom n names acc = acc
  | [], _, _, _ => rfl
  | (x, k) :: r, n, acc, h => by
    have hk : k ≠ .cell := h (x, k) List.mem_cons_self
    have e : (k == NameKind.cell) = false := by cases k <;> first | rfl | exact absurd rfl hk
    show (if (k == NameKind.cell) = true then _ else cellsFrom n r acc) = acc
    rw [e]
    exact cells_none fun y hy => h y (List.mem_cons_of_mem _ hy)
/-- a block that leans on the older part alone -/
theorem blk_cut {scope : Scope} {ce : Env} {σ' : L2.St} {H' : Hp} {s' : Shared} {L : Nat} {pb : List (Addr × Obj)} (I : Inv (X.blk s H scope ce []) [] σ' H' s') (hL : L ≤ s.heap.objs.size) (hb : X.base.objs.size ≤ L) (hf : ∀ b ∈ frs X.stack, b < L)
    (hp : ∀ p ∈ pb, s'.heap.get? p.1 = some p.2 ∧ H' p.1 = none ∧ p.1 ≠ ce.locals ∧ p.1 ∉ frs X.stack ∧ ∀ v, p.2.data ≠ .cell v) : Inv (X.blk { s with heap := cut s.heap L } H scope ce []) pb σ' H' s' := by
  obtain ⟨ok, h2, h3, h4, h5, h6, h7, h8, h9, h10, h11⟩ := I
  have csz : (cut s.heap L).objs.size = L := by rw [cut_size]; exact Nat.min_eq_left hL
  refine ⟨⟨ok.mod, ok.kind, ok.glob, ok.blt, ?_, ok.inj, ok.has, fun x c e1 e2 => ?_, ok.hd, ok.frames, ok.stk, ok.exf, fun b o e => ?_, ?_, ok.noex, ok.exfs, cut_funs ok.funs hf, ok.frf⟩, h2, h3, ⟨fun b o e => h4.keep b o (of_cut e), fun b o e => h4.slot b o (of_cut e), fun b o e => h4.free b o (of_cut e), fun b o e => h4.there b o (of_cut e), h4.tups, h4.frzs, h4.tbls⟩, h5, h6, h7, h8, fun p hq => hp p (by simpa using hq), h10, h11⟩
  · show (cut s.heap L).objs.size ≤ _
    rw [csz]
    exact Nat.le_trans hL ok.above
  · show (cut s.heap L).objs.size ≤ c
    rw [csz]
    exact Nat.le_trans hL (ok.cab x c e1 e2)
  · refine ⟨?_, (ok.bs b o e).2⟩
    show (cut s.heap L).get? b = some o
    rw [cut_get (Nat.lt_of_lt_of_le (Heap.lt_size e) hb)]
    exact (ok.bs b o e).1
  · show X.base.objs.size ≤ (cut s.heap L).objs.size
    rw [csz]
    exact hb
/-- back behind such a block -/
theorem blk_back {scope : Scope} {ce : Env} {σ' : L2.St} {H' : Hp} {s' : Shared} {L : Nat} (I : Inv X pins σ H s) (Ib : Inv (X.blk { s with heap := cut s.heap L } H scope ce []) (X.pn ++ pins) σ' H' s') (h0 : X.s_0.heap.objs.size ≤ L) (hc : ∀ x c, X.env.cells.lookup x = some c → c < L) (hl : X.env.locals < L) : Inv X pins σ H' s' := by
  have get : ∀ b, b < L → (cut s.heap L).get? b = s.heap.get? b := fun b hb => cut_get hb
  have neL : ∀ b o, X.s_0.heap.get? b = some o → b ≠ X.env.locals := fun b o e => Nat.ne_of_lt (Nat.lt_of_lt_of_le (Heap.lt_size e) I.ok.above)
  have lt : ∀ b o, X.s_0.heap.get? b = some o → b < L := fun b o e => Nat.lt_of_lt_of_le (Heap.lt_size e) h0
  have nofr : ∀ b, b ≠ X.env.locals → b ∉ X.fs → b ∉ frs X.stack := fun b h1 h2 hm => by
    rcases List.mem_cons.mp (I.stkSub b hm) with z | z
    · exact h1 z
    · exact h2 z
  have nex : ∀ b : Addr, b ∉ ([] : List Addr) := fun b => by simp
  have B := Ib.base
  have any : ∀ b o, b < L → s.heap.get? b = some o → H b = none → ∃ sl, s'.heap.get? b = some { o with slots := sl } := fun b o h1 h2 h3 => B.any (show (cut s.heap L).get? b = some o by rw [get b h1]; exact h2) h3 (nex b)
  have keep : ∀ b o, b < L → s.heap.get? b = some o → H b = none → b ∉ frs X.stack → s'.heap.get? b = some o := fun b o h1 h2 h3 h4 => B.keep b o (show (cut s.heap L).get? b = some o by rw [get b h1]; exact h2) h3 h4 (nex b)
  have free : ∀ b o, b < L → s.heap.get? b = some o → H b = none → H' b = none := fun b o h1 h2 h3 => B.free b o (show (cut s.heap L).get? b = some o by rw [get b h1]; exact h2) h3 (nex b)
  have cellK : ∀ x c, X.env.cells.lookup x = some c → ∀ v, s.heap.IsCell c v → s'.heap.IsCell c v := fun x c e v ⟨o, h1, h2⟩ => by
    obtain ⟨sl, q⟩ := any c o (hc x c e) h1 (I.freeC x c e)
    exact ⟨_, q, h2⟩
  refine ⟨I.ok, Ib.os.trans I.os, Ib.bare, ⟨fun b o e n hb hx => ?_, fun b o e n hb hx => ?_, fun b o e n hx => ?_, fun b o e hx => ?_, fun b xs e => B.tups _ _ (I.base.tups b xs e), fun b o xs e => B.frzs _ _ _ (I.base.frzs b o xs e), fun b qs e => ?_⟩, ?_, fun x c e => ?_, ?_, fun x c e => ?_, fun p hp => ?_, Ib.hok, I.len⟩
  · exact keep b o (lt b o e) (I.base.keep b o e n hb hx) (I.base.free b o e n hx) (nofr b (neL b o e) hb)
  · obtain ⟨sl, e1⟩ := I.base.slot b o e n hb hx
    obtain ⟨sl2, e2⟩ := any b _ (lt b o e) e1 (I.base.free b o e n hx)
    exact ⟨sl2, e2⟩
  · obtain ⟨o', e1⟩ := I.base.there b o e hx
    exact free b o' (lt b o e) e1 (I.base.free b o e n hx)
  · obtain ⟨o', e1⟩ := I.base.there b o e hx
    exact B.there b o' (show (cut s.heap L).get? b = some o' by rw [get b (lt b o e)]; exact e1) (nex b)
  · obtain ⟨m1, e1⟩ := I.base.tbls b qs e
    obtain ⟨m2, e2⟩ := B.tbls b _ e1
    exact ⟨m1 ++ m2, by rw [e2, Array.append_assoc]⟩
  · obtain ⟨m, ⟨o, es, ep, h1, h2⟩, hlk⟩ := I.loc
    obtain ⟨sl, q⟩ := any _ o hl h1 I.free
    refine ⟨m, ⟨_, es, ep, q, h2⟩, fun i x v e1 e2 e3 => ?_⟩
    obtain ⟨u, r, l⟩ := hlk i x v e1 e2 e3
    rcases l with l | ⟨k, c, e, z⟩
    · exact ⟨u, r, .inl l⟩
    · exact ⟨u, r, .inr ⟨k, c, e, cellK x c e _ z⟩⟩
  · obtain ⟨v, z⟩ := I.cell x c e
    exact ⟨v, cellK x c e v z⟩
  · obtain ⟨m, ⟨o, es, ep, h1, h2⟩, _⟩ := I.loc
    exact free _ o hl h1 I.free
  · obtain ⟨v, o, h1, h2⟩ := I.cell x c e
    exact free c o (hc x c e) h1 (I.freeC x c e)
  · obtain ⟨q1, q2, q3, q4, q5⟩ := I.pin p hp
    obtain ⟨r1, r2, _⟩ := Ib.pin p (List.mem_append_right _ hp)
    exact ⟨r1, r2, q3, q4, q5⟩
end
section
variable {X : Cx}
def LcG (n : Nat) (item : Nat → V → Hp → Prop) (g : TG) (tt : TT) (te : TE) (vs : List Nat) (Hq : Hp) (σ : L2.St) (H1 : Hp) (Q : VK) : Prop := ∀ D, H1 D = none → ∃ W : Nat → Hp → Hp → Prop, W 0 Hq (upd H1 D (.lst [])) ∧ ∀ j Hq H, W j Hq H → j ≤ n ∧ Same Hq H ∧ (j = n → ∀ H', Same H H' → Q (.ref D) H') ∧
  (j < n → ∀ x H' Hq', Same H H' → item j x H' → Same Hq' H' → (∀ b o, Hq' b = some o → Hq b = some o ∨ H b = none) → g x (wipe σ vs) H' fun σ2 H2 => wipe σ2 vs = wipe σ vs ∧ tt σ2 H2 fun b H3 =>
    if b = true then te σ2 H3 fun y H4 => ∃ acc, H4 D = some (.lst acc) ∧ acc.length < sizeLine ∧ W (j + 1) Hq' (upd H4 D (.lst (acc ++ [y]))) else W (j + 1) Hq' H3)
def tLcG (ti : TGy) (g : TG) (tt : TT) (te : TE) (vs : List Nat) : TE := fun σ H Q => ti σ H fun n item Hq H1 => LcG n item g tt te vs Hq σ H1 Q
theorem lcG_core {pins : List (Addr × Obj)} {s : Shared} {σ : L2.St} {H : Hp} {Q : VK} {elt tg iter : Expr} {ifs : List Expr} {scope : Scope} {own : List (Str × Nat)} {pos pos' : Pos} {kk : Nat} {ti : TGy} {g : TG} {tt : TT} {te : TE} {use : Option (Value → Sem Unit)} {Qf : Value → Shared → Prop}
    (hN : X.N.Nodup) (hro : Room (kk + 1) X.A) (I : Inv X pins σ H s) (hi : PGn X kk iter ti) (ok : BlkOk X.N X.env.scope scope own) (hnc : ∀ y ∈ scope.names, y.2 ≠ .cell)
    (hg : ∀ (s : Shared) (H : Hp) (C : Addr) (cl : List (Str × Addr)) (fp : List Addr), PG (X.blk s H scope (compEnvC scope cl C X.env) fp) tg g) (ht : ∀ (s : Shared) (H : Hp) (C : Addr) (cl : List (Str × Addr)) (fp : List Addr), PTs (X.blk s H scope (compEnvC scope cl C X.env) fp) ifs tt)
    (he : ∀ (s : Shared) (H : Hp) (C : Addr) (cl : List (Str × Addr)) (fp : List Addr), PE (X.blk s H scope (compEnvC scope cl C X.env) fp) elt te) (hs : ∀ x, foldedSetIterable iter X.env x = pure x)
    (h : tLcG ti g tt te (own.map (·.2)) σ H Q)
    (hRR : ∀ D C s' m H', Inv X pins σ H' s' → Q (.ref D) H' → s'.heap.Ns C m → FpOk X pins H' C → compPost (model X.prog X.w) X.A X.xe use Qf (.ref D) C (.ok .next) s') :
    wpAny (model X.prog X.w) X.A (comprehension (.ListComp elt [⟨tg, iter, ifs, 0⟩] scope pos) scope X.env pos' (newList []) false (eval iter X.env) use) Qf X.xe s := by
  have hfree : ∀ y ∈ scope.names, y.2 = .free → ∃ c, X.env.cells.lookup y.1 = some c := fun y hy e => (ok.free y hy e).elim (fun k => I.ok.has _ (.inl k)) fun k => I.ok.has _ (.inr k)
  refine wpAny_comprehension_free (use := use) rfl hs (closure_ok hfree) ok.kind (fun y hy e => by rw [ok.uniq y hy, e]) (thn (hi.run pins s σ H _ I h) fun xv s1 hx => thn (made_iter (M := model X.prog X.w) (E := X.xe) hx) fun itv s2 h2 => ?_)
  obtain ⟨G, H2, Hq, fp, gs, rfl, hk2, _, F, I2, hd2, hfr, hXL, sm2, q⟩ := h2
  have ro : Room (G.k + 1) X.A := by rw [hk2]; exact hro
  refine wpAny_newObj_type (newEnv_comp ?_) (by show 0 ≤ sizeLine; decide)
  generalize hD : s2.heap.objs.size = D
  have hDn : H2 D = none := I2.hok.fresh (Nat.le_of_eq hD)
  obtain ⟨W, w0, turn⟩ := q D hDn
  generalize hs3 : ({ s2 with heap := s2.heap.push { cls := .type "list", data := .seq ([] : List Value).toArray } } : Shared) = s3
  have h3 : s3.heap = s2.heap.push { cls := .type "list", data := .seq ([] : List Value).toArray } := by rw [← hs3]
  have k3 : ∀ b o, s2.heap.get? b = some o → s3.heap.get? b = some o := fun b o e => by rw [h3]; exact Heap.get?_push_of_some _ e
  have I3 : Inv X pins σ (upd H2 D (.lst [])) s3 := by
    rw [← hs3]
    refine I2.laid (t' := s2.toks) (fun b o e => Heap.get?_push_of_some _ e) (Nat.le_of_eq hD) ⟨Nat.zero_le _, [], 0, .nil, by rw [← hD]; exact Heap.get?_push_size _ rfl⟩
  have I4 := block_start (fp := []) I3 ok hN (fun b hb => by simp at hb)
  have hg3 : s3.gens = s2.gens := by rw [← hs3]
  have hD3 : s3.heap.objs.size = D + 1 := by rw [h3, Heap.size_push, hD]
  generalize hH3 : upd H2 D (.lst []) = H3 at I3 I4 w0
  have hga := (hd2.fps _ hd2.ga).1
  have hLD : G.env.locals < D := by rw [← hD]; exact Nat.lt_trans F.ok.la (Heap.lt_size hga)
  have lt2 : ∀ b o, s2.heap.get? b = some o → b ≠ D := fun b o e => Nat.ne_of_lt (by rw [← hD]; exact Heap.lt_size e)
  have hcl : cellsFrom (s3.heap.objs.size + 1) scope.names (cloFrom X.env.cells scope.names []) = cloFrom X.env.cells scope.names [] := cells_none hnc
  show codeAny (model X.prog X.w) _ (.compStart (.ListComp elt [⟨tg, iter, ifs, 0⟩] scope pos) 0 (.ref G.a) (.ref D) (compEnvC scope (cellsFrom (s3.heap.objs.size + 1) scope.names (cloFrom X.env.cells scope.names [])) s3.heap.objs.size X.env)) (compPost (model X.prog X.w) X.A X.xe use Qf (.ref D) s3.heap.objs.size) { s3 with heap := pushCells (s3.heap.push { cls := .type "dict", data := .dict #[] }) scope.names }
  have k4 : ∀ b o, s3.heap.get? b = some o → (pushCells (s3.heap.push { cls := .type "dict", data := .dict #[] }) scope.names).get? b = some o := fun b o e => pushCells_keeps _ _ _ _ (Heap.get?_push_of_some _ e)
  generalize hs4 : ({ s3 with heap := pushCells (s3.heap.push { cls := .type "dict", data := .dict #[] }) scope.names } : Shared) = s4 at I4 ⊢
  have k4' : ∀ b o, s3.heap.get? b = some o → s4.heap.get? b = some o := fun b o e => by rw [← hs4]; exact k4 b o e
  have hg4 : s4.gens = s2.gens := by rw [← hs4]; exact hg3
  have pg := hg { s3 with heap := cut s3.heap G.env.locals } H3 s3.heap.objs.size (cellsFrom (s3.heap.objs.size + 1) scope.names (cloFrom X.env.cells scope.names [])) []
  have pt := ht { s3 with heap := cut s3.heap G.env.locals } H3 s3.heap.objs.size (cellsFrom (s3.heap.objs.size + 1) scope.names (cloFrom X.env.cells scope.names [])) []
  have pe := he { s3 with heap := cut s3.heap G.env.locals } H3 s3.heap.objs.size (cellsFrom (s3.heap.objs.size + 1) scope.names (cloFrom X.env.cells scope.names [])) []
  have cellsB : ∀ x c, (compEnvC scope (cellsFrom (s3.heap.objs.size + 1) scope.names (cloFrom X.env.cells scope.names [])) s3.heap.objs.size X.env).cells.lookup x = some c → c < G.env.locals := fun x c e => by
    have e' : (cloFrom X.env.cells scope.names []).lookup x = some c := by
      rw [← hcl]; exact e
    rcases cloFrom_mem (PySem.mem_of_lookup e') with z | ⟨z1, z2⟩
    · simp at z
    · obtain ⟨c', hc'⟩ := hfree _ z1 rfl
      have hc'' : X.env.cells.lookup x = some c' := hc'
      rw [hc''] at z2
      rw [z2]
      exact F.cells x c' hc''
  generalize hce : compEnvC scope (cellsFrom (s3.heap.objs.size + 1) scope.names (cloFrom X.env.cells scope.names [])) s3.heap.objs.size X.env = ce at I4 pg pt pe cellsB ⊢
  have cL : ce.locals = s3.heap.objs.size := by subst hce; rfl
  have frL : ∀ b ∈ frs X.stack, b < G.env.locals := fun b hb => F.ok.frl b (by rw [← F.stack]; exact hb)
  have hnL : ce.locals ∉ frs X.stack := fun hm => by
    have := frL _ hm
    rw [cL, hD3] at this
    exact absurd (Nat.lt_trans this hLD) (Nat.not_lt_of_le (Nat.le_succ _))
  have pinB : ∀ p ∈ X.pn ++ pins, s4.heap.get? p.1 = some p.2 ∧ H3 p.1 = none ∧ p.1 ≠ ce.locals ∧ p.1 ∉ frs X.stack ∧ ∀ v, p.2.data ≠ .cell v := fun p hp => by
    obtain ⟨q1, q2, q3, q4, q5⟩ := I3.pin p hp
    refine ⟨k4' _ _ q1, q2, fun z => ?_, fun hm => ?_, q5⟩
    · have := Heap.lt_size q1
      rw [z, cL] at this
      exact absurd this (Nat.lt_irrefl _)
    · rcases List.mem_cons.mp (I3.stkSub p.1 hm) with z | z
      · exact q3 z
      · exact q4 z
  have I5 := blk_cut (L := G.env.locals) (pb := X.pn ++ pins) I4 (by rw [hD3]; exact Nat.le_of_lt (Nat.lt_succ_of_lt hLD)) (by rw [F.base]; exact F.ok.bsz) frL pinB
  have FB : Fits G (X.blk { s3 with heap := cut s3.heap G.env.locals } H3 scope ce []) := by
    refine ⟨F.ok, F.prog, F.w, F.K, F.mg, F.base, F.stack, ?_, cellsB, .inr ⟨?_, ?_⟩⟩
    · show (cut s3.heap G.env.locals).objs.size ≤ _
      rw [cut_size]
      exact Nat.min_le_left _ _
    · show G.env.locals < ce.locals
      rw [cL, hD3]
      exact Nat.lt_succ_of_lt hLD
    · rw [← F.stack]; exact hnL
  have hd4 : Held G (X.blk { s3 with heap := cut s3.heap G.env.locals } H3 scope ce []) (X.pn ++ pins) 0 Hq fp [] gs H3 s4 := by
    refine ⟨by rw [hg4]; exact hd2.at_, hd2.rdy, hd2.has, fun p hp => ?_, hd2.ga, fun q hq => by simp at hq⟩
    obtain ⟨q1, q2, q3, q4, q5, q6⟩ := hd2.fps p hp
    refine ⟨k4' _ _ (k3 _ _ q1), by rw [← hH3, upd_ne (lt2 _ _ q1)]; exact q2, q3, q4, fun z => ?_, fun q hq => q6 q (by simpa using hq)⟩
    have := Heap.lt_size (k3 _ _ q1)
    rw [z] at this
    have z' : ce.locals < s3.heap.objs.size := this
    rw [cL] at z'
    exact absurd z' (Nat.lt_irrefl _)
  have loop : codeAny (model X.prog X.w) X.A (.compLoop (.ListComp elt [⟨tg, iter, ifs, 0⟩] scope pos) 0 (.ref G.a) (.ref D) ce) (compPost (model X.prog X.w) X.A X.xe use Qf (.ref D) s3.heap.objs.size) s4 := by
    refine compLoop_any (fun m s' => ∃ j Hq H' fp gp gs, m = G.n - j ∧ Inv (X.blk { s3 with heap := cut s3.heap G.env.locals } H3 scope ce []) (X.pn ++ pins) (wipe σ (own.map (·.2))) H' s' ∧ Held G (X.blk { s3 with heap := cut s3.heap G.env.locals } H3 scope ce []) (X.pn ++ pins) j Hq fp gp gs H' s' ∧ W j Hq H') ?_ (G.n - 0) ⟨0, Hq, H3, fp, [], gs, rfl, I5, hd4, w0⟩
    rintro m s5 ⟨j, Hq5, H5, fp5, gp5, gs5, rfl, J5, hd5, w5⟩
    obtain ⟨t1, t2, t3, t4⟩ := turn j Hq5 H5 w5
    by_cases hj : j = G.n
    · refine next_done (X := X.blk { s3 with heap := cut s3.heap G.env.locals } H3 scope ce []) FB J5 hd5 t2 hj J5.ok.frames ro fun H6 s6 J6 sm => ?_
      have I7 : Inv X pins σ H6 s6 := blk_back (L := G.env.locals) I3 J6 F.s0 F.cells hXL
      have nC : H6 s3.heap.objs.size = none := by
        have z : H6 ce.locals = none := J6.free
        rw [cL] at z
        exact z
      obtain ⟨m, hn, _⟩ := J6.loc
      have hn : s6.heap.Ns ce.locals m := hn
      rw [cL] at hn
      exact hRR D s3.heap.objs.size s6 m H6 I7 (t3 hj H6 sm) hn (I3.fpOk (Nat.le_refl _) nC)
    · refine next_item (X := X.blk { s3 with heap := cut s3.heap G.env.locals } H3 scope ce []) FB J5 hd5 t2 (by omega) J5.ok.frames ro fun u x H6 Hq6 fp6 gp6 gs6 s6 rv it => let_gen F.ok ((it.held.fps _ it.held.ga).1) ?_
      have J6 := held_pin FB it.inv it.held
      refine wpAny_mono (pg_slp (fun _ _ h => h) pg J6 rv (t4 (by omega) x H6 Hq6 it.same it.item it.rely it.less)) (fun _ s7 ⟨sl7, σ7, H7, J7, hw7, q7⟩ => ?_) fun _ _ z => z
      refine wpAny_mono (run_slp (Q' := TP (X.blk { s3 with heap := cut s3.heap G.env.locals } H3 scope ce []) ((X.pn ++ pins) ++ fp6) σ7 _) J7 (fun z Iz _ => pt.run _ z σ7 H7 _ Iz q7) (fun b z s' h1 h2 h3 ⟨H', I', q⟩ => ⟨H', inv_gens I' h1 h2 (h3 I'.bare), q⟩)) (fun b s8 ⟨sl8, H8, J8, q8⟩ => ?_) fun _ _ z => z
      have fin : ∀ {s' : Shared} {H' : Hp}, Slp s6 s' → Inv (X.blk { s3 with heap := cut s3.heap G.env.locals } H3 scope ce []) ((X.pn ++ pins) ++ fp6) σ7 H' s' → W (j + 1) Hq6 H' → ∃ m, m < G.n - j ∧ ∃ j Hq H' fp gp gs, m = G.n - j ∧ Inv (X.blk { s3 with heap := cut s3.heap G.env.locals } H3 scope ce []) (X.pn ++ pins) (wipe σ (own.map (·.2))) H' s' ∧ Held G (X.blk { s3 with heap := cut s3.heap G.env.locals } H3 scope ce []) (X.pn ++ pins) j Hq fp gp gs H' s' ∧ W j Hq H' := fun {s' H'} sl I' w' => by
        have hl : (wipe σ (own.map (·.2))).length = σ7.length := by rw [← hw7, wipe_length]
        refine ⟨G.n - (j + 1), by omega, j + 1, Hq6, H', fp6, gp6, gs6, rfl, (I'.unpinned (pins := X.pn ++ pins)).weak hl (fun i v e => ?_), held_next it.held it.susp sl I', w'⟩
        rw [← hw7] at e
        exact (wipe_some e).1
      cases b with
      | false =>
        simp only [Bool.false_eq_true, if_false] at q8 ⊢
        exact fin (sl7.trans sl8) J8 q8
      | true =>
        simp only [if_true] at q8 ⊢
        refine wpAny_mono (run_slp (Q' := EP (X.blk { s3 with heap := cut s3.heap G.env.locals } H3 scope ce []) ((X.pn ++ pins) ++ fp6) σ7 _) J8 (fun z Iz _ => pe.run _ z σ7 H8 _ Iz q8) (fun a z s' h1 h2 h3 h4 => ep_gens h1 h2 h3 h4)) (fun z s9 ⟨sl9, yv, H9, J9, r9, acc, hD9, hz9, w9⟩ => ?_) fun _ _ z => z
        refine wpAny_mono (run_slp (E := fun _ _ => False) (Q' := fun _ s' => Inv (X.blk { s3 with heap := cut s3.heap G.env.locals } H3 scope ce []) ((X.pn ++ pins) ++ fp6) σ7 (upd H9 D (.lst (acc ++ [yv]))) s') J9 (fun z Iz _ => app_ok (X := X.blk { s3 with heap := cut s3.heap G.env.locals } H3 scope ce []) (E := fun _ _ => False) Iz hD9 hz9 r9 fun s11 I11 => I11) (fun a z s' h1 h2 h3 h4 => inv_gens h4 h1 h2 (h3 h4.bare))) (fun _ s10 ⟨sl10, J10⟩ => ?_) fun _ _ z => z.elim
        exact fin (((sl7.trans sl8).trans sl9).trans sl10) J10 w9
  exact codeAny_compStart_list loop (wpAny_pyIter_gen (held_gen FB hd4) loop)
theorem pe_lcG {elt tg iter : Expr} {ifs : List Expr} {scope : Scope} {own : List (Str × Nat)} {pos : Pos} {kk : Nat} {ti : TGy} {g : TG} {tt : TT} {te : TE} (hN : X.N.Nodup) (hro : Room (kk + 1) X.A) (hi : PGn X kk iter ti) (ok : BlkOk X.N X.env.scope scope own) (hnc : ∀ y ∈ scope.names, y.2 ≠ .cell)
    (hg : ∀ (s : Shared) (H : Hp) (C : Addr) (cl : List (Str × Addr)) (fp : List Addr), PG (X.blk s H scope (compEnvC scope cl C X.env) fp) tg g) (ht : ∀ (s : Shared) (H : Hp) (C : Addr) (cl : List (Str × Addr)) (fp : List Addr), PTs (X.blk s H scope (compEnvC scope cl C X.env) fp) ifs tt)
    (he : ∀ (s : Shared) (H : Hp) (C : Addr) (cl : List (Str × Addr)) (fp : List Addr), PE (X.blk s H scope (compEnvC scope cl C X.env) fp) elt te) (hs : ∀ x, foldedSetIterable iter X.env x = pure x := by intro _; rfl) :
    PE X (.ListComp elt [⟨tg, iter, ifs, 0⟩] scope pos) (tLcG ti g tt te (own.map (·.2))) := by
  refine ⟨fun pins s σ H Q I h => ?_⟩
  rw [eval_ListComp]
  refine lcG_core hN hro I hi ok hnc hg ht he hs h fun D C s' m H' I' q hn fo => ⟨m, hn, fun h2 sb => ?_⟩
  obtain ⟨f0, f1, f2, f3, f4, f5⟩ := fo
  exact ⟨.ref D, H', I'.turned (t' := s'.toks) (fun b o hb e => (sb.2 b hb).trans e) f0 f1 f3 f4 f5, rfl, q⟩
theorem ps_setLcG {i : Nat} {y : Str} {py : Pos} {elt tg iter : Expr} {ifs : List Expr} {scope : Scope} {own : List (Str × Nat)} {pos spos : Pos} {kk : Nat} {ti : TGy} {g : TG} {tt : TT} {te : TE} (hN : X.N.Nodup) (hy : X.N[i]? = some y) (hyl : X.env.scope.names.lookup y = some .local)
    (hsw : swapsWith (.ListComp elt [⟨tg, iter, ifs, 0⟩] scope pos) (some (.Name y py)) spos.line X.env = pure true) (hro : Room (kk + 1) X.A) (hi : PGn X kk iter ti) (ok : BlkOk X.N X.env.scope scope own) (hnc : ∀ y ∈ scope.names, y.2 ≠ .cell)
    (hg : ∀ (s : Shared) (H : Hp) (C : Addr) (cl : List (Str × Addr)) (fp : List Addr), PG (X.blk s H scope (compEnvC scope cl C X.env) fp) tg g) (ht : ∀ (s : Shared) (H : Hp) (C : Addr) (cl : List (Str × Addr)) (fp : List Addr), PTs (X.blk s H scope (compEnvC scope cl C X.env) fp) ifs tt)
    (he : ∀ (s : Shared) (H : Hp) (C : Addr) (cl : List (Str × Addr)) (fp : List Addr), PE (X.blk s H scope (compEnvC scope cl C X.env) fp) elt te) (hs : ∀ x, foldedSetIterable iter X.env x = pure x := by intro _; rfl) :
    PS X (.Assign [.Name y py] (.ListComp elt [⟨tg, iter, ifs, 0⟩] scope pos) spos) (tAsg (tLcG ti g tt te (own.map (·.2))) (gName i)) := by
  refine ⟨fun pins s σ H D I h => ?_⟩
  rw [exec_Assign_Name_used _ _ _ _ hsw]
  refine wpAny_bind (wpAny_standAt (wpAny_bind ?_))
  show wpAny (model X.prog X.w) X.A (do let _ ← comprehension (.ListComp elt [⟨tg, iter, ifs, 0⟩] scope pos) scope X.env (firstIterPos [⟨tg, iter, ifs, 0⟩] pos) (newList []) false (eval iter X.env) (some (assign (.Name y py) X.env))) _ _ s
  have hh : tLcG ti g tt te (own.map (·.2)) σ H (fun x H1 => gName i x σ H1 D.nx) := h
  refine wpAny_bind (thn (lcG_core (Qf := fun _ s' => SP X pins D .next s') hN hro I hi ok hnc hg ht he hs hh fun L C s' m H' I' q hn fo => ?_) fun _ s' hq => wpAny_pure (wpAny_pure hq))
  show wpAny (model X.prog X.w) _ (assign (.Name y py) X.env (.ref L)) _ _ _
  refine wpAny_assign_Name (store_ok2 (v := V.ref L) I' hN hy (.inl hyl) rfl (fun s2 I2 ⟨a, sb, ha⟩ => ?_) (.inr hyl))
  obtain ⟨f0, f1, f2, f3, f4, f5⟩ := fo
  have haC : C ≠ a := ha.elim (fun z => by rw [z]; exact f1) fun z e => f4 y a z e.symm
  exact ⟨m, hn.sameBut sb haC, fun h3 sb3 => ⟨_, H', I2.turned (t' := s2.toks) (fun b o hb e => (sb3.2 b hb).trans e) f0 f1 f3 f4 f5, q⟩⟩
end
end SY

set_option Elab.async false
set_option linter.all false
set_option maxRecDepth 100000
set_option maxHeartbeats 4000000
/-! Schemacheck: the parts of a datum. -/
namespace SC
open PySem L2
def kidsD : PyData → List (Key × PyData)
  | .list ds => rowsL ds
  | .dict es => rowsD es
  | _ => []
def partsN : Nat → PyData → List (List Key × PyData)
  | 0, _ => []
  | n + 1, d => ([], d) :: (kidsD d).flatMap fun q => (partsN n q.2).map fun r => (q.1 :: r.1, r.2)
/-- names are texts, and few -/
def txtD : Nat → PyData → Prop
  | 0, _ => True
  | n + 1, .list ds => ∀ d ∈ ds, txtD n d
  | n + 1, .dict es => es.length ≤ 60 ∧ StrKeys es ∧ ∀ e ∈ es, txtD n e.2
  | _ + 1, _ => True
theorem docD.txt : ∀ {n : Nat} {d : PyData}, docD n d → txtD n d
  | 0, _, h => h.elim
  | n + 1, .list ds, h => fun d hd => (h.2 d hd).txt
  | n + 1, .dict es, h => ⟨Nat.le_trans h.1 (by decide), fun e he => let ⟨x, hx, _⟩ := (h.2 e he).1; ⟨x, hx⟩, fun e he => (h.2 e he).2.txt⟩
  | n + 1, .none, _ => trivial
  | n + 1, .bool _, _ => trivial
  | n + 1, .int _, _ => trivial
  | n + 1, .str _, _ => trivial
  | n + 1, .tuple _, _ => trivial
/-- the parts ahead of the a-th row -/
def offR (n : Nat) (rs : List (Key × PyData)) (a : Nat) : Nat := ((rs.take a).map fun q => (partsN n q.2).length).sum
theorem off_zero (n : Nat) (rs : List (Key × PyData)) : offR n rs 0 = 0 := by simp [offR]
theorem off_succ {n : Nat} {rs : List (Key × PyData)} {a : Nat} {q : Key × PyData} (h : rs[a]? = some q) : offR n rs (a + 1) = offR n rs a + (partsN n q.2).length := by
  simp [offR, List.take_succ, h]
theorem parts_len {n : Nat} {d : PyData} : (partsN (n + 1) d).length = 1 + offR n (kidsD d) (kidsD d).length := by
  simp only [partsN, List.length_cons, offR, List.take_length, List.length_flatMap, List.length_map]
  omega
theorem flat_at {n : Nat} : ∀ {rs : List (Key × PyData)} {a b : Nat} {q : Key × PyData} {r : List Key × PyData}, rs[a]? = some q → (partsN n q.2)[b]? = some r →
    (rs.flatMap fun q => (partsN n q.2).map fun r => (q.1 :: r.1, r.2))[offR n rs a + b]? = some (q.1 :: r.1, r.2)
  | [], _, _, _, _, h, _ => by simp at h
  | p :: rs, 0, b, q, r, h, g => by
    simp at h
    subst h
    have hb := (List.getElem?_eq_some_iff.mp g).1
    rw [off_zero, Nat.zero_add, List.flatMap_cons, List.getElem?_append_left (by simpa using hb), List.getElem?_map, g]
    rfl
  | p :: rs, a + 1, b, q, r, h, g => by
    simp at h
    have e : offR n (p :: rs) (a + 1) = (partsN n p.2).length + offR n rs a := by simp [offR]
    rw [e, List.flatMap_cons, List.getElem?_append_right (by simp; omega)]
    rw [show (partsN n p.2).length + offR n rs a + b - (List.map (fun r => (p.1 :: r.1, r.2)) (partsN n p.2)).length = offR n rs a + b by simp; omega]
    exact flat_at h g
theorem parts_at {n : Nat} {d : PyData} {a b : Nat} {q : Key × PyData} {r : List Key × PyData} (h : (kidsD d)[a]? = some q) (g : (partsN n q.2)[b]? = some r) : (partsN (n + 1) d)[1 + offR n (kidsD d) a + b]? = some (q.1 :: r.1, r.2) := by
  have := flat_at h g
  simp only [partsN]
  rw [show 1 + offR n (kidsD d) a + b = (offR n (kidsD d) a + b) + 1 by omega, List.getElem?_cons_succ]
  exact this
theorem off_le {n : Nat} {rs : List (Key × PyData)} {a : Nat} {q : Key × PyData} (h : rs[a]? = some q) : offR n rs a + (partsN n q.2).length ≤ offR n rs rs.length := by
  rw [← off_succ h]
  have ha := (List.getElem?_eq_some_iff.mp h).1
  unfold offR
  rw [List.take_length]
  have key : ∀ (l : List Nat) (k : Nat), (l.take k).sum ≤ l.sum := fun l k => by
    have : (l.take k).sum + (l.drop k).sum = l.sum := by rw [← List.sum_append, List.take_append_drop]
    omega
  rw [List.map_take]
  exact key _ _
/-- paths are not longer than it is deep -/
theorem parts_path : ∀ {n : Nat} {d : PyData} {r : List Key × PyData}, r ∈ partsN n d → r.1.length < n
  | 0, _, _, h => by simp [partsN] at h
  | n + 1, d, r, h => by
    simp only [partsN, List.mem_cons, List.mem_flatMap, List.mem_map] at h
    rcases h with rfl | ⟨q, _, x, hx, rfl⟩
    · simp
    · have := parts_path hx
      simp
      omega
/-- one item of parts -/
def partIt (n : Nat) (d : PyData) (G : Hp) : Nat → V → Hp → Prop := fun j x H => ∃ t p v q e, x = .ref t ∧ (partsN n d)[j]? = some (q, e) ∧ H t = some (.tup [.ref p, v]) ∧ H p = some (.tup (q.map kV)) ∧ Re G n v e
theorem partIt.mono {n : Nat} {d : PyData} {G : Hp} {j : Nat} {x : V} {H H' : Hp} (s : Same H H') (h : partIt n d G j x H) : partIt n d G j x H' := by
  obtain ⟨t, p, v, q, e, h1, h2, h3, h4, h5⟩ := h
  exact ⟨t, p, v, q, e, h1, h2, s _ _ h3, s _ _ h4, h5⟩
/-- two parts of a heap -/
def join (A B : Hp) : Hp := fun b => match A b with
  | some o => some o
  | none => B b
theorem join_same {A B H : Hp} (a : Same A H) (b : Same B H) : Same (join A B) H := fun c o e => by
  unfold join at e
  cases h : A c with
  | some u => rw [h] at e; exact a c o (by rw [h]; exact e)
  | none => rw [h] at e; exact b c o e
theorem join_l (A B : Hp) : Same A (join A B) := fun c o e => by
  unfold join; rw [e]
theorem join_r {A B H : Hp} (a : Same A H) (b : Same B H) : Same B (join A B) := fun c o e => by
  unfold join
  cases h : A c with
  | some u =>
    have h1 := a c u h
    rw [b c o e] at h1
    exact h1.symm
  | none => exact e
theorem join_or {A B : Hp} {c : Addr} {o : HO} (h : join A B c = some o) : A c = some o ∨ B c = some o := by
  unfold join at h
  cases e : A c with
  | some u => rw [e] at h; exact .inl h
  | none => rw [e] at h; exact .inr h
section
variable {X : Cx} {K : PySem.W.Frag} {tg : Expr}
theorem pi_listK (h : X.K = K) {l : Expr} {tl : TE} (hl : PE X l tl) : PI X tg l (iList K tl) := by subst h; exact pi_list hl
theorem pg_tupK (h : X.K = K) {es : List Expr} {k : Nat} {t : TGs} {n : Nat} {pos : Pos} (hc : X.calm = true) (hp : PGs X es t) (hn : (assignEach es X.env).length = n := by rfl) (hst : (assignEach es X.env).findIdx? (·.1) = none := by rfl) : PG X (.Tuple es k pos) (gTup K n t) := by subst h; exact pg_tup hc hp hn hst
theorem pi_tupK (h : X.K = K) {l : Expr} {tl : TE} (hl : PE X l tl) : PI X tg l (iTup K tl) := by subst h; exact pi_tup hl
end
theorem _root_.SY.rmY {G : SY.Gn} {ω : SY.Wd} {k : Nat} (h : SY.WdOk G ω) (e : G.k = k + 1) : Room k (G.at ω).A := Room.deeper (e ▸ h.room) _
/-- a generator's block cut behind its first statement -/
theorem cutY {t u : SY.TY} {D : SY.GD} {Hg Hw : Hp} {i : Nat} {σ : L2.St} {H : Hp} (M : SY.GK) (h1 : ∀ N : SY.GK, (∀ a b j σ' H', M a b j σ' H' → N a b j σ' H') → t { D with nx := N } Hg Hw i σ H) (h2 : ∀ a b j σ' H', M a b j σ' H' → u D a b j σ' H') : SY.tyThen t u D Hg Hw i σ H := h1 _ h2
def FyR (J : It) (g : TG) (tb : SY.TY) (D : SY.GD) (Hg Hw : Hp) (i : Nat) (σ : L2.St) (H1 : Hp) : Prop := ∃ W : Nat → Nat → SY.GK, (∃ m, W 0 m Hg Hw i σ H1) ∧ ∀ j m Hg Hw i σ H, W j m Hg Hw i σ H →
  (J.stop j H ∧ D.nx Hg Hw i σ H) ∨ (J.go j H ∧ ∃ N : SY.GK, (∀ a b i' σ' H', N a b i' σ' H' → ∃ m', m' < m ∧ W (j + 1) m' a b i' σ' H') ∧ ∀ x H', J.yld j H x H' → g x σ H' fun σ2 H2 => tb { nx := N, ct := N, bk := D.nx } Hg Hw i σ2 H2)
theorem tyFor_eq (wi : TI) (g : TG) (tb : SY.TY) (D : SY.GD) (Hg Hw : Hp) (i : Nat) (σ : L2.St) (H : Hp) : SY.tyFor wi g tb D Hg Hw i σ H = wi σ H fun J H1 => FyR J g tb D Hg Hw i σ H1 := rfl
def FyG (n : Nat) (item : Nat → V → Hp → Prop) (g : TG) (tb : SY.TY) (D : SY.GD) (Hq Hg Hw : Hp) (i : Nat) (σ : L2.St) (H1 : Hp) : Prop := ∃ W : Nat → Hp → SY.GK, W 0 Hq Hg Hw i σ H1 ∧ ∀ j Hq Hg Hw i σ H, W j Hq Hg Hw i σ H → j ≤ n ∧ Same Hq H ∧ (j = n → ∀ H', Same H H' → D.nx Hg Hw i σ H') ∧
  (j < n → ∀ x H' Hq', Same H H' → item j x H' → Same Hq' H' → (∀ b o, Hq' b = some o → Hq b = some o ∨ H b = none) → g x σ H' fun σ2 H2 => tb { nx := W (j + 1) Hq', ct := W (j + 1) Hq', bk := D.nx } Hg Hw i σ2 H2)
theorem tyForG_eq (ti : SY.TGy) (g : TG) (tb : SY.TY) (D : SY.GD) (Hg Hw : Hp) (i : Nat) (σ : L2.St) (H : Hp) : SY.tyForG ti g tb D Hg Hw i σ H = ti σ H fun n item Hq H1 => FyG n item g tb D Hq Hg Hw i σ H1 := rfl
theorem fyG_mk {n : Nat} {item : Nat → V → Hp → Prop} {g : TG} {tb : SY.TY} {D : SY.GD} {Hq Hg Hw : Hp} {i : Nat} {σ : L2.St} {H1 : Hp} (W : Nat → Hp → SY.GK) (h0 : W 0 Hq Hg Hw i σ H1) (hl : ∀ j Hq Hg Hw i σ H, W j Hq Hg Hw i σ H → j ≤ n ∧ Same Hq H) (hd : ∀ Hq Hg Hw i σ H H', W n Hq Hg Hw i σ H → Same H H' → D.nx Hg Hw i σ H')
    (hs : ∀ j Hq Hg Hw i σ H x H' Hq', W j Hq Hg Hw i σ H → j < n → Same H H' → item j x H' → Same Hq' H' → (∀ b o, Hq' b = some o → Hq b = some o ∨ H b = none) → g x σ H' fun σ2 H2 => tb { nx := W (j + 1) Hq', ct := W (j + 1) Hq', bk := D.nx } Hg Hw i σ2 H2) : FyG n item g tb D Hq Hg Hw i σ H1 :=
  ⟨W, h0, fun j Hq Hg Hw i σ H w => ⟨(hl _ _ _ _ _ _ _ w).1, (hl _ _ _ _ _ _ _ w).2, fun e H' s => hd Hq Hg Hw i σ H H' (e ▸ w) s, fun hj x H' Hq' s it sq le => hs j Hq Hg Hw i σ H x H' Hq' w hj s it sq le⟩⟩
/-- for over a list in a generator -/
theorem fy_list {K : PySem.W.Frag} {a : Addr} {xs : List V} {g : TG} {tb : SY.TY} {D : SY.GD} {Hg Hw : Hp} {i : Nat} {σ : L2.St} {H : Hp} (Pv : Nat → SY.GK) (h0 : Pv 0 Hg Hw i σ H) (hl : ∀ j Hg Hw i σ H, j ≤ xs.length → Pv j Hg Hw i σ H → SqL K H a xs)
    (hs : ∀ (j : Nat) x Hg Hw i σ H, xs[j]? = some x → Pv j Hg Hw i σ H → g x σ H fun σ2 H2 => tb { nx := Pv (j + 1), ct := Pv (j + 1), bk := D.nx } Hg Hw i σ2 H2) (hd : ∀ Hg Hw i σ H, Pv xs.length Hg Hw i σ H → D.nx Hg Hw i σ H) : FyR (Itl K a) g tb D Hg Hw i σ H := by
  refine ⟨fun j m Hg Hw i σ H => m = xs.length - j ∧ j ≤ xs.length ∧ Pv j Hg Hw i σ H, ⟨_, rfl, Nat.zero_le _, h0⟩, ?_⟩
  rintro j m Hg Hw i σ H ⟨rfl, hj, p⟩
  have q := hl j Hg Hw i σ H hj p
  by_cases hlt : j < xs.length
  · refine .inr ⟨⟨xs, xs[j], q, by simp [hlt]⟩, Pv (j + 1), fun a b i' σ' H' p' => ⟨xs.length - (j + 1), by omega, rfl, hlt, p'⟩, ?_⟩
    rintro x H' ⟨rfl, hx⟩
    exact hs j x Hg Hw i σ _ (hx xs q) p
  · have e : j = xs.length := by omega
    subst e
    exact .inl ⟨⟨xs, q, Nat.le_refl _⟩, hd Hg Hw i σ H p⟩
/-- the same for consumers in a def -/
theorem tForG_eq (ti : SY.TGy) (g : TG) (tb : TS) (D : Ends) (σ : L2.St) (H : Hp) : SY.tForG ti g tb D σ H = ti σ H fun n item Hq H1 => SY.FoG n item g tb D Hq σ H1 := rfl
theorem foG_mk {n : Nat} {item : Nat → V → Hp → Prop} {g : TG} {tb : TS} {D : Ends} {Hq : Hp} {σ : L2.St} {H1 : Hp} (W : Nat → Hp → L2.St → Hp → Prop) (h0 : W 0 Hq σ H1) (hl : ∀ j Hq σ H, W j Hq σ H → j ≤ n ∧ Same Hq H) (hd : ∀ Hq σ H H', W n Hq σ H → Same H H' → D.nx σ H')
    (hs : ∀ j Hq σ H x H' Hq', W j Hq σ H → j < n → Same H H' → item j x H' → Same Hq' H' → (∀ b o, Hq' b = some o → Hq b = some o ∨ H b = none) → g x σ H' fun σ2 H2 => tb { nx := W (j + 1) Hq', rt := D.rt, ct := W (j + 1) Hq', bk := D.nx } σ2 H2) : SY.FoG n item g tb D Hq σ H1 :=
  ⟨W, h0, fun j Hq σ H w => ⟨(hl _ _ _ _ w).1, (hl _ _ _ _ w).2, fun e H' s => hd Hq σ H H' (e ▸ w) s, fun hj x H' Hq' s it sq le => hs j Hq σ H x H' Hq' w hj s it sq le⟩⟩
theorem tLcG_eq (ti : SY.TGy) (g : TG) (tt : TT) (te : TE) (vs : List Nat) (σ : L2.St) (H : Hp) (Q : VK) : SY.tLcG ti g tt te vs σ H Q = ti σ H fun n item Hq H1 => SY.LcG n item g tt te vs Hq σ H1 Q := rfl
def sp_parts (n : Nat) : SY.SpY := fun vs H m item Hg => ∃ v d, vs = [v] ∧ Re Hg n v d ∧ txtD n d ∧ Same Hg H ∧ n ≤ 100 ∧ m = (partsN n d).length ∧ item = partIt n d Hg
end SC

set_option Elab.async false
set_option linter.all false
set_option maxRecDepth 100000
set_option maxHeartbeats 4000000
/-! Schemacheck: paths compared; lists compared with the empty one; facts of parts. -/
namespace SC
open PySem L2
section
variable {X : Cx} {K : PySem.W.Frag}
def rNeNil (K : PySem.W.Frag) : R2 := fun x y H Q => ∃ a b xs, x = .ref a ∧ y = .ref b ∧ SqL K H a xs ∧ SqL K H b [] ∧ Q (.bl (decide (xs ≠ []))) H
def rEqNil (K : PySem.W.Frag) : R2 := fun x y H Q => ∃ a b xs, x = .ref a ∧ y = .ref b ∧ SqL K H a xs ∧ SqL K H b [] ∧ Q (.bl (decide (xs = []))) H
theorem neNilK (h : X.K = K) (hu : X.A.units + 1 < cLine) : OpR X (compareOp .NotEq) (rNeNil K) := by
  subst h
  intro pins s σ H x y v u Q I rx ry ⟨a, b, xs, e1, e2, ha, hb, q⟩
  subst e1; subst e2
  cases rx; cases ry
  obtain ⟨its, r1, p1, _⟩ := I.list ha
  obtain ⟨its2, r2, p2, _⟩ := I.list hb
  cases r2
  have hl := r1.length
  have hu' : X.A.units < cLine := by omega
  by_cases hx : xs = []
  · subst hx
    cases r1
    exact SeqAt.RcNeAt.lists (e := fun _ => true) p1.isList p2.isList rfl hu' (fun j h1 => by simp at h1) _ _ _ _ ⟨.bl _, H, I, rfl, by simpa using q⟩
  · refine SeqAt.RcNeAt.lists_lengths p1.isList p2.isList ?_ hu' _ _ _ _ ⟨.bl _, H, I, rfl, by simpa [hx] using q⟩
    have : its.length ≠ 0 := fun z => hx (List.eq_nil_of_length_eq_zero (by omega))
    simp only [List.size_toArray, List.length_nil, bne_iff_ne, ne_eq]
    exact this
theorem eqNilK (h : X.K = K) (hu : X.A.units + 1 < cLine) : OpR X (compareOp .Eq) (rEqNil K) := by
  subst h
  intro pins s σ H x y v u Q I rx ry ⟨a, b, xs, e1, e2, ha, hb, q⟩
  subst e1; subst e2
  cases rx; cases ry
  obtain ⟨its, r1, p1, _⟩ := I.list ha
  obtain ⟨its2, r2, p2, _⟩ := I.list hb
  cases r2
  have hl := r1.length
  have hu' : X.A.units < cLine := by omega
  by_cases hx : xs = []
  · subst hx
    cases r1
    exact SeqAt.RcAt.lists (e := fun _ => true) p1.isList p2.isList rfl hu' (fun j h1 => by simp at h1) _ _ _ _ ⟨.bl _, H, I, rfl, by simpa using q⟩
  · refine SeqAt.RcAt.lists_lengths p1.isList p2.isList ?_ hu' _ _ _ _ ⟨.bl _, H, I, rfl, by simpa [hx] using q⟩
    have : its.length ≠ 0 := fun z => hx (List.eq_nil_of_length_eq_zero (by omega))
    simp only [List.size_toArray, List.length_nil, bne_iff_ne, ne_eq]
    exact this
theorem inDK (h : X.K = K) (hu : X.A.units + 65 < cLine) : OpR X (compareOp .In) (rInD K) := by subst h; exact op_inD hu
theorem notInDK (h : X.K = K) (hu : X.A.units + 65 < cLine) : OpR X (compareOp .NotIn) (rNotInD K) := by subst h; exact op_notInD hu
end
/-! ### paths as data -/
def pathD (p : List Key) : PyData := .tuple (p.map kD)
theorem eqv_key (a b : Key) : PyData.eqv (kD a) (kD b) = decide (a = b) := by
  cases a with
  | inl i => cases b with
    | inl j =>
      show (i == j) = _
      by_cases h : i = j
      · subst h; simp
      · simp [h]
    | inr y => simp [kD, PyData.eqv]
  | inr x => cases b with
    | inl j => simp [kD, PyData.eqv]
    | inr y =>
      show (x == y) = _
      by_cases h : x = y
      · subst h; simp
      · simp [h]
theorem eqvAll_map {A : Type} [DecidableEq A] {f : A → PyData} (hf : ∀ a b, PyData.eqv (f a) (f b) = decide (a = b)) : ∀ xs ys : List A, PyData.eqvAll (xs.map f) (ys.map f) = decide (xs = ys)
  | [], [] => rfl
  | [], y :: ys => by simp [PyData.eqvAll]
  | x :: xs, [] => by simp [PyData.eqvAll]
  | x :: xs, y :: ys => by
    show (PyData.eqv (f x) (f y) && PyData.eqvAll (xs.map f) (ys.map f)) = _
    rw [hf, eqvAll_map hf xs ys]
    by_cases h : x = y
    · subst h; simp
    · simp [h]
theorem eqv_path (p q : List Key) : PyData.eqv (pathD p) (pathD q) = decide (p = q) := eqvAll_map eqv_key p q
theorem eqv_paths (ps qs : List (List Key)) : PyData.eqv (.list (ps.map pathD)) (.list (qs.map pathD)) = decide (ps = qs) := eqvAll_map eqv_path ps qs
def keyOkK : Key → Prop
  | .inl _ => True
  | .inr x => PyData.strOk x = true
theorem lay_path {p : List Key} (h : ∀ k ∈ p, keyOkK k) : PyData.canLay0 (pathD p) = true := by
  show PyData.canLayAll0 (p.map kD) = true
  induction p with
  | nil => rfl
  | cons k r ih =>
    show (PyData.canLay0 (kD k) && PyData.canLayAll0 (r.map kD)) = true
    rw [ih fun x hx => h x (by simp [hx]), Bool.and_true]
    have := h k (by simp)
    cases k with
    | inl i => rfl
    | inr x => exact this
theorem depth_path (p : List Key) : (pathD p).depth ≤ 1 := by
  have : PyData.depthAll (p.map kD) ≤ 0 := depthAll_le fun d hd => by
    obtain ⟨k, _, rfl⟩ := List.mem_map.mp hd
    cases k <;> exact Nat.zero_le _
  show PyData.depthAll (p.map kD) + 1 ≤ 1
  omega
theorem shaped_path {p : List Key} (h : ∀ k ∈ p, keyOkK k) : SeqAt.shaped (pathD p) = true := by
  have h1 := lay_path h
  have h2 := depth_path p
  show (PyData.canLay0 (pathD p) && decide ((pathD p).depth ≤ 64)) = true
  rw [h1, decide_eq_true (by omega)]
  rfl
theorem shaped_paths {ps : List (List Key)} (h : ∀ p ∈ ps, ∀ k ∈ p, keyOkK k) : SeqAt.shaped (.list (ps.map pathD)) = true := by
  have h1 : PyData.canLayAll0 (ps.map pathD) = true := by
    induction ps with
    | nil => rfl
    | cons p r ih =>
      show (PyData.canLay0 (pathD p) && PyData.canLayAll0 (r.map pathD)) = true
      rw [lay_path (h p (by simp)), ih fun x hx => h x (by simp [hx])]
      rfl
  have h2 : PyData.depthAll (ps.map pathD) ≤ 1 := depthAll_le fun d hd => by
    obtain ⟨p, _, rfl⟩ := List.mem_map.mp hd
    exact depth_path p
  show (PyData.canLayAll0 (ps.map pathD) && decide (PyData.depthAll (ps.map pathD) + 1 ≤ 64)) = true
  rw [h1, decide_eq_true (by omega)]
  rfl
theorem Dp_key {K : PySem.W.Frag} {H : Hp} : ∀ p : List Key, DpAll K H (p.map kV) (p.map kD)
  | [] => .nil
  | .inl i :: r => .cons (.int i) (Dp_key r)
  | .inr x :: r => .cons (.str x) (Dp_key r)
theorem Dp_path {K : PySem.W.Frag} {H : Hp} {a : Addr} {p : List Key} (h : H a = some (.tup (p.map kV))) : Dp K H (.ref a) (pathD p) := .tup (SqT.of h) (Dp_key p)
theorem Dp_paths {K : PySem.W.Frag} {H : Hp} {a : Addr} {vs : List V} {ps : List (List Key)} (h : H a = some (.lst vs)) (hp : Paired (fun v p => ∃ t, v = V.ref t ∧ H t = some (.tup (p.map kV))) vs ps) : Dp K H (.ref a) (.list (ps.map pathD)) := by
  refine .lst (SqL.of h) ?_
  clear h
  induction hp with
  | nil => exact .nil
  | cons r _ ih =>
    obtain ⟨t, rfl, ht⟩ := r
    exact .cons (Dp_path ht) ih
/-! ### fuel -/
theorem kids_mem {G : Hp} {n : Nat} {v : V} {d : PyData} (r : Re G (n + 1) v d) (htx : txtD (n + 1) d) {q : Key × PyData} (hq : q ∈ kidsD d) : ∃ u, Re G n u q.2 ∧ txtD n q.2 := by
  cases d with
  | list ds =>
    obtain ⟨a, xs, rfl, ha, hb, hp⟩ := r
    simp only [kidsD, rowsL, List.mem_map] at hq
    obtain ⟨⟨x, i⟩, hm, rfl⟩ := hq
    have hx : x ∈ ds := by
      obtain ⟨_, _, h⟩ := List.mem_zipIdx hm
      rw [h]
      exact List.getElem_mem _
    obtain ⟨u, _, hu⟩ := pd_memR hp hx
    exact ⟨u, hu, htx x hx⟩
  | dict es =>
    obtain ⟨a, xs, rfl, ha, hb, hn, hp⟩ := r
    simp only [kidsD, rowsD, List.mem_map] at hq
    obtain ⟨x, hx, rfl⟩ := hq
    have hin : x ∈ keysD es := mem_srt.mp hx
    cases hg : dget es x with
    | none => exact absurd hin (dget_none hg)
    | some d2 =>
      obtain ⟨e, he, hde, _⟩ := dget_mem hg
      obtain ⟨u, _, hu⟩ := pd_memR hp he
      simp only [Option.getD_some]
      rw [← hde]
      exact ⟨_, hu.2, htx.2.2 e he⟩
  | none => simp [kidsD] at hq
  | bool _ => simp [kidsD] at hq
  | int _ => simp [kidsD] at hq
  | str _ => simp [kidsD] at hq
  | tuple _ => simp [kidsD] at hq
theorem flatMap_congr' {A B : Type} {f g : A → List B} : ∀ {l : List A}, (∀ a ∈ l, f a = g a) → l.flatMap f = l.flatMap g
  | [], _ => rfl
  | a :: r, h => by rw [List.flatMap_cons, List.flatMap_cons, h a (by simp), flatMap_congr' fun x hx => h x (by simp [hx])]
theorem parts_up {G : Hp} : ∀ {n : Nat} {v : V} {d : PyData}, Re G n v d → txtD n d → partsN (n + 1) d = partsN n d
  | 0, _, _, r, _ => r.elim
  | n + 1, v, d, r, htx => by
    show _ :: _ = _ :: _
    congr 1
    refine flatMap_congr' fun q hq => ?_
    obtain ⟨u, hu, ht⟩ := kids_mem r htx hq
    rw [parts_up hu ht]
theorem Re.txt_up {G : Hp} : ∀ {n : Nat} {v : V} {d : PyData}, Re G n v d → txtD n d → txtD (n + 1) d
  | 0, _, _, r, _ => r.elim
  | n + 1, v, .list ds, ⟨a, xs, _, _, _, hp⟩, h => fun d hd => by
    obtain ⟨x, _, hx⟩ := pd_memR hp hd
    exact hx.txt_up (h d hd)
  | n + 1, v, .dict es, ⟨a, xs, _, _, _, _, hp⟩, h => ⟨h.1, h.2.1, fun e he => by
    obtain ⟨x, _, hx⟩ := pd_memR hp he
    exact hx.2.txt_up (h.2.2 e he)⟩
  | n + 1, v, .none, _, _ => trivial
  | n + 1, v, .bool _, _, _ => trivial
  | n + 1, v, .int _, _, _ => trivial
  | n + 1, v, .str _, _, _ => trivial
  | n + 1, v, .tuple _, _, _ => trivial
/-- the parts of a part are told with any fuel -/
theorem parts_eq {G : Hp} {n : Nat} {v : V} {d : PyData} (r : Re G n v d) (htx : txtD n d) : partsN n d = ([], d) :: (kidsD d).flatMap fun q => (partsN n q.2).map fun x => (q.1 :: x.1, x.2) := by
  cases n with
  | zero => exact r.elim
  | succ n =>
    show _ :: _ = _ :: _
    congr 1
    refine flatMap_congr' fun q hq => ?_
    obtain ⟨u, hu, ht⟩ := kids_mem r htx hq
    rw [parts_up hu ht]
/-! ### each path once -/
theorem nd_map {A B : Type} {f : A → B} (hf : ∀ a b, f a = f b → a = b) : ∀ {l : List A}, l.Nodup → (l.map f).Nodup
  | [], _ => List.nodup_nil
  | x :: r, h => by
    rw [List.nodup_cons] at h
    rw [List.map_cons, List.nodup_cons]
    refine ⟨fun hm => ?_, nd_map hf h.2⟩
    obtain ⟨y, hy, e⟩ := List.mem_map.mp hm
    rw [hf _ _ e] at hy
    exact h.1 hy
theorem kids_nd {G : Hp} {n : Nat} {v : V} {d : PyData} (r : Re G (n + 1) v d) (htx : txtD (n + 1) d) : ((kidsD d).map (·.1)).Nodup := by
  cases d with
  | list ds =>
    simp only [kidsD, rowsL, List.map_map]
    rw [show ((fun x : Key × PyData => x.1) ∘ fun p : PyData × Nat => ((Sum.inl (p.2 : Int) : Key), p.1)) = fun p : PyData × Nat => (Sum.inl (p.2 : Int) : Key) from rfl]
    have h2 : (ds.zipIdx.map fun p => (Sum.inl (p.2 : Int) : Key)) = (List.range ds.length).map fun i : Nat => (Sum.inl (i : Int) : Key) := by
      apply List.ext_getElem?
      intro i
      simp [List.getElem?_zipIdx, List.getElem?_range]
      by_cases hi : i < ds.length
      · simp [hi]
      · simp [hi]
    rw [h2]
    refine nd_map ?_ List.nodup_range
    intro a b h
    have := Sum.inl.inj h
    omega
  | dict es =>
    obtain ⟨a, xs, rfl, ha, hb, hn, hp⟩ := r
    have nd := keys_nd hp htx.2.1 hn
    simp only [kidsD, rowsD, List.map_map]
    refine nd_map ?_ ((srt_perm (keysD es)).nodup_iff.mpr nd)
    intro a b h
    simp at h
    exact h
  | none => simp [kidsD]
  | bool _ => simp [kidsD]
  | int _ => simp [kidsD]
  | str _ => simp [kidsD]
  | tuple _ => simp [kidsD]
theorem flat_nd {A : Type} : ∀ {l : List (Key × A)} {f : Key × A → List (List Key)}, (l.map (·.1)).Nodup → (∀ q ∈ l, (f q).Nodup) → (l.flatMap fun q => (f q).map fun r => q.1 :: r).Nodup
  | [], _, _, _ => List.nodup_nil
  | q :: l, f, h, g => by
    rw [List.flatMap_cons]
    rw [List.map_cons, List.nodup_cons] at h
    refine List.nodup_append.mpr ⟨?_, flat_nd h.2 fun x hx => g x (by simp [hx]), ?_⟩
    · refine nd_map ?_ (g q (by simp))
      intro a b e
      simp at e
      exact e
    · intro x hx y hy e
      subst e
      obtain ⟨a, _, rfl⟩ := List.mem_map.mp hx
      obtain ⟨q2, hq2, hy⟩ := List.mem_flatMap.mp hy
      obtain ⟨b, _, e⟩ := List.mem_map.mp hy
      simp at e
      exact h.1 (List.mem_map.mpr ⟨q2, hq2, e.1⟩)
theorem parts_nd {G : Hp} : ∀ {n : Nat} {v : V} {d : PyData}, Re G n v d → txtD n d → ((partsN n d).map (·.1)).Nodup
  | 0, _, _, r, _ => r.elim
  | n + 1, v, d, r, htx => by
    have h1 : ((kidsD d).flatMap fun q => (partsN n q.2).map fun x => (q.1 :: x.1, x.2)).map (·.1) = (kidsD d).flatMap fun q => ((partsN n q.2).map (·.1)).map fun x => q.1 :: x := by
      rw [List.map_flatMap]
      refine flatMap_congr' fun q _ => ?_
      rw [List.map_map, List.map_map]
      rfl
    simp only [partsN, List.map_cons]
    rw [h1, List.nodup_cons]
    refine ⟨fun hm => ?_, flat_nd (kids_nd r htx) fun q hq => ?_⟩
    · obtain ⟨q, _, hq⟩ := List.mem_flatMap.mp hm
      obtain ⟨x, _, e⟩ := List.mem_map.mp hq
      cases e
    · obtain ⟨u, hu, ht⟩ := kids_mem r htx hq
      exact parts_nd hu ht
/-- the number of parts -/
theorem parts_cnt : ∀ {n : Nat} {d : PyData}, docD n d → ndD n d → (partsN n d).length = cnt d
  | 0, _, h, _ => h.elim
  | n + 1, .list ds, h, g => by
    rw [parts_len]
    simp only [cnt]
    congr 1
    have key : ∀ (l : List PyData) (i : Nat), (∀ d ∈ l, docD n d ∧ ndD n d) → ((l.zipIdx i).map fun p => (partsN n p.1).length).sum = cntAll l := fun l => by
      induction l with
      | nil => intro i _; rfl
      | cons d r ih =>
        intro i hh
        simp only [List.zipIdx_cons, List.map_cons, List.sum_cons, cntAll]
        rw [ih _ fun x hx => hh x (by simp [hx]), parts_cnt (hh d (by simp)).1 (hh d (by simp)).2]
    have := key ds 0 fun d hd => ⟨h.2 d hd, g d hd⟩
    rw [← this]
    unfold offR
    rw [List.take_length]
    simp only [kidsD, rowsL, List.map_map]
    rfl
  | n + 1, .dict es, h, g => by
    rw [parts_len]
    simp only [cnt]
    congr 1
    unfold offR
    rw [List.take_length]
    simp only [kidsD, rowsD, List.map_map]
    have h1 : (((srt (keysD es)).map fun x => (partsN n ((dget es x).getD .none)).length)).sum = ((keysD es).map fun x => (partsN n ((dget es x).getD .none)).length).sum := ((srt_perm (keysD es)).map _).sum_nat
    refine Eq.trans h1 ?_
    have key : ∀ (l : List (PyData × PyData)), (∀ e ∈ l, docD n e.2 ∧ ndD n e.2 ∧ dget es (strD e.1) = some e.2) → (l.map fun e => (partsN n ((dget es (strD e.1)).getD .none)).length).sum = cntKv l := fun l => by
      induction l with
      | nil => intro _; rfl
      | cons e r ih =>
        intro hh
        obtain ⟨k, d⟩ := e
        obtain ⟨h2, h3, h4⟩ := hh (k, d) (by simp)
        simp only [List.map_cons, List.sum_cons, cntKv, h4, Option.getD_some]
        rw [ih fun x hx => hh x (by simp [hx]), parts_cnt h2 h3]
    rw [show (keysD es).map (fun x => (partsN n ((dget es x).getD .none)).length) = es.map fun e => (partsN n ((dget es (strD e.1)).getD .none)).length by simp [keysD]]
    exact key es fun e he => ⟨(h.2 e he).2, g.2 e he, dget_nd g.1 he⟩
  | n + 1, .none, _, _ => rfl
  | n + 1, .bool _, _, _ => rfl
  | n + 1, .int _, _, _ => rfl
  | n + 1, .str _, _, _ => rfl
  | n + 1, .tuple _, h, _ => h.elim
/-- the parts of a document are documents; names on paths -/
theorem parts_doc : ∀ {n : Nat} {d : PyData} {r : List Key × PyData}, docD n d → r ∈ partsN n d → docD n r.2 ∧ ∀ k ∈ r.1, leafD (kD k) ∧ keyOkK k
  | 0, _, _, h, _ => h.elim
  | n + 1, d, r, h, hr => by
    simp only [partsN, List.mem_cons, List.mem_flatMap, List.mem_map] at hr
    rcases hr with rfl | ⟨q, hq, x, hx, rfl⟩
    · exact ⟨h, by simp⟩
    · have hk : docD n q.2 ∧ leafD (kD q.1) ∧ keyOkK q.1 := by
        cases d with
        | list ds =>
          simp only [kidsD, rowsL, List.mem_map] at hq
          obtain ⟨⟨y, i⟩, hm, rfl⟩ := hq
          obtain ⟨_, hi, hy⟩ := List.mem_zipIdx hm
          refine ⟨by rw [hy]; exact h.2 _ (List.getElem_mem _), ?_, trivial⟩
          have := h.1
          show -10 ^ 30 ≤ (i : Int) ∧ (i : Int) ≤ 10 ^ 30
          omega
        | dict es =>
          simp only [kidsD, rowsD, List.mem_map] at hq
          obtain ⟨y, hy, rfl⟩ := hq
          have hin : y ∈ keysD es := mem_srt.mp hy
          cases hg : dget es y with
          | none => exact absurd hin (dget_none hg)
          | some d2 =>
            obtain ⟨e, he, hde, hse⟩ := dget_mem hg
            obtain ⟨⟨z, hz, hz1, hz2⟩, hd2⟩ := h.2 e he
            rw [hz] at hse
            have : z = y := hse
            subst this
            simp only [Option.getD_some]
            rw [← hde]
            exact ⟨hd2, ⟨hz1, hz2⟩, strOk_of hz2⟩
        | none => simp [kidsD] at hq
        | bool _ => simp [kidsD] at hq
        | int _ => simp [kidsD] at hq
        | str _ => simp [kidsD] at hq
        | tuple _ => simp [kidsD] at hq
      obtain ⟨h1, h2⟩ := parts_doc hk.1 hx
      refine ⟨h1.up1, fun k hk' => ?_⟩
      rcases List.mem_cons.mp hk' with rfl | hk'
      · exact hk.2
      · exact h2 k hk'
theorem lcG_mk {n : Nat} {item : Nat → V → Hp → Prop} {g : TG} {tt : TT} {te : TE} {vs : List Nat} {Hq : Hp} {σ : L2.St} {H1 : Hp} {Q : VK} (W : Addr → Nat → Hp → Hp → Prop) (h0 : ∀ D, H1 D = none → W D 0 Hq (upd H1 D (.lst []))) (hl : ∀ D j Hq H, W D j Hq H → j ≤ n ∧ Same Hq H) (hd : ∀ D Hq H H', H1 D = none → W D n Hq H → Same H H' → Q (.ref D) H')
    (hs : ∀ D j Hq H x H' Hq', H1 D = none → W D j Hq H → j < n → Same H H' → item j x H' → Same Hq' H' → (∀ b o, Hq' b = some o → Hq b = some o ∨ H b = none) → g x (wipe σ vs) H' fun σ2 H2 => wipe σ2 vs = wipe σ vs ∧ tt σ2 H2 fun b H3 => if b = true then te σ2 H3 fun y H4 => ∃ acc, H4 D = some (.lst acc) ∧ acc.length < sizeLine ∧ W D (j + 1) Hq' (upd H4 D (.lst (acc ++ [y]))) else W D (j + 1) Hq' H3) : SY.LcG n item g tt te vs Hq σ H1 Q :=
  fun D hD => ⟨W D, h0 D hD, fun j Hq H w => ⟨(hl _ _ _ _ w).1, (hl _ _ _ _ w).2, fun e H' s => hd D Hq H H' hD (e ▸ w) s, fun hj x H' Hq' s it sq le => hs D j Hq H x H' Hq' hD w hj s it sq le⟩⟩
theorem hu65_of {k : Nat} {A : Around} (r : Room k A) : A.units + 65 < cLine := by have := r.un; omega
theorem isiTup {K : PySem.W.Frag} {H : Hp} {a : Addr} {xs : List V} {Q : VK} (h : H a = some (.tup xs)) (q : Q (.bl true) H) : rIsi K [.ref a, .ty "tuple"] H Q :=
  ⟨.ref a, .ty "tuple", _, _, true, rfl, .ty _, .base (.tup h), kit_ty (kit_isT .tuple (.tuple [])), q⟩
end SC

/-! Schemacheck: one document with its names in another order. -/
set_option linter.all false
set_option maxHeartbeats 1000000
namespace SC
open PySem L2
def tw : Nat → PyData → PyData → Prop
  | 0, _, _ => False
  | n + 1, .list xs, .list ys => Paired (tw n) xs ys
  | n + 1, .dict es, .dict fs => (fs.map (·.1)).Perm (es.map (·.1)) ∧ ∀ f ∈ fs, ∃ e ∈ es, e.1 = f.1 ∧ tw n e.2 f.2
  | _ + 1, d, e => d = e
/-- each key once -/
def nuD : Nat → PyData → Prop
  | 0, _ => True
  | n + 1, .list ds => ∀ d ∈ ds, nuD n d
  | n + 1, .dict es => (es.map (·.1)).Nodup ∧ ∀ e ∈ es, nuD n e.2
  | _ + 1, _ => True
theorem kv_fst {F : V → PyData → Prop} {kvs : List (Key × V)} {es : List (PyData × PyData)} (hp : Paired (KvR F) kvs es) : es.map (·.1) = (kvs.map (·.1)).map kD := by
  induction hp with
  | nil => rfl
  | cons a _ ih => simp only [List.map_cons, a.1, ih]
theorem Re.nu {H : Hp} : ∀ {n : Nat} {v : V} {d : PyData}, Re H n v d → nuD n d
  | 0, _, _, _ => trivial
  | n + 1, v, .list ds, ⟨a, xs, _, _, _, hp⟩ => fun d hd => by
    obtain ⟨x, _, h⟩ := pd_memR hp hd
    exact h.nu
  | n + 1, v, .dict es, ⟨a, xs, _, _, _, hn, hp⟩ => by
    refine ⟨?_, fun e he => ?_⟩
    · rw [kv_fst hp]
      exact nd_map (fun a b => kD_inj) hn
    · obtain ⟨x, _, h⟩ := pd_memR hp he
      exact h.2.nu
  | n + 1, v, .none, _ => trivial
  | n + 1, v, .bool _, _ => trivial
  | n + 1, v, .int _, _ => trivial
  | n + 1, v, .str _, _ => trivial
  | n + 1, v, .tuple _, _ => trivial
theorem pd_memL {A B : Type} {F : A → B → Prop} {xs : List A} {ys : List B} (h : Paired F xs ys) : ∀ {x : A}, x ∈ xs → ∃ y, y ∈ ys ∧ F x y := by
  induction h with
  | nil => intro x hx; cases hx
  | cons a _ ih =>
    intro x hx
    rcases List.mem_cons.mp hx with rfl | hx
    · exact ⟨_, by simp, a⟩
    · obtain ⟨y, hy, h⟩ := ih hx
      exact ⟨y, by simp [hy], h⟩
theorem tw_doc : ∀ {n : Nat} {d e : PyData}, docD n d → tw n d e → docD n e
  | 0, _, _, h, _ => h.elim
  | n + 1, .list xs, .list ys, h, t => ⟨by rw [← pd_len t]; exact h.1, fun y hy => by
    obtain ⟨x, hx, h1⟩ := pd_memR t hy
    exact tw_doc (h.2 x hx) h1⟩
  | n + 1, .dict es, .dict fs, h, t => ⟨by have := t.1.length_eq; simp at this; rw [this]; exact h.1, fun f hf => by
    obtain ⟨e, he, h1, h2⟩ := t.2 f hf
    have := h.2 e he
    rw [h1] at this
    exact ⟨this.1, tw_doc this.2 h2⟩⟩
  | n + 1, .none, _, h, t => by cases t; exact h
  | n + 1, .bool _, _, h, t => by cases t; exact h
  | n + 1, .int _, _, h, t => by cases t; exact h
  | n + 1, .str _, _, h, t => by cases t; exact h
  | n + 1, .tuple _, _, h, t => by cases t; exact h
  | n + 1, .list _, .none, h, t => by cases t
  | n + 1, .list _, .bool _, h, t => by cases t
  | n + 1, .list _, .int _, h, t => by cases t
  | n + 1, .list _, .str _, h, t => by cases t
  | n + 1, .list _, .tuple _, h, t => by cases t
  | n + 1, .list _, .dict _, h, t => by cases t
  | n + 1, .dict _, .none, h, t => by cases t
  | n + 1, .dict _, .bool _, h, t => by cases t
  | n + 1, .dict _, .int _, h, t => by cases t
  | n + 1, .dict _, .str _, h, t => by cases t
  | n + 1, .dict _, .tuple _, h, t => by cases t
  | n + 1, .dict _, .list _, h, t => by cases t
/-- the shapes of two such -/
theorem tw_inv {n : Nat} {d e : PyData} (t : tw (n + 1) d e) : (∃ xs ys, d = .list xs ∧ e = .list ys ∧ Paired (tw n) xs ys) ∨ (∃ es fs, d = .dict es ∧ e = .dict fs ∧ (fs.map (·.1)).Perm (es.map (·.1)) ∧ ∀ f ∈ fs, ∃ e ∈ es, e.1 = f.1 ∧ tw n e.2 f.2) ∨ (d = e ∧ isT .list d = false ∧ isT .dict d = false) := by
  cases d <;> cases e <;> first | exact .inl ⟨_, _, rfl, rfl, t⟩ | exact .inr (.inl ⟨_, _, rfl, rfl, t⟩) | (cases t; exact .inr (.inr ⟨rfl, rfl, rfl⟩)) | cases t
theorem tw_small : ∀ {n : Nat} {d e : PyData}, smallD n d → tw n d e → smallD n e
  | 0, _, _, _, t => t.elim
  | n + 1, d, e, h, t => by
    rcases tw_inv t with ⟨xs, ys, rfl, rfl, t⟩ | ⟨es, fs, rfl, rfl, t1, t2⟩ | ⟨rfl, _⟩
    · intro y hy
      obtain ⟨x, hx, h1⟩ := pd_memR t hy
      exact tw_small (h x hx) h1
    · refine ⟨by have := t1.length_eq; simp at this; rw [this]; exact h.1, fun f hf => ?_⟩
      obtain ⟨e, he, h1, h2⟩ := t2 f hf
      have := h.2 e he
      rw [h1] at this
      exact ⟨this.1, tw_small this.2 h2⟩
    · exact h
/-- keys and what they lead to -/
theorem tw_keys {es fs : List (PyData × PyData)} (p : (fs.map (·.1)).Perm (es.map (·.1))) : (keysD fs).Perm (keysD es) := by
  have h : ∀ l : List (PyData × PyData), keysD l = (l.map (·.1)).map strD := fun l => by simp [keysD, List.map_map, Function.comp_def]
  rw [h, h]
  exact p.map _
theorem keys_nu {es : List (PyData × PyData)} (hn : (es.map (·.1)).Nodup) (hs : StrKeys es) : (keysD es).Nodup := by
  induction es with
  | nil => exact List.nodup_nil
  | cons e r ih =>
    obtain ⟨h1, h2⟩ := List.nodup_cons.mp hn
    obtain ⟨x, hx⟩ := hs e (by simp)
    refine List.nodup_cons.mpr ⟨fun hm => ?_, ih h2 fun e he => hs e (by simp [he])⟩
    obtain ⟨e', he', hk⟩ := List.mem_map.mp hm
    obtain ⟨y, hy⟩ := hs e' (by simp [he'])
    refine h1 (List.mem_map.mpr ⟨e', he', ?_⟩)
    have hk' : strD e'.1 = strD e.1 := hk
    show e'.1 = e.1
    rw [hx, hy] at hk' ⊢
    simpa [strD] using hk'
theorem str_perm {es fs : List (PyData × PyData)} (p : (fs.map (·.1)).Perm (es.map (·.1))) (hs : StrKeys es) : StrKeys fs := fun f hf => by
  obtain ⟨e, he, h⟩ := List.mem_map.mp (p.mem_iff.mp (List.mem_map.mpr ⟨f, hf, rfl⟩))
  rw [← h]
  exact hs e he
theorem tw_get {F : PyData → PyData → Prop} {es fs : List (PyData × PyData)} (p : (fs.map (·.1)).Perm (es.map (·.1))) (t : ∀ f ∈ fs, ∃ e ∈ es, e.1 = f.1 ∧ F e.2 f.2) (hs : StrKeys es) (hn : (es.map (·.1)).Nodup) {x : Str} (hx : x ∈ keysD es) :
    ∃ d e, dget es x = some d ∧ dget fs x = some e ∧ F d e ∧ (∃ q ∈ es, q.1 = .str x ∧ q.2 = d) ∧ ∃ q ∈ fs, q.1 = .str x ∧ q.2 = e := by
  have hf : (fs.map (·.1)).Nodup := p.nodup_iff.mpr hn
  have hsf := str_perm p hs
  obtain ⟨f, hf1, hf2⟩ := List.mem_map.mp ((tw_keys p).mem_iff.mpr hx)
  obtain ⟨e, he, h1, h2⟩ := t f hf1
  have a := dget_nd (keys_nu hf hsf) hf1
  have b := dget_nd (keys_nu hn hs) he
  rw [h1, hf2] at b
  rw [hf2] at a
  obtain ⟨y, hy⟩ := hsf f hf1
  have hyx : y = x := by rw [hy] at hf2; exact hf2
  exact ⟨_, _, b, a, h2, ⟨e, he, by rw [h1, hy, hyx], rfl⟩, ⟨f, hf1, by rw [hy, hyx], rfl⟩⟩
theorem tw_srt {es fs : List (PyData × PyData)} (p : (fs.map (·.1)).Perm (es.map (·.1))) : srt (keysD fs) = srt (keysD es) := srt_congr (tw_keys p)
/-- the rows of the parts -/
theorem tw_rows {F : PyData → PyData → Prop} {es fs : List (PyData × PyData)} (p : (fs.map (·.1)).Perm (es.map (·.1))) (t : ∀ f ∈ fs, ∃ e ∈ es, e.1 = f.1 ∧ F e.2 f.2) (hs : StrKeys es) (hn : (es.map (·.1)).Nodup) :
    Paired (fun (a b : Key × PyData) => a.1 = b.1 ∧ F a.2 b.2 ∧ ∃ q ∈ es, q.2 = a.2) (rowsD es) (rowsD fs) := by
  unfold rowsD
  rw [tw_srt p]
  have : ∀ l : List Str, (∀ x ∈ l, x ∈ keysD es) → Paired (fun (a b : Key × PyData) => a.1 = b.1 ∧ F a.2 b.2 ∧ ∃ q ∈ es, q.2 = a.2) (l.map fun x => ((.inr x : Key), (dget es x).getD .none)) (l.map fun x => ((.inr x : Key), (dget fs x).getD .none)) := fun l => by
    induction l with
    | nil => intro _; exact .nil
    | cons x r ih =>
      intro h
      obtain ⟨d, e, h1, h2, h3, ⟨q, hq, _, hqd⟩, _⟩ := tw_get p t hs hn (h x (by simp))
      exact .cons ⟨rfl, by simp only [h1, h2, Option.getD_some]; exact h3, q, hq, by simp only [h1, Option.getD_some]; exact hqd⟩ (ih fun y hy => h y (by simp [hy]))
  exact this _ fun x hx => mem_srt.mp hx
theorem tw_rowsL {F : PyData → PyData → Prop} {xs ys : List PyData} (h : Paired F xs ys) : Paired (fun (a b : Key × PyData) => a.1 = b.1 ∧ F a.2 b.2 ∧ a.2 ∈ xs) (rowsL xs) (rowsL ys) := by
  refine pd_of (by simp [rowsL, pd_len h]) fun i a b ha hb => ?_
  simp only [rowsL, List.getElem?_map, Option.map_eq_some_iff, List.getElem?_zipIdx] at ha hb
  obtain ⟨⟨x, j⟩, ⟨x', hx, e1⟩, rfl⟩ := ha
  obtain ⟨⟨y, k⟩, ⟨y', hy, e2⟩, rfl⟩ := hb
  cases e1
  cases e2
  obtain ⟨z, hz, hf⟩ := pd_get h hx
  rw [hy] at hz
  cases hz
  exact ⟨rfl, hf, List.mem_of_getElem? hx⟩
theorem fst_pd {f g : PyData → Option (List Key)} {rs qs : List (Key × PyData)} (h : Paired (fun (a b : Key × PyData) => a.1 = b.1 ∧ f a.2 = g b.2) rs qs) : fstR f rs = fstR g qs := by
  induction h with
  | nil => rfl
  | @cons a b _ _ r _ ih =>
    obtain ⟨k, d⟩ := a
    obtain ⟨k', d'⟩ := b
    obtain ⟨h1, h2⟩ := r
    simp only at h1 h2
    subst h1
    simp only [fstR, h2, ih]
theorem tw_fw : ∀ {n : Nat} {d e : PyData}, nuD n d → tw n d e → fwN n d = fwN n e
  | 0, _, _, _, t => t.elim
  | n + 1, d, e, h, t => by
    rcases tw_inv t with ⟨xs, ys, rfl, rfl, t⟩ | ⟨es, fs, rfl, rfl, t1, t2⟩ | ⟨rfl, _⟩
    · simp only [fwN]
      exact fst_pd (pd_imp (tw_rowsL t) fun a b _ _ ⟨h1, h2, h3⟩ => ⟨h1, tw_fw (h _ h3) h2⟩)
    · simp only [fwN]
      have e1 : (es.all fun e => isTextD e.1) = fs.all fun e => isTextD e.1 := by
        have h1 : ∀ l : List (PyData × PyData), (l.all fun e => isTextD e.1) = (l.map (·.1)).all isTextD := fun l => by rw [List.all_map]; rfl
        rw [h1, h1]
        exact (t1.all_eq).symm
      rw [e1]
      cases e2 : fs.all fun e => isTextD e.1 with
      | false => rfl
      | true =>
        rw [e2] at e1
        have hs : StrKeys es := fun e he => by
          have := List.all_eq_true.mp e1 e he
          cases e3 : e.1 <;> rw [e3] at this <;> first | exact ⟨_, rfl⟩ | cases this
        simp only [if_true]
        exact fst_pd (pd_imp (tw_rows t1 t2 hs h.1) fun a b _ _ ⟨h1, h2, q, hq, hqe⟩ => ⟨h1, tw_fw (hqe ▸ h.2 q hq) h2⟩)
    · rfl
theorem flat_pd {A B C : Type} {F : A → B → Prop} {G : C → C → Prop} {f : A → List C} {g : B → List C} {xs : List A} {ys : List B} (h : Paired F xs ys) (hf : ∀ a b, F a b → Paired G (f a) (g b)) : Paired G (xs.flatMap f) (ys.flatMap g) := by
  induction h with
  | nil => exact .nil
  | cons a _ ih =>
    rw [List.flatMap_cons, List.flatMap_cons]
    exact pd_app (hf _ _ a) ih
theorem map_pd {A B C D : Type} {F : A → B → Prop} {G : C → D → Prop} {f : A → C} {g : B → D} {xs : List A} {ys : List B} (h : Paired F xs ys) (hf : ∀ a b, F a b → G (f a) (g b)) : Paired G (xs.map f) (ys.map g) := by
  induction h with
  | nil => exact .nil
  | cons a _ ih => exact .cons (hf _ _ a) ih
theorem tw_up : ∀ {n : Nat} {d e : PyData}, tw n d e → tw (n + 1) d e
  | 0, _, _, t => t.elim
  | n + 1, d, e, t => by
    rcases tw_inv t with ⟨xs, ys, rfl, rfl, t⟩ | ⟨es, fs, rfl, rfl, t1, t2⟩ | ⟨rfl, h1, h2⟩
    · exact pd_imp t fun _ _ _ _ h => tw_up h
    · exact ⟨t1, fun f hf => by
        obtain ⟨e, he, h1, h2⟩ := t2 f hf
        exact ⟨e, he, h1, tw_up h2⟩⟩
    · cases d <;> first | rfl | (cases h1; done) | (cases h2; done)
theorem tw_parts : ∀ {n : Nat} {d e : PyData}, docD n d → nuD n d → tw n d e → Paired (fun (a b : List Key × PyData) => a.1 = b.1 ∧ tw n a.2 b.2) (partsN n d) (partsN n e)
  | 0, _, _, h, _, _ => h.elim
  | n + 1, d, e, h, u, t => by
    refine .cons ⟨rfl, t⟩ ?_
    have key : Paired (fun (a b : Key × PyData) => a.1 = b.1 ∧ tw n a.2 b.2 ∧ docD n a.2 ∧ nuD n a.2) (kidsD d) (kidsD e) := by
      rcases tw_inv t with ⟨xs, ys, rfl, rfl, t⟩ | ⟨es, fs, rfl, rfl, t1, t2⟩ | ⟨rfl, h1, h2⟩
      · exact pd_imp (tw_rowsL t) fun a b _ _ ⟨h1, h2, h3⟩ => ⟨h1, h2, h.2 _ h3, u _ h3⟩
      · exact pd_imp (tw_rows t1 t2 h.keys u.1) fun a b _ _ ⟨h1, h2, q, hq, hqe⟩ => ⟨h1, h2, hqe ▸ (h.2 q hq).2, hqe ▸ u.2 q hq⟩
      · have : kidsD d = [] := by cases d <;> first | rfl | (cases h1; done) | (cases h2; done)
        rw [this]
        exact .nil
    exact flat_pd key fun a b ⟨h1, h2, h3, h4⟩ => map_pd (tw_parts h3 h4 h2) fun x y ⟨g1, g2⟩ => ⟨by rw [h1, g1], tw_up g2⟩
theorem tw_same : ∀ {n : Nat} {d e : PyData}, docD n d → nuD n d → tw n d e → sameN n e d = true
  | 0, _, _, h, _, _ => h.elim
  | n + 1, d, e, h, u, t => by
    rcases tw_inv t with ⟨xs, ys, rfl, rfl, t⟩ | ⟨es, fs, rfl, rfl, t1, t2⟩ | ⟨rfl, h1, h2⟩
    · simp only [sameN, Bool.and_eq_true, decide_eq_true_eq, List.all_eq_true]
      refine ⟨(pd_len t).symm, fun b hb => ?_⟩
      obtain ⟨i, hi⟩ := List.getElem?_of_mem hb
      obtain ⟨y, x, hy, hx, rfl⟩ := List.getElem?_zipWith_eq_some.mp hi
      obtain ⟨y', hy', ht⟩ := pd_get t hx
      rw [hy] at hy'
      cases hy'
      exact tw_same (h.2 _ (List.mem_of_getElem? hx)) (u _ (List.mem_of_getElem? hx)) ht
    · simp only [sameN, Bool.and_eq_true, decide_eq_true_eq, List.all_eq_true]
      refine ⟨tw_srt t1, fun b hb => ?_⟩
      obtain ⟨f, hf, rfl⟩ := List.mem_map.mp hb
      obtain ⟨e, he, h1, h2⟩ := t2 f hf
      have b := dget_nd (keys_nu u.1 h.keys) he
      rw [h1] at b
      rw [b]
      exact tw_same (h.2 e he).2 (u.2 e he) h2
    · cases d <;> first | exact sameL_refl h | (cases h1; done) | (cases h2; done)
/-- one more entry, or another in its place -/
theorem putK_pd {F : V → PyData → Prop} {kvs : List (Key × V)} {es : List (PyData × PyData)} {k : Key} {v : V} {d : PyData} (hp : Paired (KvR F) kvs es) (hv : F v d) : ∃ es', Paired (KvR F) (putK kvs k v) es' ∧ (∀ e ∈ es', e ∈ es ∨ e = (kD k, d)) ∧ es'.length ≤ es.length + 1 := by
  unfold putK
  split
  · rename_i hany
    clear hany
    have key : ∃ es', Paired (KvR F) (kvs.map fun kv => if kv.1 = k then (kv.1, v) else kv) es' ∧ (∀ e ∈ es', e ∈ es ∨ e = (kD k, d)) ∧ es'.length = es.length := by
      induction hp with
      | nil => exact ⟨[], .nil, by simp, rfl⟩
      | @cons a b _ _ r _ ih =>
        obtain ⟨es', h1, h2, h3⟩ := ih
        by_cases hk : a.1 = k
        · refine ⟨(kD k, d) :: es', ?_, fun e he => ?_, by simp [h3]⟩
          · rw [List.map_cons, if_pos hk]
            exact .cons ⟨by rw [hk], hv⟩ h1
          · rcases List.mem_cons.mp he with rfl | he
            · exact .inr rfl
            · rcases h2 e he with h | h
              · exact .inl (by simp [h])
              · exact .inr h
        · refine ⟨b :: es', ?_, fun e he => ?_, by simp [h3]⟩
          · rw [List.map_cons, if_neg hk]
            exact .cons r h1
          · rcases List.mem_cons.mp he with rfl | he
            · exact .inl (by simp)
            · rcases h2 e he with h | h
              · exact .inl (by simp [h])
              · exact .inr h
    obtain ⟨es', h1, h2, h3⟩ := key
    exact ⟨es', h1, h2, by omega⟩
  · exact ⟨es ++ [(kD k, d)], pd_app hp (.cons ⟨rfl, hv⟩ .nil), by simp, by simp⟩
theorem putK_nd {kvs : List (Key × V)} {k : Key} {v : V} (hn : (kvs.map (·.1)).Nodup) : ((putK kvs k v).map (·.1)).Nodup := by
  by_cases h : (kvs.any fun kv => decide (kv.1 = k)) = true
  · unfold putK
    rw [if_pos h, List.map_map]
    have : ((fun x : Key × V => x.1) ∘ fun kv => if kv.1 = k then (kv.1, v) else kv) = fun x => x.1 := by
      funext x
      simp only [Function.comp]
      split <;> rfl
    rw [this]
    exact hn
  · unfold putK
    rw [if_neg h, List.map_append]
    refine List.nodup_append.mpr ⟨hn, by simp, fun a ha b hb e => ?_⟩
    simp at hb
    subst hb
    subst e
    obtain ⟨x, hx, rfl⟩ := List.mem_map.mp ha
    exact h (List.any_eq_true.mpr ⟨x, hx, by simp⟩)
theorem tw_same' : ∀ {n : Nat} {d e : PyData}, docD n d → nuD n d → tw n d e → sameN n d e = true
  | 0, _, _, h, _, _ => h.elim
  | n + 1, d, e, h, u, t => by
    rcases tw_inv t with ⟨xs, ys, rfl, rfl, t⟩ | ⟨es, fs, rfl, rfl, t1, t2⟩ | ⟨rfl, h1, h2⟩
    · simp only [sameN, Bool.and_eq_true, decide_eq_true_eq, List.all_eq_true]
      refine ⟨pd_len t, fun b hb => ?_⟩
      obtain ⟨i, hi⟩ := List.getElem?_of_mem hb
      obtain ⟨x, y, hx, hy, rfl⟩ := List.getElem?_zipWith_eq_some.mp hi
      obtain ⟨y', hy', ht⟩ := pd_get t hx
      rw [hy] at hy'
      cases hy'
      exact tw_same' (h.2 _ (List.mem_of_getElem? hx)) (u _ (List.mem_of_getElem? hx)) ht
    · simp only [sameN, Bool.and_eq_true, decide_eq_true_eq, List.all_eq_true]
      refine ⟨(tw_srt t1).symm, fun b hb => ?_⟩
      obtain ⟨e, he, rfl⟩ := List.mem_map.mp hb
      have hx : strD e.1 ∈ keysD es := List.mem_map.mpr ⟨e, he, rfl⟩
      obtain ⟨d1, d2, g1, g2, g3, _⟩ := tw_get t1 t2 h.keys u.1 hx
      rw [dget_nd (keys_nu u.1 h.keys) he] at g1
      cases g1
      rw [g2]
      exact tw_same' (h.2 e he).2 (u.2 e he) g3
    · cases d <;> first | exact sameL_refl h | (cases h1; done) | (cases h2; done)
theorem kid_step {n : Nat} {d : PyData} {q : Key × PyData} (h : docD (n + 1) d) (hq : q ∈ kidsD d) : stepN d q.1 = some q.2 ∧ docD n q.2 := by
  cases d with
  | list ds =>
    simp only [kidsD, rowsL, List.mem_map] at hq
    obtain ⟨⟨x, i⟩, hm, rfl⟩ := hq
    have hi := List.mem_zipIdx' hm
    have hx : ds[i]? = some x := by rw [hi.2]; exact List.getElem?_eq_getElem _
    refine ⟨?_, h.2 _ (List.mem_of_getElem? hx)⟩
    simp only [stepN]
    rw [if_pos (by omega)]
    simpa using hx
  | dict es =>
    simp only [kidsD, rowsD, List.mem_map] at hq
    obtain ⟨x, hm, rfl⟩ := hq
    simp only
    cases e : dget es x with
    | none => exact absurd (mem_srt.mp hm) (dget_none e)
    | some d' =>
      obtain ⟨e', he', hde, _⟩ := dget_mem e
      refine ⟨by simp [stepN, e], ?_⟩
      simp only [Option.getD_some]
      rw [← hde]
      exact (h.2 _ he').2
  | _ => simp [kidsD] at hq
theorem parts_walk : ∀ {n : Nat} {d : PyData} {r : List Key × PyData}, docD n d → r ∈ partsN n d → walkD d r.1 = some r.2
  | 0, _, _, h, _ => h.elim
  | n + 1, d, r, h, hr => by
    simp only [partsN, List.mem_cons, List.mem_flatMap, List.mem_map] at hr
    rcases hr with rfl | ⟨q, hq, x, hx, rfl⟩
    · rfl
    · obtain ⟨h1, h2⟩ := kid_step h hq
      simp only [walkD, h1, Option.bind_some]
      exact parts_walk h2 hx
end SC

/-! Schemacheck: another part put at a path. -/
set_option linter.all false
set_option maxHeartbeats 1000000
namespace SC
open PySem L2
/-- either of two readings of one statement -/
theorem ps_either {X : Cx} {st : Stmt} {t u : TS} (h : PS X st t) (g : PS X st u) : PS X st (fun D σ H => t D σ H ∨ u D σ H) :=
  ⟨fun pins s σ H D I q => q.elim (h.run pins s σ H D I) (g.run pins s σ H D I)⟩
theorem slAK {X : Cx} {K : PySem.W.Frag} (h : X.K = K) : SlR X (rSlA K) := by subst h; exact sl_tupA
def putN : PyData → List Key → PyData → PyData
  | _, [], x => x
  | .list ds, .inl i :: r, x => .list (ds.set i.toNat (putN (ds[i.toNat]?.getD .none) r x))
  | .dict es, .inr y :: r, x => .dict (es.map fun e => if strD e.1 = y then (e.1, putN e.2 r x) else e)
  | d, _ :: _, _ => d
theorem put_keys (es : List (PyData × PyData)) (y : Str) (f : PyData → PyData) : keysD (es.map fun e => if strD e.1 = y then (e.1, f e.2) else e) = keysD es := by
  unfold keysD
  rw [List.map_map]
  refine List.map_congr_left fun e _ => ?_
  simp only [Function.comp]
  split <;> rfl
theorem put_get : ∀ (es : List (PyData × PyData)) (y z : Str) (f : PyData → PyData), dget (es.map fun e => if strD e.1 = y then (e.1, f e.2) else e) z = (dget es z).map fun d => if z = y then f d else d
  | [], y, z, f => rfl
  | e :: r, y, z, f => by
    have ih := put_get r y z f
    unfold dget at ih ⊢
    rw [List.map_cons, List.find?_cons, List.find?_cons]
    have h1 : strD (if strD e.1 = y then (e.1, f e.2) else e).1 = strD e.1 := by split <;> rfl
    rw [h1]
    by_cases hz : strD e.1 = z
    · rw [decide_eq_true hz]
      simp only [Option.map_some, Option.some.injEq]
      by_cases hy : strD e.1 = y
      · rw [if_pos hy, if_pos (hz ▸ hy)]
      · rw [if_neg hy, if_neg (hz ▸ hy)]
    · rw [decide_eq_false hz]
      exact ih
/-- the parts below, one replaced -/
theorem kids_put {d : PyData} {s : Key} {r : List Key} {x e : PyData} (h : stepN d s = some e) : kidsD (putN d (s :: r) x) = (kidsD d).map fun q => if q.1 = s then (q.1, putN q.2 r x) else q := by
  cases d with
  | list ds =>
    cases s with
    | inr y => simp [stepN] at h
    | inl i =>
      simp only [stepN] at h
      split at h
      · rename_i h0
        have hi : i.toNat < ds.length := (List.getElem?_eq_some_iff.mp h).1
        simp only [putN, kidsD, rowsL, h, Option.getD_some]
        refine List.ext_getElem? fun j => ?_
        simp only [List.getElem?_map, List.getElem?_zipIdx, List.getElem?_set, Nat.zero_add, Option.map_map]
        by_cases hj : i.toNat = j
        · subst hj
          rw [if_pos rfl, if_pos hi, h]
          have : ((i.toNat : Nat) : Int) = i := by omega
          simp [this]
        · rw [if_neg hj]
          cases ds[j]? with
          | none => rfl
          | some z =>
            have : ¬ ((j : Nat) : Int) = i := by omega
            simp [this]
      · cases h
  | dict es =>
    cases s with
    | inl i => simp [stepN] at h
    | inr y =>
      simp only [putN, kidsD, rowsD]
      rw [put_keys es y fun d => putN d r x, List.map_map]
      refine List.map_congr_left fun z hz => ?_
      rw [put_get es y z fun d => putN d r x]
      simp only [Function.comp, Sum.inr.injEq]
      cases hd : dget es z with
      | none => exact absurd (mem_srt.mp hz) (dget_none hd)
      | some d' =>
        by_cases hy : z = y
        · subst hy; simp
        · simp [hy]
  | _ => simp [stepN] at h
theorem step_put {d : PyData} {s : Key} {r : List Key} {x e : PyData} (h : stepN d s = some e) : stepN (putN d (s :: r) x) s = some (putN e r x) := by
  cases d with
  | list ds =>
    cases s with
    | inr y => simp [stepN] at h
    | inl i =>
      simp only [stepN] at h
      split at h
      · rename_i h0
        have hi : i.toNat < ds.length := (List.getElem?_eq_some_iff.mp h).1
        simp only [putN, stepN, h, Option.getD_some]
        rw [if_pos h0, List.getElem?_set, if_pos rfl, if_pos hi]
      · cases h
  | dict es =>
    cases s with
    | inl i => simp [stepN] at h
    | inr y =>
      simp only [stepN] at h
      simp only [putN, stepN]
      rw [put_get es y y fun d => putN d r x, h]
      simp
  | _ => simp [stepN] at h
theorem walk_put : ∀ {p : List Key} {d e x : PyData}, walkD d p = some e → walkD (putN d p x) p = some x
  | [], d, e, x, _ => by cases d <;> rfl
  | s :: r, d, e, x, h => by
    simp only [walkD] at h
    cases hs : stepN d s with
    | none => rw [hs] at h; cases h
    | some d' =>
      rw [hs] at h
      simp only [walkD, step_put hs, Option.bind_some]
      exact walk_put h
theorem put_nil (d x : PyData) : putN d [] x = x := by cases d <;> rfl
theorem put_doc : ∀ {p : List Key} {n k : Nat} {d x : PyData}, docD n d → docD k x → docD (n + k) (putN d p x)
  | [], n, k, d, x, _, hx => by
    rw [put_nil]
    exact docD.up hx (by omega)
  | s :: r, 0, k, d, x, hd, hx => hd.elim
  | s :: r, n + 1, k, d, x, hd, hx => by
    rw [show n + 1 + k = (n + k) + 1 by omega]
    have up : docD (n + k + 1) d := docD.up hd (by omega)
    cases d with
    | list ds =>
      cases s with
      | inr y => exact up
      | inl i =>
        refine ⟨by simp; exact hd.1, fun z hz => ?_⟩
        rcases List.mem_or_eq_of_mem_set hz with hz | rfl
        · exact docD.up (hd.2 z hz) (by omega)
        · cases hs : ds[i.toNat]? with
          | none =>
            have : ds.set i.toNat (putN (Option.getD none PyData.none) r x) = ds := by
              rw [List.set_eq_of_length_le]
              exact List.getElem?_eq_none_iff.mp hs
            rw [hs, this] at hz
            exact docD.up (hd.2 _ hz) (by omega)
          | some d' => exact put_doc (hd.2 _ (List.mem_of_getElem? hs)) hx
    | dict es =>
      cases s with
      | inl i => exact up
      | inr y =>
        refine ⟨by simp; exact hd.1, fun z hz => ?_⟩
        obtain ⟨e', he', rfl⟩ := List.mem_map.mp hz
        have hde := hd.2 e' he'
        split
        · exact ⟨hde.1, put_doc hde.2 hx⟩
        · exact ⟨hde.1, docD.up hde.2 (by omega)⟩
    | none => cases s <;> exact up
    | bool _ => cases s <;> exact up
    | int _ => cases s <;> exact up
    | str _ => cases s <;> exact up
    | tuple _ => cases s <;> exact up
/-! ### the parts of the whole -/
theorem parts_upD : ∀ {n : Nat} {d : PyData}, docD n d → partsN (n + 1) d = partsN n d
  | 0, _, h => h.elim
  | n + 1, d, h => by
    show _ :: _ = _ :: _
    congr 1
    refine flatMap_congr' fun q hq => ?_
    rw [parts_upD (kid_step h hq).2]
theorem parts_to {n m : Nat} {d : PyData} (h : docD n d) (hl : n ≤ m) : partsN m d = partsN n d := by
  induction hl with
  | refl => rfl
  | step hl ih => rw [parts_upD (h.up hl), ih]
theorem kid_nd {n : Nat} {d : PyData} {q : Key × PyData} (hd : docD (n + 1) d) (h : ndD (n + 1) d) (hq : q ∈ kidsD d) : ndD n q.2 := by
  cases d with
  | list ds =>
    simp only [kidsD, rowsL, List.mem_map] at hq
    obtain ⟨⟨x, i⟩, hm, rfl⟩ := hq
    exact h _ (List.fst_mem_of_mem_zipIdx hm)
  | dict es =>
    simp only [kidsD, rowsD, List.mem_map] at hq
    obtain ⟨x, hm, rfl⟩ := hq
    simp only
    cases e : dget es x with
    | none => exact absurd (mem_srt.mp hm) (dget_none e)
    | some d' =>
      obtain ⟨e', he', hde, _⟩ := dget_mem e
      simp only [Option.getD_some]
      rw [← hde]
      exact h.2 _ he'
  | _ => simp [kidsD] at hq
theorem kids_ndD {n : Nat} {d : PyData} (hd : docD (n + 1) d) (h : ndD (n + 1) d) : ((kidsD d).map (·.1)).Nodup := by
  cases d with
  | list ds =>
    have : (kidsD (.list ds)).map (·.1) = (List.range ds.length).map fun i => (.inl (i : Nat) : Key) := by
      refine List.ext_getElem? fun j => ?_
      simp only [kidsD, rowsL, List.getElem?_map, List.getElem?_zipIdx, Option.map_map, Nat.zero_add]
      by_cases hj : j < ds.length
      · simp [hj]
      · simp [hj]
    rw [this]
    exact nd_map (fun a b e => by have := Sum.inl.inj e; omega) List.nodup_range
  | dict es =>
    have : (kidsD (.dict es)).map (·.1) = (srt (keysD es)).map Sum.inr := by simp [kidsD, rowsD]
    rw [this]
    exact nd_map (fun a b e => by simpa using e) (srt_nd h.1)
  | _ => simp [kidsD]
/-- one of the parts below, by its key -/
theorem flat_one {B : Type} {s : Key} {L : List B} {f : Key × PyData → List B} : ∀ {l : List (Key × PyData)}, (l.map (·.1)).Nodup → (∀ q ∈ l, q.1 ≠ s → f q = []) → ∀ {e : PyData}, (s, e) ∈ l → f (s, e) = L → l.flatMap f = L
  | [], _, _, _, h, _ => by cases h
  | q :: l, hn, h0, e, h, hf => by
    obtain ⟨h1, h2⟩ := List.nodup_cons.mp hn
    rw [List.flatMap_cons]
    rcases List.mem_cons.mp h with rfl | h
    · have : l.flatMap f = [] := List.flatMap_eq_nil_iff.mpr fun z hz => h0 z (by simp [hz]) fun e' => h1 (List.mem_map.mpr ⟨z, hz, e'⟩)
      rw [hf, this, List.append_nil]
    · have hq : q.1 ≠ s := fun e' => h1 (List.mem_map.mpr ⟨_, h, e'.symm⟩)
      rw [h0 q (by simp) hq, List.nil_append]
      exact flat_one h2 (fun z hz => h0 z (by simp [hz])) h hf
theorem step_kid {n : Nat} {d : PyData} {s : Key} {e : PyData} (hd : docD (n + 1) d) (h : stepN d s = some e) : (s, e) ∈ kidsD d := by
  cases d with
  | list ds =>
    cases s with
    | inr y => simp [stepN] at h
    | inl i =>
      simp only [stepN] at h
      split at h
      · rename_i h0
        simp only [kidsD, rowsL, List.mem_map]
        obtain ⟨hi, he⟩ := List.getElem?_eq_some_iff.mp h
        refine ⟨(e, i.toNat), ?_, by simp; omega⟩
        rw [List.mem_zipIdx_iff_getElem?]
        exact h
      · cases h
  | dict es =>
    cases s with
    | inl i => simp [stepN] at h
    | inr y =>
      simp only [stepN] at h
      simp only [kidsD, rowsD, List.mem_map]
      refine ⟨y, mem_srt.mpr ?_, by simp [h]⟩
      obtain ⟨e', he', _, hk⟩ := dget_mem h
      exact List.mem_map.mpr ⟨e', he', hk⟩
  | _ => simp [stepN] at h
def preB (p r : List Key) : Bool := decide (r.take p.length = p)
def besB (p r : List Key) : Bool := decide (r.take p.length ≠ p) && decide (p.take r.length ≠ r)
theorem told_is : ∀ {p : List Key} {n k : Nat} {d e x : PyData}, docD n d → ndD n d → walkD d p = some e → docD k x →
    (partsN (n + k) (putN d p x)).filter (fun r => preB p r.1) = (partsN (n + k) x).map fun r => (p ++ r.1, r.2)
  | [], n, k, d, e, x, _, _, _, _ => by
    rw [put_nil]
    have h1 : (fun r : List Key × PyData => preB [] r.1) = fun _ => true := by funext r; simp [preB]
    rw [h1, List.filter_eq_self.mpr fun _ _ => rfl]
    simp
  | s :: r, 0, k, d, e, x, hd, _, _, _ => hd.elim
  | s :: r, n + 1, k, d, e, x, hd, nd, h, hx => by
    simp only [walkD] at h
    cases hs : stepN d s with
    | none => rw [hs] at h; cases h
    | some d' =>
      rw [hs] at h
      have hk := step_kid hd hs
      have hdk := (kid_step hd hk).2
      rw [parts_to hx (by omega), show n + 1 + k = (n + k) + 1 by omega]
      show List.filter _ (_ :: _) = _
      rw [List.filter_cons_of_neg (by simp [preB]), List.filter_flatMap, kids_put hs, List.flatMap_map]
      refine flat_one (s := s) (kids_ndD hd nd) (fun q hq hne => ?_) hk ?_
      · rw [if_neg hne, List.filter_map]
        rw [List.map_eq_nil_iff, List.filter_eq_nil_iff]
        intro z _
        simp only [Function.comp, preB, List.length_cons, List.take_succ_cons, decide_eq_true_eq, List.cons.injEq, not_and]
        intro e'
        exact absurd e' hne
      · simp only [if_true]
        rw [List.filter_map]
        have h2 : ((fun r_1 : List Key × PyData => preB (s :: r) r_1.1) ∘ fun r : List Key × PyData => (s :: r.1, r.2)) = fun r_1 => preB r r_1.1 := by
          funext z
          simp [preB]
        have h3 := told_is hdk (kid_nd hd nd hk) h hx
        simp only at h3
        rw [h2, h3, parts_to hx (by omega), List.map_map]
        rfl
theorem beside_is : ∀ {p : List Key} {n k : Nat} {d e x : PyData}, docD n d → walkD d p = some e → docD k x →
    (partsN (n + k) (putN d p x)).filter (fun r => besB p r.1) = (partsN (n + k) d).filter fun r => besB p r.1
  | [], n, k, d, e, x, _, _, _ => by
    have h1 : ∀ l : List (List Key × PyData), l.filter (fun r => besB [] r.1) = [] := fun l => by
      rw [List.filter_eq_nil_iff]
      intro z _
      simp [besB]
    rw [h1, h1]
  | s :: r, 0, k, d, e, x, hd, _, _ => hd.elim
  | s :: r, n + 1, k, d, e, x, hd, h, hx => by
    simp only [walkD] at h
    cases hs : stepN d s with
    | none => rw [hs] at h; cases h
    | some d' =>
      rw [hs] at h
      rw [show n + 1 + k = (n + k) + 1 by omega]
      show List.filter _ (_ :: _) = List.filter _ (_ :: _)
      rw [List.filter_cons_of_neg (by simp [besB]), List.filter_cons_of_neg (by simp [besB]), List.filter_flatMap, List.filter_flatMap, kids_put hs, List.flatMap_map]
      refine flatMap_congr' fun q hq => ?_
      by_cases hqs : q.1 = s
      · rw [if_pos hqs]
        simp only
        rw [List.filter_map, List.filter_map]
        have h2 : ((fun z : List Key × PyData => besB (s :: r) z.1) ∘ fun z : List Key × PyData => (q.1 :: z.1, z.2)) = fun z => besB r z.1 := by
          funext z
          simp [besB, hqs]
        rw [h2]
        obtain ⟨q1, hq2⟩ := kid_step hd hq
        rw [hqs, hs] at q1
        cases q1
        rw [beside_is hq2 h hx]
      · rw [if_neg hqs]
theorem cntAll_set : ∀ {ds : List PyData} {i : Nat} {d x : PyData} {c : Nat}, ds[i]? = some d → cnt x ≤ cnt d + c → cntAll (ds.set i x) ≤ cntAll ds + c
  | [], _, _, _, _, h, _ => by simp at h
  | a :: r, 0, d, x, c, h, hc => by
    simp at h
    subst h
    simp only [List.set_cons_zero, cntAll]
    omega
  | a :: r, i + 1, d, x, c, h, hc => by
    have := cntAll_set (ds := r) (i := i) (by simpa using h) hc
    simp only [List.set_cons_succ, cntAll]
    omega
theorem cntKv_put {y : Str} {f : PyData → PyData} {c : Nat} : ∀ {es : List (PyData × PyData)}, (keysD es).Nodup → (∀ e ∈ es, strD e.1 = y → cnt (f e.2) ≤ cnt e.2 + c) → cntKv (es.map fun e => if strD e.1 = y then (e.1, f e.2) else e) ≤ cntKv es + c
  | [], _, _ => by simp [cntKv]
  | (a, b) :: r, hn, h => by
    have hn' : strD a ∉ keysD r ∧ (keysD r).Nodup := List.nodup_cons.mp hn
    rw [List.map_cons]
    by_cases hy : strD a = y
    · have hr : (r.map fun e => if strD e.1 = y then (e.1, f e.2) else e) = r := by
        rw [List.map_congr_left (g := id) fun e he => ?_, List.map_id]
        have : strD e.1 ≠ y := fun z => hn'.1 (by rw [hy, ← z]; exact List.mem_map.mpr ⟨e, he, rfl⟩)
        simp [this]
      have hc : cnt (f b) ≤ cnt b + c := h (a, b) (by simp) hy
      rw [hr]
      simp only [hy, if_true, cntKv]
      omega
    · have := cntKv_put hn'.2 fun e he => h e (by simp [he])
      simp only [hy, if_false, cntKv]
      omega
theorem put_cnt : ∀ {p : List Key} {n : Nat} {d x : PyData}, docD n d → ndD n d → cnt (putN d p x) ≤ cnt d + cnt x
  | [], n, d, x, _, _ => by rw [put_nil]; omega
  | s :: r, 0, d, x, hd, _ => hd.elim
  | s :: r, n + 1, d, x, hd, nd => by
    cases d with
    | list ds =>
      cases s with
      | inr y => show cnt (.list ds) ≤ _; omega
      | inl i =>
        show 1 + cntAll _ ≤ 1 + cntAll ds + cnt x
        cases hs : ds[i.toNat]? with
        | none =>
          rw [List.set_eq_of_length_le (List.getElem?_eq_none_iff.mp hs)]
          omega
        | some d' =>
          have hm := List.mem_of_getElem? hs
          have := cntAll_set (c := cnt x) hs (put_cnt (p := r) (x := x) (hd.2 _ hm) (nd _ hm))
          simp only [Option.getD_some]
          omega
    | dict es =>
      cases s with
      | inl i => show cnt (.dict es) ≤ _; omega
      | inr y =>
        show 1 + cntKv _ ≤ 1 + cntKv es + cnt x
        have := cntKv_put (y := y) (f := fun d => putN d r x) (c := cnt x) nd.1 fun e he _ => put_cnt (p := r) (x := x) (hd.2 e he).2 (nd.2 e he)
        omega
    | _ => cases s <;> exact Nat.le_add_right _ _
theorem put_put : ∀ {p : List Key} {n : Nat} {d e x : PyData}, docD n d → ndD n d → walkD d p = some e → putN (putN d p x) p e = d
  | [], n, d, e, x, _, _, h => by
    rw [put_nil]
    simp only [walkD] at h
    cases h
    rfl
  | s :: r, 0, d, e, x, hd, _, _ => hd.elim
  | s :: r, n + 1, d, e, x, hd, nd, h => by
    simp only [walkD] at h
    cases hs : stepN d s with
    | none => rw [hs] at h; cases h
    | some d' =>
      rw [hs] at h
      cases d with
      | list ds =>
        cases s with
        | inr y => simp [stepN] at hs
        | inl i =>
          simp only [stepN] at hs
          split at hs
          · have hi : i.toNat < ds.length := (List.getElem?_eq_some_iff.mp hs).1
            have hm := List.mem_of_getElem? hs
            simp only [putN, hs, Option.getD_some, List.getElem?_set, if_true, hi]
            rw [put_put (hd.2 _ hm) (nd _ hm) h, List.set_set]
            congr 1
            refine List.ext_getElem? fun j => ?_
            rw [List.getElem?_set]
            by_cases hj : i.toNat = j
            · subst hj; rw [if_pos rfl, if_pos hi, hs]
            · rw [if_neg hj]
          · cases hs
      | dict es =>
        cases s with
        | inl i => simp [stepN] at hs
        | inr y =>
          simp only [stepN] at hs
          simp only [putN, List.map_map]
          congr 1
          rw [List.map_congr_left (g := id) fun e' he' => ?_, List.map_id]
          simp only [Function.comp, id]
          by_cases hy : strD e'.1 = y
          · have h2 := dget_nd nd.1 he'
            rw [hy, hs] at h2
            cases h2
            rw [if_pos hy]
            simp only [hy, if_true]
            rw [put_put (hd.2 e' he').2 (nd.2 e' he') h]
          · rw [if_neg hy, if_neg hy]
      | _ => simp [stepN] at hs
theorem same_symm1 : ∀ {n : Nat} {d e : PyData}, docD n d → docD n e → ndD n d → ndD n e → sameN n d e = true → sameN n e d = true
  | 0, _, _, h, _, _, _, _ => h.elim
  | n + 1, .list xs, .list ys, hd, he, nd, ne, h => by
    simp only [sameN, Bool.and_eq_true, decide_eq_true_eq, List.all_eq_true] at h ⊢
    refine ⟨h.1.symm, fun b hb => ?_⟩
    obtain ⟨i, hi⟩ := List.getElem?_of_mem hb
    obtain ⟨y, x, hy, hx, rfl⟩ := List.getElem?_zipWith_eq_some.mp hi
    have h1 : (List.zipWith (sameN n) xs ys)[i]? = some (sameN n x y) := List.getElem?_zipWith_eq_some.mpr ⟨x, y, hx, hy, rfl⟩
    have h2 := h.2 _ (List.mem_of_getElem? h1)
    exact same_symm1 (hd.2 _ (List.mem_of_getElem? hx)) (he.2 _ (List.mem_of_getElem? hy)) (nd _ (List.mem_of_getElem? hx)) (ne _ (List.mem_of_getElem? hy)) h2
  | n + 1, .dict es, .dict fs, hd, he, nd, ne, h => by
    simp only [sameN, Bool.and_eq_true, decide_eq_true_eq, List.all_eq_true] at h ⊢
    refine ⟨h.1.symm, fun b hb => ?_⟩
    obtain ⟨f, hf, rfl⟩ := List.mem_map.mp hb
    have hk : strD f.1 ∈ keysD es := mem_srt.mp (by rw [h.1]; exact mem_srt.mpr (List.mem_map.mpr ⟨f, hf, rfl⟩))
    obtain ⟨e, he1, hek⟩ := List.mem_map.mp hk
    have h3 := h.2 _ (List.mem_map.mpr ⟨e, he1, rfl⟩)
    have g1 := dget_nd ne.1 hf
    have g2 := dget_nd nd.1 he1
    rw [hek] at g2 h3
    rw [g1] at h3
    rw [g2]
    exact same_symm1 (hd.2 e he1).2 (he.2 f hf).2 (nd.2 e he1) (ne.2 f hf) h3
  | n + 1, .none, e, _, _, _, _, h => by cases e <;> first | exact h | cases h
  | n + 1, .bool a, e, _, _, _, _, h => by cases e <;> first | (simp [sameN, sameL] at h ⊢; first | exact h.symm | exact h) | cases h
  | n + 1, .int a, e, _, _, _, _, h => by cases e <;> first | (simp [sameN, sameL] at h ⊢; first | exact h.symm | exact h) | cases h
  | n + 1, .str a, e, _, _, _, _, h => by cases e <;> first | (simp [sameN, sameL] at h ⊢; first | exact h.symm | exact h) | cases h
  | n + 1, .tuple _, _, hd, _, _, _, _ => hd.elim
  | n + 1, .list _, .none, _, _, _, _, h => by cases h
  | n + 1, .list _, .bool _, _, _, _, _, h => by cases h
  | n + 1, .list _, .int _, _, _, _, _, h => by cases h
  | n + 1, .list _, .str _, _, _, _, _, h => by cases h
  | n + 1, .list _, .tuple _, _, he, _, _, h => he.elim
  | n + 1, .list _, .dict _, _, _, _, _, h => by cases h
  | n + 1, .dict _, .none, _, _, _, _, h => by cases h
  | n + 1, .dict _, .bool _, _, _, _, _, h => by cases h
  | n + 1, .dict _, .int _, _, _, _, _, h => by cases h
  | n + 1, .dict _, .str _, _, _, _, _, h => by cases h
  | n + 1, .dict _, .tuple _, _, he, _, _, h => he.elim
  | n + 1, .dict _, .list _, _, _, _, _, h => by cases h
theorem same_symm {n : Nat} {d e : PyData} (hd : docD n d) (he : docD n e) (nd : ndD n d) (ne : ndD n e) : sameN n d e = sameN n e d := by
  cases h : sameN n d e with
  | true => rw [same_symm1 hd he nd ne h]
  | false =>
    cases h2 : sameN n e d with
    | false => rfl
    | true => rw [same_symm1 he hd ne nd h2] at h; cases h
theorem step_doc {n : Nat} {d e : PyData} {s : Key} (hd : docD (n + 1) d) (h : stepN d s = some e) : docD n e := (kid_step hd (step_kid hd h)).2
theorem walk_doc : ∀ {p : List Key} {n : Nat} {d e : PyData}, docD n d → walkD d p = some e → docD n e
  | [], n, d, e, hd, h => by cases h; exact hd
  | s :: r, 0, d, e, hd, h => hd.elim
  | s :: r, n + 1, d, e, hd, h => by
    simp only [walkD] at h
    cases hs : stepN d s with
    | none => rw [hs] at h; cases h
    | some d' =>
      rw [hs] at h
      exact (walk_doc (step_doc hd hs) h).up1
theorem all_set {N : Nat} : ∀ {ds : List PyData} {i : Nat} {d z : PyData}, ds[i]? = some d → (∀ x ∈ ds, sameN N x x = true) → (List.zipWith (sameN N) (ds.set i z) ds).all id = sameN N z d
  | [], _, _, _, h, _ => by simp at h
  | a :: r, 0, d, z, h, hr => by
    simp at h
    subst h
    have : (List.zipWith (sameN N) r r).all id = true := by
      rw [List.all_eq_true]
      intro b hb
      rw [List.zipWith_self] at hb
      obtain ⟨x, hx, rfl⟩ := List.mem_map.mp hb
      exact hr x (by simp [hx])
    simp only [List.set_cons_zero, List.zipWith_cons_cons, List.all_cons, this, id, Bool.and_true]
  | a :: r, i + 1, d, z, h, hr => by
    have := all_set (N := N) (ds := r) (i := i) (z := z) (by simpa using h) fun x hx => hr x (by simp [hx])
    simp only [List.set_cons_succ, List.zipWith_cons_cons, List.all_cons, this, id, hr a (by simp), Bool.true_and]
theorem all_kv {N : Nat} {y : Str} {f : PyData → PyData} {d : PyData} {es : List (PyData × PyData)} (hn : (keysD es).Nodup) (hg : dget es y = some d) (hr : ∀ e ∈ es, sameN N e.2 e.2 = true) :
    ((es.map fun e => if strD e.1 = y then (e.1, f e.2) else e).map fun e => optB (dget es (strD e.1)) (sameN N e.2)).all id = sameN N (f d) d := by
  rw [List.map_map, Bool.eq_iff_iff, List.all_eq_true]
  constructor
  · intro h
    obtain ⟨e, he, hed, hek⟩ := dget_mem hg
    have h1 := h _ (List.mem_map.mpr ⟨e, he, rfl⟩)
    simp only [Function.comp, hek, if_true, hg, hed, id] at h1
    exact h1
  · intro h b hb
    obtain ⟨e, he, rfl⟩ := List.mem_map.mp hb
    have g := dget_nd hn he
    simp only [Function.comp, id]
    by_cases hy : strD e.1 = y
    · rw [hy] at g
      rw [hg] at g
      cases g
      simp only [hy, if_true, hg]
      exact h
    · simp only [hy, if_false, g]
      exact hr e he
theorem same_put : ∀ {p : List Key} {n k : Nat} {d e x : PyData}, docD n d → ndD n d → walkD d p = some e → docD k x → sameN (n + k) (putN d p x) d = sameN (n + k) x e
  | [], n, k, d, e, x, _, _, h, _ => by
    rw [put_nil]
    cases h
    rfl
  | s :: r, 0, k, d, e, x, hd, _, _, _ => hd.elim
  | s :: r, n + 1, k, d, e, x, hd, nd, h, hx => by
    simp only [walkD] at h
    cases hs : stepN d s with
    | none => rw [hs] at h; cases h
    | some d' =>
      rw [hs] at h
      have h : walkD d' r = some e := h
      have hk := step_kid hd hs
      have hd' := step_doc hd hs
      have nd' := kid_nd hd nd hk
      have ih := same_put (k := k) (x := x) hd' nd' h hx
      have hup : sameN (n + 1 + k) x e = sameN (n + k) x e := by
        have he := walk_doc hd' h
        rw [show n + 1 + k = k + (n + 1) by omega, sameN_up hx (he.up (show n ≤ n + k by omega)) (by omega) (n + 1), show n + k = k + n by omega, sameN_up hx (he.up (show n ≤ n + k by omega)) (by omega) n]
      rw [hup, ← ih, show n + 1 + k = (n + k) + 1 by omega]
      cases d with
      | list ds =>
        cases s with
        | inr y => simp [stepN] at hs
        | inl i =>
          simp only [stepN] at hs
          split at hs
          · simp only [putN, sameN, hs, Option.getD_some, List.length_set, decide_true, Bool.true_and]
            exact all_set hs fun z hz => by
              have hz1 := hd.2 z hz
              have hz2 := nd z hz
              rw [sameN_up hz1 hz1 (Nat.le_refl _) k]
              exact sameN_refl hz1 hz2
          · cases hs
      | dict es =>
        cases s with
        | inl i => simp [stepN] at hs
        | inr y =>
          simp only [stepN] at hs
          simp only [putN, sameN]
          rw [put_keys es y fun d => putN d r x]
          simp only [decide_true, Bool.true_and]
          exact all_kv (f := fun d => putN d r x) nd.1 hs fun z hz => by
            have hz1 := (hd.2 z hz).2
            have hz2 := nd.2 z hz
            rw [sameN_up hz1 hz1 (Nat.le_refl _) k]
            exact sameN_refl hz1 hz2
      | _ => simp [stepN] at hs
/-! ### how much is shown -/
theorem kids_sum {n : Nat} {d : PyData} (hd : docD (n + 1) d) (nd : ndD (n + 1) d) : 1 + ((kidsD d).map fun q => cnt q.2).sum = cnt d := by
  have h := parts_cnt hd nd
  rw [← h]
  show _ = List.length (_ :: _)
  rw [List.length_cons, List.length_flatMap, Nat.add_comm]
  congr 2
  refine List.map_congr_left fun q hq => ?_
  rw [List.length_map, parts_cnt (kid_step hd hq).2 (kid_nd hd nd hq)]
theorem sum_le {A : Type} {f g : A → Nat} : ∀ {l : List A}, (∀ a ∈ l, f a ≤ g a) → (l.map f).sum ≤ (l.map g).sum
  | [], _ => Nat.le_refl _
  | a :: r, h => by
    have h1 := h a (by simp)
    have h2 := sum_le (l := r) fun x hx => h x (by simp [hx])
    simp only [List.map_cons, List.sum_cons]
    omega
theorem sum_mul {A : Type} {f : A → Nat} {c : Nat} : ∀ {l : List A}, (l.map fun a => c * f a).sum = c * (l.map f).sum
  | [] => rfl
  | a :: r => by
    simp only [List.map_cons, List.sum_cons, Nat.mul_add, sum_mul (l := r)]
theorem sum_flat {A : Type} {f : A → List Nat} : ∀ {l : List A}, (l.flatMap f).sum = (l.map fun a => (f a).sum).sum
  | [] => rfl
  | a :: r => by rw [List.flatMap_cons, List.sum_append, List.map_cons, List.sum_cons, sum_flat (l := r)]
theorem parts_sum : ∀ {n : Nat} {d : PyData}, docD n d → ndD n d → ((partsN n d).map fun r => cnt r.2).sum ≤ n * cnt d
  | 0, _, h, _ => h.elim
  | n + 1, d, h, g => by
    have h1 := kids_sum h g
    have h2 : (((kidsD d).flatMap fun q => (partsN n q.2).map fun r => (q.1 :: r.1, r.2)).map fun r => cnt r.2).sum ≤ n * ((kidsD d).map fun q => cnt q.2).sum := by
      rw [← sum_mul, List.map_flatMap, sum_flat]
      refine sum_le fun q hq => ?_
      rw [List.map_map]
      exact parts_sum (kid_step h hq).2 (kid_nd h g hq)
    show List.sum (cnt d :: _) ≤ _
    rw [List.sum_cons, Nat.succ_mul]
    have h3 : n * ((kidsD d).map fun q => cnt q.2).sum ≤ n * cnt d := Nat.mul_le_mul_left _ (by omega)
    omega
/-! ### slices of paths -/
theorem sl_tail {K : PySem.W.Frag} {H : Hp} {t : Addr} {s : Key} {r : List Key} {Q : VK} (ht : H t = some (.tup ((s :: r).map kV))) (q : ∀ t' H', Same H H' → H' t' = some (.tup (r.map kV)) → Q (.ref t') H') : rSlA K (.ref t) (some 1) none H Q := by
  have h1 : HT.sIx ((s :: r).map kV).length 0 (some 1) = 1 := by
    rw [show (1 : Int) = ((1 : Nat) : Int) from rfl, HT.sIx_nat]
    simp
  refine ⟨t, _, rfl, SqT.of ht, fun h => ?_, fun _ p np => ?_⟩
  · rw [h1] at h
    exact absurd h.1 (by decide)
  · refine q p _ (same_new np _) ?_
    rw [upd_same, show (1 : Int) = ((1 : Nat) : Int) from rfl, cut_drop _ _ (by simp)]
    rfl
theorem sl_take {K : PySem.W.Frag} {H : Hp} {t : Addr} {p : List Key} {m : Nat} {Q : VK} (ht : H t = some (.tup (p.map kV))) (q : ∀ t' H', Same H H' → H' t' = some (.tup ((p.take m).map kV)) → Q (.ref t') H') : rSlA K (.ref t) none (some (m : Int)) H Q := by
  refine ⟨t, _, rfl, SqT.of ht, fun h => ?_, fun h l nl => ?_⟩
  · refine q t H (Same.refl _) ?_
    have h2 := h.2
    rw [HT.sIx_nat] at h2
    simp at h2
    rw [List.take_of_length_le (by omega)]
    exact ht
  · refine q l _ (same_new nl _) ?_
    rw [upd_same]
    congr 2
    unfold cutV
    rw [HT.sIx_none, HT.sIx_nat]
    simp only [List.drop_zero, Nat.sub_zero, ← List.map_take]
    congr 1
    rw [List.take_eq_take_iff]
    simp
theorem docD.small : ∀ {n : Nat} {d : PyData}, docD n d → smallD n d
  | 0, _, h => h.elim
  | n + 1, .list ds, h => fun d hd => (h.2 d hd).small
  | n + 1, .dict es, h => ⟨Nat.le_trans h.1 (by decide), fun e he => ⟨fun x hx => by
      obtain ⟨⟨y, hy, hn⟩, _⟩ := h.2 e he
      rw [hy] at hx; cases hx
      exact ⟨Nat.le_trans hn.1 (by decide), hn.2⟩, (h.2 e he).2.small⟩⟩
  | n + 1, .none, _ => trivial
  | n + 1, .bool _, _ => trivial
  | n + 1, .int _, _ => trivial
  | n + 1, .str x, h => Nat.le_trans h.1 (by decide)
  | n + 1, .tuple _, h => h.elim
theorem fw_docD : ∀ {n : Nat} {d : PyData}, docD n d → fwN n d = none
  | 0, _, h => h.elim
  | n + 1, .list ds, h => fstR_none fun q hq => by
    simp only [rowsL, List.mem_map] at hq
    obtain ⟨p, hp, rfl⟩ := hq
    exact fw_docD (h.2 _ (List.fst_mem_of_mem_zipIdx hp))
  | n + 1, .dict es, h => by
    have ht : (es.all fun e => isTextD e.1) = true := by
      rw [List.all_eq_true]
      intro e he
      obtain ⟨⟨y, hy, hn⟩, _⟩ := h.2 e he
      rw [hy]; simp [isTextD, hn.1]
    rw [fwN, if_pos ht]
    refine fstR_none fun q hq => ?_
    simp only [rowsD, List.mem_map] at hq
    obtain ⟨x, _, rfl⟩ := hq
    cases hd : dget es x with
    | none => cases n <;> rfl
    | some d =>
      obtain ⟨e, he, rfl, _⟩ := dget_mem hd
      exact fw_docD (h.2 e he).2
  | n + 1, .none, _ => rfl
  | n + 1, .bool _, _ => rfl
  | n + 1, .int i, h => if_pos h
  | n + 1, .str x, h => if_pos h.1
  | n + 1, .tuple _, h => h.elim
end SC

set_option Elab.async false
set_option linter.all false
set_option maxRecDepth 100000
set_option maxHeartbeats 4000000
/-! SOD: a dict whose keys are texts and None, made by a display, known from then on, never written. -/
namespace SC
open PySem PySem.Spec PyProof.Rows L2
def okV : Option Str → V
  | none => .non
  | some x => .str x
def okL : Option Str → PySem.Leaf
  | none => .none
  | some x => .text x
theorem okL_inj : ∀ {a b : Option Str}, okL a = okL b → a = b
  | none, none, _ => rfl
  | none, some _, e => nomatch e
  | some _, none, e => nomatch e
  | some _, some _, e => by injection e with e; rw [e]
theorem okV_is {P : Program} {w : World} {k : Option Str} {u : Value} (r : RelV (okV k) u) : (leafKind P w).is (okL k) u = true := by
  cases k with
  | none => obtain rfl : u = Value.none := r; rfl
  | some x =>
    obtain ⟨t, e⟩ := (show ∃ t, u = Value.str x t from r)
    subst e
    show Value.isStrOf x (.str x t) = true
    simp [Value.isStrOf]
theorem okV_rel {P : Program} {w : World} {k : Option Str} {u : Value} (h : (leafKind P w).is (okL k) u = true) : RelV (okV k) u := by
  cases k with
  | none =>
    have h : PySem.Leaf.isOf .none u = true := h
    cases u <;> first | rfl | exact absurd h Bool.false_ne_true
  | some x =>
    obtain ⟨t, rfl⟩ := Value.isStrOf_shape (show Value.isStrOf x u = true from h)
    exact ⟨t, rfl⟩
abbrev OV : List (Option Str × V) → List (PySem.Leaf × Value) → Prop := Paired fun p q => okL p.1 = q.1 ∧ RelV p.2 q.2
/-- what the object is -/
structure OddO (P : Program) (w : World) (o : Obj) (kvs : List (Option Str × V)) : Prop where
  cls : o.ExactDict
  dat : ∃ es ep vs, o.data = .dict es ep ∧ KeysOf (leafKind P w) es ∧ Pairs (leafKind P w) es.toList vs ∧ (vs.map (·.1)).Nodup ∧ OV kvs vs
def oddH (o : Obj) : HO := .frz o (.ext fun _ => True)
structure IsOdd (P : Program) (w : World) (H : Hp) (a : Addr) (kvs : List (Option Str × V)) : Prop where
  li : ∃ o, (a == sysModules) = false ∧ H a = some (oddH o) ∧ OddO P w o kvs
theorem IsOdd.imp {P : Program} {w : World} {H H' : Hp} {a : Addr} {kvs : List (Option Str × V)} (s : Same H H') (h : IsOdd P w H a kvs) : IsOdd P w H' a kvs := by
  obtain ⟨o, h1, h2, h3⟩ := h.li
  exact ⟨o, h1, s _ _ h2, h3⟩
theorem IsOdd.dict {X : Cx} {pins : List (Addr × Obj)} {σ : L2.St} {H : Hp} {s : Shared} {a : Addr} {kvs : List (Option Str × V)} (I : Inv X pins σ H s) (h : IsOdd X.prog X.w H a kvs) : (a == sysModules) = false ∧ ∃ vs, OV kvs vs ∧ s.heap.DictOf (leafKind X.prog X.w) a vs := by
  obtain ⟨o, h1, h2, h3⟩ := h.li
  obtain ⟨e, _⟩ := (show ObjOk X.prog X.w H s.heap a (.frz o (.ext fun _ => True)) from I.hok a _ h2)
  obtain ⟨es, ep, vs, d1, d2, d3, d4, d5⟩ := h3.dat
  exact ⟨h1, vs, d5, o, es, ep, e, h3.cls, d1, d2, d3, d4⟩
/-! ### the display -/
theorem carries_odd {P : Program} {w : World} : ∀ {kvs : List (Option Str × V)} {ws : List (Value × Value)}, VV (kvs.map fun kv => (okV kv.1, kv.2)) ws → ∃ rs, Carries (leafKind P w) ws rs ∧ OV kvs rs
  | [], _, r => by rw [List.map_nil] at r; cases r; exact ⟨[], True.intro, .nil⟩
  | p :: kvs, _, r => by
    rw [List.map_cons] at r
    cases r with
    | @cons a b as bs h t =>
      obtain ⟨rs, c, q⟩ := carries_odd (P := P) (w := w) t
      obtain ⟨b1, b2⟩ := b
      exact ⟨(okL p.1, b2) :: rs, ⟨okV_is h.1, rfl, c⟩, .cons ⟨rfl, h.2⟩ q⟩
theorem ov_keys : ∀ {kvs : List (Option Str × V)} {vs : List (PySem.Leaf × Value)}, OV kvs vs → vs.map (·.1) = kvs.map fun p => okL p.1
  | _, _, .nil => rfl
  | _, _, .cons h t => by rw [List.map_cons, List.map_cons, ov_keys t, h.1]
theorem merged_nd {K : Type} [DecidableEq K] : ∀ {more kvs : List (K × Value)}, ((kvs ++ more).map (·.1)).Nodup → merged kvs more = kvs ++ more
  | [], kvs, _ => by simp [merged]
  | p :: r, kvs, h => by
    have hn : (kvs.any fun kv => kv.1 = p.1) = false := by
      rw [List.any_eq_false]
      intro x hx
      simp only [decide_eq_true_eq]
      intro e
      rw [List.map_append, List.nodup_append] at h
      exact h.2.2 _ (List.mem_map.mpr ⟨x, hx, rfl⟩) _ (List.mem_map.mpr ⟨p, by simp, rfl⟩) e
    have e1 : stored kvs p.1 p.2 = kvs ++ [p] := by
      unfold stored
      rw [if_neg (by rw [hn]; simp)]
    show merged (stored kvs p.1 p.2) r = _
    rw [e1, merged_nd (by rw [List.append_assoc]; exact h), List.append_assoc]
    rfl
def tDispO (P : Program) (w : World) (trs : List (TE × TE)) : TE := fun σ H Q => ∀ p, H p = none → tPairs trs σ (upd H p (.dK [])) fun ps H2 => H2 p = some (.dK []) ∧ ∃ kvs : List (Option Str × V), ps = kvs.map (fun kv => (okV kv.1, kv.2)) ∧ (kvs.map (·.1)).Nodup ∧ kvs.length ≤ 15 ∧
  ∀ o, (p == sysModules) = false → OddO P w o kvs → Q (.ref p) (upd H2 p (oddH o))
theorem pe_dispO {X : Cx} {P : Program} {w : World} {pos : Pos} {keys : List (Option Expr)} {values : List Expr} {trs : List (TE × TE)} (hP : X.prog = P) (hw : X.w = w) (h : L2.PPs X pos keys values trs) (hall : keys.all (·.isSome) = true) (hl : keys.length = values.length) (h0 : keys ≠ [])
    (h15 : keys.length ≤ 15) : PE X (.Dict keys values pos) (tDispO P w trs) := by
  subst hP hw
  refine ⟨fun pins s σ H Q I q => ?_⟩
  have hn := I.hok.fresh (Nat.le_refl s.heap.objs.size)
  have I1 := I.laid (a := s.heap.objs.size) (o := .dK []) (h' := s.heap.push { cls := .type "dict", data := .dict #[] }) (t' := s.toks) (fun _ _ q => Heap.get?_push_of_some _ q) (Nat.le_refl _) (dk_empty s.heap I.big)
  refine wpAny_Dict_walk (knd := leafKind X.prog X.w) hall hl h0 h15 (thn (h.run pins _ σ _ _ I1 (q _ hn)) fun ws s2 ⟨ps, H2, I2, rel, e, kvs, ep, nd, lk, q2⟩ => ?_)
  subst ep
  obtain ⟨rs, c, rk⟩ := carries_odd (P := X.prog) (w := X.w) rel
  obtain ⟨z, hd, vs0, r0, dd⟩ := dk_of I2.hok e
  cases r0
  have dd0 : s2.heap.DictOf (leafKind X.prog X.w) s.heap.objs.size [] := by
    obtain ⟨o, es, ep, h1, h2, h3, h4, h5, h6⟩ := dd
    have he : es.toList = [] := by
      have := h5.length
      simpa using this
    have he2 : es = #[] := by
      cases es with
      | mk l => simp at he; rw [he]
    subst he2
    exact ⟨o, #[], ep, h1, h2, h3, fun e hm => absurd hm (by simp), .nil, List.nodup_nil⟩
  refine ⟨rs, c, dd0, fun h' dd' hs => ?_⟩
  have hnd : (rs.map (·.1)).Nodup := by
    rw [ov_keys rk, show (fun p : Option Str × V => okL p.1) = okL ∘ (·.1) from rfl, ← List.map_map]
    exact List.pairwise_map.mpr (List.Pairwise.imp (fun hab e => hab (okL_inj e)) nd)
  rw [merged_nd (kvs := []) (by simpa using hnd), List.nil_append] at dd'
  obtain ⟨o, es, ep, h1, h2, h3, h4, h5, h6⟩ := dd'
  have O : OddO X.prog X.w o kvs := ⟨h2, es, ep, rs, h3, h4, h5, h6, rk⟩
  refine ⟨.ref s.heap.objs.size, _, ?_, rfl, q2 o hd O⟩
  exact d_write I2 (by rw [e]; exact True.intro) hs ⟨o, h1⟩ ⟨h1, True.intro, ⟨o, h1⟩, fun _ _ _ _ => True.intro⟩
/-! ### walked -/
def Ito (kvs : List (Option Str × V)) : It :=
  ⟨fun i H => i < kvs.length, fun i H x H' => H' = H ∧ ∃ k v, kvs[i]? = some (k, v) ∧ x = okV k, fun i H => kvs.length ≤ i⟩
theorem ov_len {kvs : List (Option Str × V)} {vs : List (PySem.Leaf × Value)} (h : OV kvs vs) : kvs.length = vs.length := Paired.length h
theorem ov_get : ∀ {kvs : List (Option Str × V)} {vs : List (PySem.Leaf × Value)} {i : Nat} {k : Option Str} {v : V}, OV kvs vs → kvs[i]? = some (k, v) → ∃ u, vs[i]? = some (okL k, u) ∧ RelV v u
  | _, _, 0, k, v, .cons (b := b) h t, e => by
    simp at e
    subst e
    obtain ⟨b1, b2⟩ := b
    obtain ⟨h1, h2⟩ := h
    simp only at h1 h2
    subst h1
    exact ⟨b2, rfl, h2⟩
  | _, _, i + 1, k, v, .cons _ t, e => by
    simp at e
    obtain ⟨u, h1, h2⟩ := ov_get t e
    exact ⟨u, by simpa using h1, h2⟩
theorem turn_odd {P : Program} {w : World} {K : PySem.W.Frag} {tg : Expr} {d : Addr} {o : Obj} {es : Array DictEntry} {n : Nat} {vs : List (PySem.Leaf × Value)} {kvs : List (Option Str × V)} (it : Addr) (hc : o.ExactDict) (hdat : o.data = .dict es n) (hp : Pairs (leafKind P w) es.toList vs) (hv : OV kvs vs) :
    Turn P w K tg ⟨fun i H => H d = some (oddH o) ∧ i < kvs.length, fun i H x H' => H' = H ∧ ∃ k v, kvs[i]? = some (k, v) ∧ x = okV k, fun i H => H d = some (oddH o) ∧ kvs.length ≤ i⟩ [it] it (fun i h => h.IsKeyIter it d i es.size n) where
  mem := by simp
  obj := fun i h st b hb => by
    have e : b = it := by simpa using hb
    subst e
    obtain ⟨oi, e, c, dd⟩ := st
    exact ⟨oi, e, fun v z => by rw [dd] at z; cases z⟩
  keep := fun i h h' st k => st.at fun oi e => k it (by simp) oi e
  item := by
    intro X hP hw hK hcalm i pins s σ H E I hf st hg
    subst hP hw hK
    obtain ⟨hH, hi⟩ := hg
    obtain ⟨f0, f1, f2, f3, f4, f5⟩ := hf it (by simp)
    obtain ⟨he, _⟩ := (show ObjOk X.prog X.w H s.heap d (.frz o (.ext fun _ => True)) from I.hok d _ hH)
    have hm : s.heap.DictRaw d es n := ⟨o, he, hc, hdat⟩
    have hsz : es.size = kvs.length := by
      have h1 := hp.length
      have h2 := ov_len hv
      simp at h1
      omega
    have hi2 : i < es.size := by omega
    refine wpAny_pyNext_keys_item_raw st hm hi2 fun h' st' sb => ?_
    have I1 : Inv X pins σ H { s with heap := h' } := I.turned (t' := s.toks) (fun b ob hb e => (sb.2 b hb).trans e) f0 f1 f3 f4 f5
    obtain ⟨oi, e, c, dd⟩ := id st'
    obtain ⟨u, hu, ru⟩ := ov_get hv (show kvs[i]? = some ((kvs[i]).1, (kvs[i]).2) from List.getElem?_eq_getElem hi)
    have hk := (hp.get? (e := es[i]) (by simp [hi2]) hu).1
    exact ⟨es[i].key, rfl, go_of (s := { s with heap := h' }) e c dd (by decide) ⟨okV (kvs[i]).1, H, I1, okV_rel hk, ⟨rfl, _, _, List.getElem?_eq_getElem hi, rfl⟩, st', fun b hb => (hf b hb).1⟩⟩
  done := by
    intro X hP hw hK hcalm i pins s σ H E I hf st hg
    subst hP hw hK
    obtain ⟨hH, hi⟩ := hg
    obtain ⟨f0, f1, f2, f3, f4, f5⟩ := hf it (by simp)
    obtain ⟨he, _⟩ := (show ObjOk X.prog X.w H s.heap d (.frz o (.ext fun _ => True)) from I.hok d _ hH)
    have hm : s.heap.DictRaw d es n := ⟨o, he, hc, hdat⟩
    have hsz : es.size = kvs.length := by
      have h1 := hp.length
      have h2 := ov_len hv
      simp at h1
      omega
    exact wpAny_pyNext_keys_end_raw (I.ok.hd hcalm) st hm (by omega) fun h' eb => ⟨rfl, I.turned (t' := s.toks) (fun b ob hb e => eb b ob hb e) f0 f1 f3 f4 f5⟩
  self := fun A i s Q E st h => wpAny_pyIter_keyiter st h
/-- the walker of the dict at d -/
def Itod (d : Addr) (o : Obj) (kvs : List (Option Str × V)) : It :=
  ⟨fun i H => H d = some (oddH o) ∧ i < kvs.length, fun i H x H' => H' = H ∧ ∃ k v, kvs[i]? = some (k, v) ∧ x = okV k, fun i H => H d = some (oddH o) ∧ kvs.length ≤ i⟩
def iOdd (P : Program) (w : World) (td : TE) : TI := fun σ H R => td σ H fun x H1 => ∃ d o kvs, x = .ref d ∧ (d == sysModules) = false ∧ H1 d = some (oddH o) ∧ OddO P w o kvs ∧ R (Itod d o kvs) H1
theorem pi_odd {X : Cx} {P : Program} {w : World} {tg e : Expr} {td : TE} (hP : X.prog = P) (hw : X.w = w) (he : PE X e td) : PI X tg e (iOdd P w td) := by
  subst hP hw
  refine ⟨fun pins s σ H R I h => ?_⟩
  refine thn (he.run pins s σ H _ I h) fun u s1 ⟨x, H1, I1, rx, d, o, kvs, ex, hd, hH, O, q⟩ => ?_
  subst ex
  obtain rfl : u = Value.ref d := rx
  obtain ⟨e1, _⟩ := (show ObjOk X.prog X.w H1 s1.heap d (.frz o (.ext fun _ => True)) from I1.hok d _ hH)
  obtain ⟨es, ep, vs, d1, d2, d3, d4, d5⟩ := O.dat
  exact wpAny_pyIter_dict_raw hd ⟨o, e1, O.cls, d1⟩ (pi_one (tk := s1.toks) I1 _ (turn_odd _ O.cls d1 d3 d5) ⟨_, Heap.get?_push_size _ rfl, rfl, rfl⟩ q)
theorem walk_odd {d : Addr} {o : Obj} {kvs : List (Option Str × V)} : Walk (Itod d o kvs) kvs.length (fun H => H d = some (oddH o)) (fun i H x H' => H' = H ∧ ∃ k v, kvs[i]? = some (k, v) ∧ x = okV k) :=
  ⟨fun _ _ hi q => ⟨q, hi⟩, fun _ q => ⟨q, Nat.le_refl _⟩, fun _ _ _ _ _ _ y => y⟩
/-! ### d[k] -/
theorem valueAt_nd {K : Type} [DecidableEq K] : ∀ {vs : List (K × Value)} {i : Nat} {k : K} {u : Value}, (vs.map (·.1)).Nodup → vs[i]? = some (k, u) → valueAt vs k = some u
  | (a, b) :: r, 0, k, u, _, h => by
    simp at h
    obtain ⟨rfl, rfl⟩ := h
    simp [valueAt]
  | (a, b) :: r, i + 1, k, u, hn, h => by
    simp at h
    rw [List.map_cons, List.nodup_cons] at hn
    have hne : ¬ a = k := fun e => hn.1 (List.mem_map.mpr ⟨(k, u), List.mem_of_getElem? h, e.symm⟩)
    have := valueAt_nd hn.2 h
    unfold valueAt at this ⊢
    rw [List.find?_cons]
    simp only [hne, decide_false]
    exact this
def tDGetO (P : Program) (w : World) (td ty : TE) : TE := fun σ H Q => td σ H fun x H1 => ty σ H1 fun y H2 => ∃ (a : Addr) (kvs : List (Option Str × V)) (i : Nat) (k : Option Str) (v : V), x = .ref a ∧ y = okV k ∧ IsOdd P w H2 a kvs ∧ kvs[i]? = some (k, v) ∧ Q v H2
theorem pe_dgetO {X : Cx} {P : Program} {w : World} {o i : Expr} {td ty : TE} {pos : Pos} (hP : X.prog = P) (hw : X.w = w) (ho : PE X o td) (hi : PE X i ty) (hs : NoSl i) : PE X (.Subscript o i pos) (tDGetO P w td ty) := by
  subst hP hw
  refine ⟨fun pins s σ H Q I h => ?_⟩
  refine subD_of PySem.F.slot_dict_getitem.lookup hs (thn (ho.run pins s σ H _ I h) fun u s1 ⟨x, H1, I1, rx, q1⟩ => thn (hi.run pins s1 σ H1 _ I1 q1) fun iv s2 ⟨y, H2, I2, ry, a, kvs, j, k, v, ex, ey, O, hj, q2⟩ => ?_)
  subst ex ey
  obtain rfl : u = Value.ref a := rx
  obtain ⟨_, vs, ov, dd⟩ := O.dict I2
  obtain ⟨u, hu, ru⟩ := ov_get ov hj
  have hnd : (vs.map (·.1)).Nodup := by
    obtain ⟨_, _, _, _, _, _, _, _, h6⟩ := dd
    exact h6
  exact ⟨dd.typeIs, wpAny_getItem_of (okV_is ry) dd.mapOf (valueAt_nd hnd hu) ⟨v, H2, I2.tok _, ru, q2⟩⟩
/-! ### isinstance -/
def rIsiO (K : PySem.W.Frag) : List V → Hp → VK → Prop := fun xs H Q => rIsi K xs H Q ∨ ∃ (a : Addr) (o : Obj) (T : String) (b : Bool), xs = [.ref a, .ty T] ∧ H a = some (oddH o) ∧ o.ExactDict ∧ kitB "dict" T = some b ∧ Q (.bl b) H
theorem call_isiO {X : Cx} : CallR X (.builtin "isinstance") (rIsiO X.K) := by
  intro pins s σ H xs us Q I r h
  rcases h with h | ⟨a, o, T, b, rfl, hH, hc, hk, q⟩
  · exact call_isi pins s σ H xs us Q I r h
  obtain ⟨u1, u2, rfl, r1, r2⟩ := vals2 r
  cases (show u1 = Value.ref a from r1)
  cases (show u2 = Value.type T from r2)
  obtain ⟨e1, _⟩ := (show ObjOk X.prog X.w H s.heap a (.frz o (.ext fun _ => True)) from I.hok a _ hH)
  exact PySem.W.kia_one PySem.W.kitx_dict I.kIn ⟨o, e1, hc.1⟩ (kit_ty hk) (fun z => nomatch z) fun tk => ⟨.bl b, H, I.tok tk, rfl, q⟩
theorem isiOK {X : Cx} {K : PySem.W.Frag} (h : X.K = K) : CallR X (.builtin "isinstance") (rIsiO K) := by subst h; exact call_isiO
end SC

set_option Elab.async false
set_option linter.all false
set_option maxRecDepth 100000
set_option maxHeartbeats 4000000
/-! SN0: dicts whose keys are None, bools, ints, texts and tuples of such, mixed: looked into and written (the model's side). -/
namespace SC
open PySem PySem.Spec PyProof.Rows L2
open Sem (wp)
abbrev NX := NestedKey × Value × Value
def entN (w : World) (x : NX) : DictEntry := ⟨x.1.hash w, x.2.1, x.2.2⟩
def KeysN (h : Heap) (xs : List NX) : Prop := ∀ x ∈ xs, NestedIs h x.1 x.2.1 ∧ x.1.depth ≤ 8
section
variable {prog : Program} {w : World} {A : Around} {E : Value → Shared → Prop} {s : Shared}
theorem eqN {x y : NestedKey} {u v : Value} {Q : Bool → Shared → Prop} (hu : A.units + 8 < cLine) (hx : NestedIs s.heap x u) (hy : NestedIs s.heap y v) (hd : y.depth ≤ 8) (q : Q (decide (x = y)) s) : wpAny (model prog w) A (eqBool u v) Q E s :=
  eqAt_key x y A s _ _ hx hy (by omega) _ _ _ _ (by rw [← NestedKey.decide_eq]; exact q)
theorem quietN {k : NestedKey} {v : Value} {Q : Bool → Shared → Prop} (hk : NestedIs s.heap k v) (hd : k.depth ≤ 8) (q : Q true s) : wpAny (model prog w) A (eqIsQuiet 8 v) Q E s := quiet_key k _ 8 s hk hd A E Q q
theorem mayTellN {k : NestedKey} {v : Value} {stored : List Value} {Q : Bool → Shared → Prop} (hk : NestedIs s.heap k v) (hd : k.depth ≤ 8) (hst : ∀ u ∈ stored, ∃ k', NestedIs s.heap k' u ∧ k'.depth ≤ 8) (q : Q false s) : wpAny (model prog w) A (tableMayTell v stored) Q E s := by
  unfold tableMayTell
  split
  · exact wpAny_pure q
  · refine wpAny_bind (quietN hk hd ?_)
    simp only [Bool.not_true, Bool.false_eq_true, if_false]
    refine wpAny_bind ?_
    refine wpAny_forIn_list _ (fun rest r s' => s' = s ∧ r = (none, ()) ∧ ∀ u ∈ rest, ∃ k', NestedIs s.heap k' u ∧ k'.depth ≤ 8) _ ?_ ?_ _ _ ⟨rfl, rfl, hst⟩
    · rintro x rest r s' ⟨rfl, rfl, hr⟩
      obtain ⟨k', h1, h2⟩ := hr x List.mem_cons_self
      refine wpAny_bind (quietN h1 h2 ?_)
      simp only [Bool.not_true, Bool.false_eq_true, if_false]
      exact wpAny_pure ⟨rfl, rfl, fun v hv => hr v (List.mem_cons_of_mem _ hv)⟩
    · rintro r s' ⟨rfl, rfl, _⟩
      exact wpAny_pure q
theorem ent_at {es : Array DictEntry} {xs : List NX} (he : es.toList = xs.map (entN w)) (j : Nat) : es[j]? = (xs[j]?).map (entN w) := by rw [← Array.getElem?_toList, he, List.getElem?_map]
theorem ent_size {es : Array DictEntry} {xs : List NX} (he : es.toList = xs.map (entN w)) : es.size = xs.length := by rw [← Array.length_toList, he, List.length_map]
theorem nd_at {xs : List NX} (hn : (xs.map (·.1)).Nodup) {i j : Nat} {k : NestedKey} {p q : Value × Value} (hi : xs[i]? = some (k, p)) (hj : xs[j]? = some (k, q)) : i = j := by
  have hi' : (xs.map (·.1))[i]? = some k := by rw [List.getElem?_map, hi]; rfl
  have hj' : (xs.map (·.1))[j]? = some k := by rw [List.getElem?_map, hj]; rfl
  exact (List.getElem?_inj (List.getElem?_eq_some_iff.mp hi').1 hn).mp (hi'.trans hj'.symm)
/-- what a look into the dict has found among the first i entries -/
def Found (xs : List NX) (k : NestedKey) (i : Nat) (hit : Option Nat) : Prop := (hit = none ∧ ∀ j p, j < i → xs[j]? ≠ some (k, p)) ∨ ∃ j p, hit = some j ∧ j < i ∧ xs[j]? = some (k, p)
theorem Found.skip {xs : List NX} {k : NestedKey} {i x : Nat} {hit : Option Nat} {es : Array DictEntry} (he : es.toList = xs.map (entN w)) (h : Found xs k i hit) (hix : i ≤ x) (hs : ∀ j, i ≤ j → j < x → ((es[j]?.map (·.hash)) == some (k.hash w)) = false) : Found xs k x hit := by
  rcases h with ⟨h0, hno⟩ | ⟨j, p, h1, hji, hj⟩
  · refine .inl ⟨h0, fun j p hjx hj => ?_⟩
    rcases Nat.lt_or_ge j i with h | h
    · exact hno j p h hj
    · have := hs j h hjx
      rw [ent_at he j, hj] at this
      simp [entN] at this
  · exact .inr ⟨j, p, h1, by omega, hj⟩
theorem Found.step {xs : List NX} {k k' : NestedKey} {x : Nat} {hit : Option Nat} {p : Value × Value} (h : Found xs k x hit) (hx : xs[x]? = some (k', p)) (hne : k' ≠ k) : Found xs k (x + 1) hit := by
  rcases h with ⟨h0, hno⟩ | ⟨j, p, h1, hjx, hj⟩
  · refine .inl ⟨h0, fun j q hjx hj => ?_⟩
    rcases Nat.lt_or_ge j x with h | h
    · exact hno j q h hj
    · obtain rfl : j = x := by omega
      rw [hx] at hj
      cases hj
      exact hne rfl
  · exact .inr ⟨j, p, h1, by omega, hj⟩
theorem Found.none {xs : List NX} {k : NestedKey} {i : Nat} (h : Found xs k i none) (hi : xs.length ≤ i) : k ∉ xs.map (·.1) := by
  rcases h with ⟨_, hno⟩ | ⟨j, p, h1, _⟩
  · intro hm
    obtain ⟨x, hx, rfl⟩ := List.mem_map.mp hm
    obtain ⟨j, hj⟩ := List.mem_iff_getElem?.mp hx
    exact hno j x.2 (Nat.lt_of_lt_of_le (List.getElem?_eq_some_iff.mp hj).1 hi) hj
  · cases h1
theorem findN {d : Addr} {o : Obj} {es : Array DictEntry} {ep : Nat} {xs : List NX} {k : NestedKey} {key : Value} {Q : Option Nat → Shared → Prop} (hu : A.units + 8 < cLine) (hkey : NestedIs s.heap k key) (hdp : k.depth ≤ 8)
    (ho : s.heap.get? d = some o) (hd : o.data = .dict es ep) (he : es.toList = xs.map (entN w)) (hks : KeysN s.heap xs) (hn : (xs.map (·.1)).Nodup)
    (hnone : k ∉ xs.map (·.1) → Q none s) (hsome : ∀ j p, xs[j]? = some (k, p) → Q (some j) s) : wpAny (model prog w) A (dictFind d key (k.hash w)) Q E s := by
  have hsz := ent_size he
  have hat : ∀ {x}, x < es.size → ∃ k' b v', xs[x]? = some (k', b, v') ∧ es[x]? = some ⟨k'.hash w, b, v'⟩ ∧ NestedIs s.heap k' b ∧ k'.depth ≤ 8 := fun {x} hx => by
    obtain ⟨⟨k', b, v'⟩, hkv⟩ : ∃ y, xs[x]? = some y := ⟨xs[x]'(by rw [← hsz]; exact hx), List.getElem?_eq_getElem _⟩
    obtain ⟨h1, h2⟩ := hks _ (List.mem_of_getElem? hkv)
    exact ⟨k', b, v', hkv, by rw [ent_at he x, hkv]; rfl, h1, h2⟩
  have hst : ∀ v ∈ (placesWithHash es.size (fun i => es[i]?.map (·.hash)) (k.hash w)).filterMap (fun i => es[i]?.map (·.key)), ∃ k', NestedIs s.heap k' v ∧ k'.depth ≤ 8 := by
    intro v hv
    obtain ⟨i, _, hi⟩ := List.mem_filterMap.mp hv
    cases hei : es[i]? with
    | none => rw [hei] at hi; cases hi
    | some e =>
      obtain ⟨k', b, v', _, h2, h3, h4⟩ := hat (Array.getElem?_eq_some_iff.mp hei).1
      rw [h2] at hi
      obtain rfl : b = v := by simpa using hi
      exact ⟨k', h3, h4⟩
  have hany : ∀ a, key = .ref a → ¬ (es.any fun e => e.key == key && e.hash != k.hash w) = true := by
    intro a ha
    rw [← Array.any_toList, List.any_eq_true]
    rintro ⟨e, hin, hc⟩
    rw [he] at hin
    obtain ⟨x, hx, rfl⟩ := List.mem_map.mp hin
    simp only [entN, Bool.and_eq_true, bne_iff_ne, ne_eq] at hc
    obtain ⟨hxa, hne⟩ := hc
    have hxa' : x.2.1 = key := beq_iff_eq.mp hxa
    have hx1 := (hks x hx).1
    rw [hxa'] at hx1
    exact hne (by rw [NestedIs.inj _ _ _ hx1 hkey])
  -- the plain walk
  have plain : wpAny (model prog w) A (dictWalkPlain d key (k.hash w) es (placesWithHash es.size (fun i => es[i]?.map (·.hash)) (k.hash w))) Q E s := by
    refine wpAny_bind ?_
    refine wpAny_forIn_list _
      (fun rest b s' => s' = s ∧ b = (none, ()) ∧ ∃ i, rest = (List.range' i (es.size - i)).filter (fun i => (es[i]?.map (·.hash)) == some (k.hash w)) ∧ i ≤ es.size ∧ Found xs k i none) _ ?_ ?_ _ _
      ⟨rfl, rfl, 0, by rw [placesWithHash, List.range_eq_range', Nat.sub_zero], Nat.zero_le _, .inl ⟨rfl, fun _ _ h => absurd h (Nat.not_lt_zero _)⟩⟩
    · rintro x rest b s' ⟨rfl, rfl, i, hr, hi, hF⟩
      obtain ⟨hix, hxn, hpx, hskip, hrest⟩ := filter_range'_cons _ _ _ _ _ hr.symm
      have hlt : x < es.size := by omega
      have hrest' : rest = (List.range' (x + 1) (es.size - (x + 1))).filter (fun i => (es[i]?.map (·.hash)) == some (k.hash w)) := by rw [hrest]; congr 2; omega
      obtain ⟨k', b, v', hkv, hex, hib, hdb⟩ := hat hlt
      have hFx := Found.skip he hF hix hskip
      rw [hex]
      dsimp only
      by_cases hh : (k'.hash w == k.hash w) = true
      · rw [if_pos hh]
        refine wpAny_bind (wpAny_dictEpoch ho hd (wpAny_bind (eqN hu hib hkey hdp (wpAny_bind (wpAny_dictEpoch ho hd ?_)))))
        show wpAny _ _ (if (ep != ep) = true then _ else _) _ E _
        rw [if_neg (by simp)]
        by_cases hkk : k' = k
        · rw [decide_eq_true hkk]
          subst hkk
          exact wpAny_bind (wpAny_rule (wpAny_pure (wpAny_pure (hsome x _ hkv))))
        · rw [decide_eq_false hkk]
          exact wpAny_bind (wpAny_rule (wpAny_pure ⟨rfl, rfl, x + 1, hrest', hlt, hFx.step hkv hkk⟩))
      · rw [if_neg hh]
        refine wpAny_pure ⟨rfl, rfl, x + 1, hrest', hlt, hFx.step hkv fun e => ?_⟩
        rw [e] at hh
        simp at hh
    · rintro b s' ⟨rfl, rfl, i, hr, hi, hF⟩
      have hall : ∀ j, i ≤ j → j < es.size → ((es[j]?.map (·.hash)) == some (k.hash w)) = false := by
        intro j h1 h2
        have := List.filter_eq_nil_iff.mp hr.symm j (List.mem_range'_1.mpr ⟨h1, by omega⟩)
        simpa using this
      exact wpAny_pure (hnone ((Found.skip he hF hi hall).none (by omega)))
  -- texts among texts
  have fbv : ∀ x t, key = .str x t → (es.all fun e => isExactStrKey e.key) = true → wpAny (model prog w) A (foundByValue d key es x) Q E s := by
    intro x t hx hall
    subst hx
    obtain rfl : k = .text x := NestedIs.inj _ _ _ hkey (.text x t)
    have his : ∀ {j : Nat} {k' : NestedKey} {b v' : Value}, xs[j]? = some (k', b, v') → (b.isStr x = true ↔ k' = NestedKey.text x) := by
      intro j k' b v' hj
      have hj' : es[j]? = some ⟨k'.hash w, b, v'⟩ := by rw [ent_at he j, hj]; rfl
      have hb := (hks _ (List.mem_of_getElem? hj)).1
      have hs : isExactStrKey b = true := by
        have := Array.all_eq_true.mp hall j (Array.getElem?_eq_some_iff.mp hj').1
        rw [(Array.getElem?_eq_some_iff.mp hj').2] at this
        exact this
      cases b with
      | str y u =>
        have hb' : NestedIs s.heap k' (.str y u) := hb
        obtain rfl : k' = .text y := NestedIs.inj _ _ _ hb' (.text y u)
        constructor
        · intro h
          have : x = y ∨ y = x := by
            simp [Value.isStr] at h
            first | exact .inl h | exact .inr h
          rcases this with rfl | rfl <;> rfl
        · intro h
          cases h
          simp [Value.isStr]
      | _ => exact absurd hs (by simp [isExactStrKey])
    unfold foundByValue
    cases hf : es.findIdx? (fun e => e.key.isStr x) with
    | none =>
      refine wpAny_pure (hnone fun hm => ?_)
      obtain ⟨y, hy, hyk⟩ := List.mem_map.mp hm
      obtain ⟨j, hj⟩ := List.mem_iff_getElem?.mp hy
      obtain ⟨k', b, v'⟩ := y
      have hj' : es[j]? = some ⟨k'.hash w, b, v'⟩ := by rw [ent_at he j, hj]; rfl
      have := Array.findIdx?_eq_none_iff.mp hf _ (Array.mem_of_getElem? hj')
      simp only at hyk
      rw [(his hj).mpr hyk] at this
      cases this
    | some i =>
      obtain ⟨hlt, hi, _⟩ := Array.findIdx?_eq_some_iff_getElem.mp hf
      obtain ⟨k', b, v', hkv, hex, hib, hdb⟩ := hat hlt
      have hei : es[i] = ⟨k'.hash w, b, v'⟩ := (Array.getElem?_eq_some_iff.mp hex).2
      rw [hei] at hi
      obtain rfl := (his hkv).mp hi
      simp only [hex]
      refine wpAny_bind (wpAny_dictEpoch ho hd (wpAny_bind (eqN hu hib hkey hdp (wpAny_bind (wpAny_dictEpoch ho hd ?_)))))
      show wpAny _ _ (if (ep != ep) = true then _ else _) _ E _
      rw [if_neg (by simp), decide_eq_true rfl]
      exact wpAny_bind (wpAny_rule (wpAny_pure (hsome _ _ hkv)))
  -- the walk by the table
  unfold dictFind
  try with_reducible refine wpAny_holding ?_
  refine wpAny_bind (wpAny_dictEntries ho hd ?_)
  by_cases hcv : ((key :: (placesWithHash es.size (fun i => es[i]?.map (·.hash)) (k.hash w)).filterMap (fun i => es[i]?.map (·.key))).all carriedByValue) = true
  · cases hkey with
    | none => dsimp only; rw [if_pos hcv]; exact plain
    | bool e => dsimp only; rw [if_pos hcv]; exact plain
    | int i t => dsimp only; rw [if_pos hcv]; exact plain
    | text x t =>
      dsimp only
      by_cases hstr : (es.all fun e => isExactStrKey e.key) = true
      · rw [if_pos hstr]; exact fbv x t rfl hstr
      · rw [if_neg hstr, if_pos hcv]; exact plain
    | tup h1 h2 h3 h4 => simp [carriedByValue] at hcv
  · cases key <;> dsimp only
    case' str x t =>
      by_cases hstr : (es.all fun e => isExactStrKey e.key) = true
      · rw [if_pos hstr]; exact fbv x t rfl hstr
      rw [if_neg hstr]
    all_goals rw [if_neg hcv]
    case' ref a => rw [if_neg (hany _ rfl)]
    all_goals clear plain fbv hany
    all_goals
      generalize hst0 : (placesWithHash es.size (fun i => es[i]?.map (·.hash)) (k.hash w)).filterMap (fun i => es[i]?.map (·.key)) = stored at hst ⊢
    all_goals clear hst0 hcv
    all_goals
      generalize hone : (stored == [_]) = one
    all_goals
      cases one
    all_goals (first | rw [if_pos rfl] | rw [if_neg (by decide)])
    all_goals (first | refine wpAny_bind (wpAny_pure ?_) | refine wpAny_bind (mayTellN hkey hdp hst ?_))
    all_goals rw [if_neg (by simp)]
    all_goals refine wpAny_bind ?_
    all_goals
      refine wpAny_forIn_list _
        (fun rest b s' => s' = s ∧ ∃ i hit, b = (none, hit) ∧ rest = (List.range' i (es.size - i)).filter (fun i => (es[i]?.map (·.hash)) == some (k.hash w)) ∧ i ≤ es.size ∧ Found xs k i hit) _ ?_ ?_ _ _
        ⟨rfl, 0, none, rfl, by rw [placesWithHash, List.range_eq_range', Nat.sub_zero], Nat.zero_le _, .inl ⟨rfl, fun _ _ h => absurd h (Nat.not_lt_zero _)⟩⟩
    all_goals try
      (rintro b s' ⟨rfl, i, hit, rfl, hr, hi, hF⟩
       have hall : ∀ j, i ≤ j → j < es.size → ((es[j]?.map (·.hash)) == some (k.hash w)) = false := by
         intro j h1 h2
         have := List.filter_eq_nil_iff.mp hr.symm j (List.mem_range'_1.mpr ⟨h1, by omega⟩)
         simpa using this
       have hF2 := Found.skip he hF hi hall
       rcases hF2 with ⟨rfl, hno⟩ | ⟨j, p, rfl, _, hj⟩
       · exact wpAny_pure (hnone (Found.none (.inl ⟨rfl, hno⟩) (by omega)))
       · exact wpAny_pure (hsome j p hj))
    all_goals
      (rintro x rest b s' ⟨rfl, i, hit, rfl, hr, hi, hF⟩
       obtain ⟨hix, hxn, hpx, hskip, hrest⟩ := filter_range'_cons _ _ _ _ _ hr.symm
       have hlt : x < es.size := by omega
       have hrest' : rest = (List.range' (x + 1) (es.size - (x + 1))).filter (fun i => (es[i]?.map (·.hash)) == some (k.hash w)) := by rw [hrest]; congr 2; omega
       obtain ⟨k', b, v', hkv, hex, hib, hdb⟩ := hat hlt
       have hFx := Found.skip he hF hix hskip
       rw [hex]
       dsimp only
       by_cases hh : (k'.hash w == k.hash w) = true
       · rw [if_pos hh]
         refine wpAny_bind (wpAny_dictEpoch ho hd (wpAny_bind (eqN hu hib hkey hdp (wpAny_bind (wpAny_dictEpoch ho hd ?_)))))
         show wpAny _ _ (if (ep != ep) = true then _ else _) _ E _
         rw [if_neg (by simp)]
         by_cases hkk : k' = k
         · rw [decide_eq_true hkk]
           subst hkk
           rcases hFx with ⟨rfl, _⟩ | ⟨j, p, _, hjx, hj⟩
           · first | rw [if_pos rfl] | skip
             simp only [Option.isSome_none, Bool.false_eq_true, if_false]
             first | refine wpAny_bind (wpAny_pure ?_) | skip
             refine wpAny_bind (wpAny_rule ?_)
             by_cases h2 : stored.length < 2
             · rw [if_pos h2]
               exact wpAny_pure (wpAny_pure (hsome x _ hkv))
             · rw [if_neg h2]
               exact wpAny_pure ⟨rfl, x + 1, some x, rfl, hrest', hlt, .inr ⟨x, _, rfl, Nat.lt_succ_self x, hkv⟩⟩
           · exact absurd (nd_at hn hj hkv) (by omega)
         · rw [decide_eq_false hkk]
           simp only [Bool.false_eq_true, if_false]
           refine wpAny_bind (wpAny_rule ?_)
           first | rw [if_neg (by simp)] | skip
           first
             | exact wpAny_pure ⟨rfl, x + 1, hit, rfl, hrest', hlt, hFx.step hkv hkk⟩
             | exact wpAny_bind (wpAny_pure (wpAny_pure ⟨rfl, x + 1, hit, rfl, hrest', hlt, hFx.step hkv hkk⟩))
       · rw [if_neg hh]
         refine wpAny_pure ⟨rfl, x + 1, hit, rfl, hrest', hlt, hFx.step hkv fun e => ?_⟩
         rw [e] at hh
         simp at hh)
end
end SC

set_option Elab.async false
set_option linter.all false
set_option maxRecDepth 100000
set_option maxHeartbeats 4000000
/-! SN1: get, set, look, walk and display of such dicts (the model's side). -/
namespace SC
open PySem PySem.Spec PyProof.Rows L2
open Sem (wp)
section
variable {prog : Program} {w : World} {A : Around} {E : Value → Shared → Prop} {s : Shared} {d : Addr} {xs : List NX} {k : NestedKey} {key : Value}
/-- at d stands a dict with the entries xs -/
def DictN (w : World) (h : Heap) (d : Addr) (xs : List NX) : Prop := ∃ o es ep, h.get? d = some o ∧ o.ExactDict ∧ o.data = .dict es ep ∧ es.toList = xs.map (entN w) ∧ KeysN h xs ∧ (xs.map (·.1)).Nodup
theorem DictN.typeIs (hm : DictN w s.heap d xs) : s.TypeIs (.ref d) "dict" := let ⟨o, _, _, ho, hc, _⟩ := hm; ⟨o, ho, hc.1⟩
theorem keys_same {h h' : Heap} {o : Obj} {es : Array DictEntry} {ep : Nat} (ho : h.get? d = some o) (hd : o.data = .dict es ep) (hs : Heap.SameBut d h h') : ∀ a o vs n, h.get? a = some o → o.data = .seq vs n → h'.get? a = some o := fun a o' vs n h1 h2 => by
  have hne : a ≠ d := by
    rintro rfl
    rw [ho] at h1
    cases h1
    rw [hd] at h2
    cases h2
  exact (hs.2 a hne).trans h1
theorem keysN_same {h h' : Heap} {o : Obj} {es : Array DictEntry} {ep : Nat} (ho : h.get? d = some o) (hd : o.data = .dict es ep) (hs : Heap.SameBut d h h') (hk : KeysN h xs) : KeysN h' xs := fun x hx => ⟨NestedIs.at (keys_same ho hd hs) _ _ (hk x hx).1, (hk x hx).2⟩
theorem getN {Q : Option Value → Shared → Prop} (hu : A.units + 8 < cLine) (hkey : NestedIs s.heap k key) (hdp : k.depth ≤ 8) (hm : DictN w s.heap d xs)
    (hnone : k ∉ xs.map (·.1) → ∀ tk, Q none { s with toks := tk }) (hsome : ∀ (j : Nat) (u v : Value), xs[j]? = some (k, u, v) → ∀ tk, Q (some v) { s with toks := tk }) : wpAny (model prog w) A (dictGet d key) Q E s := by
  obtain ⟨o, es, ep, ho, _, hd, he, hks, hn⟩ := hm
  unfold dictGet
  try with_reducible refine wpAny_holding ?_
  refine wpAny_bind (pyHash_key k key A s _ hkey (by omega) (wpAny_bind (findN (s := { s with toks := s.toks + k.draws }) hu hkey hdp ho hd he hks hn ?_ ?_)))
  · intro hno
    exact wpAny_pure (hnone hno _)
  · rintro j ⟨u, v⟩ hj
    refine wpAny_bind (wpAny_dictEntries (s := { s with toks := s.toks + k.draws }) ho hd ?_)
    rw [ent_at he j, hj]
    exact wpAny_pure (hsome j u v hj _)
theorem map_modify {u v v' : Value} : ∀ {xs : List NX} {j : Nat}, xs[j]? = some (k, u, v) → (xs.map (entN w)).modify j (fun e => { e with val := v' }) = (xs.set j (k, u, v')).map (entN w)
  | [], j, h => by simp at h
  | x :: xs, 0, h => by
    simp at h
    subst h
    rfl
  | x :: xs, j + 1, h => by
    have := map_modify (v' := v') (xs := xs) (j := j) (by simpa using h)
    simpa using this
theorem set_keys {u v v' : Value} : ∀ {xs : List NX} {j : Nat}, xs[j]? = some (k, u, v) → (xs.set j (k, u, v')).map (·.1) = xs.map (·.1)
  | [], j, h => by simp at h
  | x :: xs, 0, h => by
    simp at h
    subst h
    rfl
  | x :: xs, j + 1, h => by
    have := set_keys (v' := v') (xs := xs) (j := j) (by simpa using h)
    simpa using this
theorem setN {v : Value} {Q : Unit → Shared → Prop} (hu : A.units + 8 < cLine) (hkey : NestedIs s.heap k key) (hdp : k.depth ≤ 8) (hm : DictN w s.heap d xs) (hsz : xs.length ≤ sizeLine)
    (hnew : k ∉ xs.map (·.1) → ∀ h' tk, DictN w h' d (xs ++ [(k, key, v)]) → Heap.SameBut d s.heap h' → Q () { s with heap := h', toks := tk })
    (hold : ∀ (j : Nat) (u v0 : Value), xs[j]? = some (k, u, v0) → ∀ h' tk, DictN w h' d (xs.set j (k, u, v)) → Heap.SameBut d s.heap h' → Q () { s with heap := h', toks := tk }) : wpAny (model prog w) A (dictSet d key v) Q E s := by
  obtain ⟨o, es, ep, ho, hc, hd, he, hks, hn⟩ := hm
  unfold dictSet
  try with_reducible refine wpAny_holding ?_
  refine wpAny_bind (pyHash_key k key A s _ hkey (by omega) ?_)
  unfold dictSetHashed
  try with_reducible refine wpAny_holding ?_
  refine wpAny_bind (findN (s := { s with toks := s.toks + k.draws }) hu hkey hdp ho hd he hks hn ?_ ?_)
  · intro hno
    refine wpAny_bind (wpAny_rule (wpAny_updateDictKeys (hz := by have e := ent_size he; omega) (s := { s with toks := s.toks + k.draws }) ho hd (hnew hno _ _ ⟨_, _, ep + 1, Heap.get?_update_self _ ho (Obj.isFreed_of_dict (Obj.data_mapDictKeys hd _)),
      hc.mapDictKeys _, Obj.data_mapDictKeys hd _, ?_, ?_, ?_⟩ (Heap.SameBut.update ..))))
    · simp [he, entN]
    · intro x hx
      rcases List.mem_append.mp hx with hx | hx
      · exact keysN_same ho hd (Heap.SameBut.update ..) hks x hx
      · simp only [List.mem_singleton] at hx
        subst hx
        exact ⟨NestedIs.at (keys_same ho hd (Heap.SameBut.update ..)) _ _ hkey, hdp⟩
    · rw [List.map_append, List.nodup_append]
      refine ⟨hn, by simp, ?_⟩
      intro x hx y hy
      simp only [List.map_cons, List.map_nil, List.mem_singleton] at hy
      subst hy
      exact fun e => hno (e ▸ hx)
  · rintro j ⟨u, v0⟩ hj
    refine wpAny_bind (wpAny_rule (wpAny_bind (wpAny_updateDict (s := { s with toks := s.toks + k.draws }) ho hd (wpAny_point (hold j u v0 hj _ _ ⟨_, _, ep, Heap.get?_update_self _ ho (Obj.isFreed_of_dict (Obj.data_mapDict hd _)),
      hc.mapDict _, Obj.data_mapDict hd _, ?_, ?_, ?_⟩ (Heap.SameBut.update ..))))))
    · have := map_modify (w := w) (v' := v) hj
      rw [← he] at this
      obtain ⟨l⟩ := es
      simpa using this
    · intro x hx
      rcases List.mem_or_eq_of_mem_set hx with hx | hx
      · exact keysN_same ho hd (Heap.SameBut.update ..) hks x hx
      · subst hx
        exact keysN_same ho hd (Heap.SameBut.update ..) hks (k, u, v0) (List.mem_of_getElem? hj)
    · rw [set_keys hj]
      exact hn
theorem getItemN {Q : Value → Shared → Prop} (hu : A.units + 9 < cLine) (hkey : NestedIs s.heap k key) (hdp : k.depth ≤ 8) (hm : DictN w s.heap d xs) {j : Nat} {u v : Value} (hj : xs[j]? = some (k, u, v)) (h : ∀ tk, Q v { s with toks := tk }) :
    wpAny (model prog w) A (getItem (.ref d) key) Q E s := by
  unfold getItem
  try with_reducible refine wpAny_holding ?_
  refine wpAny_bind (wpAny_sequenceKey hm.typeIs (by decide) ?_)
  refine wpAny_bind (wpAny_callSpecial?_slot (name := Str.ofString "__getitem__") hm.typeIs slot_dict_getitem
    (wpAny_call_entry slot_dict_getitem hm.typeIs entry_dict_getitem ?_ (args_dict_getitem _ _)))
  show wpAny _ _ (dictGet d key >>= _) _ _ s
  obtain ⟨_, _, _, _, _, _, _, _, hn⟩ := id hm
  refine wpAny_bind (getN (by show A.units + 1 + 8 < cLine; omega) hkey hdp hm (fun hno => absurd (List.mem_map.mpr ⟨_, List.mem_of_getElem? hj, rfl⟩) hno) fun j' u' v' hj' tk => ?_)
  have := nd_at hn hj hj'
  subst this
  rw [hj] at hj'
  cases hj'
  exact wpAny_pure ⟨v, rfl, wpAny_pure (h _)⟩
theorem setItemN {v : Value} {Q : Unit → Shared → Prop} (hu : A.units + 9 < cLine) (hkey : NestedIs s.heap k key) (hdp : k.depth ≤ 8) (hm : DictN w s.heap d xs) (hsz : xs.length ≤ sizeLine)
    (hnew : k ∉ xs.map (·.1) → ∀ h' tk, DictN w h' d (xs ++ [(k, key, v)]) → Heap.SameBut d s.heap h' → Q () { s with heap := h', toks := tk })
    (hold : ∀ (j : Nat) (u v0 : Value), xs[j]? = some (k, u, v0) → ∀ h' tk, DictN w h' d (xs.set j (k, u, v)) → Heap.SameBut d s.heap h' → Q () { s with heap := h', toks := tk }) : wpAny (model prog w) A (setItem (.ref d) key v) Q E s := by
  unfold setItem
  try with_reducible refine wpAny_holding ?_
  refine wpAny_bind (wpAny_sequenceKey hm.typeIs (by decide) ?_)
  refine wpAny_bind (wpAny_callSpecial?_slot (name := Str.ofString "__setitem__") hm.typeIs slot_dict_setitem
    (wpAny_call_entry slot_dict_setitem hm.typeIs entry_dict_setitem ?_ (args_dict_setitem _ _ _)))
  show wpAny _ _ (Builtin.Dict.notOrdered "__setitem__" ⟨[.ref d, key, v], []⟩ >>= _) _ _ s
  refine wpAny_bind (wpAny_notOrdered_dict hm.typeIs ?_)
  show wpAny _ _ (dictSet d key v >>= _) _ _ s
  exact wpAny_bind (setN (by show A.units + 1 + 8 < cLine; omega) hkey hdp hm hsz (fun hno h' tk hm' hs' => wpAny_pure ⟨.none, rfl, wpAny_pure (hnew hno h' tk hm' hs')⟩) fun j u v0 hj h' tk hm' hs' => wpAny_pure ⟨.none, rfl, wpAny_pure (hold j u v0 hj h' tk hm' hs')⟩)
/-! ### the display -/
/-- the pairs that are stored: fresh keys -/
def CarN (h : Heap) : List (Value × Value) → List NX → Prop
  | [], [] => True
  | (key, v) :: vs, (k, key', v') :: ps => key' = key ∧ v' = v ∧ NestedIs h k key ∧ k.depth ≤ 8 ∧ CarN h vs ps
  | _, _ => False
theorem CarN.length {h : Heap} : ∀ {vs : List (Value × Value)} {ps : List NX}, CarN h vs ps → ps.length = vs.length
  | [], [], _ => rfl
  | (_, _) :: _, (_, _, _) :: _, c => by rw [List.length_cons, List.length_cons, CarN.length c.2.2.2.2]
  | [], _ :: _, c => c.elim
  | _ :: _, [], c => c.elim
theorem CarN.at {h h' : Heap} (hk : ∀ a o vs n, h.get? a = some o → o.data = .seq vs n → h'.get? a = some o) : ∀ {vs : List (Value × Value)} {ps : List NX}, CarN h vs ps → CarN h' vs ps
  | [], [], _ => trivial
  | (_, _) :: _, (_, _, _) :: _, c => ⟨c.1, c.2.1, NestedIs.at hk _ _ c.2.2.1, c.2.2.2.1, CarN.at hk c.2.2.2.2⟩
  | [], _ :: _, c => c.elim
  | _ :: _, [], c => c.elim
theorem storeAllN (hu : A.units + 8 < cLine) : ∀ (vs : List (Value × Value)) (ps acc : List NX) (s : Shared) (Q : PUnit → Shared → Prop), CarN s.heap vs ps → DictN w s.heap d acc → acc.length + ps.length ≤ sizeLine → ((acc ++ ps).map (·.1)).Nodup →
    (∀ h' tk, DictN w h' d (acc ++ ps) → Heap.SameBut d s.heap h' → Q PUnit.unit { s with heap := h', toks := tk }) →
    wpAny (model prog w) A (forIn vs PUnit.unit fun (x : Value × Value) (_ : PUnit) => (do dictSet d x.1 x.2; pure (ForInStep.yield PUnit.unit) : Sem (ForInStep PUnit))) Q E s
  | [], [], acc, s, Q, _, hm, _, _, hQ => by
    rw [List.forIn_nil]
    exact wpAny_pure (hQ s.heap s.toks (by simpa using hm) (Heap.SameBut.refl _ _))
  | (key, v) :: vs, (k, key', v') :: ps, acc, s, Q, hc, hm, hsz, hnd, hQ => by
    obtain ⟨e1, e2, hkey, hdp, hc'⟩ := hc
    subst e1 e2
    rw [List.length_cons] at hsz
    rw [List.forIn_cons]
    have hmem : k ∉ acc.map (·.1) := fun hx => by
      rw [List.map_append, List.nodup_append] at hnd
      exact hnd.2.2 _ hx k (by simp) rfl
    refine wpAny_bind (wpAny_bind (setN hu hkey hdp hm (by omega) (fun _ h₁ tk hm₁ hs₁ => wpAny_pure ?_) fun j u v0 hj => absurd (List.mem_map.mpr ⟨_, List.mem_of_getElem? hj, rfl⟩) hmem))
    obtain ⟨o, es, ep, ho, _, hd, _⟩ := hm
    refine storeAllN hu vs ps (acc ++ [(k, key', v')]) _ Q (hc'.at (keys_same ho hd hs₁)) hm₁ (by simp; omega) (by simpa using hnd) fun h' tk' hm' hs' => hQ h' tk' (by simpa using hm') (hs₁.trans hs')
  | [], _ :: _, _, _, _, hc, _, _, _, _ => hc.elim
  | _ :: _, [], _, _, _, hc, _, _, _, _ => hc.elim
theorem subDictN {pairs : List (Sem Value × Sem Value)} {Q : Addr → Shared → Prop} (hu : A.units + 8 < cLine) (hlen : pairs.length ≤ 15)
    (h : wpAny (model prog w) A (evalPairs pairs) (fun vs s₁ => ∃ ps, CarN s₁.heap vs ps ∧ (ps.map (·.1)).Nodup ∧ DictN w s₁.heap s.heap.objs.size [] ∧
      ∀ h' tk, DictN w h' s.heap.objs.size ps → Heap.SameBut s.heap.objs.size s₁.heap h' → Q s.heap.objs.size { s₁ with heap := h', toks := tk }) E
      { s with heap := s.heap.push { cls := .type "dict", data := .dict #[] } }) :
    wpAny (model prog w) A (subDict pairs) Q E s := by
  unfold subDict
  refine wpAny_bind (wpAny_alloc ?_)
  refine wpAny_bind (wpAny_holding ?_)
  rw [if_pos hlen]
  refine wpAny_bind (wpAny_mono (wpAny_evalPairs_len h) (fun vs s₁ h₁ => ?_) fun _ _ e => e)
  obtain ⟨hvl, ps, hc, hnd, hm, hQ⟩ := h₁
  have hsz : ([] : List NX).length + ps.length ≤ sizeLine := by
    have e := hc.length
    rw [sizeLine_eq, List.length_nil]; omega
  refine wpAny_holding ?_
  exact wpAny_bind (storeAllN hu vs ps [] s₁ _ hc hm hsz (by simpa using hnd) fun h' tk hm' hs' => wpAny_pure (wpAny_pure (hQ h' tk (by simpa using hm') hs')))
theorem Dict_walkN {env : Env} {keys : List (Option Expr)} {values : List Expr} {pos : Pos} {Q : Value → Shared → Prop} (hu : A.units + 8 < cLine)
    (hall : keys.all (·.isSome) = true) (hl : keys.length = values.length) (h0 : keys ≠ []) (hlen : keys.length ≤ 15)
    (h : wpAny (model prog w) A (evalPairs (pairTrees keys values env pos)) (fun vs s₁ => ∃ ps, CarN s₁.heap vs ps ∧ (ps.map (·.1)).Nodup ∧ DictN w s₁.heap s.heap.objs.size [] ∧
      ∀ h' tk, DictN w h' s.heap.objs.size ps → Heap.SameBut s.heap.objs.size s₁.heap h' → Q (.ref s.heap.objs.size) { s₁ with heap := h', toks := tk }) E
      { s with heap := s.heap.push { cls := .type "dict", data := .dict #[] } }) :
    wpAny (model prog w) A (eval (.Dict keys values pos) env) Q E s := by
  have hn := pairTrees_length keys values env pos hall hl
  rw [arm_eval_Dict, zip_pairTrees keys values env pos hall hl, dictDisplay_pairs _ (fun he => by rw [he] at hn; exact h0 (List.length_eq_zero_iff.mp hn.symm)) (by omega)]
  exact wpAny_bind (wpAny_standAt (wpAny_bind (subDictN (Q := fun d s' => wpAny (model prog w) A (pure (Value.ref d)) Q E s') hu (by omega)
    (wpAny_mono h (fun vs s₁ h₁ => by obtain ⟨ps, hc, hnd, hm, hq⟩ := h₁; exact ⟨ps, hc, hnd, hm, fun h' tk a b => wpAny_pure (hq h' tk a b)⟩) fun _ _ e => e))))
end
end SC

set_option Elab.async false
set_option linter.all false
set_option maxRecDepth 100000
set_option maxHeartbeats 4000000
/-! SBD: great powers; C() of an own class whose __init__ has **kw alone; such an instance as a value. -/
namespace SC
open PySem PySem.Spec PyProof.Rows L2
/-! ### powers -/
def CPowB (i j : Int) : Prop := 0 ≤ j ∧ (Builtin.Int.intBits i : Int) * j ≤ 2 ^ 27
theorem op_powB {X : Cx} : OpR X (binaryOp .Pow) (rI CPowB fun i j => .int (i ^ j.toNat)) := opI fun _ _ _ _ _ _ _ hc q => pow_int hc.1 hc.2 q
/-! ### C() -/
section
variable {CX : CXT} {P : Program} {w : World} {K : PySem.W.Frag} {mg : Str → Option Value} {base : Heap} {k : Nat} {f : Addr} {name qual : Str} {params : Arguments} {body : List Stmt} {scope : Scope} {dV kV doc pm cdv ct oc : Value} {an od : Option Addr}
  {osl : Array (Option Value)} {N ps : List Str} {sp : Sp}
/-- def f(a, .., **d), called without keywords: an empty dict -/
theorem fn_kw0 {pd : Str} (lk : K.lookup f = some ⟨oc, od, .func (PySem.W.fnOf name qual params body scope dV kV doc pm an cdv ct), osl⟩) (hcd : PySem.W.codeIn K cdv qual = true) (S : FnScope N (ps ++ [pd]) scope) (hCX : StX.CXUp CX)
    (hb : ∀ us : List Value, us.length = ps.length → bindArgs (PySem.W.fnOf name qual params body scope dV kV doc pm an cdv ct) ⟨us, []⟩ = ((alloc ({ cls := .type "dict", data := .dict #[] } : Obj) : Sem Addr) >>= fun d => pure (ps.zip us ++ [(pd, Value.ref d)])))
    (hbody : ∀ (A : Around) (outer : List Env) (s : Shared) (H : Hp) (vs : List V) (Q : VK) (E : XK), Room k (A.deeper (envOfC qual scope s.heap.objs.size f cdv)) → sp vs H Q E →
      ∃ t, PSs (cxOf CX P w K mg base N qual scope f cdv A outer s H E) body t ∧ t { nx := fun _ H' => Q .non H', rt := Q } (start N vs) H) :
    FnR P w K mg base CX (k + 1) f (fun vs H Q E => vs.length = ps.length ∧ ∀ d, H d = Option.none → sp (vs ++ [V.ref d]) (upd H d (.dK [])) Q E) := by
  intro A outer s H us vs Q E hr e0 r hsp
  obtain ⟨hl, hq⟩ := hsp
  have hn : H s.heap.objs.size = Option.none := e0.hok.fresh (Nat.le_refl _)
  have hl1 : us.length = ps.length := by rw [← r.length]; exact hl
  refine StX.run_bnd lk hcd S hr e0 (G := fun xs H2 => ∃ d, H d = Option.none ∧ xs = vs ++ [V.ref d] ∧ H2 = upd H d (.dK [])) (fun A' Ex Q' h => ?_) fun s2 H2 xs ⟨d, hd, ex, eH⟩ hr' => ?_
  · rw [hb us hl1]
    refine wpAny_bind (wpAny_alloc (wpAny_pure ?_))
    have e2 := StX.env0_laid (u := .dK []) (o := ({ cls := .type "dict", data := .dict #[] } : Obj)) e0 (dk_empty _ (StX.env0_big e0))
    have un := StX.un_laid (fs := frs outer) (s := s) (o := ({ cls := .type "dict", data := .dict #[] } : Obj)) (u := .dK []) hn
    have z := h _ _ (vs ++ [V.ref s.heap.objs.size]) (us ++ [Value.ref s.heap.objs.size]) e2 un rfl (fun e s' => hCX outer s H _ _ E e s' un (fun b o q => Heap.get?_push_of_some _ q) rfl) (r.append (.cons rfl .nil))
      (by rw [List.length_append, List.length_append, hl] <;> rfl) ⟨_, hn, rfl, rfl⟩
    rw [List.zip_append hl1.symm] at z
    exact z
  · subst ex eH
    exact hbody A outer s2 _ _ Q E hr' (hq d hd)
end
section
variable {X : Cx} {CX : CXT} {k : Nat} {f C : Addr} {sp : Sp} {E : XK} {x : Str} {p pos : Pos}
theorem pe_makeR0 (M : L2.Mk X.K C f) (F : FnR X.prog X.w X.K X.mg X.base CX k f sp) (hr : Room (k + 1) X.A) (hg : Gl X x) (hm : X.mg x = some (.ref C)) (hx : Passes CX X E) (hdb : (x == ("__debug__" : Str)) = false := by decide) :
    PE X (.Call (.Name x p) [] [] pos) (StX.tMakeR C sp E tNil) := by
  refine ⟨fun pins s σ H Q I h => ?_⟩
  refine wpAny_Call_Name_kw (ld_glob I hg hm ?_ hdb)
  exact PySem.W.callWith_K0 I.kIn M.kp (StX.run_makeR (us := []) M F hr hx I .nil h)
end
/-- what an own class must have so that isinstance of its instances answers no for the built-in types -/
structure InsT (K : PySem.W.Frag) (C : Addr) : Prop where
  cl : Cls K C
  ha : PySem.W.findIn K (.ref C) "__class__" = some (some (.builtin "object.__class__"))
  hn : PySem.W.specialIn K (.builtin "object.__class__") "__get__" = some (some (.builtin "getset_descriptor.__get__"))
  htk : PySem.W.takesIn K (.builtin "object.__class__") = some true
  hm : PySem.W.mroIn K C (.type "object") = some true
  no : ∀ T : Ty, PySem.W.kitOne K (.ref C) (.type T.nm) = some false
theorem isi_ins {K : PySem.W.Frag} {H : Hp} {a C dx : Addr} {fs : List (Str × V)} (T : Ty) (h : InsT K C) (e : H a = some (.ins C dx fs)) {Q : VK} (q : Q (.bl false) H) : rIsi K [.ref a, .ty T.nm] H Q :=
  ⟨.ref a, .ty T.nm, _, _, false, rfl, .ty T.nm, .base (.ins e h.cl h.ha h.hn h.htk h.hm), h.no T, q⟩
/-! ### len of an odd dict -/
def rLenO (P : Program) (w : World) (K : PySem.W.Frag) : List V → Hp → VK → Prop := fun xs H Q => rLenA K xs H Q ∨ ∃ a kvs, xs = [V.ref a] ∧ IsOdd P w H a kvs ∧ kvs.length ≤ 1000 ∧ Q (.int (kvs.length : Nat)) H
theorem lenOK {X : Cx} {P : Program} {w : World} {K : PySem.W.Frag} (h : X.K = K) (hP : X.prog = P) (hw : X.w = w) : CallR X (.builtin "len") (rLenO P w K) := by
  subst hP hw
  intro pins s σ H xs us Q I r h'
  rcases h' with h' | ⟨a, kvs, rfl, e, hz, q⟩
  · exact lenAK h pins s σ H xs us Q I r h'
  · cases r with
    | cons r rr =>
      cases rr
      cases r
      obtain ⟨hd, vs, ov, dd⟩ := e.dict I
      have hl := ov_len ov
      refine call_len_dict hd dd (by omega) ?_
      rw [← hl]
      exact ⟨.int kvs.length, H, I.tok _, ⟨_, rfl⟩, q⟩
end SC

set_option Elab.async false
set_option linter.all false
set_option maxRecDepth 100000
set_option maxHeartbeats 4000000
/-! SN2: dicts with keys of many kinds, over the abstract heap: being built (BdN), known (FzN). -/
namespace SC
open PySem PySem.Spec PyProof.Rows L2
open Sem (wp)
abbrev NV := NestedKey × V × V
/-! ### keys -/
def KL : NestedKey → V → Prop
  | .none, v => v = .non
  | .num i, v => v = .int i ∨ ∃ b : Bool, v = .bl b ∧ i = if b = true then 1 else 0
  | .text x, v => v = .str x
  | .tup _, _ => False
def KR (H : Hp) : NestedKey → V → Prop
  | .tup ks, v => ∃ a xs, v = .ref a ∧ H a = some (.tup xs) ∧ Paired KL ks xs
  | .none, v => KL .none v
  | .num i, v => KL (.num i) v
  | .text x, v => KL (.text x) v
theorem KL.is {h : Heap} : ∀ {k : NestedKey} {v : V} {u : Value}, KL k v → RelV v u → NestedIs h k u ∧ k.depth = 0
  | .none, _, _, e, r => by cases e; cases r; exact ⟨.none, rfl⟩
  | .num i, _, _, e, r => by
    rcases e with e | ⟨b, e, q⟩
    · cases e; obtain ⟨t, rfl⟩ := r; exact ⟨.int i t, rfl⟩
    · cases e; cases r; exact ⟨.bool q, rfl⟩
  | .text x, _, _, e, r => by cases e; obtain ⟨t, rfl⟩ := r; exact ⟨.text x t, rfl⟩
  | .tup _, _, _, e, _ => e.elim
theorem KL.all {h : Heap} : ∀ {ks : List NestedKey} {vs : List V} {us : List Value}, Paired KL ks vs → Vals vs us → NestedAll h ks us ∧ NestedKey.depthAll ks = 0
  | _, _, _, .nil, .nil => ⟨.nil, rfl⟩
  | _, _, _, .cons a b, .cons c d => by
    obtain ⟨h1, h2⟩ := a.is (h := h) c
    obtain ⟨h3, h4⟩ := KL.all (h := h) b d
    exact ⟨.cons h1 h3, by simp [NestedKey.depthAll, h2, h4]⟩
theorem KR.is {P : Program} {w : World} {H : Hp} {h : Heap} (ok : HOk P w H h) : ∀ {k : NestedKey} {v : V} {u : Value}, KR H k v → RelV v u → NestedIs h k u ∧ k.depth ≤ 8
  | .tup ks, v, u, ⟨a, xs, e, ha, hp⟩, r => by
    subst e; cases r
    obtain ⟨_, its, rv, o, ho, hc, m, hd⟩ := ok a _ ha
    obtain ⟨h1, h2⟩ := KL.all (h := h) hp rv
    exact ⟨.tup ho hc hd (by simpa using h1), by simp [NestedKey.depth, h2]⟩
  | .none, _, _, e, r => let q := KL.is (k := .none) e r; ⟨q.1, by rw [q.2]; omega⟩
  | .num i, _, _, e, r => let q := KL.is (k := .num i) e r; ⟨q.1, by rw [q.2]; omega⟩
  | .text x, _, _, e, r => let q := KL.is (k := .text x) e r; ⟨q.1, by rw [q.2]; omega⟩
theorem KR.mono {H H' : Hp} (ht : ∀ b xs, H b = some (.tup xs) → H' b = some (.tup xs)) : ∀ {k : NestedKey} {v : V}, KR H k v → KR H' k v
  | .tup ks, v, ⟨a, xs, e, ha, hp⟩ => ⟨a, xs, e, ht _ _ ha, hp⟩
  | .none, _, e => e
  | .num i, _, e => e
  | .text x, _, e => e
abbrev PX : List NV → List NX → Prop := Paired fun p x => p.1 = x.1 ∧ RelV p.2.1 x.2.1 ∧ RelV p.2.2 x.2.2
theorem px_keys : ∀ {kvs : List NV} {xs : List NX}, PX kvs xs → kvs.map (·.1) = xs.map (·.1)
  | _, _, .nil => rfl
  | _, _, .cons h t => by rw [List.map_cons, List.map_cons, px_keys t, h.1]
theorem px_get : ∀ {kvs : List NV} {xs : List NX} {i : Nat} {p : NV}, PX kvs xs → kvs[i]? = some p → ∃ x, xs[i]? = some x ∧ p.1 = x.1 ∧ RelV p.2.1 x.2.1 ∧ RelV p.2.2 x.2.2
  | _, _, 0, p, .cons h t, e => by
    simp at e
    subst e
    exact ⟨_, rfl, h⟩
  | _, _, i + 1, p, .cons _ t, e => by
    simp at e
    obtain ⟨u, h1, h2⟩ := px_get t e
    exact ⟨u, by simpa using h1, h2⟩
theorem px_getR : ∀ {kvs : List NV} {xs : List NX} {i : Nat} {x : NX}, PX kvs xs → xs[i]? = some x → ∃ p, kvs[i]? = some p ∧ p.1 = x.1 ∧ RelV p.2.1 x.2.1 ∧ RelV p.2.2 x.2.2
  | _, _, 0, p, .cons h t, e => by
    simp at e
    subst e
    exact ⟨_, rfl, h⟩
  | _, _, i + 1, p, .cons _ t, e => by
    simp at e
    obtain ⟨u, h1, h2⟩ := px_getR t e
    exact ⟨u, by simpa using h1, h2⟩
theorem px_app : ∀ {kvs : List NV} {xs : List NX} {p : NV} {x : NX}, PX kvs xs → (p.1 = x.1 ∧ RelV p.2.1 x.2.1 ∧ RelV p.2.2 x.2.2) → PX (kvs ++ [p]) (xs ++ [x])
  | _, _, _, _, .nil, q => .cons q .nil
  | _, _, _, _, .cons h t, q => .cons h (px_app t q)
theorem px_set : ∀ {kvs : List NV} {xs : List NX} {p : NV} {x : NX} (i : Nat), PX kvs xs → (p.1 = x.1 ∧ RelV p.2.1 x.2.1 ∧ RelV p.2.2 x.2.2) → PX (kvs.set i p) (xs.set i x)
  | _, _, _, _, _, .nil, q => .nil
  | _, _, _, _, 0, .cons h t, q => .cons q t
  | _, _, _, _, i + 1, .cons h t, q => .cons h (px_set i t q)
def KsR (H : Hp) (kvs : List NV) : Prop := ∀ p ∈ kvs, KR H p.1 p.2.1
/-! ### what the object is -/
structure OddN (w : World) (o : Obj) (kvs : List NV) : Prop where
  cls : o.ExactDict
  dat : ∃ es ep xs, o.data = .dict es ep ∧ es.toList = xs.map (entN w) ∧ PX kvs xs ∧ (kvs.map (·.1)).Nodup
theorem OddN.dictN {P : Program} {w : World} {H : Hp} {h : Heap} {o : Obj} {a : Addr} {kvs : List NV} (ok : HOk P w H h) (O : OddN w o kvs) (hk : KsR H kvs) (ho : h.get? a = some o) : ∃ xs, PX kvs xs ∧ DictN w h a xs := by
  obtain ⟨es, ep, xs, h1, h2, h3, h4⟩ := O.dat
  refine ⟨xs, h3, o, es, ep, ho, O.cls, h1, h2, ?_, by rw [← px_keys h3]; exact h4⟩
  intro x hx
  obtain ⟨i, hi⟩ := List.mem_iff_getElem?.mp hx
  obtain ⟨p, hp, e1, r1, _⟩ := px_getR h3 hi
  have := (hk p (List.mem_of_getElem? hp)).is ok r1
  rw [e1] at this
  exact this
def oddE (w : World) (a : Addr) (kvs : List NV) : HO := .ext fun h => ∃ o, h.get? a = some o ∧ OddN w o kvs
/-- being built -/
structure BdN (w : World) (H : Hp) (a : Addr) (kvs : List NV) : Prop where
  ne : (a == sysModules) = false
  li : H a = some (oddE w a kvs)
  ks : KsR H kvs
/-- known -/
structure FzN (w : World) (H : Hp) (a : Addr) (kvs : List NV) : Prop where
  ne : (a == sysModules) = false
  li : ∃ o, H a = some (oddH o) ∧ OddN w o kvs
  ks : KsR H kvs
theorem FzN.imp {w : World} {H H' : Hp} {a : Addr} {kvs : List NV} (s : Same H H') (h : FzN w H a kvs) : FzN w H' a kvs := by
  obtain ⟨o, h1, h2⟩ := h.li
  exact ⟨h.ne, ⟨o, s _ _ h1, h2⟩, fun p hp => (h.ks p hp).mono fun b xs e => s _ _ e⟩
theorem FzN.lk {w : World} {H H' : Hp} {a : Addr} {kvs : List NV} (ls : LSame H H') (h : FzN w H a kvs) : FzN w H' a kvs := by
  obtain ⟨o, h1, h2⟩ := h.li
  refine ⟨h.ne, ⟨o, ?_, h2⟩, fun p hp => (h.ks p hp).mono fun b xs e => ?_⟩
  · rcases ls _ _ h1 with h | ⟨_, _, h, _⟩
    · exact h
    · cases h
  · rcases ls _ _ e with h | ⟨_, _, h, _⟩
    · exact h
    · cases h
theorem BdN.imp {w : World} {H H' : Hp} {a : Addr} {kvs : List NV} (s : Same H H') (h : BdN w H a kvs) : BdN w H' a kvs := ⟨h.ne, s _ _ h.li, fun p hp => (h.ks p hp).mono fun b xs e => s _ _ e⟩
theorem FzN.dict {X : Cx} {pins : List (Addr × Obj)} {σ : L2.St} {H : Hp} {s : Shared} {a : Addr} {kvs : List NV} (I : Inv X pins σ H s) (h : FzN X.w H a kvs) : ∃ xs, PX kvs xs ∧ DictN X.w s.heap a xs := by
  obtain ⟨o, h2, h3⟩ := h.li
  obtain ⟨e, _⟩ := (show ObjOk X.prog X.w H s.heap a (.frz o (.ext fun _ => True)) from I.hok a _ h2)
  exact h3.dictN I.hok h.ks e
theorem BdN.obj {X : Cx} {pins : List (Addr × Obj)} {σ : L2.St} {H : Hp} {s : Shared} {a : Addr} {kvs : List NV} (I : Inv X pins σ H s) (h : BdN X.w H a kvs) : ∃ o, s.heap.get? a = some o ∧ OddN X.w o kvs :=
  (show ObjOk X.prog X.w H s.heap a (oddE X.w a kvs) from I.hok a _ h.li).1
theorem BdN.dict {X : Cx} {pins : List (Addr × Obj)} {σ : L2.St} {H : Hp} {s : Shared} {a : Addr} {kvs : List NV} (I : Inv X pins σ H s) (h : BdN X.w H a kvs) : ∃ xs, PX kvs xs ∧ DictN X.w s.heap a xs := by
  obtain ⟨o, e, h3⟩ := h.obj I
  exact h3.dictN I.hok h.ks e
theorem oddE_ok {P : Program} {w : World} {H : Hp} {h : Heap} {a : Addr} {o : Obj} {kvs : List NV} (e : h.get? a = some o) (O : OddN w o kvs) : ObjOk P w H h a (oddE w a kvs) :=
  ⟨⟨o, e, O⟩, ⟨o, e⟩, fun h1 h2 ⟨o1, e1, r1⟩ f => ⟨o1, f _ e1, r1⟩⟩
theorem oddH_ok {P : Program} {w : World} {H : Hp} {h : Heap} {a : Addr} {o : Obj} (e : h.get? a = some o) : ObjOk P w H h a (oddH o) :=
  ⟨e, True.intro, ⟨o, e⟩, fun _ _ _ _ => True.intro⟩
theorem OddN.of {w : World} {h : Heap} {a : Addr} {xs : List NX} {kvs : List NV} (px : PX kvs xs) (dn : DictN w h a xs) : ∃ o, h.get? a = some o ∧ OddN w o kvs := by
  obtain ⟨o, es, ep, ho, hc, hd, he, hks, hn⟩ := dn
  exact ⟨o, ho, hc, es, ep, xs, hd, he, px, by rw [px_keys px]; exact hn⟩
theorem BdN.write {X : Cx} {pins : List (Addr × Obj)} {σ : L2.St} {H : Hp} {s : Shared} {a : Addr} {kvs kvs' : List NV} {xs : List NX} {h' : Heap} {t' : Nat} (B : BdN X.w H a kvs) (I : Inv X pins σ H s) (hs : Heap.SameBut a s.heap h') (px : PX kvs' xs) (dn : DictN X.w h' a xs) :
    Inv X pins σ (upd H a (oddE X.w a kvs')) { s with heap := h', toks := t' } := by
  obtain ⟨o, ho, O⟩ := OddN.of px dn
  exact d_write I (by rw [B.li]; exact True.intro) hs ⟨o, ho⟩ (oddE_ok ho O)
theorem BdN.put {w : World} {H : Hp} {a : Addr} {kvs kvs' : List NV} (B : BdN w H a kvs) (hk : KsR H kvs') : BdN w (upd H a (oddE w a kvs')) a kvs' :=
  ⟨B.ne, upd_same, fun p hp => (hk p hp).mono fun b xs e => by rw [upd_ne (ne_of e B.li (fun z => nomatch z))]; exact e⟩
theorem BdN.known {w : World} {H : Hp} {a : Addr} {kvs : List NV} {o : Obj} (B : BdN w H a kvs) (O : OddN w o kvs) : FzN w (upd H a (oddH o)) a kvs :=
  ⟨B.ne, ⟨o, upd_same, O⟩, fun p hp => (B.ks p hp).mono fun b xs e => by rw [upd_ne (ne_of e B.li (fun z => nomatch z))]; exact e⟩
/-! ### d[k] = v -/
def rSetN (w : World) : TSet := fun o i v H Q => ∃ a kvs k, o = .ref a ∧ BdN w H a kvs ∧ KR H k i ∧ kvs.length ≤ 1000 ∧ (k ∉ kvs.map (·.1) → Q (upd H a (oddE w a (kvs ++ [(k, i, v)])))) ∧ ∀ j u v0, kvs[j]? = some (k, u, v0) → Q (upd H a (oddE w a (kvs.set j (k, u, v))))
theorem set_oddN {X : Cx} {w : World} (hw : X.w = w) (hu : X.A.units + 9 < cLine) : PSet X (rSetN w) := by
  subst hw
  intro pins s σ H o i v ov iv u Q I ro ri rv h
  obtain ⟨a, kvs, k, eo, B, hk, hz, q1, q2⟩ := h
  subst eo
  cases (show ov = Value.ref a from ro)
  obtain ⟨xs, px, dn⟩ := B.dict I
  obtain ⟨ki, kd⟩ := hk.is I.hok ri
  refine setItemN hu ki kd dn (by have := Paired.length px; rw [sizeLine_eq]; omega) (fun hno h' tk dn' hs => ⟨_, ?_, q1 (by rw [px_keys px]; exact hno)⟩) fun j u0 v0 hj h' tk dn' hs => ?_
  · exact B.write I hs (px_app px (p := (k, i, v)) (x := (k, iv, u)) ⟨rfl, ri, rv⟩) dn'
  · obtain ⟨⟨k', u', v'⟩, hj', e1, r1, r2⟩ := px_getR px hj
    simp only at e1 r1
    subst e1
    exact ⟨_, B.write I hs (px_set j px (p := (k', u', v)) (x := (k', u0, u)) ⟨rfl, r1, rv⟩) dn', q2 j u' v' hj'⟩
/-- either of two settings -/
theorem set_either {X : Cx} {t u : TSet} (h : PSet X t) (g : PSet X u) : PSet X (fun o i v H Q => t o i v H Q ∨ u o i v H Q) := fun pins s σ H o i v ov iv x Q I r1 r2 r3 z => z.elim (h pins s σ H o i v ov iv x Q I r1 r2 r3) (g pins s σ H o i v ov iv x Q I r1 r2 r3)
/-! ### the empty dict to be one; from then on it is known -/
def tThawN (w : World) (te : TE) : TE := fun σ H Q => te σ H fun v H1 => ∃ a, v = .ref a ∧ H1 a = some (.dK []) ∧ (BdN w (upd H1 a (oddE w a [])) a [] → Q v (upd H1 a (oddE w a [])))
theorem pe_thawN {X : Cx} {w : World} {e : Expr} {te : TE} (hw : X.w = w) (he : PE X e te) : PE X e (tThawN w te) := by
  subst hw
  refine ⟨fun pins s σ H Q I h => ?_⟩
  refine thn (he.run pins s σ H _ I h) fun u s1 ⟨v, H1, I1, rv, a, ev, ha, q⟩ => ?_
  subst ev
  obtain ⟨z, hd, vs0, r0, dd⟩ := dk_of I1.hok ha
  cases r0
  obtain ⟨o, es, ep, h1, h2, h3, h4, h5, h6⟩ := dd
  have he2 : es = #[] := by
    have := h5.length
    cases es with
    | mk l => simp at this; rw [this]
  subst he2
  have O : OddN X.w o [] := ⟨h2, #[], ep, [], h3, rfl, .nil, List.nodup_nil⟩
  exact ⟨.ref a, _, I1.write (x := a) (e := a) (h' := s1.heap) (t' := s1.toks) (by rw [ha]; exact True.intro) (.inl rfl) (fun b q _ z => z) ⟨o, h1⟩ (oddE_ok h1 O), rv, q ⟨hd, upd_same, fun p hp => by cases hp⟩⟩
def tFreezeN (w : World) (te : TE) : TE := fun σ H Q => te σ H fun v H1 => ∃ a kvs, v = .ref a ∧ BdN w H1 a kvs ∧ ∀ o, OddN w o kvs → Q v (upd H1 a (oddH o))
theorem pe_freezeN {X : Cx} {w : World} {e : Expr} {te : TE} (hw : X.w = w) (he : PE X e te) : PE X e (tFreezeN w te) := by
  subst hw
  refine ⟨fun pins s σ H Q I h => ?_⟩
  refine thn (he.run pins s σ H _ I h) fun u s1 ⟨v, H1, I1, rv, a, kvs, ev, B, q⟩ => ?_
  subst ev
  obtain ⟨o, ho, O⟩ := B.obj I1
  exact ⟨.ref a, _, I1.write (x := a) (e := a) (h' := s1.heap) (t' := s1.toks) (by rw [B.li]; exact True.intro) (.inl rfl) (fun b q _ z => z) ⟨o, ho⟩ (oddH_ok ho), rv, q o O⟩
/-! ### the display -/
theorem carN_of {P : Program} {w : World} {H : Hp} {h : Heap} (ok : HOk P w H h) : ∀ {kvs : List NV} {ws : List (Value × Value)}, KsR H kvs → VV (kvs.map (·.2)) ws → ∃ ps, CarN h ws ps ∧ PX kvs ps
  | [], _, _, r => by rw [List.map_nil] at r; cases r; exact ⟨[], True.intro, .nil⟩
  | p :: kvs, _, hk, r => by
    rw [List.map_cons] at r
    cases r with
    | @cons a b as bs h1 t =>
      obtain ⟨ps, c, q⟩ := carN_of ok (fun p hp => hk p (List.mem_cons_of_mem _ hp)) t
      obtain ⟨b1, b2⟩ := b
      obtain ⟨ki, kd⟩ := (hk p List.mem_cons_self).is ok h1.1
      exact ⟨(p.1, b1, b2) :: ps, ⟨rfl, rfl, ki, kd, c⟩, .cons ⟨rfl, h1.1, h1.2⟩ q⟩
def tDispN (w : World) (trs : List (TE × TE)) : TE := fun σ H Q => ∀ p, H p = none → tPairs trs σ (upd H p (.dK [])) fun ps H2 => H2 p = some (.dK []) ∧ ∃ kvs : List NV, ps = kvs.map (·.2) ∧ KsR H2 kvs ∧ (kvs.map (·.1)).Nodup ∧
  ∀ o, FzN w (upd H2 p (oddH o)) p kvs → Q (.ref p) (upd H2 p (oddH o))
theorem pe_dispN {X : Cx} {w : World} {pos : Pos} {keys : List (Option Expr)} {values : List Expr} {trs : List (TE × TE)} (hw : X.w = w) (hu : X.A.units + 8 < cLine) (h : L2.PPs X pos keys values trs) (hall : keys.all (·.isSome) = true) (hl : keys.length = values.length) (h0 : keys ≠ [])
    (h15 : keys.length ≤ 15) : PE X (.Dict keys values pos) (tDispN w trs) := by
  subst hw
  refine ⟨fun pins s σ H Q I q => ?_⟩
  have hn := I.hok.fresh (Nat.le_refl s.heap.objs.size)
  have I1 := I.laid (a := s.heap.objs.size) (o := .dK []) (h' := s.heap.push { cls := .type "dict", data := .dict #[] }) (t' := s.toks) (fun _ _ q => Heap.get?_push_of_some _ q) (Nat.le_refl _) (dk_empty s.heap I.big)
  refine Dict_walkN (w := X.w) hu hall hl h0 h15 (thn (h.run pins _ σ _ _ I1 (q _ hn)) fun ws s2 ⟨ps, H2, I2, rel, e, kvs, ep, hks, nd, q2⟩ => ?_)
  subst ep
  obtain ⟨rs, c, px⟩ := carN_of I2.hok hks rel
  obtain ⟨z, hd, vs0, r0, dd⟩ := dk_of I2.hok e
  cases r0
  have dd0 : DictN X.w s2.heap s.heap.objs.size [] := by
    obtain ⟨o, es, ep, h1, h2, h3, h4, h5, h6⟩ := dd
    have he2 : es = #[] := by
      have := h5.length
      cases es with
      | mk l => simp at this; rw [this]
    subst he2
    exact ⟨o, #[], ep, h1, h2, h3, rfl, (fun x hx => nomatch hx), List.nodup_nil⟩
  refine ⟨rs, c, by rw [← px_keys px]; exact nd, dd0, fun h' tk dd' hs => ?_⟩
  obtain ⟨o, ho, O⟩ := OddN.of px dd'
  refine ⟨.ref s.heap.objs.size, _, ?_, rfl, q2 o ⟨hd, ⟨o, upd_same, O⟩, fun p hp => (hks p hp).mono fun b xs e' => by rw [upd_ne (ne_of e' e (fun z => nomatch z))]; exact e'⟩⟩
  exact d_write I2 (by rw [e]; exact True.intro) hs ⟨o, ho⟩ (oddH_ok ho)
/-! ### walked -/
def Iton (d : Addr) (o : Obj) (kvs : List NV) : It :=
  ⟨fun i H => H d = some (oddH o) ∧ i < kvs.length, fun i H x H' => H' = H ∧ ∃ k v, kvs[i]? = some (k, x, v), fun i H => H d = some (oddH o) ∧ kvs.length ≤ i⟩
theorem turn_N {P : Program} {w : World} {K : PySem.W.Frag} {tg : Expr} {d : Addr} {o : Obj} {es : Array DictEntry} {n : Nat} {xs : List NX} {kvs : List NV} (it : Addr) (hc : o.ExactDict) (hdat : o.data = .dict es n) (he : es.toList = xs.map (entN w)) (px : PX kvs xs) :
    Turn P w K tg (Iton d o kvs) [it] it (fun i h => h.IsKeyIter it d i es.size n) where
  mem := by simp
  obj := fun i h st b hb => by
    have e : b = it := by simpa using hb
    subst e
    obtain ⟨oi, e, c, dd⟩ := st
    exact ⟨oi, e, fun v z => by rw [dd] at z; cases z⟩
  keep := fun i h h' st k => st.at fun oi e => k it (by simp) oi e
  item := by
    intro X hP hw hK hcalm i pins s σ H E I hf st hg
    subst hP hw hK
    obtain ⟨hH, hi⟩ := hg
    obtain ⟨f0, f1, f2, f3, f4, f5⟩ := hf it (by simp)
    obtain ⟨ho, _⟩ := (show ObjOk X.prog X.w H s.heap d (.frz o (.ext fun _ => True)) from I.hok d _ hH)
    have hm : s.heap.DictRaw d es n := ⟨o, ho, hc, hdat⟩
    have hsz : es.size = kvs.length := by
      have h1 := ent_size he
      have h2 := Paired.length px
      omega
    have hi2 : i < es.size := by omega
    refine wpAny_pyNext_keys_item_raw st hm hi2 fun h' st' sb => ?_
    have I1 : Inv X pins σ H { s with heap := h' } := I.turned (t' := s.toks) (fun b ob hb e => (sb.2 b hb).trans e) f0 f1 f3 f4 f5
    obtain ⟨oi, e, c, dd⟩ := id st'
    obtain ⟨⟨k, u, v⟩, hp⟩ : ∃ p, kvs[i]? = some p := ⟨kvs[i], List.getElem?_eq_getElem hi⟩
    obtain ⟨x, hx, e1, r1, r2⟩ := px_get px hp
    have hk : es[i].key = x.2.1 := by
      have := ent_at he i
      rw [hx, Array.getElem?_eq_getElem hi2] at this
      simp only [Option.map_some, Option.some.injEq] at this
      rw [this]
      rfl
    exact ⟨es[i].key, rfl, go_of (s := { s with heap := h' }) e c dd (by decide) ⟨u, H, I1, by rw [hk]; exact r1, ⟨rfl, k, v, hp⟩, st', fun b hb => (hf b hb).1⟩⟩
  done := by
    intro X hP hw hK hcalm i pins s σ H E I hf st hg
    subst hP hw hK
    obtain ⟨hH, hi⟩ := hg
    obtain ⟨f0, f1, f2, f3, f4, f5⟩ := hf it (by simp)
    obtain ⟨ho, _⟩ := (show ObjOk X.prog X.w H s.heap d (.frz o (.ext fun _ => True)) from I.hok d _ hH)
    have hm : s.heap.DictRaw d es n := ⟨o, ho, hc, hdat⟩
    have hsz : es.size = kvs.length := by
      have h1 := ent_size he
      have h2 := Paired.length px
      omega
    exact wpAny_pyNext_keys_end_raw (I.ok.hd hcalm) st hm (by omega) fun h' eb => ⟨rfl, I.turned (t' := s.toks) (fun b ob hb e => eb b ob hb e) f0 f1 f3 f4 f5⟩
  self := fun A i s Q E st h => wpAny_pyIter_keyiter st h
def iN (w : World) (td : TE) : TI := fun σ H R => td σ H fun x H1 => ∃ d kvs, x = .ref d ∧ FzN w H1 d kvs ∧ ∀ o, H1 d = some (oddH o) → R (Iton d o kvs) H1
theorem pi_N {X : Cx} {w : World} {tg e : Expr} {td : TE} (hw : X.w = w) (he : PE X e td) : PI X tg e (iN w td) := by
  subst hw
  refine ⟨fun pins s σ H R I h => ?_⟩
  refine thn (he.run pins s σ H _ I h) fun u s1 ⟨x, H1, I1, rx, d, kvs, ex, F, q⟩ => ?_
  subst ex
  obtain rfl : u = Value.ref d := rx
  obtain ⟨o, hH, O⟩ := F.li
  obtain ⟨e1, _⟩ := (show ObjOk X.prog X.w H1 s1.heap d (.frz o (.ext fun _ => True)) from I1.hok d _ hH)
  obtain ⟨es, ep, xs, d1, d2, d3, d4⟩ := O.dat
  exact wpAny_pyIter_dict_raw F.ne ⟨o, e1, O.cls, d1⟩ (pi_one (tk := s1.toks) I1 _ (turn_N _ O.cls d1 d2 d3) ⟨_, Heap.get?_push_size _ rfl, rfl, rfl⟩ (q o hH))
theorem walk_N {d : Addr} {o : Obj} {kvs : List NV} : Walk (Iton d o kvs) kvs.length (fun H => H d = some (oddH o)) (fun i H x H' => H' = H ∧ ∃ k v, kvs[i]? = some (k, x, v)) :=
  ⟨fun _ _ hi q => ⟨q, hi⟩, fun _ q => ⟨q, Nat.le_refl _⟩, fun _ _ _ _ _ _ y => y⟩
/-! ### for i, k in enumerate(d) -/
def Itne (d : Addr) (o : Obj) (kvs : List NV) : It :=
  ⟨fun i H => H d = some (oddH o) ∧ i < kvs.length, fun i H v H' => ∃ T k u x, kvs[i]? = some (k, u, x) ∧ v = .ref T ∧ H T = none ∧ H' = upd H T (.tup [.int (i : Nat), u]), fun i H => H d = some (oddH o) ∧ kvs.length ≤ i⟩
theorem turn_enumN {P : Program} {w : World} {K : PySem.W.Frag} {elts : List Expr} {kk : Nat} {tpos : Pos} {d : Addr} {o : Obj} {es : Array DictEntry} {ep : Nat} {xs : List NX} {kvs : List NV} (e it : Addr) (hod : o.data = .dict es ep) (hes : es.toList = xs.map (entN w)) (px : PX kvs xs) (hde : d ≠ e) (hdi : d ≠ it) :
    Turn P w K (.Tuple elts kk tpos) (Itne d o kvs) [e, it] e (fun i h => (∃ old, IsEnum h e it ((i : Nat) : Int) old) ∧ h.IsKeyIter it d i es.size ep ∧ e ≠ it) where
  mem := by simp
  obj := fun i h st b hb => by
    obtain ⟨⟨old, he⟩, ⟨o, ho, hc, hd⟩, _⟩ := st
    have e' : b = e ∨ b = it := by simpa using hb
    rcases e' with z | z
    · rw [z]; exact ⟨_, he, fun v q => nomatch q⟩
    · rw [z]; exact ⟨o, ho, fun v q => by rw [hd] at q; cases q⟩
  keep := fun i h h' st k => let ⟨⟨old, he⟩, hi, hne⟩ := st; ⟨⟨old, k e (by simp) _ he⟩, hi.at fun o q => k it (by simp) o q, hne⟩
  item := by
    intro X hP hw hK hc i pins s σ H E I hf st hg
    subst hP hw hK
    obtain ⟨⟨old, he⟩, hit, hne⟩ := st
    obtain ⟨hd, hi⟩ := hg
    obtain ⟨hgd, _⟩ := (show ObjOk X.prog X.w H s.heap d (.frz o (.ext fun _ => True)) from I.hok d _ hd)
    have hsz : es.size = kvs.length := by
      have h1 := ent_size hes
      have h2 := Paired.length px
      omega
    obtain ⟨⟨k, u0, v⟩, hkv⟩ : ∃ p, kvs[i]? = some p := ⟨kvs[i], List.getElem?_eq_getElem hi⟩
    obtain ⟨x0, hx0, e1, r1, r2⟩ := px_get px hkv
    have hel : e < s.heap.objs.size := Heap.lt_size he
    have hil : it < s.heap.objs.size := by obtain ⟨_, q, _⟩ := hit; exact Heap.lt_size q
    have hh : X.A.in1.handled = none := I.ok.hd hc
    refine wpAny_pyNext_enum_itemD (draws_keys hh it d hdi o es ep hod) he ⟨hit, hgd⟩ (by omega) hne (by simp [hne, hde.symm]) fun x h' tk ⟨en, hen, hkx⟩ ho st' hT hsz2 hk => ?_
    refine ⟨_, rfl, wpAny_letOwnedTupleGo_enum (s := { s with heap := h', toks := tk + 1 }) ho fun h'' he' sb => ?_⟩
    have hkey : RelV u0 x := by
      rw [← hkx]
      have := ent_at hes i
      rw [hx0, hen] at this
      simp only [Option.map_some, Option.some.injEq] at this
      rw [this]
      exact r1
    have hT2 : h''.get? s.heap.objs.size = some { cls := .type "tuple", data := .seq #[.int i tk, x] } := (sb.2 _ (Nat.ne_of_gt hel)).trans hT
    have new : ObjOk X.prog X.w (upd H s.heap.objs.size (.tup [.int (i : Nat), u0])) h'' s.heap.objs.size (.tup [.int (i : Nat), u0]) :=
      ⟨by show 2 ≤ sizeLine; decide, [.int i tk, x], .cons ⟨_, rfl⟩ (.cons hkey .nil), ⟨_, hT2, rfl, _, rfl⟩⟩
    have I1 : Inv X pins σ (upd H s.heap.objs.size (.tup [.int (i : Nat), u0])) { s with heap := h'', toks := tk + 1 } :=
      I.turnedNew (ch := [e, it]) (fun b ob hb q => (sb.2 b (fun z => hb (by simp [z]))).trans (hk b ob (fun z => hb (by simp [z])) (fun z => hb (by simp [z])) q)) hf (Nat.le_refl _) new
    refine ⟨.ref s.heap.objs.size, _, I1, rfl, ⟨_, k, u0, v, hkv, rfl, I.hok.fresh (Nat.le_refl _), rfl⟩, ⟨⟨x, ?_⟩, st'.1.at fun o q => (sb.2 it (Ne.symm hne)).trans q, hne⟩, fun b hb => ?_⟩
    · have e1 : ((i + 1 : Nat) : Int) = (i : Int) + 1 := by omega
      rw [e1]; exact he'
    · have hb' : b < s.heap.objs.size := by
        have e' : b = e ∨ b = it := by simpa using hb
        rcases e' with z | z
        · rw [z]; exact hel
        · rw [z]; exact hil
      rw [upd_ne (Nat.ne_of_lt hb')]
      exact (hf b hb).1
  done := by
    intro X hP hw hK hc i pins s σ H E I hf st hg
    subst hP hw hK
    obtain ⟨⟨old, he⟩, hit, hne⟩ := st
    obtain ⟨hd, hi⟩ := hg
    obtain ⟨hgd, _⟩ := (show ObjOk X.prog X.w H s.heap d (.frz o (.ext fun _ => True)) from I.hok d _ hd)
    have hsz : es.size = kvs.length := by
      have h1 := ent_size hes
      have h2 := Paired.length px
      omega
    obtain ⟨f0, f1, f2, f3, f4, f5⟩ := hf it (by simp)
    have hh : X.A.in1.handled = none := I.ok.hd hc
    exact next_enumK_end hh he hit hgd hod rfl (by omega) fun h' eb => ⟨rfl, I.turned (t' := s.toks) (fun b o hb q => eb b o hb q) f0 f1 f3 f4 f5⟩
  self := fun A i s Q E st h => let ⟨⟨_, he⟩, _⟩ := st; wpAny_pyIter_enum he h
def iEnumN (w : World) (ta : TA) : TI := fun σ H R => ta σ H fun vs H1 => ∃ d kvs, vs = [.ref d] ∧ FzN w H1 d kvs ∧ ∀ o, H1 d = some (oddH o) → R (Itne d o kvs) H1
theorem pi_enumN {X : Cx} {w : World} {e : Expr} {ta : TA} {p pos tpos : Pos} {elts : List Expr} {kk : Nat} (hw : X.w = w) (hg : Gl X "enumerate") (hm : X.mg "enumerate" = none) (ha : PA X [e] ta) (hs : starEach [e] X.env = [(false, eval e X.env)] := by rfl) :
    PI X (.Tuple elts kk tpos) (.Call (.Name "enumerate" p) [e] [] pos) (iEnumN w ta) := by
  subst hw
  refine ⟨fun pins s σ H R I h => ?_⟩
  refine Call_ (ld_blt I hg hm boot_enumerate (PyProof.Rows.callWith_type1 (thn (ha.run pos pins s σ H _ I h) fun us s1 ⟨vs, H1, I1, r1, q1⟩ => ?_) hs rfl))
  obtain ⟨d, kvs, ex, F, q⟩ := q1
  subst ex
  cases r1 with
  | cons r rr =>
    cases rr
    cases r
    obtain ⟨o, hd, O⟩ := F.li
    obtain ⟨es, ep, xs, d1, d2, d3, d4⟩ := O.dat
    obtain ⟨hgd, _⟩ := (show ObjOk X.prog X.w H1 s1.heap d (.frz o (.ext fun _ => True)) from I1.hok d _ hd)
    refine enum_begins1 (begins_keys d o es ep F.ne O.cls d1) hgd fun h' he hit hsz2 hk => wpAny_pyIter_enum he ?_
    have I2 : Inv X pins σ H1 { s1 with heap := h' } := I1.kept (t' := s1.toks) hk
    have hdl : d < s1.heap.objs.size := Heap.lt_size hgd
    refine ⟨s1.heap.objs.size + 1, [s1.heap.objs.size + 1, s1.heap.objs.size], _, _, H1, rfl, I2, turn_enumN (s1.heap.objs.size + 1) s1.heap.objs.size d1 d2 d3 (Nat.ne_of_lt (Nat.lt_succ_of_lt hdl)) (Nat.ne_of_lt hdl), ⟨⟨.none, he⟩, ⟨_, hit, rfl, rfl⟩, Nat.succ_ne_self _⟩, fun b hb => ?_, q o hd⟩
    have e' : b = s1.heap.objs.size + 1 ∨ b = s1.heap.objs.size := by simpa using hb
    have hle : s1.heap.objs.size ≤ b := by
      rcases e' with z | z
      · rw [z]; exact Nat.le_add_right _ _
      · rw [z]; exact Nat.le_refl _
    exact I1.fpOk hle (I1.hok.fresh hle)
theorem walk_enumN {d : Addr} {o : Obj} {kvs : List NV} : Walk (Itne d o kvs) kvs.length (fun H => H d = some (oddH o)) (YPair (fun i => some (.int (i : Nat))) (fun i => kvs[i]?.map fun p => p.2.1)) := by
  refine ⟨fun _ _ hi q => ⟨q, hi⟩, fun _ q => ⟨q, Nat.le_refl _⟩, fun i H x H' _ _ y => ?_⟩
  obtain ⟨T, k, u, v, h1, h2, h3, h4⟩ := y
  exact ⟨T, .int (i : Nat), u, h2, h3, h4, rfl, by simp [h1]⟩
/-! ### d[k] -/
def tDGetN (w : World) (td ty : TE) : TE := fun σ H Q => td σ H fun x H1 => ty σ H1 fun y H2 => ∃ (a : Addr) (kvs : List NV) (i : Nat) (k : NestedKey) (u v : V), x = .ref a ∧ KR H2 k y ∧ FzN w H2 a kvs ∧ kvs[i]? = some (k, u, v) ∧ Q v H2
theorem pe_dgetN {X : Cx} {w : World} {o i : Expr} {td ty : TE} {pos : Pos} (hw : X.w = w) (hu : X.A.units + 9 < cLine) (ho : PE X o td) (hi : PE X i ty) (hs : NoSl i) : PE X (.Subscript o i pos) (tDGetN w td ty) := by
  subst hw
  refine ⟨fun pins s σ H Q I h => ?_⟩
  refine subD_of PySem.F.slot_dict_getitem.lookup hs (thn (ho.run pins s σ H _ I h) fun u s1 ⟨x, H1, I1, rx, q1⟩ => thn (hi.run pins s1 σ H1 _ I1 q1) fun iv s2 ⟨y, H2, I2, ry, a, kvs, j, k, u0, v, ex, hk, F, hj, q2⟩ => ?_)
  subst ex
  obtain rfl : u = Value.ref a := rx
  obtain ⟨xs, px, dn⟩ := F.dict I2
  obtain ⟨⟨k', u', v'⟩, hj', e1, r1, r2⟩ := px_get px hj
  simp only at e1
  subst e1
  obtain ⟨ki, kd⟩ := hk.is I2.hok ry
  exact ⟨dn.typeIs, getItemN hu ki kd dn hj' fun tk => ⟨v, H2, I2.tok _, r2, q2⟩⟩
/-! ### isinstance, len -/
theorem FzN.isi {w : World} {K : PySem.W.Frag} {H : Hp} {a : Addr} {kvs : List NV} {T : String} {b : Bool} {Q : VK} (F : FzN w H a kvs) (hk : kitB "dict" T = some b) (q : Q (.bl b) H) : rIsiO K [.ref a, .ty T] H Q := by
  obtain ⟨o, h1, h2⟩ := F.li
  exact .inr ⟨a, o, T, b, rfl, h1, h2.cls, hk, q⟩
/-! ### repr -/
/-- v stands for d in H, read as it stands -/
def ShN (P : Program) (w : World) (H : Hp) (v : V) (d : PyData) : Prop := ∀ (h : Heap) (u : Value), HOk P w H h → RelV v u → ∃ as, Reads h u d as ∧ ∀ b ∈ as, H b ≠ none
theorem Rp.shN {P : Program} {w : World} {H : Hp} {n : Nat} {v : V} {d : PyData} (h : Rp H n v d) : ShN P w H v d := fun hp u ok r => h.reads ok r
theorem ShN.list {P : Program} {w : World} {H : Hp} {a : Addr} {xs : List V} {ds : List PyData} (ha : H a = some (.lst xs)) (hp : Paired (ShN P w H) xs ds) : ShN P w H (.ref a) (.list ds) := fun h u ok r => by
  cases r
  obtain ⟨_, its, m, rv, hg⟩ := ok a _ ha
  obtain ⟨as, h1, g1⟩ := readsAll_of (h := h) (G := fun b => H b ≠ none) (fun v d u q r => q h u ok r) hp rv
  refine ⟨a :: as, .list hg rfl rfl (by simpa using h1), ?_⟩
  intro b hb
  rcases List.mem_cons.mp hb with rfl | hb
  · rw [ha]; simp
  · exact g1 b hb
theorem ShN.tuple {P : Program} {w : World} {H : Hp} {a : Addr} {xs : List V} {ds : List PyData} (ha : H a = some (.tup xs)) (hp : Paired (ShN P w H) xs ds) : ShN P w H (.ref a) (.tuple ds) := fun h u ok r => by
  cases r
  obtain ⟨_, its, rv, o, ho, hc, m, hd⟩ := ok a _ ha
  obtain ⟨as, h1, g1⟩ := readsAll_of (h := h) (G := fun b => H b ≠ none) (fun v d u q r => q h u ok r) hp rv
  exact ⟨as, .tuple ho hc hd (by simpa using h1), g1⟩
theorem ShN.dict {P : Program} {w : World} {H : Hp} {a : Addr} {kvs : List (Key × V)} {es : List (PyData × PyData)} (ha : Rd H a (.dK kvs)) (hp : Paired (fun (p : Key × V) (q : PyData × PyData) => q.1 = kD p.1 ∧ ShN P w H p.2 q.2) kvs es) : ShN P w H (.ref a) (.dict es) := fun h u ok r => by
  cases r
  obtain ⟨_, _, ws, rv, o, ds, ep, ho, hx, hd, _, hpr, _⟩ := ha.ok ok
  obtain ⟨⟨as, h1, e1⟩, bs, h2, g2⟩ := readsKv_of (h := h) (G := fun b => H b ≠ none) (F := ShN P w H) (fun v d u q r => q h u ok r) hp rv hpr
  subst e1
  refine ⟨_, .dict ho hx.1 hd h1 h2, ?_⟩
  intro b hb
  simp only [List.append_nil, List.cons_append, List.nil_append, List.mem_cons] at hb
  rcases hb with rfl | hb
  · rcases ha with ha | ⟨_, ha⟩ <;> rw [ha] <;> simp
  · exact g2 b hb
theorem ShN.odd {P : Program} {w : World} {H : Hp} {a : Addr} {kvs : List NV} {es : List (PyData × PyData)} (F : FzN w H a kvs) (hp : Paired (fun (p : NV) (q : PyData × PyData) => ShN P w H p.2.1 q.1 ∧ ShN P w H p.2.2 q.2) kvs es) : ShN P w H (.ref a) (.dict es) := fun h u ok r => by
  cases r
  obtain ⟨o, hH, O⟩ := F.li
  obtain ⟨ho, _⟩ := (show ObjOk P w H h a (.frz o (.ext fun _ => True)) from ok a _ hH)
  obtain ⟨ds, ep, xs, d1, d2, d3, d4⟩ := O.dat
  have main : ∀ {kvs : List NV} {es : List (PyData × PyData)} {xs : List NX}, Paired (fun (p : NV) (q : PyData × PyData) => ShN P w H p.2.1 q.1 ∧ ShN P w H p.2.2 q.2) kvs es → PX kvs xs →
      (∃ as, ReadsAll h ((xs.map (entN w)).map (·.key)) (es.map (·.1)) as ∧ ∀ b ∈ as, H b ≠ none) ∧ ∃ bs, ReadsAll h ((xs.map (entN w)).map (·.val)) (es.map (·.2)) bs ∧ ∀ b ∈ bs, H b ≠ none := by
    intro kvs es xs hp
    induction hp generalizing xs with
    | nil => intro r; cases r; exact ⟨⟨[], .nil, by simp⟩, [], .nil, by simp⟩
    | cons c _ ih =>
      intro r
      cases r with
      | cons r1 r2 =>
        obtain ⟨⟨as, h1, g1⟩, bs, h2, g2⟩ := ih r2
        obtain ⟨cs, h3, g3⟩ := c.1 h _ ok r1.2.1
        obtain ⟨es', h4, g4⟩ := c.2 h _ ok r1.2.2
        refine ⟨⟨cs ++ as, .cons h3 h1, fun b hb => ?_⟩, es' ++ bs, .cons h4 h2, fun b hb => ?_⟩
        · rcases List.mem_append.mp hb with hb | hb
          · exact g3 b hb
          · exact g1 b hb
        · rcases List.mem_append.mp hb with hb | hb
          · exact g4 b hb
          · exact g2 b hb
  obtain ⟨⟨as, h1, g1⟩, bs, h2, g2⟩ := main hp d3
  rw [← d2] at h1 h2
  refine ⟨_, .dict ho O.cls.1 d1 h1 h2, ?_⟩
  intro b hb
  simp only [List.cons_append, List.mem_cons, List.mem_append] at hb
  rcases hb with rfl | hb | hb
  · rw [hH]; simp [oddH]
  · exact g1 b hb
  · exact g2 b hb
def rReprN (P : Program) (w : World) : List V → Hp → VK → Prop := fun xs H Q => ∃ v d, xs = [v] ∧ ShN P w H v d ∧ d.depth ≤ 90 ∧ d.showable = true ∧ d.shown.length ≤ sizeLine ∧ Q (.str d.shown) H
theorem call_reprN {X : Cx} {P : Program} {w : World} (hP : X.prog = P) (hw : X.w = w) (hg : X.A.guards = some []) (hsys : ∃ o, X.base.get? sysModules = some o) (hu : X.A.units + 100 < cLine) : CallR X (.builtin "repr") (rReprN P w) := by
  subst hP hw
  intro pins s σ H xs us Q I r h
  obtain ⟨v, d, rfl, hd, hdep, hs, hz, q⟩ := h
  obtain ⟨u, rfl, rv⟩ := vals1 r
  obtain ⟨o0, hs0⟩ := hsys
  have hsm : H sysModules = none := (I.bs _ _ hs0).2
  obtain ⟨as, rd, g⟩ := hd s.heap u I.hok rv
  have no : sysModules ∉ as := fun hm => g _ hm hsm
  cases rd with
  | none => exact PySem.P.repr_of_none ⟨.str _, H, I.tok _, ⟨_, rfl⟩, q⟩
  | bool b => exact PySem.P.repr_of_bool ⟨.str _, H, I.tok _, ⟨_, rfl⟩, q⟩
  | int i t =>
    have hi : i.natAbs.log2 < 1920 := of_decide_eq_true hs
    exact PySem.P.repr_of_int hi ⟨.str _, H, I.tok _, ⟨_, rfl⟩, q⟩
  | str x t => exact PySem.P.repr_of_str ⟨.str _, H, I.tok _, ⟨_, rfl⟩, q⟩ hz
  | list a1 a2 a3 a4 => exact repr_of_reads' (.list a1 a2 a3 a4) hs (fun _ => no) hg (by omega) (fun b o e => e) (fun h' t tk hk => ⟨.str _, H, I.un (Un.kept hk) (I.hok.kept hk), ⟨_, rfl⟩, q⟩) hz
  | tuple a1 a2 a3 a4 => exact repr_of_reads' (.tuple a1 a2 a3 a4) hs (fun _ => no) hg (by omega) (fun b o e => e) (fun h' t tk hk => ⟨.str _, H, I.un (Un.kept hk) (I.hok.kept hk), ⟨_, rfl⟩, q⟩) hz
  | dict a1 a2 a3 a4 a5 => exact repr_of_reads' (.dict a1 a2 a3 a4 a5) hs (fun _ => no) hg (by omega) (fun b o e => e) (fun h' t tk hk => ⟨.str _, H, I.un (Un.kept hk) (I.hok.kept hk), ⟨_, rfl⟩, q⟩) hz
theorem u9 {k : Nat} {A : Around} (h : Room k A) : A.units + 9 < cLine := by have := h.un; omega
theorem u8 {k : Nat} {A : Around} (h : Room k A) : A.units + 8 < cLine := by have := h.un; omega
end SC

set_option Elab.async false
set_option linter.all false
set_option maxRecDepth 100000
set_option maxHeartbeats 4000000
/-! Schemacheck: match statements over a text: written texts, several of them, and the rest. -/
namespace SC
open PySem L2 PySem.Calls PyProof.Rows
section
variable {X : Cx}
/-- a pattern that takes the texts p, and binds nothing -/
def PP (X : Cx) (pat : Pattern) (p : Str → Bool) : Prop := ∀ (pins : List (Addr × Obj)) (s : Shared) (σ : L2.St) (H : Hp) (x : Str) (u : Value) (Q : Option (List (Str × Value)) → Shared → Prop), Inv X pins σ H s → L2.RelV (.str x) u →
  (∀ s', Inv X pins σ H s' → Q (if p x = true then some [] else none) s') → wpAny (model X.prog X.w) X.A (matchPattern pat X.env u) Q X.xe s
theorem pp_val {z : Str} {j : Nat} {p1 p2 : Pos} : PP X (.MatchValue (.Constant (.str z) j p1) p2) (fun x => decide (x = z)) := by
  intro pins s σ H x u Q I r q
  refine wpAny_matchPattern_Value (thn ((pe_str (X := X) (x := z) (j := j) (pos := p1)).run pins s σ H (fun v H1 => v = .str z ∧ H1 = H) I ⟨rfl, rfl⟩) fun w s1 ⟨v, H1, I1, r1, ev, eH⟩ => ?_)
  subst ev
  rw [eH] at I1
  refine thn (op_eq pins s1 σ H (.str x) (.str z) u w (fun b H2 => b = .bl (decide (x = z)) ∧ H2 = H) I1 r r1 ⟨rfl, by congr 1; exact decide_eq_decide.mpr (by rw [V.str.injEq]), rfl⟩) fun b s2 ⟨v, H2, I2, rb, eb, eH2⟩ => ?_
  subst eb
  rw [eH2] at I2
  obtain rfl : b = Value.bool (decide (x = z)) := rb
  refine wpAny_truthy_bool ?_
  have h := q _ I2
  show (if decide (x = z) = true then Q (some []) s2 else Q none s2)
  by_cases hd : x = z
  · simp only [hd, decide_true, if_true] at h ⊢
    exact h
  · simp only [hd, decide_false, Bool.false_eq_true, if_false] at h ⊢
    exact h
theorem pp_any {p2 : Pos} : PP X (.MatchAs none none p2) (fun _ => true) := fun pins s σ H x u Q I r q => wpAny_matchPattern_Capture (q _ I)
/-- patterns one after the other -/
def PPs (X : Cx) (ps : List Pattern) (p : Str → Bool) : Prop := ∀ (pins : List (Addr × Obj)) (s : Shared) (σ : L2.St) (H : Hp) (x : Str) (u : Value) (Q : Option (List (Str × Value)) → Shared → Prop), Inv X pins σ H s → L2.RelV (.str x) u →
  (∀ s', Inv X pins σ H s' → Q (if p x = true then some [] else none) s') → wpAny (model X.prog X.w) X.A (matchFirst ps X.env u) Q X.xe s
theorem pps_nil : PPs X [] (fun _ => false) := fun pins s σ H x u Q I r q => wpAny_matchFirst_nil (q _ I)
theorem pps_cons {pat : Pattern} {ps : List Pattern} {p p' : Str → Bool} (h : PP X pat p) (h' : PPs X ps p') : PPs X (pat :: ps) (fun x => p x || p' x) := by
  intro pins s σ H x u Q I r q
  refine wpAny_matchFirst_cons (h pins s σ H x u _ I r fun s1 I1 => ?_)
  cases hp : p x with
  | true =>
    have := q s1 I1
    simp only [hp, Bool.true_or, if_true] at this ⊢
    exact this
  | false =>
    refine h' pins s1 σ H x u _ I1 r fun s2 I2 => ?_
    have := q s2 I2
    simp only [hp, Bool.false_or] at this
    exact this
theorem pp_or {ps : List Pattern} {p : Str → Bool} {p2 : Pos} (h : PPs X ps p) : PP X (.MatchOr ps p2) p := by
  intro pins s σ H x u Q I r q
  refine wpAny_matchPattern_Or (h pins s σ H x u _ I r fun s1 I1 => ?_)
  have := q s1 I1
  cases hp : p x with
  | true =>
    rw [hp] at this
    simp only [if_true] at this ⊢
    rw [show ((namesOfAll (ps.take 1)).filterMap fun n => (([] : List (Str × Value)).lookup n).map (n, ·)) = [] from by
      generalize namesOfAll (ps.take 1) = l
      induction l with
      | nil => rfl
      | cons a r ih => rw [List.filterMap_cons]; exact ih]
    exact this
  | false => rw [hp] at this; exact this
/-- the cases -/
def PM (X : Cx) (cs : List MatchCase) (tc : Str → TS) : Prop := ∀ (pins : List (Addr × Obj)) (s : Shared) (σ : L2.St) (H : Hp) (x : Str) (u : Value) (first : Bool) (D : Ends), Inv X pins σ H s → L2.RelV (.str x) u → tc x D σ H →
  wpAny (model X.prog X.w) X.A (matchCases cs X.env u first) (SP X pins D) X.xe s
theorem pm_nil : PM X [] (fun _ D σ H => D.nx σ H) := fun pins s σ H x u first D I r h => wpAny_matchCases_nil ⟨σ, H, I, h⟩
theorem pm_cons {pat : Pattern} {body : List Stmt} {cs : List MatchCase} {p : Str → Bool} {tb : TS} {tc : Str → TS} (hp : PP X pat p) (hb : PSs X body tb) (hc : PM X cs tc) : PM X (⟨pat, none, body⟩ :: cs) (fun x D σ H => if p x = true then tb D σ H else tc x D σ H) := by
  intro pins s σ H x u first D I r h
  refine wpAny_matchCases_cons (hp pins s σ H x u _ I r fun s1 I1 => ?_)
  cases hq : p x with
  | true =>
    rw [hq] at h
    exact wpAny_pure (hb.run pins s1 σ H D I1 h)
  | false =>
    rw [hq] at h
    exact hc pins s1 σ H x u false D I1 r h
def tMatch (te : TE) (tc : Str → TS) : TS := fun D σ H => te σ H fun v H1 => ∃ x, v = .str x ∧ tc x D σ H1
theorem ps_match {e : Expr} {te : TE} {cs : List MatchCase} {tc : Str → TS} {pos : Pos} (he : PE X e te) (hc : PM X cs tc) : PS X (.Match e cs pos) (tMatch te tc) := by
  refine ⟨fun pins s σ H D I h => ?_⟩
  refine wpAny_Match (thn (he.run pins s σ H _ I h) fun u s1 ⟨v, H1, I1, r, x, ev, q⟩ => ?_)
  subst ev
  exact hc pins s1 σ H1 x u true D I1 r q
end
end SC

set_option Elab.async false
set_option linter.all false
set_option maxRecDepth 100000
set_option maxHeartbeats 4000000
/-! Schemacheck: module constants that are tuples of pairs of texts (TABLE). -/
namespace SC
open PySem L2 PySem.Calls PyProof.Rows
def itsOf (K : PySem.W.Frag) (a : Addr) : Option (List Value) := (K.lookup a).bind fun o => if (o.cls == Value.type "tuple") = true then (match o.data with | .seq its _ => if its.size ≤ 1000 then some its.toList else none | _ => none) else none
def rowB (K : PySem.W.Frag) (a : Addr) (r : Str × Str) : Bool := match itsOf K a with
  | some [.str x _, .str y _] => decide (x = r.1) && decide (y = r.2)
  | _ => false
def rowsB (K : PySem.W.Frag) : List Value → List (Str × Str) → Bool
  | [], [] => true
  | .ref a :: l, r :: rs => rowB K a r && rowsB K l rs
  | _, _ => false
def tabB (K : PySem.W.Frag) (ta : Addr) (rows : List (Str × Str)) : Bool := match itsOf K ta with
  | some l => rowsB K l rows
  | none => false
theorem sq_of {K : PySem.W.Frag} {a : Addr} {l : List Value} {xs : List V} (h : itsOf K a = some l) (r : Vals xs l) (H : Hp) : SqT K H a xs := by
  unfold itsOf at h
  cases hk : K.lookup a with
  | none => rw [hk] at h; cases h
  | some o =>
    rw [hk, Option.bind_some] at h
    split at h
    · rename_i hc
      cases hd : o.data with
      | seq its n =>
        rw [hd] at h
        simp only at h
        split at h
        · rename_i hz
          cases h
          exact .inr ⟨o, its, n, hk, beq_iff_eq.mp hc, hd, Nat.le_trans hz (by rw [sizeLine_eq]; omega), r⟩
        · cases h
      | _ => rw [hd] at h; cases h
    · cases h
theorem row_ok {K : PySem.W.Frag} {a : Addr} {r : Str × Str} (h : rowB K a r = true) (H : Hp) : SqT K H a [.str r.1, .str r.2] := by
  unfold rowB at h
  split at h
  · rename_i x t y u he
    simp only [Bool.and_eq_true, decide_eq_true_eq] at h
    rw [← h.1, ← h.2]
    exact sq_of (xs := [.str x, .str y]) he (.cons ⟨_, rfl⟩ (.cons ⟨_, rfl⟩ .nil)) H
  · cases h
theorem rows_ok {K : PySem.W.Frag} : ∀ {l : List Value} {rows : List (Str × Str)}, rowsB K l rows = true → ∃ as : List Addr, Vals (as.map V.ref) l ∧ Paired (fun a r => ∀ H : Hp, SqT K H a [.str r.1, .str r.2]) as rows
  | [], [], _ => ⟨[], .nil, .nil⟩
  | .ref a :: l, r :: rs, h => by
    simp only [rowsB, Bool.and_eq_true] at h
    obtain ⟨as, h1, h2⟩ := rows_ok h.2
    exact ⟨a :: as, .cons rfl h1, .cons (row_ok h.1) h2⟩
  | [], _ :: _, h => by cases h
  | .ref _ :: _, [], h => by cases h
  | .none :: _, _, h => by cases ‹List (Str × Str)› <;> cases h
  | .ellipsis :: _, _, h => by cases ‹List (Str × Str)› <;> cases h
  | .notImplemented :: _, _, h => by cases ‹List (Str × Str)› <;> cases h
  | .bool _ :: _, _, h => by cases ‹List (Str × Str)› <;> cases h
  | .int _ _ :: _, _, h => by cases ‹List (Str × Str)› <;> cases h
  | .float _ _ :: _, _, h => by cases ‹List (Str × Str)› <;> cases h
  | .str _ _ :: _, _, h => by cases ‹List (Str × Str)› <;> cases h
  | .bytes _ _ :: _, _, h => by cases ‹List (Str × Str)› <;> cases h
  | .type _ :: _, _, h => by cases ‹List (Str × Str)› <;> cases h
  | .builtin _ :: _, _, h => by cases ‹List (Str × Str)› <;> cases h
/-- a constant that is a tuple of pairs of texts, read -/
theorem tab_ok {K : PySem.W.Frag} {ta : Addr} {rows : List (Str × Str)} (h : tabB K ta rows = true) : ∃ as : List Addr, (∀ H : Hp, SqT K H ta (as.map V.ref)) ∧ Paired (fun a r => ∀ H : Hp, SqT K H a [.str r.1, .str r.2]) as rows := by
  unfold tabB at h
  cases he : itsOf K ta with
  | none => rw [he] at h; cases h
  | some l =>
    rw [he] at h
    obtain ⟨as, h1, h2⟩ := rows_ok h
    exact ⟨as, fun H => sq_of he h1 H, h2⟩
end SC

set_option Elab.async false
set_option linter.all false
set_option maxRecDepth 100000
set_option maxHeartbeats 4000000
/-! Schemacheck: len(set(x)) of a list of texts, or of a text. -/
namespace SC
open PySem L2 PySem.Calls PyProof.Rows
/-- the texts met, each once -/
def met (xs : List Str) : List Str := xs.foldl (fun a x => if x ∈ a then a else x :: a) []
theorem met_snoc (xs : List Str) (x : Str) : met (xs ++ [x]) = if x ∈ met xs then met xs else x :: met xs := by
  unfold met
  rw [List.foldl_append]
  rfl
theorem met_le (xs : List Str) : (met xs).length ≤ xs.length := by
  have : ∀ (l a : List Str), (l.foldl (fun a x => if x ∈ a then a else x :: a) a).length ≤ a.length + l.length := by
    intro l
    induction l with
    | nil => intro a; simp
    | cons y r ih =>
      intro a
      simp only [List.foldl_cons, List.length_cons]
      refine Nat.le_trans (ih _) ?_
      split <;> simp <;> omega
  have := this xs []
  simpa [met] using this
theorem met_mem (xs : List Str) (y : Str) : y ∈ met xs ↔ y ∈ xs := by
  have : ∀ (l a : List Str), y ∈ l.foldl (fun a x => if x ∈ a then a else x :: a) a ↔ y ∈ a ∨ y ∈ l := by
    intro l
    induction l with
    | nil => intro a; simp
    | cons z r ih =>
      intro a
      simp only [List.foldl_cons]
      rw [ih]
      split
      · rename_i h
        constructor
        · rintro (h1 | h1)
          · exact .inl h1
          · exact .inr (List.mem_cons_of_mem _ h1)
        · rintro (h1 | h1)
          · exact .inl h1
          · rcases List.mem_cons.mp h1 with rfl | h1
            · exact .inl h
            · exact .inr h1
      · simp only [List.mem_cons]
        constructor
        · rintro ((h1 | h1) | h1)
          · exact .inr (.inl h1)
          · exact .inl h1
          · exact .inr (.inr h1)
        · rintro (h1 | h1 | h1)
          · exact .inl (.inr h1)
          · exact .inl (.inl h1)
          · exact .inr h1
  have := this xs []
  simpa [met] using this
/-- how many differ: as many as there are exactly if none comes twice -/
theorem met_nd (xs : List Str) : (met xs).length = xs.length ↔ xs.Nodup := by
  have : ∀ (l a : List Str), (∀ x ∈ l, x ∉ a) → ((l.foldl (fun a x => if x ∈ a then a else x :: a) a).length = a.length + l.length ↔ l.Nodup) ∧ (l.foldl (fun a x => if x ∈ a then a else x :: a) a).length ≤ a.length + l.length := by
    intro l
    induction l with
    | nil => intro a _; simp
    | cons y r ih =>
      intro a ha
      simp only [List.foldl_cons, List.length_cons]
      rw [if_neg (ha y (by simp))]
      by_cases hy : y ∈ r
      · have lt : ∀ (q b : List Str), y ∈ q → y ∈ b → (q.foldl (fun a x => if x ∈ a then a else x :: a) b).length < b.length + q.length := by
          intro q
          have le : ∀ (q b : List Str), (q.foldl (fun a x => if x ∈ a then a else x :: a) b).length ≤ b.length + q.length := by
            intro q
            induction q with
            | nil => intro b; simp
            | cons z t ih2 =>
              intro b
              simp only [List.foldl_cons, List.length_cons]
              refine Nat.le_trans (ih2 _) ?_
              split <;> simp <;> omega
          induction q with
          | nil => intro b h; cases h
          | cons z t ih2 =>
            intro b h1 h2
            simp only [List.foldl_cons, List.length_cons]
            by_cases hz : y = z
            · subst hz
              rw [if_pos h2]
              have := le t b
              omega
            · have h3 : y ∈ t := by rcases List.mem_cons.mp h1 with h | h; exact absurd h hz; exact h
              split
              · have := ih2 b h3 h2; omega
              · have := ih2 (z :: b) h3 (List.mem_cons_of_mem _ h2)
                simp only [List.length_cons] at this
                omega
        have := lt r (y :: a) hy (by simp)
        simp only [List.length_cons] at this
        refine ⟨⟨fun h => by omega, fun h => absurd hy (List.nodup_cons.mp h).1⟩, by omega⟩
      · have := ih (y :: a) fun x hx => by
          intro h
          rcases List.mem_cons.mp h with rfl | h
          · exact hy hx
          · exact ha x (by simp [hx]) h
        simp only [List.length_cons] at this
        refine ⟨⟨fun h => List.nodup_cons.mpr ⟨hy, this.1.mp (by omega)⟩, fun h => ?_⟩, by omega⟩
        have := this.1.mpr (List.nodup_cons.mp h).2
        omega
  have := (this xs [] (by simp)).1
  simpa [met] using this

section
variable {P : Program} {w : World} {A : Around} {R : Result → Shared → Prop} {I S : Addr} {fp wr : List Addr} {G : Array GenState → Array GenState → Prop} {n : Nat} {Pv : Nat → Value → Prop} {St : Nat → Shared → Prop}
abbrev Holds (P : Program) (w : World) (h : Heap) (S : Addr) (xs : List Str) : Prop := h.SetOf (PySem.strKind P w) S (fun y => decide (y ∈ met xs)) (met xs).length
theorem Holds.keep {h h' : Heap} {xs : List Str} (H : Holds P w h S xs) (k : ∀ o, h.get? S = some o → h'.get? S = some o) : Holds P w h' S xs := by
  obtain ⟨o, es, ep, tb, ho, q⟩ := H
  exact ⟨o, es, ep, tb, k o ho, q⟩
theorem set_fill (W : WalksS P w A.in1 I fp wr G n Pv St) (nS : S ∉ fp) (xs : List Str) (en : n = xs.length) (hv : ∀ i v, Pv i v → ∃ t, v = .str (xs.getD i Str.empty) t) (hb : xs.length + 1 < scanBound) :
    ∀ (k i : Nat) (s : Shared), i + k = n → St i s → Holds P w s.heap S (xs.take i) → (∀ s', Moved (S :: wr) G s s' → Holds P w s'.heap S xs → R (.ok (.ret .none)) s') → codeAny (model P w) A (.builtin "set.update.loop" ⟨[.ref S, .ref I], []⟩) R s := by
  have nW : S ∉ wr := fun h => nS (W.sub _ h)
  have more : ∀ b ∈ wr, b ∈ S :: wr := fun b h => List.mem_cons_of_mem _ h
  intro k
  induction k with
  | zero =>
    intro i s hk st hS hR
    refine codeAny_builtin PyProof.Rows.F.entry_set_update_loop ?_
    rw [Around.under_plainId PyProof.Rows.F.plain_set_update_loop _]
    have : i = n := by omega
    subst this
    refine wpAny_bind (W.done s _ _ st fun s' hm => wpAny_pure (hR s' (hm.mono more) ?_))
    rw [en, List.take_length] at hS
    exact hS.keep fun o e => hm.heap S o nW e
  | succ k ih =>
    intro i s hk st hS hR
    refine codeAny_builtin PyProof.Rows.F.entry_set_update_loop ?_
    rw [Around.under_plainId PyProof.Rows.F.plain_set_update_loop _]
    refine wpAny_bind (W.item i s _ _ (by omega) st fun v s' hP st' hm => ?_)
    obtain ⟨t, ev⟩ := hv i v hP
    have hx : xs[i]? = some (xs.getD i Str.empty) := by
      rw [List.getD_eq_getElem?_getD]
      rw [List.getElem?_eq_getElem (by omega)]
      rfl
    generalize xs.getD i Str.empty = x at ev hx
    subst ev
    have hS' : Holds P w s'.heap S (xs.take i) := hS.keep fun o e => hm.heap S o nW e
    have key : (PySem.strKind P w).is x (.str x t) = true := PySem.strKind_is P w x t
    refine wpAny_bind (wpAny_holding (wpAny_holding (wpAny_bind ((PySem.strKind P w).pyHash key ?_))))
    have hl := met_le (xs.take i)
    rw [List.length_take] at hl
    refine wpAny_setAddHashed_of (s := { s' with toks := s'.toks + 1 }) key rfl hS' (by omega) fun h2 sb hS2 => ?_
    have nxt : xs.take (i + 1) = xs.take i ++ [x] := by rw [List.take_succ, hx]; rfl
    have hS3 : Holds P w h2 S (xs.take (i + 1)) := by
      refine PyProof.Rows.SetOf_congr hS2 (fun y => ?_) ?_
      · rw [nxt, Bool.eq_iff_iff, Bool.or_eq_true, decide_eq_true_eq, decide_eq_true_eq, decide_eq_true_eq, met_mem, met_mem, List.mem_append, List.mem_singleton]
      · rw [nxt, met_snoc]
        by_cases hm2 : x ∈ met (xs.take i)
        · rw [if_pos (decide_eq_true hm2), if_pos hm2]
        · rw [if_neg (by simpa using hm2), if_neg hm2]; rfl
    refine wpAny_pure ⟨plainId_quiet PyProof.Rows.F.plain_set_update_loop _, ih (i + 1) _ (by omega) (W.frame _ s' _ _ st' (Nat.le_succ _) fun b hb o e => ?_) hS3 fun s3 m3 hS4 => hR s3 (Moved.trans W.gtrans ((hm.mono more).then_heap (Nat.le_succ _) fun b o hb e => ?_) m3) hS4⟩
    · exact (sb.2 b fun z => nS (z ▸ hb)).trans e
    · exact (sb.2 b fun z => hb (by rw [z]; simp)).trans e
end

/-! ### the set itself -/
def signsOf (x : Str) : List Str := x.cps.toList.map fun c => ⟨#[c]⟩
abbrev bare (led : Bool) : Obj := { cls := .type "set", dict := none, data := .set #[] 0 (.fresh 0 0 led) }
theorem no_set_str : isSubtype (.type "str") (.type "set") = pure false := by rw [isSubtype_type]; kernel_rfl
theorem no_fset_str : isSubtype (.type "str") (.type "frozenset") = pure false := by rw [isSubtype_type]; kernel_rfl
/-- where the texts come from: a list, or a text's signs -/
inductive Src (h : Heap) : Value → List Str → Prop where
  | lst {l : Addr} {items : Array Value} {xs : List Str} (hl : h.IsList l items) (n : items.size = xs.length) (hv : ∀ (i : Nat) u, items[i]? = some u → ∃ t, u = .str (xs.getD i Str.empty) t) : Src h (.ref l) xs
  | str (x : Str) (t : Tok) : Src h (.str x t) (signsOf x)
section
variable {P : Program} {w : World} {A : Around} {E : Value → Shared → Prop} {s : Shared}
theorem empty_holds {h : Heap} {S : Addr} {led : Bool} (e : h.get? S = some (bare led)) : Holds P w h S ([] : List Str) :=
  PyProof.Rows.SetOf_congr ((PyProof.Rows.setObjOf_fresh (knd := PySem.strKind P w) led).setOf e (by unfold scanBound; omega)) (fun _ => rfl) rfl
set_option maxHeartbeats 8000000 in
theorem set_of {v : Value} {xs : List Str} {Q : Value → Shared → Prop} (hh : A.handled = none) (hv : Src s.heap v xs) (hb : xs.length + 1 < scanBound)
    (h : ∀ (h' : Heap) (tk : Nat), Holds P w h' s.heap.objs.size xs → (∀ b o, b < s.heap.objs.size → s.heap.get? b = some o → h'.get? b = some o) → Q (.ref s.heap.objs.size) { s with heap := h', toks := tk }) :
    wpAny (model P w) A (call (.type "set") [v]) Q E s := by
  obtain ⟨c, tl, hmro⟩ := PySem.F.called_set.mro
  have g1 := PySem.F.called_set.made
  have g2 := PySem.F.called_set.sub
  have g3 := PySem.F.called_set.notType
  have g4 := PySem.F.called_set.canCreate
  have g5 := PySem.F.typeCall_set_1 v
  refine wpAny_call (codeAny_of_tree ?_)
  refine wpAny_pure ⟨Code.quiet_builtin _ (by decide +kernel), codeAny_builtin PySem.F.entry_type_call ?_⟩
  rw [Around.under_plain (weight_type_call_type "set" [v] []) rfl]
  repeat (any_goals (first | assumption | wp_step))
  have born : ∀ led : Bool, (s.heap.push (bare led)).get? s.heap.objs.size = some (bare led) := fun led => Heap.get?_push_size _ rfl
  refine codeAny_mono (code_set_new_1 v (E := E) (Q₁ := fun o s₁ => ∃ led : Bool, o = .ref s.heap.objs.size ∧ s₁ = { s with heap := s.heap.push (bare led) }) fun led => ⟨led, rfl, rfl⟩) fun r s₁ hr => ?_
  cases r with
  | error e => exact hr
  | ok fl =>
  cases fl with
  | ret o =>
    obtain ⟨led, rfl, rfl⟩ := hr
    have hS := born led
    have g6 : Shared.TypeIs { s with heap := s.heap.push (bare led) } (.ref s.heap.objs.size) "set" := ⟨_, hS, rfl⟩
    have g7 := PySem.F.called_set.init.lookup
    have g8 := PySem.F.called_set.init.bind (.ref s.heap.objs.size)
    repeat (any_goals (first | assumption | wp_step))
    refine codeAny_mono (codeAny_call_builtin (R := wants (fun r s₂ => r = .none ∧ ∃ h' tk, s₂ = { s with heap := h', toks := tk } ∧ Holds P w h' s.heap.objs.size xs ∧ ∀ b o, b < s.heap.objs.size → s.heap.get? b = some o → h'.get? b = some o) E) PySem.F.called_set.init.plain PySem.F.entry_set_init (check_set_init_1 g6 ?_)) fun r₂ s₂ hr₂ => ?_
    · have hh3 : A.in1.in1.in1.handled = none := by simp [hh]
      have last : ∀ (wr : List Addr) (G : Array GenState → Array GenState → Prop) (s0 s' : Shared) (hm : Moved (s.heap.objs.size :: wr) G s0 s') (e1 : s'.gens = s.gens) (e2 : s'.drawn = s.drawn) (e3 : s'.os = s.os) (hS' : Holds P w s'.heap s.heap.objs.size xs) (k : ∀ b o, b < s.heap.objs.size → s.heap.get? b = some o → s'.heap.get? b = some o),
          ∃ h' tk, s' = { s with heap := h', toks := tk } ∧ Holds P w h' s.heap.objs.size xs ∧ ∀ b o, b < s.heap.objs.size → s.heap.get? b = some o → h'.get? b = some o := by
        intro wr G s0 s' hm e1 e2 e3 hS' k
        obtain ⟨h', g', d', tk', os'⟩ := s'
        simp only at e1 e2 e3
        subst e1; subst e2; subst e3
        exact ⟨h', tk', rfl, hS', k⟩
      cases hv with
      | lst hl n hv =>
        rename_i l items
        obtain ⟨⟨cl, dd, dt, sl⟩, ho, hc, k, hd⟩ := hl
        simp only at hc hd
        subst hc; subst hd
        have ho' := Heap.get?_push_of_some (bare led) ho
        have k1 := PySem.F.sub_list_set
        have k2 := PySem.F.sub_list_frozenset
        have k3 : (Value.type "list" == Value.type "dict") = false := by decide
        have hl1 : (s.heap.push (bare led)).IsList l items := ⟨_, ho', rfl, k, rfl⟩
        unfold Builtin.«set.__init__» noKeywords Builtin.Frozenset.updateFrom
        generalize hPI : pyIter = PI
        wp_walk
        subst hPI
        refine wpAny_pyIter_list hl1 (wpAny_bind (wpAny_runValue ?_))
        have lt : l < s.heap.objs.size := Heap.lt_size ho
        have sz : (s.heap.push (bare led)).objs.size = s.heap.objs.size + 1 := Heap.size_push ..
        refine set_fill (I := (s.heap.push (bare led)).objs.size) ((Walks.list hh3 _ l (by rw [sz]; exact Nat.ne_of_lt (Nat.lt_succ_of_lt lt)) items).toS) (by rw [sz]; simp only [List.mem_cons, List.not_mem_nil, or_false, not_or]; exact ⟨Nat.ne_of_lt (Nat.lt_succ_self _), Nat.ne_of_gt lt⟩) xs n hv hb _ 0 _ (Nat.zero_add _) ⟨⟨_, Heap.get?_push_size _ rfl, rfl, rfl⟩, hl1.push _⟩ (empty_holds (led := led) (Heap.get?_push_of_some _ hS)) fun s' hm hS' => ?_
        refine wpAny_pure (wpAny_pure ⟨rfl, last _ _ _ _ hm hm.gens hm.drawn hm.os hS' fun b o hb2 e => ?_⟩)
        exact hm.heap b o (by simp only [sz, List.mem_cons, List.not_mem_nil, or_false, not_or]; exact ⟨Nat.ne_of_lt hb2, Nat.ne_of_lt (Nat.lt_succ_of_lt hb2)⟩) (Heap.get?_push_of_some _ (Heap.get?_push_of_some _ e))
      | str x t =>
        have k1 := no_set_str
        have k2 := no_fset_str
        have k3 : (Value.type "str" == Value.type "dict") = false := by decide
        unfold Builtin.«set.__init__» noKeywords Builtin.Frozenset.updateFrom
        generalize hPI : pyIter = PI
        wp_walk
        subst hPI
        refine wpAny_pyIter_str fun o St W st0 => ?_
        refine wpAny_bind (wpAny_runValue ?_)
        have sz : (s.heap.push (bare led)).objs.size = s.heap.objs.size + 1 := Heap.size_push ..
        refine set_fill ((W _ hh3).toS) (by rw [sz]; simp) (signsOf x) (by simp [signsOf]) (fun i v ⟨c, u, hc, ev⟩ => ⟨u, ?_⟩) hb _ 0 _ (Nat.zero_add _) st0 (empty_holds (led := led) (Heap.get?_push_of_some _ hS)) fun s' hm hS' => ?_
        · rw [ev]
          congr 1
          rw [List.getD_eq_getElem?_getD]
          unfold signsOf
          rw [List.getElem?_map, Array.getElem?_toList, hc]
          rfl
        refine wpAny_pure (wpAny_pure ⟨rfl, last _ _ _ _ hm hm.gens hm.drawn hm.os hS' fun b o hb2 e => ?_⟩)
        exact hm.heap b o (by simp only [sz, List.mem_cons, List.not_mem_nil, or_false, not_or]; exact ⟨Nat.ne_of_lt hb2, Nat.ne_of_lt (Nat.lt_succ_of_lt hb2)⟩) (Heap.get?_push_of_some _ (Heap.get?_push_of_some _ e))
    · cases r₂ with
      | error e => exact hr₂
      | ok fl =>
      cases fl with
      | ret r =>
        obtain ⟨rfl, h', tk, rfl, hS', k⟩ := hr₂
        repeat (any_goals (first | assumption | wp_step))
        exact h _ _ hS' k
      | _ => exact hr₂.elim
  | _ => exact hr.elim
end
section
variable {X : Cx} {K : PySem.W.Frag}
/-- len(set(x)) -/
def tLenSetS (K : PySem.W.Frag) (ta : TE) : TE := fun σ H Q => ta σ H fun x H1 => ((∃ l xs, x = .ref l ∧ SqL K H1 l (xs.map V.str) ∧ xs.length ≤ 1000 ∧ Q (.int (met xs).length) H1) ∨ ∃ z, x = .str z ∧ z.length ≤ 1000 ∧ Q (.int (met (signsOf z)).length) H1)
theorem pe_lenSetK {a : Expr} {ta : TE} {p p2 q pos : Pos} (hK : X.K = K) (hc : X.calm = true) (hg : Gl X "len") (hm : X.mg "len" = none) (hg2 : Gl X "set") (hm2 : X.mg "set" = none) (ha : PE X a ta)
    (na : starEach [a] X.env = (false, eval a X.env) :: starEach [] X.env := by rfl) : PE X (.Call (.Name "len" p) [.Call (.Name "set" p2) [a] [] q] [] pos) (tLenSetS K ta) := by
  subst hK
  constructor
  intro pins s σ H Q I h
  refine Call_ (ld_blt I hg hm boot_len (PyProof.Rows.callWith_builtin1 (PyProof.Rows.args_cons (Call_ (ld_blt I hg2 hm2 boot_set (PyProof.Rows.callWith_type1 (PyProof.Rows.args_cons (thn (ha.run pins s σ H _ I h) ?_) na) na rfl))) rfl) rfl rfl))
  rintro v s1 ⟨x, H1, I1, r1, q1⟩
  refine PyProof.Rows.args_nil ?_
  have fin : ∀ (xs : List Str) (u : Value), RelV x u → Src s1.heap u xs → xs.length ≤ 1000 → Q (.int (met xs).length) H1 → wpAny (model X.prog X.w) X.A (call (.type "set") [u]) (fun o s₂ => wpAny (model X.prog X.w) X.A (spliced (backTo pos (starEach [] X.env))) (fun vs s₃ => wpAny (model X.prog X.w) X.A (call (.builtin "len") (o :: vs)) (EP X pins σ Q) X.xe s₃) X.xe s₂) X.xe s1 := by
    intro xs u _ hs hl hq
    refine set_of (I1.ok.hd hc) hs (by unfold scanBound; omega) fun h' tk hS k => PyProof.Rows.args_nil ?_
    obtain ⟨o, es, ep, t, ho, hex, hd, _, _, _, hf, hn⟩ := hS
    have I2 : Inv X pins σ H1 { s1 with heap := h', toks := tk } := I1.kept fun b o e => k b o (Heap.lt_size e) e
    have := met_le xs
    exact call_len_set ho hex hd hf (by rw [hn]; omega) ⟨.int (met xs).length, H1, I2.tok _, ⟨_, by rw [hn]⟩, hq⟩
  rcases q1 with ⟨l, xs, rfl, hq, hl, q1⟩ | ⟨z, rfl, hl, q1⟩
  · obtain ⟨its, r, pl, hz⟩ := I1.list hq
    cases r1
    have ln : its.length = xs.length := by rw [← r.length, List.length_map]
    refine fin xs _ rfl (.lst pl.isList (by rw [List.size_toArray, ln]) fun i u hu => ?_) hl q1
    have hi : i < its.length := by
      have := (Array.getElem?_eq_some_iff.mp hu).1
      simpa using this
    have hx : (xs.map V.str)[i]? = some (.str (xs.getD i Str.empty)) := by
      rw [List.getElem?_map, List.getD_eq_getElem?_getD, List.getElem?_eq_getElem (by omega)]
      rfl
    obtain ⟨u', hu', t, rfl⟩ := r.get hx
    rw [List.getElem?_toArray, hu'] at hu
    cases hu
    exact ⟨t, rfl⟩
  · obtain ⟨t, rfl⟩ := r1
    refine fin (signsOf z) _ ⟨t, rfl⟩ (.str z t) ?_ q1
    have : (signsOf z).length = z.length := by simp [signsOf, Str.length]
    omega
end
end SC

set_option Elab.async false
set_option linter.all false
set_option maxRecDepth 100000
set_option maxHeartbeats 4000000
/-! Schemacheck: a dict's keys that pass a test. -/
namespace SC
open PySem L2 PySem.Calls PyProof.Rows
/-- [k for k in d if ..], d not locked -/
theorem lcU_keysF {a : Addr} {kvs : List (Key × V)} {tt : TT} {i j : Nat} {σ : L2.St} {H : Hp} {Q : VK} (ha : H a = some (.dK kvs)) (hi : σ[i]? = some (some (.ref a))) (hj : j < σ.length) (p : Key → Bool) (hz : kvs.length ≤ 100000)
    (step : ∀ k v H' (N : Bool → Hp → Prop), (k, v) ∈ kvs → LSame H H' → Rd H' a (.dK kvs) → (∀ H4, Same H' H4 → N (p k) H4) → tt ((wipe σ [j]).set j (some (kV k))) H' N)
    (done : ∀ D H', H D = none → Same H H' → H' D = some (.lst (((kvs.map (·.1)).filter p).map kV)) → Q (.ref D) H') : tLockE (tLc (iKeys (tVar i)) (gName j) tt (tVar j) [j]) σ H Q := by
  refine ⟨a, .dK kvs, ha, trivial, fun od => ?_⟩
  have e1 : upd H a (.frz od (.dK kvs)) a = some (.frz od (.dK kvs)) := upd_same
  have ls : LSame H (upd H a (.frz od (.dK kvs))) := fun b o e => by
    by_cases hb : b = a
    · subst hb
      rw [ha] at e
      cases e
      exact .inr ⟨kvs, od, rfl, upd_same⟩
    · exact .inl (by rw [upd_ne hb]; exact e)
  rw [tLc_eq]
  refine ⟨_, hi, a, od, rfl, .inl ⟨kvs, e1, ?_⟩⟩
  refine lc_itR walk_keys (fun D i H' => Same (upd H a (.frz od (.dK kvs))) H' ∧ H' D = some (.lst ((((kvs.map (·.1)).take i).filter p).map kV))) (fun D hD => ⟨same_new hD _, by rw [upd_same]; rfl⟩) (fun _ _ _ _ _ h => h.1 _ _ e1) ?_ ?_
  · rintro D i x H1 H' hD hi' ⟨s, e⟩ ⟨rfl, k, v, hk, rfl⟩
    refine ⟨wipe1, step k v _ _ (List.mem_of_getElem? hk) (ls.trans (.of s)) (.inr ⟨od, s _ _ e1⟩) fun H4 s4 => ?_⟩
    have hk' : (kvs.map (·.1))[i]? = some k := by rw [List.getElem?_map, hk]; rfl
    have ht : (kvs.map (·.1)).take (i + 1) = (kvs.map (·.1)).take i ++ [k] := by rw [List.take_succ, hk']; rfl
    rw [ht, List.filter_append]
    split
    · rename_i hp
      refine ⟨kV k, ?_, _, s4 _ _ e, ?_, same_mut (s.trans s4) hD, ?_⟩
      · show (((σ.set j none).set j (some _)))[j]? = _
        rw [List.getElem?_set_self (by rw [List.length_set]; exact hj)]
      · rw [List.length_map]
        refine sz5l (Nat.lt_of_le_of_lt (List.length_filter_le _ _) ?_)
        rw [List.length_take]
        omega
      · rw [upd_same, List.filter_cons_of_pos hp]
        simp
    · rename_i hp
      refine ⟨s.trans s4, ?_⟩
      rw [List.filter_cons_of_neg (by simpa using hp)]
      simpa using s4 _ _ e
  · rintro D H' nD ⟨s, e⟩
    rw [List.take_of_length_le (by simp)] at e
    have hDa : D ≠ a := fun z => by rw [z, upd_same] at nD; cases nD
    have nD' : H D = none := by rw [upd_ne hDa] at nD; exact nD
    exact ⟨s _ _ e1, done D _ nD' (same_lock ha s) (by rw [upd_ne hDa]; exact e)⟩
end SC

set_option Elab.async false
set_option linter.all false
set_option maxRecDepth 100000
set_option maxHeartbeats 4000000
/-! SN3: ints and truth values by <=; a comprehension over a walk with a test, of which only is known whether one passed. -/
namespace SC
open PySem PySem.Spec PyProof.Rows L2 SeqAt
open Sem (wp)
section
variable {prog : Program} {w : World} {A : Around} {E : Value → Shared → Prop} {s : Shared}
theorem nb (b : Bool) : Value.bool b ≠ .notImplemented := nofun
theorem gives_le_bi (a : Bool) (b : Int) (u : Tok) : Gives (Builtin.«int.__le__» ⟨[.bool a, .int b u], []⟩) (.val (Value.bool (decide ((if a = true then (1 : Int) else 0) ≤ b)))) :=
  .of_wp fun M A E s Q h => by obtain ⟨hp, g, d, tk, os⟩ := s; wp_walk; exact ⟨_, rfl, h⟩
theorem gives_ge_bi (a : Bool) (b : Int) (u : Tok) : Gives (Builtin.«int.__ge__» ⟨[.bool a, .int b u], []⟩) (.val (Value.bool (decide ((if a = true then (1 : Int) else 0) ≥ b)))) :=
  .of_wp fun M A E s Q h => by obtain ⟨hp, g, d, tk, os⟩ := s; wp_walk; exact ⟨_, rfl, h⟩
theorem le_bi {a : Bool} {b : Int} {u : Tok} {Q : Value → Shared → Prop} (h : Q (.bool (decide ((if a = true then (1 : Int) else 0) ≤ b))) s) : wpAny (model prog w) A (compareOp .LtE (.bool a) (.int b u)) Q E s := by
  show wpAny _ _ (richCompare .LtE (.bool a) (.int b u)) Q E s
  exact rc_left_or (op := .LtE) (Ta := "bool") (Tb := "int") rfl (typeIs_int s b u) (by decide) F.sub_int_bool F.slot_bool_le (call_gives F.slot_bool_le rfl F.entry_int_le (F.args_int_le_2 _ _) (gives_le_bi a b u) ⟨nb _, h⟩) (.inl rfl)
theorem le_ib {a : Int} {t : Tok} {b : Bool} {Q : Value → Shared → Prop} (h : Q (.bool (decide (a ≤ (if b = true then (1 : Int) else 0)))) s) : wpAny (model prog w) A (compareOp .LtE (.int a t) (.bool b)) Q E s := by
  show wpAny _ _ (richCompare .LtE (.int a t) (.bool b)) Q E s
  exact rc_sub_first_or (op := .LtE) (Ta := "int") (Tb := "bool") (typeIs_int s a t) rfl (by decide) F.sub_bool_int F.slot_bool_ge_refl (call_gives F.slot_bool_ge_refl rfl F.entry_int_ge (F.args_int_ge_2 _ _) (gives_ge_bi b a t) ⟨nb _, h⟩) (.inl rfl)
end
def rLeN : R2 := fun x y H Q => ∃ i j : Int, ((x = .int i ∧ y = .int j) ∨ (x = .int i ∧ ∃ b : Bool, y = .bl b ∧ j = if b = true then 1 else 0) ∨ (∃ b : Bool, x = .bl b ∧ i = (if b = true then 1 else 0) ∧ y = .int j)) ∧ Q (.bl (decide (i ≤ j))) H
theorem op_leN {X : Cx} : OpR X (compareOp .LtE) rLeN := by
  intro pins s σ H x y v u Q I rx ry ⟨i, j, h, q⟩
  rcases h with ⟨rfl, rfl⟩ | ⟨rfl, b, rfl, rfl⟩ | ⟨b, rfl, rfl, rfl⟩
  · obtain ⟨t, rfl⟩ := rx; obtain ⟨t2, rfl⟩ := ry
    exact PySem.P.le_int ⟨.bl _, H, I, rfl, q⟩
  · obtain ⟨t, rfl⟩ := rx; cases ry
    exact le_ib ⟨.bl _, H, I, rfl, q⟩
  · cases rx; obtain ⟨t2, rfl⟩ := ry
    exact le_bi ⟨.bl _, H, I, rfl, q⟩
section
variable {J : It} {n : Nat} {G : Hp → Prop} {Y : Nat → Hp → V → Hp → Prop}
/-- [x for x in .. if ..]: whether one passed -/
theorem lcN_any (w : Walk J n G Y) (X : Nat → V → Prop) (hX : ∀ i H x H', Y i H x H' → H' = H ∧ X i x) {tt : TT} {j : Nat} {σ : L2.St} {H1 : Hp} {Q : VK} (hG : ∀ H', Same H1 H' → G H') (p : Nat → Bool) (hz : n ≤ 100000) (hj : j < σ.length)
    (step : ∀ i x H' (N : Bool → Hp → Prop), X i x → Same H1 H' → (∀ H4, Same H' H4 → N (p i) H4) → tt ((wipe σ [j]).set j (some x)) H' N)
    (done : ∀ D H' ys, H1 D = none → Same H1 H' → H' D = some (.lst ys) → ys.length ≤ n → ((∃ i < n, p i = true) → ys ≠ []) → Q (.ref D) H') : LcR J (gName j) tt (tVar j) [j] σ H1 Q := by
  refine lc_itR w (fun D i H' => Same H1 H' ∧ ∃ ys, H' D = some (.lst ys) ∧ ys.length ≤ i ∧ ((∃ m < i, p m = true) → ys ≠ [])) (fun D hD => ⟨same_new hD _, [], upd_same, Nat.le_refl _, fun ⟨m, hm, _⟩ => absurd hm (Nat.not_lt_zero _)⟩) (fun D i H _ _ h => hG H h.1) ?_ (fun D H hD ⟨h1, ys, h2, h3, h4⟩ => done D H ys hD h1 h2 h3 h4)
  rintro D i x H H' hD hi ⟨s, ys, e, hl, hne⟩ y
  obtain ⟨rfl, hx⟩ := hX _ _ _ _ y
  refine ⟨wipe1, step i x _ _ hx s fun H4 s4 => ?_⟩
  split
  · refine ⟨x, by simp [gName, wipe, hj], ys, s4 _ _ e, ?_, same_mut (s.trans s4) hD, _, upd_same, by simp; omega, fun _ => by simp⟩
    rw [sizeLine_eq]; omega
  · rename_i hp
    refine ⟨s.trans s4, ys, s4 _ _ e, by omega, fun ⟨m, hm, hpm⟩ => ?_⟩
    by_cases hmi : m = i
    · subst hmi; exact absurd hpm hp
    · exact hne ⟨m, by omega, hpm⟩
end
end SC

set_option Elab.async false
set_option linter.all false
set_option maxRecDepth 100000
set_option maxHeartbeats 4000000
/-! SN4: len of a dict with keys of many kinds; isinstance with two types. -/
namespace PySem
open Sem (wp)
section
variable {prog : Program} {w : World} {A : Around} {E : Value → Shared → Prop} {s : Shared}
theorem wpAny_len_body_raw {d : Addr} {es : Array DictEntry} {ep : Nat} {Q : Value → Shared → Prop} (hd : (d == sysModules) = false) (hm : s.heap.DictRaw d es ep) (hfit : (es.size : Int) < 2 ^ 63)
    (h : Q (.int es.size (s.toks + 1)) { s with toks := s.toks + 1 + 1 }) : wpAny (model prog w) A (Builtin.«len» ⟨[.ref d], []⟩) (fun fin s' => ∃ r, fin = .done (.ret r) ∧ Q r s') E s := by
  unfold Builtin.«len»
  refine wpAny_bind (m := oneArg "len" _) (wpAny_pure ?_)
  refine wpAny_bind (m := callSpecial? (.ref d) (Str.ofString "__len__")) (wpAny_callSpecial?_slot (name := Str.ofString "__len__") hm.typeIs F.slot_dict_len
    (call_len_raw hd hm ?_))
  show wpAny _ _ _ _ _ { s with toks := s.toks + 1 }
  refine wpAny_bind (wpAny_holding (wpAny_pure ?_))
  refine wpAny_bind (wpAny_letGo ?_)
  show wpAny _ _ (if ((es.size : Nat) : Int) < 0 then _ else _) _ _ _
  rw [if_neg (by omega)]
  show wpAny _ _ (if ((es.size : Nat) : Int) ≥ 2 ^ 63 then _ else _) _ _ _
  rw [if_neg (by omega)]
  exact wpAny_bind (wpAny_mkInt (wpAny_pure ⟨_, rfl, h⟩))
theorem call_lenB_raw {d : Addr} {es : Array DictEntry} {ep : Nat} {Q : Value → Shared → Prop} (hd : (d == sysModules) = false) (hm : s.heap.DictRaw d es ep) (hfit : (es.size : Int) < 2 ^ 63)
    (h : Q (.int es.size (s.toks + 1)) { s with toks := s.toks + 1 + 1 }) : wpAny (model prog w) A (call (.builtin "len") [.ref d]) Q E s :=
  Calls.call_function_entry kind_len plain_len entry_len (args_len1 _) (wpAny_len_body_raw hd hm hfit h)
end
end PySem
namespace SC
open PySem PySem.Spec PyProof.Rows L2
open Sem (wp)
def rLenN (w : World) (K : PySem.W.Frag) : List V → Hp → VK → Prop := fun xs H Q => rLenA K xs H Q ∨ ∃ a kvs, xs = [V.ref a] ∧ FzN w H a kvs ∧ kvs.length ≤ 1000 ∧ Q (.int (kvs.length : Nat)) H
theorem lenNK {X : Cx} {w : World} {K : PySem.W.Frag} (h : X.K = K) (hw : X.w = w) : CallR X (.builtin "len") (rLenN w K) := by
  subst hw
  intro pins s σ H xs us Q I r h'
  rcases h' with h' | ⟨a, kvs, rfl, F, hz, q⟩
  · exact lenAK h pins s σ H xs us Q I r h'
  · obtain ⟨u, rfl, rx⟩ := vals1 r
    obtain rfl : u = .ref a := rx
    obtain ⟨o, hH, O⟩ := F.li
    obtain ⟨e1, _⟩ := (show ObjOk X.prog X.w H s.heap a (.frz o (.ext fun _ => True)) from I.hok a _ hH)
    obtain ⟨es, ep, xs, d1, d2, d3, d4⟩ := O.dat
    have hsz : es.size = kvs.length := by
      have h1 := ent_size d2
      have h2 := Paired.length d3
      omega
    refine call_lenB_raw F.ne ⟨o, e1, O.cls, d1⟩ (by omega) ?_
    rw [hsz]
    exact ⟨.int kvs.length, H, I.tok _, ⟨_, rfl⟩, q⟩
/-! ### isinstance(x, (T, U)) -/
def rIsiTO (K : PySem.W.Frag) : List V → Hp → VK → Prop := fun xs H Q => rIsiT K xs H Q ∨ ∃ (a tp : Addr) (o : Obj) (T U : Ty), xs = [.ref a, .ref tp] ∧ H tp = some (.tup [.ty T.nm, .ty U.nm]) ∧ H a = some (oddH o) ∧ o.ExactDict ∧ Q (.bl (isT T (.dict []) || isT U (.dict []))) H
theorem kit2 {K : PySem.W.Frag} (T U : Ty) (d : PyData) : PySem.W.kitAny K (.type (tyD d)) [.type T.nm, .type U.nm] = some (isT T d || isT U d) := by
  refine kitAny_cons (b := isT T d) (kit_ty (kit_isT T d)) (fun e => ?_) (fun e => by rw [e]; rfl)
  rw [e, Bool.false_or]
  exact kitAny_cons (b := isT U d) (kit_ty (kit_isT U d)) (fun e => by rw [e]; exact kitAny_nil) (fun e => e)
theorem call_isiTO {X : Cx} : CallR X (.builtin "isinstance") (rIsiTO X.K) := by
  intro pins s σ H xs us Q I r h
  rcases h with h | ⟨a, tp, o, T, U, rfl, hT, hH, hc, q⟩
  · exact call_isiT pins s σ H xs us Q I r h
  obtain ⟨u1, u2, rfl, r1, r2⟩ := vals2 r
  cases (show u1 = Value.ref a from r1)
  cases (show u2 = Value.ref tp from r2)
  obtain ⟨e1, _⟩ := (show ObjOk X.prog X.w H s.heap a (.frz o (.ext fun _ => True)) from I.hok a _ hH)
  obtain ⟨_, its, rv, ot, h1, h2, n, h3⟩ := (show ObjOk X.prog X.w H s.heap tp (.tup [.ty T.nm, .ty U.nm]) from I.hok tp _ hT)
  have e3 := ClsV.all (.cons (.ty _) (.cons (.ty _) .nil)) rv
  subst e3
  obtain ⟨oc, od, dt, sl⟩ := ot
  simp only at h2 h3
  subst h2 h3
  exact PySem.W.kia_tup PySem.W.kitx_dict I.kIn ⟨o, e1, hc.1⟩ h1 (kit2 T U (.dict [])) (fun z => nomatch z) fun tk => ⟨.bl _, H, I.tok tk, rfl, q⟩
theorem isiTOK {X : Cx} {K : PySem.W.Frag} (h : X.K = K) : CallR X (.builtin "isinstance") (rIsiTO K) := by subst h; exact call_isiTO
theorem isiT_ty {K : PySem.W.Frag} {H : Hp} {v : V} {d : PyData} {p : Addr} (T U : Ty) {Q : VK} (h : TyX K H v (.type (tyD d))) (hp : H p = some (.tup [.ty T.nm, .ty U.nm])) (q : Q (.bl (isT T d || isT U d)) H) : rIsiTO K [v, .ref p] H Q :=
  .inl ⟨v, p, _, _, [.type T.nm, .type U.nm], isT T d || isT U d, rfl, hp, .cons (.ty _) (.cons (.ty _) .nil), h, kit2 T U d, q⟩
theorem isiT_odd {w : World} {K : PySem.W.Frag} {H : Hp} {a p : Addr} {kvs : List NV} (T U : Ty) {Q : VK} (F : FzN w H a kvs) (hp : H p = some (.tup [.ty T.nm, .ty U.nm])) (q : Q (.bl (isT T (.dict []) || isT U (.dict []))) H) : rIsiTO K [.ref a, .ref p] H Q := by
  obtain ⟨o, h1, h2⟩ := F.li
  exact .inr ⟨a, p, o, T, U, rfl, hp, h1, h2.cls, q⟩
end SC

set_option Elab.async false
set_option linter.all false
set_option maxRecDepth 100000
set_option maxHeartbeats 4000000
namespace SC
open PySem L2
local macro_rules | `(tactic| walk_at "rd") => `(tactic| simp only [tDGet1, tDGet2, tLock_asg, tListEn, tTwo5, iZip, tM1, tM0, tFmt, tJs, tRevL, tPar3, tSeq, tNext, tIfS, tB, tTest, tCB, tCons, tC, tNil, tVar, tRet, tRetN, tAsg, gName, tOp, tUn, tAnd, tOr, tNot, tAndV, tOrV, tNotV, tIf, tDrop, tCall, tCallK, rI, rI0, rU, rEq, rNe, tPar, tAug, ipI, tLst, tTup, tDNewK, tDGet, tDIn, tDNotIn, sDPut, tBM, tBM0, gSub, rSetL, tChain, gTup, gCons, gNil, tYes, tBreak, tCont, tDisp, tPairs, rLenK, rLenA, rListK, L2.start, L2.wipe, cx_K, tFor_eq, tLc_eq, tDc_eq, tSl, tPart, tNoPart, iList, iTup, iRng1, iRng2, iKeys, iStr, iEnum, iEnumK, List.map_cons, List.map_nil, List.length_cons, List.length_nil, Nat.reduceAdd, Nat.reduceSub, List.reduceReplicate, List.replicate_zero, List.append_nil, List.nil_append, List.cons_append, List.getElem?_cons_zero, List.getElem?_cons_succ, Option.some.injEq, exists_eq_left', exists_eq_left, exists_eq', exists_eq, exists_and_left, V.int.injEq, V.ref.injEq, V.str.injEq, V.bl.injEq, List.cons.injEq, and_true, true_and, and_assoc, Bool.false_eq_true, ↓reduceIte, List.set_cons_zero, List.set_cons_succ, decide_eq_true_eq, Bool.not_eq_true', decide_eq_false_iff_not, Nat.zero_add, Nat.zero_sub, Nat.sub_self, Nat.sub_zero])

def top (i : Nat) : Stmt := PySem.Challenge.pw_schemacheck_k02_documents_judged.main.body.getD i (.Pass ⟨0, 0, 0, 0⟩)
/-! ### data in which a dict may have a None key -/
/-- an instance of an own class -/
def IsIns (K : PySem.W.Frag) (H : Hp) (v : V) : Prop := ∃ a C dx fs, v = .ref a ∧ H a = some (.ins C dx fs) ∧ InsT K C
theorem IsIns.imp {K : PySem.W.Frag} {H H' : Hp} {v : V} (s : Same H H') (h : IsIns K H v) : IsIns K H' v := by
  obtain ⟨a, C, dx, fs, h1, h2, h3⟩ := h
  exact ⟨a, C, dx, fs, h1, s _ _ h2, h3⟩
theorem IsIns.lk {K : PySem.W.Frag} {H H' : Hp} {v : V} (ls : LSame H H') (h : IsIns K H v) : IsIns K H' v := by
  obtain ⟨a, C, dx, fs, h1, h2, h3⟩ := h
  rcases ls _ _ h2 with h | ⟨_, _, h, _⟩
  · exact ⟨a, C, dx, fs, h1, h, h3⟩
  · cases h
/-- data or an instance -/
def RZ (K : PySem.W.Frag) (H : Hp) (n : Nat) (v : V) (d : PyData) : Prop := Rp H n v d ∨ (d = .tuple [] ∧ IsIns K H v)
theorem RZ.val {K : PySem.W.Frag} {H : Hp} {n : Nat} {v : V} {d : PyData} (h : RZ K H n v d) (hne : d ≠ .tuple []) : Rp H n v d := h.elim id fun z => absurd z.1 hne
theorem RZ.imp {K : PySem.W.Frag} {H H' : Hp} {n : Nat} {v : V} {d : PyData} (s : Same H H') (h : RZ K H n v d) : RZ K H' n v d := Or.imp (fun z => Rp.imp s z) (fun z => ⟨z.1, z.2.imp s⟩) h
theorem isiZ {K : PySem.W.Frag} {H : Hp} {n : Nat} {v : V} {d : PyData} (T : Ty) {Q : VK} (h : RZ K H n v d) (q : Q (.bl (isT T d)) H) (hT : T ≠ .tuple := by intro h; cases h) : rIsi K [v, .ty T.nm] H Q := by
  rcases h with h | ⟨rfl, a, C, dx, fs, rfl, e, i⟩
  · exact isi1 T h q
  · refine isi_ins T i e ?_
    cases T <;> first | exact q | exact absurd rfl hT
/-- D: what stands at a dict's address -/
def RX (P : Program) (w : World) (K : PySem.W.Frag) (D : Hp → Addr → List (Key × V) → Prop) (H : Hp) : Nat → V → PyData → Prop
  | 0, _, _ => False
  | n + 1, v, .list ds => ∃ a xs, v = .ref a ∧ H a = some (.lst xs) ∧ xs.length ≤ 10000 ∧ Paired (RX P w K D H n) xs ds
  | n + 1, v, .dict es => (∃ a kvs, v = .ref a ∧ D H a kvs ∧ kvs.length ≤ 10000 ∧ (kvs.map (·.1)).Nodup ∧ Paired (KvR (RX P w K D H n)) kvs es) ∨
      ∃ a kvs, v = .ref a ∧ FzN w H a kvs ∧ kvs.length ≤ 15 ∧ (∃ e ∈ es, ∀ x, e.1 ≠ PyData.str x) ∧ Paired (fun (p : NV) (q : PyData × PyData) => Rp H 3 p.2.1 q.1 ∧ RX P w K D H n p.2.2 q.2) kvs es
  | n + 1, v, .none => Rp H (n + 1) v .none
  | n + 1, v, .bool b => Rp H (n + 1) v (.bool b)
  | n + 1, v, .int i => Rp H (n + 1) v (.int i)
  | n + 1, v, .str x => Rp H (n + 1) v (.str x)
  | n + 1, v, .tuple ds => Rp H (n + 1) v (.tuple ds) ∨ (ds = [] ∧ IsIns K H v)
abbrev DU : Hp → Addr → List (Key × V) → Prop := fun H a kvs => H a = some (.dK kvs)
abbrev DL : Hp → Addr → List (Key × V) → Prop := fun H a kvs => Rd H a (.dK kvs)
abbrev ReX (P : Program) (w : World) (K : PySem.W.Frag) (H : Hp) := RX P w K DU H
abbrev RpX (P : Program) (w : World) (K : PySem.W.Frag) (H : Hp) := RX P w K DL H
theorem lsame_lst {H H' : Hp} (ls : LSame H H') {a : Addr} {xs : List V} (h : H a = some (.lst xs)) : H' a = some (.lst xs) := by
  rcases ls _ _ h with h | ⟨_, _, h, _⟩
  · exact h
  · cases h
theorem RX.mono {P : Program} {w : World} {K : PySem.W.Frag} {D D' : Hp → Addr → List (Key × V) → Prop} {H H' : Hp} (hd : ∀ a kvs, D H a kvs → D' H' a kvs) (ls : LSame H H') : ∀ {n : Nat} {v : V} {d : PyData}, RX P w K D H n v d → RX P w K D' H' n v d
  | 0, _, _, h => h.elim
  | n + 1, v, .list ds, ⟨a, xs, h1, h2, h3, h4⟩ => ⟨a, xs, h1, lsame_lst ls h2, h3, pd_imp h4 fun _ _ _ _ r => r.mono hd ls⟩
  | n + 1, v, .dict es, .inl ⟨a, kvs, h1, h2, h3, h4, h5⟩ => .inl ⟨a, kvs, h1, hd _ _ h2, h3, h4, pd_imp h5 fun _ _ _ _ r => ⟨r.1, r.2.mono hd ls⟩⟩
  | n + 1, v, .dict es, .inr ⟨a, kvs, h1, h2, h3, h4, h5⟩ => .inr ⟨a, kvs, h1, h2.lk ls, h3, h4, pd_imp h5 fun _ _ _ _ r => ⟨Rp.lk ls r.1, r.2.mono hd ls⟩⟩
  | n + 1, v, .none, h => Rp.lk (n := n + 1) ls h
  | n + 1, v, .bool _, h => Rp.lk (n := n + 1) ls h
  | n + 1, v, .int _, h => Rp.lk (n := n + 1) ls h
  | n + 1, v, .str _, h => Rp.lk (n := n + 1) ls h
  | n + 1, v, .tuple _, h => h.imp (fun h => Rp.lk (n := n + 1) ls h) fun h => ⟨h.1, h.2.lk ls⟩
theorem RX.imp {P : Program} {w : World} {K : PySem.W.Frag} {H H' : Hp} {n : Nat} {v : V} {d : PyData} (s : Same H H') (h : ReX P w K H n v d) : ReX P w K H' n v d := h.mono (fun _ _ e => s _ _ e) (.of s)
theorem RX.impL {P : Program} {w : World} {K : PySem.W.Frag} {H H' : Hp} {n : Nat} {v : V} {d : PyData} (s : LSame H H') (h : RpX P w K H n v d) : RpX P w K H' n v d := h.mono (fun _ _ e => by
  rcases e with e | ⟨od, e⟩
  · rcases s _ _ e with h | ⟨kvs, od, h1, h2⟩
    · exact .inl h
    · cases h1; exact .inr ⟨od, h2⟩
  · rcases s _ _ e with h | ⟨_, _, h, _⟩
    · exact .inr ⟨od, h⟩
    · cases h) s
theorem RX.rp {P : Program} {w : World} {K : PySem.W.Frag} {H : Hp} {n : Nat} {v : V} {d : PyData} (h : ReX P w K H n v d) : RpX P w K H n v d := h.mono (fun _ _ e => .inl e) (.refl _)
theorem Re.x {P : Program} {w : World} {K : PySem.W.Frag} {H : Hp} : ∀ {n : Nat} {v : V} {d : PyData}, Re H n v d → ReX P w K H n v d
  | 0, _, _, h => h.elim
  | n + 1, v, .list ds, ⟨a, xs, h1, h2, h3, h4⟩ => ⟨a, xs, h1, h2, h3, pd_imp h4 fun _ _ _ _ r => r.x⟩
  | n + 1, v, .dict es, ⟨a, kvs, h1, h2, h3, h4, h5⟩ => .inl ⟨a, kvs, h1, h2, h3, h4, pd_imp h5 fun _ _ _ _ r => ⟨r.1, r.2.x⟩⟩
  | n + 1, v, .none, h => Re.rp (n := n + 1) h
  | n + 1, v, .bool _, h => Re.rp (n := n + 1) h
  | n + 1, v, .int _, h => Re.rp (n := n + 1) h
  | n + 1, v, .str _, h => Re.rp (n := n + 1) h
  | n + 1, v, .tuple _, h => .inl (Re.rp (n := n + 1) h)
theorem RX.leaf {P : Program} {w : World} {K : PySem.W.Frag} {D : Hp → Addr → List (Key × V) → Prop} {H : Hp} {n : Nat} {v : V} {d : PyData} (h : RX P w K D H n v d) (h1 : ¬ isT .list d = true) (h2 : ¬ isT .dict d = true) : RZ K H n v d := by
  cases n with
  | zero => exact h.elim
  | succ n => cases d <;> first | exact absurd rfl h1 | exact absurd rfl h2 | exact .inl h | exact Or.imp id (fun z => ⟨by rw [z.1], z.2⟩) (show _ ∨ _ from h)
theorem isiX {K : PySem.W.Frag} {P : Program} {w : World} {H : Hp} {n : Nat} {v : V} {d : PyData} (T : Ty) {Q : VK} (h : RpX P w K H n v d) (q : Q (.bl (isT T d)) H) (hT : T ≠ .tuple := by intro h; cases h) : rIsiO K [v, .ty T.nm] H Q := by
  cases n with
  | zero => exact h.elim
  | succ n =>
  cases d with
  | list ds =>
    obtain ⟨a, xs, rfl, h2, _⟩ := h
    exact .inl (isiL T h2 (by rw [show isT T (.list []) = isT T (.list ds) from by cases T <;> rfl]; exact q))
  | dict es =>
    rcases h with ⟨a, kvs, rfl, h2, _⟩ | ⟨a, kvs, rfl, h2, _⟩
    · have e : isT T (.dict []) = isT T (.dict es) := by cases T <;> rfl
      rcases h2 with h2 | ⟨od, h2⟩
      · refine .inl ⟨.ref a, .ty T.nm, _, _, isT T (.dict []), rfl, .ty T.nm, .base (.dK h2), kit_ty (kit_isT T (.dict [])), ?_⟩
        rw [e]
        exact q
      · refine .inl ⟨.ref a, .ty T.nm, _, _, isT T (.dict []), rfl, .ty T.nm, .fDict h2, kit_ty (kit_isT T (.dict [])), ?_⟩
        rw [e]
        exact q
    · refine h2.isi (kit_isT T (.dict [])) ?_
      rw [show isT T (.dict []) = isT T (.dict es) from by cases T <;> rfl]
      exact q
  | none => exact .inl (isi1 T h q)
  | bool b => exact .inl (isi1 T h q)
  | int i => exact .inl (isi1 T h q)
  | str x => exact .inl (isi1 T h q)
  | tuple ds => exact .inl (isiZ T (Or.imp id (fun z => ⟨by rw [z.1], z.2⟩) (show _ ∨ _ from h)) q hT)

/-! ### depth_of -/
abbrev s_depth_of : Stmt := top 17
theorem sc_depth_of : FnScope ["document", "name", "part"] ["document"] (defScope s_depth_of) := ⟨rfl, rfl, rfl, by decide +kernel, rfl, by decide +kernel, by decide +kernel⟩
section
variable {P : Program} {w : World} {K : PySem.W.Frag} {mg : Str → Option Value} {base : Heap} {f : Addr} {fd : FuncData}
/-- how deep -/
def mx : List Int → Int
  | [] => 0
  | x :: r => if mx r < x then x else mx r
theorem mx_le : ∀ {l : List Int} {y : Int}, y ∈ (0 : Int) :: l → y ≤ mx l
  | [], y, h => by simp at h; subst h; exact Int.le_refl _
  | x :: r, y, h => by
    have h0 := mx_le (l := r) (y := 0) (by simp)
    show y ≤ (if mx r < x then x else mx r)
    rcases List.mem_cons.mp h with rfl | h
    · split <;> omega
    · rcases List.mem_cons.mp h with rfl | h
      · split <;> omega
      · have := mx_le (l := r) (y := y) (by simp [h])
        split <;> omega
theorem mx_mem : ∀ l : List Int, mx l ∈ (0 : Int) :: l
  | [] => by simp [mx]
  | x :: r => by
    show (if mx r < x then x else mx r) ∈ _
    split
    · simp
    · have := mx_mem r
      simp at this ⊢
      rcases this with h | h
      · exact .inl h
      · exact .inr (.inr h)
theorem mx_is {l : List Int} {m : Int} (h1 : m ∈ (0 : Int) :: l) (h2 : ∀ y ∈ (0 : Int) :: l, y ≤ m) : m = mx l :=
  Int.le_antisymm (mx_le h1) (h2 _ (mx_mem l))
def dep : Nat → PyData → Int
  | 0, _ => 1
  | n + 1, .list ds => 1 + mx (ds.map (dep n))
  | n + 1, .dict es => 1 + mx (es.map fun e => dep n e.2)
  | _ + 1, _ => 1
theorem dep_le : ∀ (n : Nat) (d : PyData), 1 ≤ dep n d ∧ dep n d ≤ n + 1 := by
  intro n
  induction n with
  | zero => intro d; exact ⟨by show (1 : Int) ≤ 1; omega, by show (1 : Int) ≤ _; omega⟩
  | succ n ih =>
    intro d
    have key : ∀ l : List Int, (∀ x ∈ l, 1 ≤ x ∧ x ≤ n + 1) → 1 ≤ 1 + mx l ∧ 1 + mx l ≤ (n + 1 : Nat) + 1 := fun l hl => by
      have h0 := mx_le (l := l) (y := 0) (by simp)
      have h1 := mx_mem l
      rcases List.mem_cons.mp h1 with h1 | h1
      · omega
      · have := hl _ h1
        omega
    cases d with
    | list ds =>
      refine key _ fun x hx => ?_
      obtain ⟨e, _, rfl⟩ := List.mem_map.mp hx
      exact ih e
    | dict es =>
      refine key _ fun x hx => ?_
      obtain ⟨e, _, rfl⟩ := List.mem_map.mp hx
      exact ih e.2
    | _ => exact ⟨by show (1 : Int) ≤ 1; omega, by show (1 : Int) ≤ _; omega⟩
theorem max0 {K : PySem.W.Frag} {H : Hp} {p D : Addr} {ns : List Int} {R : Int → Hp → Prop} (h1 : H p = some (.lst [.int 0])) (h2 : H D = some (.lst (ns.map V.int))) (hl : ns.length ≤ 10000) (q : ∀ H', Same H H' → R (mx ns) H') :
    rCat (.ref p) (.ref D) H fun x H1 => rMax K [x] H1 fun y H2 => ∃ z, y = V.int z ∧ R z H2 := by
  refine ⟨p, D, _, _, rfl, rfl, h1, h2, ?_, fun r hr => ?_⟩
  · rw [List.length_map]
    exact sz5 (by simp; omega)
  refine ⟨r, 0 :: ns, rfl, SqL.of upd_same, by simp, fun m hm hle => ⟨m, rfl, ?_⟩⟩
  rw [mx_is hm hle]
  exact q _ (same_new hr _)
def sp_depthX (P : Program) (w : World) (K : PySem.W.Frag) (n : Nat) : Sp := fun vs H Q _ => ∃ v d, vs = [v] ∧ RpX P w K H n v d ∧ ∀ H', Same H H' → Q (.int (dep n d)) H'
theorem ok_depthX {n : Nat} (D : Def K mg "depth_of" s_depth_of f fd) (B : Blt mg) (R_depth_of : Rdy P w K mg base n "depth_of" ["document"] (sp_depthX P w K n)) : FnOk P w K mg base CX0 (n + 1) f fd ["document"] (sp_depthX P w K (n + 1)) := by
  refine D.1.ok sc_depth_of (fun vs H Q E h => ?_) (fun cdv A outer s H vs Q E hr h => ?_)
  · obtain ⟨v, d, rfl, _⟩ := h
    rfl
  obtain ⟨v, d, rfl, hd, q⟩ := h
  have hu := hu_of hr
  refine ⟨_, (pss_cons (ps_if (pt_val (pe_callB (isiOK (K := K) rfl) (by rfl) B.b_isinstance (by decide +kernel) (pa_cons (pv 0) (pa_cons (pe_bltn (v := .ty "dict") (by rfl) B.b_dict (by decide +kernel) rfl) pa_nil))))
   (pss_one (ps_ret (pe_op op_add pe_int (pe_callB (maxK (K := K) rfl rfl) (by rfl) B.b_max (by decide +kernel) (pa_cons (pe_op op_cat (pe_lst (pa_cons pe_int pa_nil)) (pe_either (pe_lock (pe_lc (own := [("name", 1)]) (by rfl) sc_depth_of.nd (pi_keys (pv 0)) (blkOk_by (own := [("name", 1)]) (N := ["document", "name", "part"]) (sc := defScope s_depth_of) (by decide +kernel)) (fun _ _ _ _ _ => (pg_name (i := 1) sc_depth_of.nd rfl (by first | exact Or.inl rfl | exact Or.inr rfl))) (fun _ _ _ _ _ => pts_nil) (fun _ _ _ _ _ => (pe_c R_depth_of hr rfl (pa_cons (pe_dget hu (pv 0) (pv 1) (fun _ _ => rfl)) pa_nil))))) (pe_lc (own := [("name", 1)]) (by rfl) sc_depth_of.nd (pi_N rfl (pv 0)) (blkOk_by (own := [("name", 1)]) (N := ["document", "name", "part"]) (sc := defScope s_depth_of) (by decide +kernel)) (fun _ _ _ _ _ => (pg_name (i := 1) sc_depth_of.nd rfl (by first | exact Or.inl rfl | exact Or.inr rfl))) (fun _ _ _ _ _ => pts_nil) (fun _ _ _ _ _ => (pe_c R_depth_of hr rfl (pa_cons (pe_dgetN rfl (u9 hr) (pv 0) (pv 1) (fun _ _ => rfl)) pa_nil)))))) pa_nil)))))
   pss_nil)
  (pss_cons (ps_if (pt_val (pe_callB (isiOK (K := K) rfl) (by rfl) B.b_isinstance (by decide +kernel) (pa_cons (pv 0) (pa_cons (pe_bltn (v := .ty "list") (by rfl) B.b_list (by decide +kernel) rfl) pa_nil))))
   (pss_one (ps_ret (pe_op op_add pe_int (pe_callB (maxK (K := K) rfl rfl) (by rfl) B.b_max (by decide +kernel) (pa_cons (pe_op op_cat (pe_lst (pa_cons pe_int pa_nil)) (pe_lc (own := [("part", 2)]) (by rfl) sc_depth_of.nd (pi_list (pv 0)) (blkOk_by (own := [("part", 2)]) (N := ["document", "name", "part"]) (sc := defScope s_depth_of) (by decide +kernel)) (fun _ _ _ _ _ => (pg_name (i := 2) sc_depth_of.nd rfl (by first | exact Or.inl rfl | exact Or.inr rfl))) (fun _ _ _ _ _ => pts_nil) (fun _ _ _ _ _ => (pe_c R_depth_of hr rfl (pa_cons (pv 2) pa_nil))))) pa_nil)))))
   pss_nil)
  (pss_one (ps_ret pe_int)))), ?_⟩
  walk_at "rd"
  cases d with
  | none => exact isiX .dict hd ⟨_, rfl, iteF (isiX .list hd ⟨_, rfl, iteF (q H (Same.refl H))⟩)⟩
  | bool b => exact isiX .dict hd ⟨_, rfl, iteF (isiX .list hd ⟨_, rfl, iteF (q H (Same.refl H))⟩)⟩
  | int b => exact isiX .dict hd ⟨_, rfl, iteF (isiX .list hd ⟨_, rfl, iteF (q H (Same.refl H))⟩)⟩
  | str b => exact isiX .dict hd ⟨_, rfl, iteF (isiX .list hd ⟨_, rfl, iteF (q H (Same.refl H))⟩)⟩
  | tuple b => exact isiX .dict hd ⟨_, rfl, iteF (isiX .list hd ⟨_, rfl, iteF (q H (Same.refl H))⟩)⟩
  | list ds =>
    obtain ⟨a, xs, rfl, ha, hb, hp⟩ := id hd
    refine isiX .dict hd ⟨_, rfl, iteF (isiX .list hd ⟨_, rfl, iteT ⟨by decide, fun p np => ?_⟩⟩)⟩
    have s0 : Same H (upd H p (.lst [.int 0])) := same_new np _
    refine ⟨a, rfl, ⟨xs, SqL.of (s0 _ _ ha)⟩, lcP_list (SqL.of (s0 _ _ ha)) ((ds.map (dep n)).map V.int) (by simp [pd_len hp]) (by omega) ?_ ?_⟩
    · intro i x y H' N hx hy s N'
      obtain ⟨e, he, hr'⟩ := pd_get hp hx
      walk_at "rd"
      refine ⟨x, e, rfl, hr'.impL (.of (s0.trans s)), fun H4 s4 => ?_⟩
      simp [he] at hy
      subst hy
      exact N' H4 s4
    · intro D' H' nD s e
      exact max0 (s _ _ upd_same) e (by simp [← pd_len hp]; omega) fun H2 s2 => q H2 ((s0.trans s).trans s2)
  | dict es =>
    rcases id hd with ⟨a, kvs, rfl, ha, hb, hn, hp⟩ | ⟨a, kvs, rfl, ho, hb, _, hp⟩
    · refine isiX .dict hd ⟨_, rfl, iteT ⟨by decide, fun p np => .inl ?_⟩⟩
      have s0 : Same H (upd H p (.lst [.int 0])) := same_new np _
      refine lcD_keys (rd_same s0 ha) upd_same rfl np s0 ((es.map fun e => dep n e.2).map V.int) (by simp [pd_len hp]) (by omega) ?_ ?_
      · intro i k v y H' N hk hy ls ha' N'
        obtain ⟨e, he, hk', hr'⟩ := pd_get hp hk
        walk_at "rd"
        refine ⟨v, .inl ⟨kvs, k, ha', rfl, (valV_at hn hk).symm⟩, ?_⟩
        refine ⟨v, e.2, rfl, hr'.impL ls, fun H4 s4 => ?_⟩
        simp [he] at hy
        subst hy
        exact N' H4 s4
      · intro D' H' nD s e
        exact max0 (s _ _ upd_same) e (by simp [← pd_len hp]; omega) fun H2 s2 => q H2 ((s0.trans s).trans s2)
    · refine isiX .dict hd ⟨_, rfl, iteT ⟨by decide, fun p np => .inr ?_⟩⟩
      have s0 : Same H (upd H p (.lst [.int 0])) := same_new np _
      have ho0 := ho.imp s0
      have hlp := pd_len hp
      refine ⟨_, rfl, a, kvs, rfl, ho0, fun o o2 => ?_⟩
      refine lcP_map (walk_N (kvs := kvs)) (fun i x => ∃ k v, kvs[i]? = some (k, x, v)) (fun _ _ _ _ h => h) (fun H' s => s _ _ o2) ((es.map fun e => dep n e.2).map V.int) (by simp [hlp]) (by omega) (fun i x y H' N hx hy s N' => ?_) fun D' H' nD s e => ?_
      · obtain ⟨k, v, hk⟩ := hx
        obtain ⟨e, he, hk', hr'⟩ := pd_get hp hk
        walk_at "rd"
        refine ⟨_, rfl, _, rfl, a, kvs, i, k, x, v, rfl, (ho0.imp s).ks _ (List.mem_of_getElem? hk), ho0.imp s, hk, v, e.2, rfl, hr'.impL (.of (s0.trans s)), fun H4 s4 => ?_⟩
        simp [he] at hy
        subst hy
        exact N' H4 s4
      · exact max0 (s _ _ upd_same) e (by simp [← hlp]; omega) fun H2 s2 => q H2 ((s0.trans s).trans s2)
end
section
variable {P : Program} {w : World} {K : PySem.W.Frag} {mg : Str → Option Value} {base : Heap} {f : Addr} {fd : FuncData}
theorem ok_depthsX (D : Def K mg "depth_of" s_depth_of f fd) (B : Blt mg) : ∀ n : Nat, FnOk P w K mg base CX0 n f fd ["document"] (sp_depthX P w K n)
  | 0 => ⟨fun vs H Q E ⟨_, _, _, h, _⟩ => h.elim, fun A outer s H args us vs Q E _ _ _ _ ⟨_, _, _, h, _⟩ => h.elim⟩
  | n + 1 => ok_depthX D B (D.rdy (fun _ _ _ _ _ _ us hl => match us, hl with | [_], _ => rfl) (ok_depthsX D B n))
end

/-! ### is_integer, is_text, first_wrong -/
def sp_isint (K : PySem.W.Frag) : Sp := fun vs H Q _ => ∃ n v d, vs = [v] ∧ RZ K H n v d ∧ Q (.bl (isIntD d)) H
def sp_text (K : PySem.W.Frag) : Sp := fun vs H Q _ => ∃ n v d, vs = [v] ∧ RZ K H n v d ∧ (∀ x, d = .str x → x.length ≤ 1000) ∧ Q (.bl (isTextD d)) H
abbrev s_is_integer : Stmt := top 14
theorem sc_is_integer : FnScope ["value"] ["value"] (defScope s_is_integer) := ⟨rfl, rfl, rfl, by decide +kernel, rfl, by decide +kernel, by decide +kernel⟩
abbrev s_is_text : Stmt := top 15
theorem sc_is_text : FnScope ["value"] ["value"] (defScope s_is_text) := ⟨rfl, rfl, rfl, by decide +kernel, rfl, by decide +kernel, by decide +kernel⟩
abbrev s_first_wrong : Stmt := top 18
theorem sc_first_wrong : FnScope ["value", "rows", "key", "part", "found", "name"] ["value"] (defScope s_first_wrong) := ⟨rfl, rfl, rfl, by decide +kernel, rfl, by decide +kernel, by decide +kernel⟩
abbrev s_document_problem : Stmt := top 19
theorem sc_document_problem : FnScope ["value"] ["value"] (defScope s_document_problem) := ⟨rfl, rfl, rfl, by decide +kernel, rfl, by decide +kernel, by decide +kernel⟩
section
variable {P : Program} {w : World} {K : PySem.W.Frag} {mg : Str → Option Value} {base : Heap} {f : Addr} {fd : FuncData}
theorem ok_isint (D : Def K mg "is_integer" s_is_integer f fd) (B : Blt mg) : FnOk P w K mg base CX0 1 f fd ["value"] (sp_isint K) := by
  refine D.1.ok sc_is_integer (fun vs H Q E h => ?_) (fun cdv A outer s H vs Q E hr h => ?_)
  · obtain ⟨n, v, d, rfl, _⟩ := h
    rfl
  obtain ⟨n, v, d, rfl, hd, q⟩ := h
  refine ⟨_, (pss_one (ps_ret (pe_and (pe_callB (isiK (K := K) rfl) (by rfl) B.b_isinstance (by decide +kernel) (pa_cons (pv 0) (pa_cons (pe_bltn (v := .ty "int") (by rfl) B.b_int (by decide +kernel) rfl) pa_nil))) (pe_one (pe_not (pe_callB (isiK (K := K) rfl) (by rfl) B.b_isinstance (by decide +kernel) (pa_cons (pv 0) (pa_cons (pe_bltn (v := .ty "bool") (by rfl) B.b_bool (by decide +kernel) rfl) pa_nil)))))))), ?_⟩
  walk_at "rd"
  refine isiZ .int hd ⟨_, rfl, ite2 (fun h1 => isiZ .bool hd ⟨_, rfl, ?_⟩) fun h1 => ?_⟩
  · cases d <;> first | exact q | cases h1
  · cases d <;> first | exact q | exact absurd rfl h1
theorem ok_text (D : Def K mg "is_text" s_is_text f fd) (B : Blt mg) {t1 : Tok} (g_MOST_TEXT : mg "MOST_TEXT" = some (.int 60 t1)) : FnOk P w K mg base CX0 1 f fd ["value"] (sp_text K) := by
  refine D.1.ok sc_is_text (fun vs H Q E h => ?_) (fun cdv A outer s H vs Q E hr h => ?_)
  · obtain ⟨n, v, d, rfl, _⟩ := h
    rfl
  obtain ⟨n, v, d, rfl, hd, hs, q⟩ := h
  refine ⟨_, (pss_one (ps_ret (pe_and (pe_callB (isiK (K := K) rfl) (by rfl) B.b_isinstance (by decide +kernel) (pa_cons (pv 0) (pa_cons (pe_bltn (v := .ty "str") (by rfl) B.b_str (by decide +kernel) rfl) pa_nil))) (pe_one (pe_cmpR op_le (pe_callB (lenK (K := K) rfl) (by rfl) B.b_len (by decide +kernel) (pa_cons (pv 0) pa_nil)) (pe_gint (by rfl) g_MOST_TEXT) (nomark _)))))), ?_⟩
  walk_at "rd"
  refine isiZ .str hd ⟨_, rfl, ite2 (fun h1 => ?_) fun h1 => ?_⟩
  · obtain ⟨x, rfl⟩ : ∃ x, d = .str x := by cases d <;> first | exact ⟨_, rfl⟩ | cases h1
    have hd := hd.val (by simp)
    cases n with
    | zero => exact hd.elim
    | succ n =>
      cases hd
      refine ⟨x.length, ⟨sz5 (by have := hs x rfl; omega), rfl⟩, ?_⟩
      rw [show decide ((x.length : Int) ≤ 60) = decide (x.length ≤ 60) from decide_eq_decide.mpr (by omega)]
      exact q
  · cases d <;> first | exact q | exact absurd rfl h1
def sp_fw (P : Program) (w : World) (K : PySem.W.Frag) (n : Nat) : Sp := fun vs H Q _ => ∃ v d, vs = [v] ∧ ReX P w K H n v d ∧ smallD n d ∧ n ≤ 100 ∧ ∀ v' H', Same H H' → pathV (fwN n d) H' v' → Q v' H'
/-- the rows that are walked -/
structure FwRows (P : Program) (w : World) (K : PySem.W.Frag) (H : Hp) (r : Addr) (n : Nat) (rs : List (Key × PyData)) : Prop where
  li : ∃ ts : List Addr, H r = some (.lst (ts.map V.ref)) ∧ ts.length = rs.length ∧ ∀ (j : Nat) (T : Addr), ts[j]? = some T → ∃ k v d, rs[j]? = some (k, d) ∧ H T = some (.tup [kV k, v]) ∧ ReX P w K H n v d ∧ smallD n d
structure FwLc (P : Program) (w : World) (K : PySem.W.Frag) (H H3 : Hp) (D : Addr) (n : Nat) (rs : List (Key × PyData)) (i : Nat) (H' : Hp) : Prop where
  li : ∃ ts : List Addr, Same H3 H' ∧ H' D = some (.lst (ts.map V.ref)) ∧ ts.length = i ∧ ∀ (j : Nat) (T : Addr), ts[j]? = some T → ∃ k v d, rs[j]? = some (k, d) ∧ H' T = some (.tup [kV k, v]) ∧ ReX P w K H n v d ∧ smallD n d
theorem ok_fw {n : Nat} (D : Def K mg "first_wrong" s_first_wrong f fd) (B : Blt mg) {t1 : Tok} (g_MOST_NUMBER : mg "MOST_NUMBER" = some (.int (10 ^ 30) t1)) (R_is_integer : Rdy P w K mg base 1 "is_integer" ["value"] (sp_isint K)) (R_is_text : Rdy P w K mg base 1 "is_text" ["value"] (sp_text K))
    (R_first_wrong : Rdy P w K mg base (n + 1) "first_wrong" ["value"] (sp_fw P w K n)) : FnOk P w K mg base CX0 (n + 2) f fd ["value"] (sp_fw P w K (n + 1)) := by
  refine D.1.ok sc_first_wrong (fun vs H Q E h => ?_) (fun cdv A outer s H vs Q E hr h => ?_)
  · obtain ⟨v, d, rfl, _⟩ := h
    rfl
  obtain ⟨v, d, rfl, hd, sm, h100, q⟩ := h
  have hu := hu_of hr
  have hr1 : Room 1 _ := hr.mono (by omega)
  have hdR := hd.rp
  refine ⟨_, (pss_cons (ps_if (pt_val (pe_callB (isiOK (K := K) rfl) (by rfl) B.b_isinstance (by decide +kernel) (pa_cons (pv 0) (pa_cons (pe_bltn (v := .ty "list") (by rfl) B.b_list (by decide +kernel) rfl) pa_nil))))
   (pss_one (ps_set (i := 1) sc_first_wrong.nd rfl (by first | exact Or.inl rfl | exact Or.inr rfl) (pe_listEn (K := K) rfl rfl (pv 0) (by rfl) B.b_list (by rfl) B.b_enumerate)))
   (pss_one (ps_if (pt_val (pe_callB (isiOK (K := K) rfl) (by rfl) B.b_isinstance (by decide +kernel) (pa_cons (pv 0) (pa_cons (pe_bltn (v := .ty "dict") (by rfl) B.b_dict (by decide +kernel) rfl) pa_nil))))
   (pss_cons (ps_if (pt_not (pt_val (pe_callB (allK (K := K) rfl rfl) (by rfl) B.b_all (by decide +kernel) (pa_cons (pe_either (pe_lock (pe_lc (own := [("name", 5)]) (by rfl) sc_first_wrong.nd (pi_keys (pv 0)) (blkOk_by (own := [("name", 5)]) (N := ["value", "rows", "key", "part", "found", "name"]) (sc := defScope s_first_wrong) (by decide +kernel)) (fun _ _ _ _ _ => (pg_name (i := 5) sc_first_wrong.nd rfl (by first | exact Or.inl rfl | exact Or.inr rfl))) (fun _ _ _ _ _ => pts_nil) (fun _ _ _ _ _ => (pe_c R_is_text hr1 rfl (pa_cons (pv 5) pa_nil))))) (pe_lc (own := [("name", 5)]) (by rfl) sc_first_wrong.nd (pi_N rfl (pv 0)) (blkOk_by (own := [("name", 5)]) (N := ["value", "rows", "key", "part", "found", "name"]) (sc := defScope s_first_wrong) (by decide +kernel)) (fun _ _ _ _ _ => (pg_name (i := 5) sc_first_wrong.nd rfl (by first | exact Or.inl rfl | exact Or.inr rfl))) (fun _ _ _ _ _ => pts_nil) (fun _ _ _ _ _ => (pe_c R_is_text hr1 rfl (pa_cons (pv 5) pa_nil))))) pa_nil))))
   (pss_one (ps_ret (pe_tup pa_nil)))
   pss_nil)
  (pss_one (ps_setLc (i := 1) (own := [("name", 5)]) (by rfl) sc_first_wrong.nd rfl rfl (sw_true rfl rfl rfl (by decide +kernel)) (pi_list (pe_callB (sortedSK (K := K) rfl) (by rfl) B.b_sorted (by decide +kernel) (pa_cons (pe_callTy (call_listD rfl) (by rfl) B.b_list (by decide +kernel) (pa_cons (pv 0) pa_nil)) pa_nil))) (blkOk_by (own := [("name", 5)]) (N := ["value", "rows", "key", "part", "found", "name"]) (sc := defScope s_first_wrong) (by decide +kernel)) (fun _ _ _ _ _ => (pg_name (i := 5) sc_first_wrong.nd rfl (by first | exact Or.inl rfl | exact Or.inr rfl))) (fun _ _ _ _ _ => pts_nil) (fun _ _ _ _ _ => (pe_tup (pa_cons (pv 5) (pa_cons (pe_dget hu (pv 0) (pv 5) (fun _ _ => rfl)) pa_nil)))))))
   (pss_one (ps_if (PW.pt (pw_or (pt_cmpR op_isN (pv 0) pe_non (nomark _)) (pw_or (pt_val (pe_callB (isiOK (K := K) rfl) (by rfl) B.b_isinstance (by decide +kernel) (pa_cons (pv 0) (pa_cons (pe_bltn (v := .ty "bool") (by rfl) B.b_bool (by decide +kernel) rfl) pa_nil)))) (pw_or1 (pt_val (pe_c R_is_text hr1 rfl (pa_cons (pv 0) pa_nil)))))))
   (pss_one (ps_ret pe_non))
   (pss_one (ps_ret (pe_ifExp (PW.pt (pw_and (pt_val (pe_c R_is_integer hr1 rfl (pa_cons (pv 0) pa_nil))) (pw_and1 (pt_chain op_le op_le (pe_un un_neg (pe_gint (by rfl) g_MOST_NUMBER)) (pv 0) (pe_gint (by rfl) g_MOST_NUMBER))))) pe_non (pe_tup pa_nil)))))))))
  (pss_cons (ps_for PassesOwn.never rfl (pi_list (pv 1)) (pg_tup (by rfl) (pgs_cons (pg_name (i := 2) sc_first_wrong.nd rfl (by first | exact Or.inl rfl | exact Or.inr rfl)) (pgs_cons (pg_name (i := 3) sc_first_wrong.nd rfl (by first | exact Or.inl rfl | exact Or.inr rfl)) pgs_nil)))
   (pss_cons (ps_set (i := 4) sc_first_wrong.nd rfl (by first | exact Or.inl rfl | exact Or.inr rfl) (pe_c R_first_wrong hr rfl (pa_cons (pv 3) pa_nil)))
  (pss_one (ps_if (pt_cmpR op_notN (pv 4) pe_non (nomark _))
   (pss_one (ps_ret (pe_op (op_catAK (K := K) rfl) (pe_tup (pa_cons (pv 2) pa_nil)) (pv 4))))
   pss_nil))))
  (pss_one (ps_ret pe_non)))), ?_⟩
  refine cutM (fun σ' H' => Same H H' ∧ ∃ r rs, fwN (n + 1) d = fstR (fwN n) rs ∧ FwRows P w K H' r n rs ∧ rs.length ≤ 10000 ∧ ∃ z1 z2 z3 z4, σ' = [some v, some (.ref r), z1, z2, z3, z4]) (fun N hN => ?_) ?_
  · walk_at "rd"
    refine isiX .list hdR ⟨_, rfl, ite2 (fun h1 => ?_) fun h1 => isiX .dict hdR ⟨_, rfl, ite2 (fun h2 => ?_) fun h2 => ?_⟩⟩
    · obtain ⟨a, rfl⟩ : ∃ a, d = .list a := by cases d <;> first | exact ⟨_, rfl⟩ | cases h1
      obtain ⟨p1, xs, rfl, ha, hb, hp⟩ := id hd
      refine ⟨p1, rfl, xs, SqL.of ha, sz5l (by omega), fun S ts H2 nS s2 eS hl hrow => hN _ _ ⟨s2, S, rowsL a, rfl, ⟨ts, eS, by rw [hl, pd_len hp]; simp [rowsL], fun j T hj => ?_⟩, by simp [rowsL, ← pd_len hp]; omega, _, _, _, _, rfl⟩⟩
      obtain ⟨x, h3, h4, _⟩ := hrow j T hj
      obtain ⟨dj, h5, h6⟩ := pd_get hp h3
      exact ⟨.inl (j : Nat), x, dj, by simp [rowsL, List.getElem?_zipIdx, h5], h4, h6.imp s2, sm _ (List.mem_of_getElem? h5)⟩
    · obtain ⟨a, rfl⟩ : ∃ a, d = .dict a := by cases d <;> first | exact ⟨_, rfl⟩ | cases h2
      rcases id hd with ⟨p1, xs, rfl, ha, hb, hn, hp⟩ | ⟨p1, kvs, rfl, ho, hb, hno, hp⟩
      rotate_left
      · have hlp := pd_len hp
        refine .inr ⟨_, rfl, p1, kvs, rfl, ho, fun o o2 => ?_⟩
        refine lcP_map (walk_N (kvs := kvs)) (fun i x => ∃ k v, kvs[i]? = some (k, x, v)) (fun _ _ _ _ h => h) (fun H' s => s _ _ o2) ((a.map fun e => isTextD e.1).map V.bl) (by simp [hlp]) (by omega) (fun i x y H' N' hx hy s Nn => ?_) fun D' H2 nD s2 e2 => ?_
        · obtain ⟨k, v, hk⟩ := hx
          obtain ⟨e, he, hk', _⟩ := pd_get hp hk
          simp only [List.getElem?_map, he, Option.map_some, Option.some.injEq] at hy
          subst hy
          walk_at "rd"
          exact ⟨3, _, e.1, rfl, .inl (hk'.imp s), fun x hx => ((sm.2 _ (List.mem_of_getElem? he)).1 x hx).1, Nn _ (Same.refl _)⟩
        · refine ⟨D', _, rfl, SqL.of e2, _, rfl, ?_⟩
          have e0 : (a.map fun e => isTextD e.1).all id = a.all fun e => isTextD e.1 := by rw [List.all_map]; rfl
          have hf : (a.all fun e => isTextD e.1) = false := by
            obtain ⟨e, he, hne⟩ := hno
            rw [List.all_eq_false]
            refine ⟨e, he, ?_⟩
            cases h : e.1 with
            | str x => exact absurd h (hne x)
            | _ => simp [isTextD]
          rw [e0, hf]
          refine ite2 (fun h3 => ⟨Nat.zero_le _, fun p np => ?_⟩) fun h3 => absurd h3 (by simp)
          refine q _ _ (s2.trans (same_new np _)) ?_
          have : fwN (n + 1) (.dict a) = some [] := by
            simp only [fwN]
            rw [if_neg (by rw [hf]; simp)]
          rw [this]
          exact ⟨p, rfl, upd_same⟩
      have hxa := pd_len hp
      have h60 := sm.1
      refine .inl ?_
      refine lcU_keys ha rfl ((a.map fun e => isTextD e.1).map V.bl) (by simp [hxa]) (by omega) ?_ ?_
      · intro i k v y H' N' hk hy ls ha' Nn
        obtain ⟨e, he, hk', _⟩ := pd_get hp hk
        simp only [List.getElem?_map, he, Option.map_some, Option.some.injEq] at hy
        subst hy
        walk_at "rd"
        refine ⟨1, _, e.1, rfl, .inl ?_, fun x hx => ((sm.2 _ (List.mem_of_getElem? he)).1 x hx).1, Nn _ (Same.refl _)⟩
        rw [hk']
        cases k <;> rfl
      · intro D' H2 nD s2 e2
        refine ⟨D', _, rfl, SqL.of e2, _, rfl, ?_⟩
        have e0 : (a.map fun e => isTextD e.1).all id = a.all fun e => isTextD e.1 := by rw [List.all_map]; rfl
        refine ite2 (fun h3 => ⟨Nat.zero_le _, fun p np => ?_⟩) fun h3 => ?_
        · refine q _ _ (s2.trans (same_new np _)) ?_
          have : fwN (n + 1) (.dict a) = some [] := by
            simp only [fwN]
            rw [if_neg]
            rw [← e0]
            simpa using h3
          rw [this]
          exact ⟨p, rfl, upd_same⟩
        · have hall : (a.all fun e => isTextD e.1) = true := by rw [← e0]; simpa using h3
          have k1 : StrKeys a := fun e he => by
            have := List.all_eq_true.mp hall e he
            cases h : e.1 with
            | str x => exact ⟨x, rfl⟩
            | _ => rw [h] at this; cases this
          have n1 := keys_nd hp k1 hn
          refine ⟨p1, rfl, xs, .inl (s2 _ _ ha), fun l1 nl1 => ?_⟩
          rw [keysV_of hp k1]
          refine ⟨l1, keysD a, rfl, SqL.of upd_same, by simp [keysD]; omega, fun z1 l2 pz1 sz1 nl2 => ?_⟩
          obtain rfl : z1 = srt (keysD a) := srt_is pz1 sz1
          have s3 : Same H (upd (upd H2 l1 (.lst ((keysD a).map V.str))) l2 (.lst ((srt (keysD a)).map V.str))) := s2.trans ((same_new nl1 _).trans (same_new nl2 _))
          have el : upd (upd H2 l1 (.lst ((keysD a).map V.str))) l2 (.lst ((srt (keysD a)).map V.str)) l2 = some (.lst ((srt (keysD a)).map V.str)) := upd_same
          generalize upd (upd H2 l1 (.lst ((keysD a).map V.str))) l2 (.lst ((srt (keysD a)).map V.str)) = H3 at s3 el ⊢
          refine ⟨l2, rfl, ⟨_, SqL.of el⟩, ?_⟩
          have hsl : (srt (keysD a)).length = a.length := by rw [srt_len]; simp [keysD]
          refine lc_itR (walk_list (xs := (srt (keysD a)).map V.str)) (fun D i H' => FwLc P w K H H3 D n (rowsD a) i H') (fun D hD => ⟨[], same_new hD _, upd_same, rfl, by simp⟩) (fun D i H' _ _ h => SqL.of (h.li.choose_spec.1 _ _ el)) ?_ ?_
          · rintro D i x H4 H5 hD hi ⟨ts, s4, e4, hl4, hr4⟩ ⟨rfl, hx⟩
            rw [List.getElem?_map, Option.map_eq_some_iff] at hx
            obtain ⟨x, hx, rfl⟩ := hx
            have hin : x ∈ keysD a := mem_srt.mp (List.mem_of_getElem? hx)
            rcases get_of hp k1 x with ⟨_, hnone⟩ | ⟨v2, d2, hv2, hd2, hr2⟩
            · exact absurd hin (dget_none hnone)
            obtain ⟨e', he', hde, _⟩ := dget_mem hd2
            have sH := s3.trans s4
            have hil : i < a.length := by
              have := (List.getElem?_eq_some_iff.mp hx).1
              omega
            walk_at "rd"
            refine ⟨v2, .inl ⟨xs, .inr x, .inl (sH _ _ ha), rfl, hv2.symm⟩, sz5 (by omega), fun T nT => ?_⟩
            have s5 : Same H5 (upd H5 T (.tup [V.str x, v2])) := same_new nT _
            refine ⟨_, s5 _ _ e4, sz5l (by simp; omega), ts ++ [T], same_mut (s4.trans s5) hD, by rw [upd_same, List.map_append]; rfl, by simp [hl4], ?_⟩
            intro j T' hj
            have nDT : T ≠ D := fun z => by rw [z] at nT; rw [nT] at e4; cases e4
            by_cases hji : j < ts.length
            · rw [List.getElem?_append_left hji] at hj
              obtain ⟨k, v, d, g1, g2, g3⟩ := hr4 j T' hj
              have nTD : T' ≠ D := ne_of g2 e4 (by intro z; cases z)
              exact ⟨k, v, d, g1, by rw [upd_ne nTD]; exact s5 _ _ g2, g3⟩
            · have hj2 : j = i := by
                have := (List.getElem?_eq_some_iff.mp hj).1
                simp at this
                omega
              subst hj2
              rw [← hl4, List.getElem?_append_right (Nat.le_refl _)] at hj
              simp at hj
              subst hj
              refine ⟨.inr x, v2, d2, by simp [rowsD, hx, hd2], by rw [upd_ne nDT, upd_same]; rfl, hr2, ?_⟩
              rw [← hde]
              exact (sm.2 _ he').2
          · rintro D H4 hD ⟨ts, s4, e4, hl4, hr4⟩
            have sH := s3.trans s4
            refine hN _ _ ⟨sH, D, rowsD a, ?_, ⟨ts, e4, by rw [hl4]; simp [rowsD], fun j T hj => ?_⟩, by simp [rowsD, hsl]; omega, _, _, _, _, rfl⟩
            · simp only [fwN]
              rw [if_pos hall]
            · obtain ⟨k, v, d, g1, g2, g3, g4⟩ := hr4 j T hj
              exact ⟨k, v, d, g1, g2, g3.imp sH, g4⟩
    · have out : ∀ H1, Same H H1 → fwN (n + 1) d = some [] → 0 ≤ sizeLine ∧ ∀ p, H1 p = none → Q (V.ref p) (upd H1 p (HO.tup [])) := fun H1 s1 e => ⟨Nat.zero_le _, fun p np => q _ _ (s1.trans (same_new np _)) (by rw [e]; exact ⟨p, rfl, upd_same⟩)⟩
      have hdL := hd.leaf h1 h2
      have nn : fwN (n + 1) d = none → Q V.non H := fun e => q _ _ (Same.refl _) (by rw [e]; rfl)
      cases d with
      | none => cases hd; exact iteT' rfl (nn rfl)
      | bool b => cases id hd; exact iteF' (by simp) (isiX .bool hdR ⟨_, rfl, iteT' rfl (nn rfl)⟩)
      | str x =>
        cases id hd
        refine iteF' (by simp) (isiX .bool hdR ⟨_, rfl, iteF' (by simp [isT]) ⟨n + 1, _, .str x, rfl, hdL, fun y hy => by cases hy; exact sm, _, rfl, ite2 (fun h3 => nn ?_) fun h3 => ⟨n + 1, _, .str x, rfl, hdL, _, rfl, iteF' (by simp [isIntD]) (out _ (Same.refl _) ?_)⟩⟩⟩)
        · simp [isTextD] at h3; simp [fwN, h3]
        · simp [isTextD] at h3; simp [fwN, h3]
      | int x =>
        cases id hd
        refine iteF' (by simp) (isiX .bool hdR ⟨_, rfl, iteF' (by simp [isT]) ⟨n + 1, _, .int x, rfl, hdL, (fun y hy => by cases hy), _, rfl, iteF' (by simp [isTextD]) ⟨n + 1, _, .int x, rfl, hdL, _, rfl, iteT' rfl ⟨x, rfl, ite2 (fun h3 => ⟨x, rfl, ite2 (fun h4 => nn ?_) fun h4 => out _ (Same.refl _) ?_⟩) fun h3 => out _ (Same.refl _) ?_⟩⟩⟩⟩)
        · simp only [fwN]; rw [if_pos ⟨h3, h4⟩]
        · simp only [fwN]; rw [if_neg fun z => h4 z.2]
        · simp only [fwN]; rw [if_neg fun z => h3 z.1]
      | tuple x =>
        obtain ⟨p1, rfl⟩ : ∃ p1, v = .ref p1 := hd.elim (fun ⟨p1, _, e, _⟩ => ⟨p1, e⟩) (fun ⟨_, a, _, _, _, e, _⟩ => ⟨a, e⟩)
        exact iteF' (by simp) (isiX .bool hdR ⟨_, rfl, iteF' (by simp [isT]) ⟨n + 1, _, .tuple x, rfl, hdL, (fun y hy => by cases hy), _, rfl, iteF' (by simp [isTextD]) ⟨n + 1, _, .tuple x, rfl, hdL, _, rfl, iteF' (by simp [isIntD]) (out _ (Same.refl _) rfl)⟩⟩⟩)
      | list x => exact absurd rfl h1
      | dict x => exact absurd rfl h2
  rintro σ' H' ⟨s0, r, rs, hfw, hrows, hlen, z1, z2, z3, z4, rfl⟩
  obtain ⟨ts, er, htl, hts⟩ := hrows.li
  walk_at "rd"
  refine ⟨⟨_, SqL.of er⟩, ?_⟩
  refine fo_it (walk_list (xs := ts.map V.ref)) (fun i σ' H2 => Same H' H2 ∧ (∀ j < i, ∀ q, rs[j]? = some q → fwN n q.2 = none) ∧ ∃ z1 z2 z3 z4, σ' = [some v, some (.ref r), z1, z2, z3, z4]) ⟨Same.refl _, by omega, _, _, _, _, rfl⟩ (fun _ _ _ _ h => SqL.of (h.1 _ _ er)) ?_ ?_
  · rintro i x σ' H2 H3 hi ⟨s1, hno, z1, z2, z3, z4, rfl⟩ ⟨rfl, hx⟩
    rw [List.getElem?_map, Option.map_eq_some_iff] at hx
    obtain ⟨T, hT, rfl⟩ := hx
    obtain ⟨k, u, dj, g1, g2, g3, g4⟩ := hts i T hT
    walk_at "rd"
    refine ⟨_, SqT.of (s1 _ _ g2), rfl, _, _, rfl, _, _, rfl, rfl, u, dj, rfl, g3.imp s1, g4, by omega, fun v' H4 s4 hp4 => ?_⟩
    cases hj : fwN n dj with
    | none =>
      rw [hj] at hp4
      cases hp4
      refine iteF' (by simp) ⟨s1.trans s4, ?_⟩
      intro j hj2 q hq
      by_cases hji : j = i
      · subst hji; rw [g1] at hq; cases hq; exact hj
      · exact hno j (by omega) q hq
    | some p =>
      rw [hj] at hp4
      obtain ⟨t, rfl, ht⟩ := hp4
      have hres : fwN (n + 1) d = some (k :: p) := by rw [hfw]; exact fstR_at hno g1 hj
      refine iteT' (by simp) ⟨sz5 (by omega), fun l nl => ⟨l, t, [kV k], p.map kV, rfl, rfl, SqT.of upd_same, SqT.of ((same_new nl _) _ _ ht), ?_, (fun h => by cases h), fun _ hp0 => ?_, fun _ hp0 l2 nl2 => ?_⟩⟩
      · have := fwN_len hj
        exact sz5 (by simp; omega)
      · refine q _ _ ((s0.trans (s1.trans s4)).trans (same_new nl _)) ?_
        rw [hres]
        refine ⟨l, rfl, ?_⟩
        rw [upd_same, List.map_eq_nil_iff.mp hp0]
        rfl
      · refine q _ _ (((s0.trans (s1.trans s4)).trans (same_new nl _)).trans (same_new nl2 _)) ?_
        rw [hres]
        exact ⟨l2, rfl, upd_same⟩
  · rintro σ' H2 ⟨s1, hno, z1, z2, z3, z4, rfl⟩
    walk_at "rd"
    refine q _ _ (s0.trans s1) ?_
    rw [hfw, fstR_none]
    · rfl
    · intro x hx
      obtain ⟨j, hj⟩ := List.getElem?_of_mem hx
      exact hno j (by have := (List.getElem?_eq_some_iff.mp hj).1; simp; omega) x hj
end
section
variable {P : Program} {w : World} {K : PySem.W.Frag} {mg : Str → Option Value} {base : Heap} {f : Addr} {fd : FuncData}
theorem ok_fws (D : Def K mg "first_wrong" s_first_wrong f fd) (B : Blt mg) {t1 : Tok} (g_MOST_NUMBER : mg "MOST_NUMBER" = some (.int (10 ^ 30) t1)) (R_is_integer : Rdy P w K mg base 1 "is_integer" ["value"] (sp_isint K)) (R_is_text : Rdy P w K mg base 1 "is_text" ["value"] (sp_text K)) :
    ∀ n : Nat, FnOk P w K mg base CX0 (n + 1) f fd ["value"] (sp_fw P w K n)
  | 0 => ⟨fun vs H Q E ⟨_, _, _, h, _⟩ => h.elim, fun A outer s H args us vs Q E _ _ _ _ ⟨_, _, _, h, _⟩ => h.elim⟩
  | n + 1 => ok_fw D B g_MOST_NUMBER R_is_integer R_is_text (D.rdy (fun _ _ _ _ _ _ us hl => match us, hl with | [_], _ => rfl) (ok_fws D B g_MOST_NUMBER R_is_integer R_is_text n))
def dpN (n : Nat) (d : PyData) : Option (List Key) := if 12 < dep n d then some [] else fwN n d
def sp_dp (P : Program) (w : World) (K : PySem.W.Frag) (n : Nat) : Sp := fun vs H Q _ => ∃ v d, vs = [v] ∧ ReX P w K H n v d ∧ smallD n d ∧ n ≤ 100 ∧ ∀ v' H', Same H H' → pathV (dpN n d) H' v' → Q v' H'
def sp_isdoc (P : Program) (w : World) (K : PySem.W.Frag) (n : Nat) : Sp := fun vs H Q _ => ∃ v d, vs = [v] ∧ ReX P w K H n v d ∧ smallD n d ∧ n ≤ 100 ∧ ∀ H', Same H H' → Q (.bl (decide (dpN n d = none))) H'
theorem ok_dp {n : Nat} (D : Def K mg "document_problem" s_document_problem f fd) (B : Blt mg) {t1 : Tok} (g_MOST_DEEP : mg "MOST_DEEP" = some (.int 12 t1)) (R_depth_of : Rdy P w K mg base (n + 1) "depth_of" ["document"] (sp_depthX P w K n)) (R_first_wrong : Rdy P w K mg base (n + 1) "first_wrong" ["value"] (sp_fw P w K n)) :
    FnOk P w K mg base CX0 (n + 2) f fd ["value"] (sp_dp P w K n) := by
  refine D.1.ok sc_document_problem (fun vs H Q E h => ?_) (fun cdv A outer s H vs Q E hr h => ?_)
  · obtain ⟨v, d, rfl, _⟩ := h
    rfl
  obtain ⟨v, d, rfl, hd, sm, h100, q⟩ := h
  refine ⟨_, (pss_one (ps_ret (pe_ifExp (pt_cmpR op_gt (pe_c R_depth_of hr rfl (pa_cons (pv 0) pa_nil)) (pe_gint (by rfl) g_MOST_DEEP) (nomark _)) (pe_tup pa_nil) (pe_c R_first_wrong hr rfl (pa_cons (pv 0) pa_nil))))), ?_⟩
  walk_at "rd"
  refine ⟨v, d, rfl, hd.rp, fun H1 s1 => ?_⟩
  walk_at "rd"
  refine ite2 (fun h => ⟨Nat.zero_le _, fun p np => q _ _ (s1.trans (same_new np _)) ?_⟩) fun h => ⟨v, d, rfl, hd.imp s1, sm, h100, fun v' H2 s2 p2 => q _ _ (s1.trans s2) ?_⟩
  · rw [dpN, if_pos h]; exact ⟨p, rfl, upd_same⟩
  · rw [dpN, if_neg h]; exact p2
end

/-! ### is_document -/
abbrev s_is_document : Stmt := top 20
theorem sc_is_document : FnScope ["value"] ["value"] (defScope s_is_document) := ⟨rfl, rfl, rfl, by decide +kernel, rfl, by decide +kernel, by decide +kernel⟩
section
variable {P : Program} {w : World} {K : PySem.W.Frag} {mg : Str → Option Value} {base : Heap} {f : Addr} {fd : FuncData}
theorem ok_isdoc {n : Nat} (D : Def K mg "is_document" s_is_document f fd) (B : Blt mg) (R_document_problem : Rdy P w K mg base (n + 2) "document_problem" ["value"] (sp_dp P w K n)) : FnOk P w K mg base CX0 (n + 3) f fd ["value"] (sp_isdoc P w K n) := by
  refine D.1.ok sc_is_document (fun vs H Q E h => ?_) (fun cdv A outer s H vs Q E hr h => ?_)
  · obtain ⟨v, d, rfl, _⟩ := h
    rfl
  obtain ⟨v, d, rfl, hd, sm, h100, q⟩ := h
  refine ⟨_, (pss_one (ps_ret (pe_cmpR op_isN (pe_c R_document_problem hr rfl (pa_cons (pv 0) pa_nil)) pe_non (nomark _)))), ?_⟩
  walk_at "rd"
  refine ⟨v, d, rfl, hd, sm, h100, fun v' H1 s1 p1 => ?_⟩
  have := q _ s1
  cases hp : dpN n d with
  | none => rw [hp] at p1 this; cases p1; simpa using this
  | some p => rw [hp] at p1 this; obtain ⟨t, rfl, _⟩ := p1; simpa using this
end

/-! ### _law_cell -/
def sp_cell (K : PySem.W.Frag) : Sp := fun vs H Q _ => ∃ c sp ns k, vs = [.ref c, .ref sp] ∧ Scr K H c ns ∧ ns.length ≤ 63 ∧ H sp = some (.lst [.int k]) ∧ 0 ≤ k ∧ k < 2 ^ 60 ∧
  ∀ n : Int, 0 ≤ n → n < 306783379 → Q (.int n) (upd H sp (.lst [.int (k + 1)]))
abbrev s_law_cell : Stmt := top 53
theorem sc_law_cell : FnScope ["_law_cells", "_law_spot", "_law_k", "_law_base", "_law_at", "_law_turn", "_law_rest", "_law_j"] ["_law_cells", "_law_spot"] (defScope s_law_cell) := ⟨rfl, rfl, rfl, by decide +kernel, rfl, by decide +kernel, by decide +kernel⟩
theorem cell_end (b : Int) : 0 ≤ (b % 2147483647) ^ Int.toNat 5 % 2147483647 / 7 ∧ (b % 2147483647) ^ Int.toNat 5 % 2147483647 / 7 < 306783379 := by
  have h1 := Int.emod_nonneg ((b % 2147483647) ^ Int.toNat 5) (show (2147483647 : Int) ≠ 0 by decide)
  have h2 := Int.emod_lt_of_pos ((b % 2147483647) ^ Int.toNat 5) (show (0 : Int) < 2147483647 by decide)
  omega
theorem cell_pow (b : Int) : CPow (b % 2147483647) 5 := by
  have h1 := Int.emod_nonneg b (show (2147483647 : Int) ≠ 0 by decide)
  have h2 := Int.emod_lt_of_pos b (show (0 : Int) < 2147483647 by decide)
  refine ⟨by decide, by decide, ?_⟩
  omega
theorem at_ints {ns : List Int} {i : Int} (h0 : 0 ≤ i) (h1 : i < ((ns.map V.int).length : Int)) : ∃ x : Int, atI (ns.map V.int) i = some (.int x) := by
  obtain ⟨j, rfl⟩ : ∃ j : Nat, i = j := ⟨i.toNat, by omega⟩
  have hl : j < ns.length := by rw [List.length_map] at h1; omega
  exact ⟨ns[j], atI_nat (by rw [List.getElem?_map, List.getElem?_eq_getElem hl]; rfl)⟩
section
variable {P : Program} {w : World} {K : PySem.W.Frag} {mg : Str → Option Value} {base : Heap} {f : Addr} {fd : FuncData}
theorem ok_cell (D : Def K mg "_law_cell" s_law_cell f fd) (B : Blt mg) : FnOk P w K mg base CX0 1 f fd ["_law_cells", "_law_spot"] (sp_cell K) := by
  refine D.1.ok sc_law_cell (fun vs H Q E h => ?_) (fun cdv A outer s H vs Q E hr h => ?_)
  · obtain ⟨c, sp, ns, k, rfl, _⟩ := h
    rfl
  obtain ⟨c, sp, ns, k, rfl, hs, h63, hp, h0, h1, q⟩ := h
  refine ⟨_, (pss_cons (ps_set (i := 2) sc_law_cell.nd rfl (by first | exact Or.inl rfl | exact Or.inr rfl) (pe_ix (ixLK (K := K) rfl) (pv 1) pe_int (fun _ _ => rfl)))
  (pss_cons (ps_asg (pe_op op_add (pv 2) pe_int) (pg_sub (pv 1) pe_int set_list))
  (pss_cons (ps_set (i := 3) sc_law_cell.nd rfl (by first | exact Or.inl rfl | exact Or.inr rfl) (pe_op op_add (pe_op op_mul (pe_op op_mul pe_int (pv 2)) (pv 2)) (pe_op op_mul pe_int (pv 2))))
  (pss_cons (ps_if (pt_cmpR op_gt (pe_callB (lenK (K := K) rfl) (by rfl) B.b_len (by decide +kernel) (pa_cons (pv 0) pa_nil)) pe_int (nomark _))
   (pss_cons (ps_par (i := 4) (j := 5) (by rfl) sc_law_cell.nd rfl rfl (by decide) rfl rfl (pa_cons (pe_op op_mod (pv 2) (pe_callB (lenK (K := K) rfl) (by rfl) B.b_len (by decide +kernel) (pa_cons (pv 0) pa_nil))) (pa_cons (pe_op op_fdiv (pv 2) (pe_callB (lenK (K := K) rfl) (by rfl) B.b_len (by decide +kernel) (pa_cons (pv 0) pa_nil))) pa_nil)) (by rfl))
  (pss_cons (ps_if (PW.pt (pw_and (pt_cmpR op_ge (pe_ix (ixLK (K := K) rfl) (pv 0) (pv 4) (fun _ _ => rfl)) (pe_op op_pow pe_int pe_int) (nomark _)) (pw_and1 (pt_cmpR op_lt (pv 5) pe_int (nomark _)))))
   (pss_cons (ps_set (i := 6) sc_law_cell.nd rfl (by first | exact Or.inl rfl | exact Or.inr rfl) (pe_ix (ixLK (K := K) rfl) (pv 0) (pv 4) (fun _ _ => rfl)))
  (pss_cons (ps_for PassesOwn.never rfl (pi_range1 (by rfl) B.b_range (pa_cons (pv 5) pa_nil)) (pg_name (i := 7) sc_law_cell.nd rfl (by first | exact Or.inl rfl | exact Or.inr rfl))
   (pss_one (ps_set (i := 6) sc_law_cell.nd rfl (by first | exact Or.inl rfl | exact Or.inr rfl) (pe_op op_fdiv (pv 6) pe_int))))
  (pss_one (ps_if (pt_cmpR op_gt (pv 6) pe_int (nomark _))
   (pss_one (ps_ret (pe_op op_mod (pv 6) pe_int)))
   pss_nil))))
   pss_nil)
  (pss_one (ps_set (i := 3) sc_law_cell.nd rfl (by first | exact Or.inl rfl | exact Or.inr rfl) (pe_op op_add (pv 3) (pe_op op_mul (pe_op op_mod (pe_ix (ixLK (K := K) rfl) (pv 0) (pv 4) (fun _ _ => rfl)) pe_int) (pe_op op_add pe_int (pv 5))))))))
   pss_nil)
  (pss_one (ps_ret (pe_op op_fdiv (pe_op op_mod (pe_op op_pow (pe_op op_mod (pv 3) pe_int) pe_int) pe_int) pe_int))))))), ?_⟩
  walk_at "rd"
  have hs1 : Scr K (upd H sp (.lst [.int (k + 1)])) c ns := hs.put hp
  refine ⟨sp, _, 0, _, rfl, rfl, SqL.of hp, rfl, ?_⟩
  walk_at "rd"
  refine ⟨_, hp, 0, rfl, .inl (by omega), .inr (by omega), .inl (by decide), _, .inl ⟨_, hs1.sq, rfl⟩, ?_⟩
  split
  · rename_i hl
    have hL : ((ns.map V.int).length : Int) < 64 := by rw [List.length_map]; omega
    have hm0 := Int.emod_nonneg k (show ((ns.map V.int).length : Int) ≠ 0 by omega)
    have hm1 := Int.emod_lt_of_pos k hl
    obtain ⟨x, hx⟩ := at_ints hm0 hm1
    have hd0 : 0 ≤ k / ((ns.map V.int).length : Int) := Int.ediv_nonneg h0 (by omega)
    have hd1 : k / ((ns.map V.int).length : Int) ≤ k := Int.ediv_le_self _ h0
    refine ⟨_, .inl ⟨_, hs1.sq, rfl⟩, hl, _, .inl ⟨_, hs1.sq, rfl⟩, ⟨hl, by omega⟩, ?_⟩
    have last : ∀ b : Int, CMul (x % 2147483629) (1 + k / ((ns.map V.int).length : Int)) ∧ (0 : Int) < 2147483647 ∧ CPow (b % 2147483647) 5 ∧ (0 : Int) < 2147483647 ∧ CDiv ((b % 2147483647) ^ Int.toNat 5 % 2147483647) 7 ∧ Q (V.int ((b % 2147483647) ^ Int.toNat 5 % 2147483647 / 7)) (upd H sp (HO.lst [V.int (k + 1)])) := fun b => by
      have a1 := Int.emod_nonneg x (show (2147483629 : Int) ≠ 0 by decide)
      have a2 := Int.emod_lt_of_pos x (show (0 : Int) < 2147483629 by decide)
      exact ⟨.inl (by omega), by decide, cell_pow _, by decide, ⟨by decide, by decide⟩, q _ (cell_end _).1 (cell_end _).2⟩
    refine ⟨c, _, _, _, rfl, rfl, hs1.sq, hx, ⟨by decide, by decide, by decide⟩, ?_⟩
    walk_at "rd"
    split
    · split
      · refine ⟨c, _, _, _, rfl, rfl, hs1.sq, hx, by omega, by omega, ?_⟩
        refine fo_it walk_range (fun i σ' H' => H' = upd H sp (.lst [.int (k + 1)]) ∧ ∃ (r : Int) (j : Option V), σ' = [some (V.ref c), some (V.ref sp), some (V.int k), some (V.int (31 * k * k + 7919 * k)), some (V.int (k % ((ns.map V.int).length : Int))), some (V.int (k / ((ns.map V.int).length : Int))), some (V.int r), j]) ⟨rfl, x, none, rfl⟩ (fun _ _ _ _ _ => trivial) ?_ ?_
        · rintro i y σ' H' H'' hi ⟨rfl, r, j, rfl⟩ ⟨rfl, rfl⟩
          walk_at "rd"
          exact ⟨by decide, by decide⟩
        · rintro σ' H' ⟨rfl, r, j, rfl⟩
          walk_at "rd"
          split
          · refine ⟨by decide, q _ (Int.emod_nonneg _ (by decide)) (Int.emod_lt_of_pos _ (by decide))⟩
          · refine ⟨c, _, _, _, rfl, rfl, hs1.sq, hx, ?_⟩
            walk_at "rd"
            exact ⟨by decide, last _⟩
      · refine ⟨c, _, _, _, rfl, rfl, hs1.sq, hx, ?_⟩
        walk_at "rd"
        exact ⟨by decide, last _⟩
    · refine ⟨c, _, _, _, rfl, rfl, hs1.sq, hx, ?_⟩
      walk_at "rd"
      exact ⟨by decide, last _⟩
  · exact ⟨by decide, cell_pow _, by decide, ⟨by decide, by decide⟩, q _ (cell_end _).1 (cell_end _).2⟩
end

/-! ### _law_leaf -/
def sp_leaf : Sp := fun vs H Q _ => ∃ n : Int, vs = [.int n] ∧ 0 ≤ n ∧ n < 2 ^ 60 ∧ ∀ v H', LeafV v → Same H H' → Q v H'
abbrev s_law_leaf : Stmt := top 54
theorem sc_law_leaf : FnScope ["_law_n", "_law_m"] ["_law_n"] (defScope s_law_leaf) := ⟨rfl, rfl, rfl, by decide +kernel, rfl, by decide +kernel, by decide +kernel⟩
theorem tilde_ok (n : Int) : MulOk (Str.ofString "~") (n % 61) := by
  have h := mod_in n (m := 61) (by decide)
  exact mul_ok (by decide +kernel) (by omega) (by omega)
theorem tilde_leaf (n : Int) : LeafV (.str (Txt.mul (Str.ofString "~") (n % 61))) := by
  have h := mod_in n (m := 61) (by decide)
  refine ⟨.str (Txt.mul (Str.ofString "~") (n % 61)), ?_, fun _ => rfl⟩
  have h2 : ∀ k : Fin 61, (Txt.mul (Str.ofString "~") ((k.1 : Nat) : Int)).length ≤ 60 ∧ ∀ c ∈ (Txt.mul (Str.ofString "~") ((k.1 : Nat) : Int)).cps.toList, c < 128 := by decide +kernel
  have h3 := h2 ⟨(n % 61).toNat, by omega⟩
  have e : (((n % 61).toNat : Nat) : Int) = n % 61 := by omega
  simp only [e] at h3
  exact h3
section
variable {P : Program} {w : World} {K : PySem.W.Frag} {mg : Str → Option Value} {base : Heap} {f : Addr} {fd : FuncData}
theorem ok_leaf (D : Def K mg "_law_leaf" s_law_leaf f fd) (B : Blt mg) : FnOk P w K mg base CX0 1 f fd ["_law_n"] sp_leaf := by
  refine D.1.ok sc_law_leaf (fun vs H Q E h => ?_) (fun cdv A outer s H vs Q E hr h => ?_)
  · obtain ⟨n, rfl, _⟩ := h
    rfl
  obtain ⟨n, rfl, h0, h1, q⟩ := h
  refine ⟨_, (pss_cons (ps_set (i := 1) sc_law_leaf.nd rfl (by first | exact Or.inl rfl | exact Or.inr rfl) (pe_op op_fdiv (pv 0) pe_int))
  (pss_cons (ps_if (pt_cmpR op_eq (pe_op op_mod (pv 0) pe_int) pe_int (nomark _))
   (pss_one (ps_ret (pe_ix (ixLK (K := K) rfl) (pe_lst (pa_cons pe_int (pa_cons pe_int (pa_cons (pe_op op_mod (pv 1) pe_int) (pa_cons (pe_un un_neg (pv 1)) (pa_cons (pe_op op_sub (pe_op op_pow pe_int pe_int) (pe_op op_mod (pv 1) pe_int)) (pa_cons (pe_un un_neg (pe_op op_pow pe_int pe_int)) pa_nil))))))) (pe_op op_mod (pv 1) pe_int) (fun _ _ => rfl))))
   pss_nil)
  (pss_cons (ps_if (pt_cmpR op_eq (pe_op op_mod (pv 0) pe_int) pe_int (nomark _))
   (pss_one (ps_ret (pe_ix (ixLK (K := K) rfl) (pe_lst (pa_cons pe_str (pa_cons pe_str (pa_cons pe_str (pa_cons pe_str (pa_cons pe_str (pa_cons (pe_op op_mul_str pe_str (pe_op op_mod (pv 1) pe_int)) pa_nil))))))) (pe_op op_mod (pv 1) pe_int) (fun _ _ => rfl))))
   pss_nil)
  (pss_one (ps_ret (pe_ix (ixLK (K := K) rfl) (pe_lst (pa_cons pe_non (pa_cons pe_bl (pa_cons pe_bl pa_nil)))) (pe_op op_mod (pv 0) pe_int) (fun _ _ => rfl))))))), ?_⟩
  walk_at "rd"
  have m5 := mod_in n (m := 5) (by decide)
  have m6 := mod_in (n / 5) (m := 6) (by decide)
  have m10 := mod_in (n / 5) (m := 10) (by decide)
  have m9 := mod_in (n / 5) (m := 9) (by decide)
  refine ⟨⟨by decide, by decide⟩, by decide, rfl, ?_⟩
  split
  · refine ⟨by decide, ⟨by decide, by decide, by decide⟩, by decide, ⟨by decide, by decide, by decide⟩, by decide, fun p np => ⟨by decide, ?_⟩⟩
    refine ix_any upd_same m6.1 m6.2 fun v hv => q v _ ?_ (same_new np _)
    simp only [List.mem_cons, List.not_mem_nil, or_false] at hv
    have e30 : (10 : Int) ^ Int.toNat 30 = 10 ^ 30 := by decide
    rcases hv with rfl | rfl | rfl | rfl | rfl | rfl <;> refine leaf_int _ ?_ <;> first | decide | omega | (rw [e30]; omega)
  · refine ⟨by decide, rfl, ?_⟩
    split
    · refine ⟨by decide, tilde_ok _, by decide, fun p np => ⟨by decide, ?_⟩⟩
      refine ix_any upd_same m6.1 m6.2 fun v hv => q v _ ?_ (same_new np _)
      simp only [List.mem_cons, List.not_mem_nil, or_false] at hv
      rcases hv with rfl | rfl | rfl | rfl | rfl | rfl
      · exact leaf_str _ (by decide +kernel) (by decide +kernel)
      · exact leaf_str _ (by decide +kernel) (by decide +kernel)
      · exact leaf_str _ (by decide +kernel) (by decide +kernel)
      · exact leaf_str _ (by decide +kernel) (by decide +kernel)
      · exact leaf_str _ (by decide +kernel) (by decide +kernel)
      · exact tilde_leaf _
    · refine ⟨by decide, fun p np => ⟨by decide, ?_⟩⟩
      refine ix_any upd_same m5.1 (by simp; omega) fun v hv => q v _ ?_ (same_new np _)
      simp only [List.mem_cons, List.not_mem_nil, or_false] at hv
      rcases hv with rfl | rfl | rfl
      · exact leaf_non
      · exact leaf_bl _
      · exact leaf_bl _
end

/-! ### _law_names -/
def stock9 : List Str := ["a", "b", "c", "x y", "1a", "_", "A_1", "", Txt.mul "q" 60]
theorem stock9_nd : stock9.Nodup := by decide +kernel
theorem stock9_ok : ∀ x ∈ stock9, NameOk x := by
  have h : ∀ x ∈ stock9, x.length ≤ 60 ∧ ∀ c ∈ x.cps.toList, c < 128 := by decide +kernel
  exact h
def sp_names : Sp := fun vs H Q _ => ∃ n : Int, vs = [.int n] ∧ 0 ≤ n ∧ ∀ (r : Addr) (H' : Hp) (xs : List Str), H r = none → Same H H' → H' r = some (.lst (xs.map V.str)) → xs.Nodup → xs.length ≤ 4 → (∀ x ∈ xs, NameOk x) → Q (.ref r) H'
abbrev s_law_names : Stmt := top 55
theorem sc_law_names : FnScope ["_law_n", "_law_stock", "_law_found", "_law_k"] ["_law_n"] (defScope s_law_names) := ⟨rfl, rfl, rfl, by decide +kernel, rfl, by decide +kernel, by decide +kernel⟩
section
variable {P : Program} {w : World} {K : PySem.W.Frag} {mg : Str → Option Value} {base : Heap} {f : Addr} {fd : FuncData}
theorem ok_names (D : Def K mg "_law_names" s_law_names f fd) (B : Blt mg) : FnOk P w K mg base CX0 1 f fd ["_law_n"] sp_names := by
  refine D.1.ok sc_law_names (fun vs H Q E h => ?_) (fun cdv A outer s H vs Q E hr h => ?_)
  · obtain ⟨n, rfl, _⟩ := h
    rfl
  obtain ⟨n, rfl, h0, q⟩ := h
  refine ⟨_, (pss_cons (ps_par (i := 1) (j := 2) (by rfl) sc_law_names.nd rfl rfl (by decide) rfl rfl (pa_cons (pe_lst (pa_cons pe_str (pa_cons pe_str (pa_cons pe_str (pa_cons pe_str (pa_cons pe_str (pa_cons pe_str (pa_cons pe_str (pa_cons pe_str (pa_cons (pe_op op_mul_str pe_str pe_int) pa_nil)))))))))) (pa_cons (pe_lst pa_nil) pa_nil)) (by rfl))
  (pss_cons (ps_for PassesOwn.never rfl (pi_range1 (by rfl) B.b_range (pa_cons (pe_op op_mod (pv 0) pe_int) pa_nil)) (pg_name (i := 3) sc_law_names.nd rfl (by first | exact Or.inl rfl | exact Or.inr rfl))
   (pss_cons (ps_set (i := 0) sc_law_names.nd rfl (by first | exact Or.inl rfl | exact Or.inr rfl) (pe_op op_add (pe_op op_add (pe_op op_fdiv (pv 0) pe_int) (pe_op op_mul pe_int (pv 0))) (pv 3)))
  (pss_one (ps_expr (pe_bm PySem.F.plainAttrs_list PySem.F.slot_list_append PySem.F.type_list_append mt_append (pv 2) (pa_cons (pe_bm PySem.F.plainAttrs_list PySem.F.slot_list_pop PySem.F.type_list_pop mt_popAt (pv 1) (pa_cons (pe_op op_mod (pv 0) (pe_callB (lenK (K := K) rfl) (by rfl) B.b_len (by decide +kernel) (pa_cons (pv 1) pa_nil))) pa_nil)) pa_nil))))))
  (pss_one (ps_ret (pv 2))))), ?_⟩
  walk_at "rd"
  have m5 := mod_in n (m := 5) (by decide)
  refine ⟨mul_ok (by decide +kernel) (by decide) (by decide), by decide, fun p np => ⟨by decide, fun r nr => ⟨by decide, by omega, by omega, ?_⟩⟩⟩
  have npr : p ≠ r := fun z => by subst z; rw [upd_same] at nr; cases nr
  have nr0 : H r = none := by rw [upd_ne npr.symm] at nr; exact nr
  refine fo_it walk_range (fun i σ' H' => Same H H' ∧ ∃ (m : Int) (st fo : List Str) (kv : Option V), 0 ≤ m ∧ σ' = [some (.int m), some (.ref p), some (.ref r), kv] ∧ H' p = some (.lst (st.map V.str)) ∧ H' r = some (.lst (fo.map V.str)) ∧ (fo ++ st).Perm stock9 ∧ fo.length = i)
    ⟨(same_new np _).trans (same_new nr _), n, stock9, [], none, h0, rfl, by rw [upd_ne npr, upd_same]; rfl, by rw [upd_same]; rfl, .refl _, rfl⟩ (fun _ _ _ _ _ => trivial) ?_ ?_
  · rintro i y σ' H1 H2 hi ⟨s1, m, st, fo, kv, hm, rfl, e1, e2, hpm, hf⟩ ⟨rfl, rfl⟩
    have hlen := hpm.length_eq
    rw [List.length_append, show stock9.length = 9 from rfl] at hlen
    walk_at "rd"
    refine ⟨⟨by decide, by decide⟩, .inl (by decide), .inl ⟨rfl, _, SqL.of e2⟩, .inl ⟨rfl, _, SqL.of e1⟩, _, .inl ⟨_, SqL.of e1, rfl⟩, by simp; omega, ?_⟩
    have hx := mod_in (m / 3 + 7 * m + (0 + (i : Int))) (m := ((st.map V.str).length : Int)) (by simp; omega)
    have hy : 0 ≤ m / 3 + 7 * m + (0 + (i : Int)) := by omega
    generalize (m / 3 + 7 * m + (0 + (i : Int))) % ((st.map V.str).length : Int) = u at hx ⊢
    obtain ⟨j, rfl⟩ : ∃ j : Nat, u = j := ⟨u.toNat, by omega⟩
    have hj : j < st.length := by have := hx.2; simp at this; exact this
    refine ⟨p, _, _, j, .str st[j], rfl, rfl, e1, by omega, by omega, seqIx (by simpa using hj), by rw [List.getElem?_map, List.getElem?_eq_getElem hj]; rfl, ?_⟩
    refine ⟨r, _, _, rfl, rfl, (by rw [upd_ne npr.symm]; exact e2), sz5l (by simp; omega), ?_⟩
    refine ⟨same_mut (same_mut s1 np) nr0, _, hy, rfl, st.eraseIdx j, by rw [upd_ne npr, upd_same, erase_map], fo ++ [st[j]], by rw [upd_same]; simp, ?_, by simp [hf]⟩
    have hp1 := erase_perm st j st[j] (List.getElem?_eq_getElem hj)
    rw [List.append_assoc]
    exact (hp1.append_left fo).trans hpm
  · rintro σ' H1 ⟨s1, m, st, fo, kv, hm, rfl, e1, e2, hpm, hf⟩
    walk_at "rd"
    have hnd := hpm.nodup_iff.mpr stock9_nd
    exact q r H1 fo nr0 s1 e2 (List.nodup_append.mp hnd).1 (by omega) fun x hx => stock9_ok x (hpm.mem_iff.mp (List.mem_append_left _ hx))
end

/-! ### _law_tree -/
def sp_tree (K : PySem.W.Frag) (n : Nat) : Sp := fun vs H Q _ => ∃ c sp lf ns k z deep, vs = [.ref c, .ref sp, .int deep, .ref lf] ∧ Scr K H c ns ∧ ns.length ≤ 63 ∧ H sp = some (.lst [.int k]) ∧ 0 ≤ k ∧ k + 5 ^ n < 2 ^ 60 ∧ H lf = some (.lst [.int z]) ∧ sp ≠ lf ∧ deep ≤ (n : Int) ∧ 1 ≤ n ∧
  ∀ v d H' k' z', Keep [sp, lf] H H' → H' sp = some (.lst [.int k']) → k ≤ k' → k' ≤ k + 5 ^ n → H' lf = some (.lst [.int z']) → (cnt d : Int) = z - z' → (z' = z - 1 ∨ -4 * (n : Int) ≤ z') → Re (news H H') n v d → docD n d → Q v H'
/-- between two turns: the counters, all else as it was in Hx but at D -/
structure TrI (sp lf D : Addr) (Hx : Hp) (k P z : Int) (n i c : Nat) (H' : Hp) : Prop where
  kp : Keep [sp, lf, D] Hx H'
  ct : ∃ k' z', H' sp = some (.lst [.int k']) ∧ k ≤ k' ∧ k' ≤ k + i * P ∧ H' lf = some (.lst [.int z']) ∧ (c : Int) = z - z' ∧ -4 * (n : Int) - i ≤ z'
structure TrL (sp lf D : Addr) (Hx : Hp) (k P z : Int) (n i : Nat) (H' : Hp) : Prop where
  li : ∃ vs ds, TrI sp lf D Hx k P z n i (cntAll ds) H' ∧ H' D = some (.lst vs) ∧ vs.length = i ∧ Paired (Re (news Hx H') n) vs ds ∧ ∀ d ∈ ds, docD n d
structure TrD (sp lf D : Addr) (Hx : Hp) (k P z : Int) (n i : Nat) (xs : List Str) (H' : Hp) : Prop where
  li : ∃ kvs es, TrI sp lf D Hx k P z n i (cntKv es) H' ∧ H' D = some (.dK kvs) ∧ kvs.map (·.1) = (xs.take i).map Sum.inr ∧ Paired (fun (p : Key × V) (q : PyData × PyData) => q.1 = kD p.1 ∧ Re (news Hx H') n p.2 q.2) kvs es ∧ ∀ e ∈ es, (∃ x, e.1 = .str x ∧ NameOk x) ∧ docD n e.2
abbrev s_law_tree : Stmt := top 56
theorem sc_law_tree : FnScope ["_law_cells", "_law_spot", "_law_deep_here", "_law_left", "_law_n", "_law_found", "_law_label", "_law_k"] ["_law_cells", "_law_spot", "_law_deep_here", "_law_left"] (defScope s_law_tree) := ⟨rfl, rfl, rfl, by decide +kernel, rfl, by decide +kernel, by decide +kernel⟩
section
variable {P : Program} {w : World} {K : PySem.W.Frag} {mg : Str → Option Value} {base : Heap} {f : Addr} {fd : FuncData}
theorem ok_tree {n : Nat} (D : Def K mg "_law_tree" s_law_tree f fd) (B : Blt mg) (R_law_cell : Rdy P w K mg base 1 "_law_cell" ["_law_cells", "_law_spot"] (sp_cell K)) (R_law_leaf : Rdy P w K mg base 1 "_law_leaf" ["_law_n"] sp_leaf) (R_law_names : Rdy P w K mg base 1 "_law_names" ["_law_n"] sp_names)
    (R_law_tree : Rdy P w K mg base (n + 1) "_law_tree" ["_law_cells", "_law_spot", "_law_deep_here", "_law_left"] (sp_tree K n)) : FnOk P w K mg base CX0 (n + 2) f fd ["_law_cells", "_law_spot", "_law_deep_here", "_law_left"] (sp_tree K (n + 1)) := by
  refine D.1.ok sc_law_tree (fun vs H Q E h => ?_) (fun cdv A outer s H vs Q E hr h => ?_)
  · obtain ⟨c, sp, lf, ns, k, z, deep, rfl, _⟩ := h
    rfl
  obtain ⟨c, sp, lf, ns, k, z, deep, rfl, hs, h63, hp, h0, h1, hl, hne, hdp, _, q⟩ := h
  have hu := hu_of hr
  have hr1 : Room 1 _ := hr.mono (by omega)
  refine ⟨_, (pss_cons (ps_set (i := 4) sc_law_tree.nd rfl (by first | exact Or.inl rfl | exact Or.inr rfl) (pe_c R_law_cell hr1 rfl (pa_cons (pv 0) (pa_cons (pv 1) pa_nil))))
  (pss_cons (ps_asg (pe_op op_sub (pe_ix (ixLK (K := K) rfl) (pv 3) pe_int (fun _ _ => rfl)) pe_int) (pg_sub (pv 3) pe_int set_list))
  (pss_cons (ps_if (PW.pt (pw_or (pt_cmpR op_lt (pv 2) pe_int (nomark _)) (pw_or (pt_cmpR op_lt (pe_ix (ixLK (K := K) rfl) (pv 3) pe_int (fun _ _ => rfl)) pe_int (nomark _)) (pw_or1 (pt_cmpR op_lt (pe_op op_mod (pv 4) pe_int) pe_int (nomark _))))))
   (pss_one (ps_ret (pe_c R_law_leaf hr1 rfl (pa_cons (pe_op op_fdiv (pv 4) pe_int) pa_nil))))
   pss_nil)
  (pss_cons (ps_if (pt_cmpR op_lt (pe_op op_mod (pv 4) pe_int) pe_int (nomark _))
   (pss_one (ps_ret (pe_lc (own := [("_law_k", 7)]) (by rfl) sc_law_tree.nd (pi_range1 (by rfl) B.b_range (pa_cons (pe_op op_mod (pe_op op_fdiv (pv 4) pe_int) pe_int) pa_nil)) (blkOk_by (own := [("_law_k", 7)]) (N := ["_law_cells", "_law_spot", "_law_deep_here", "_law_left", "_law_n", "_law_found", "_law_label", "_law_k"]) (sc := defScope s_law_tree) (by decide +kernel)) (fun _ _ _ _ _ => (pg_name (i := 7) sc_law_tree.nd rfl (by first | exact Or.inl rfl | exact Or.inr rfl))) (fun _ _ _ _ _ => pts_nil) (fun _ _ _ _ _ => (pe_c R_law_tree hr rfl (pa_cons (pv 0) (pa_cons (pv 1) (pa_cons (pe_op op_sub (pv 2) pe_int) (pa_cons (pv 3) pa_nil)))))))))
   pss_nil)
  (pss_cons (ps_set (i := 5) sc_law_tree.nd rfl (by first | exact Or.inl rfl | exact Or.inr rfl) pe_dnewK)
  (pss_cons (ps_for PassesOwn.never rfl (pi_list (pe_c R_law_names hr1 rfl (pa_cons (pe_op op_fdiv (pv 4) pe_int) pa_nil))) (pg_name (i := 6) sc_law_tree.nd rfl (by first | exact Or.inl rfl | exact Or.inr rfl))
   (pss_one (ps_dput hu (pv 5) (pv 6) (pe_c R_law_tree hr rfl (pa_cons (pv 0) (pa_cons (pv 1) (pa_cons (pe_op op_sub (pv 2) pe_int) (pa_cons (pv 3) pa_nil))))) rfl)))
  (pss_one (ps_ret (pv 5))))))))), ?_⟩
  walk_at "rd"
  have h5 : (5 : Int) ^ (n + 1) = 5 ^ n * 5 := Int.pow_succ _ _
  have hP : (1 : Int) ≤ 5 ^ n := Int.pow_pos (by decide)
  refine ⟨c, sp, ns, k, rfl, hs, h63, hp, h0, by omega, fun m m0 m1 => ?_⟩
  have hl1 : (upd H sp (.lst [.int (k + 1)])) lf = some (.lst [.int z]) := by rw [upd_ne hne.symm]; exact hl
  refine ⟨lf, _, 0, _, rfl, rfl, SqL.of hl1, rfl, ?_⟩
  walk_at "rd"
  refine ⟨_, hl1, 0, rfl, ?_⟩
  walk_at "rd"
  obtain ⟨H2, eH2⟩ : ∃ H2, H2 = upd (upd H sp (.lst [.int (k + 1)])) lf (.lst [.int (z - 1)]) := ⟨_, rfl⟩
  rw [← eH2]
  have K2 : Keep [sp, lf] H H2 := by rw [eH2]; exact ((Keep.refl _ H).mut (by simp)).mut (by simp)
  have esp : H2 sp = some (.lst [.int (k + 1)]) := by rw [eH2, upd_ne hne, upd_same]
  have elf : H2 lf = some (.lst [.int (z - 1)]) := by rw [eH2, upd_same]
  have hs2 : Scr K H2 c ns := by rw [eH2]; exact (hs.put hp).put hl1
  clear eH2
  have leaf : sp_leaf [V.int (m / 9)] H2 Q E0 := ⟨m / 9, rfl, by omega, by omega, fun v H' ⟨d, hd, hv⟩ s => q v d H' (k + 1) (z - 1) (K2.trans (.of s)) (s _ _ esp) (by omega) (by omega) (s _ _ elf) (by rw [leaf_cnt hd]; omega) (.inl rfl) ((Re.leaf hd (hv _)).up (by omega)) (docD.leaf hd n)⟩
  have inS : ∀ b ∈ [sp, lf], ∃ xs, H2 b = some (.lst xs) := fun b hb => by
    simp only [List.mem_cons, List.not_mem_nil, or_false] at hb
    rcases hb with rfl | rfl
    · exact ⟨_, esp⟩
    · exact ⟨_, elf⟩
  split
  · exact ⟨⟨by decide, by decide⟩, leaf⟩
  rename_i hdeep
  refine ⟨lf, _, 0, _, rfl, rfl, SqL.of elf, rfl, ?_⟩
  walk_at "rd"
  split
  · exact ⟨⟨by decide, by decide⟩, leaf⟩
  rename_i hleft
  refine ⟨by decide, ?_⟩
  split
  · exact ⟨⟨by decide, by decide⟩, leaf⟩
  refine ⟨by decide, ?_⟩
  split
  · -- a list
    have m4 := mod_in (m / 9) (m := 4) (by decide)
    refine ⟨⟨by decide, by decide⟩, by decide, by omega, by omega, ?_⟩
    have hr4 : (m / 9 % 4).toNat ≤ 4 := by omega
    generalize (m / 9 % 4).toNat = r at hr4 ⊢
    refine lc_itR walk_range (fun D i H' => TrL sp lf D (upd H2 D (.lst [])) (k + 1) (5 ^ n) (z - 1) n i H')
      (fun D hD => ⟨[], [], ⟨Keep.refl _ _, k + 1, z - 1, by rw [upd_ne (ne_of_none esp hD)]; exact esp, by omega, by omega, by rw [upd_ne (ne_of_none elf hD)]; exact elf, by simp [cntAll], by omega⟩, upd_same, rfl, .nil, by simp⟩) (fun _ _ _ _ _ _ => trivial) ?_ ?_
    · rintro D i x H0 H' hD hi ⟨vs, ds, ⟨K', k', z', e1, l1, l2, e2, c1, c2⟩, e3, hlen, hpd, hdd⟩ ⟨rfl, rfl⟩
      have hiP : (i : Int) * 5 ^ n ≤ 3 * 5 ^ n := Int.mul_le_mul_of_nonneg_right (by omega) (by omega)
      have hi1 : ((i + 1 : Nat) : Int) * 5 ^ n = i * 5 ^ n + 5 ^ n := by rw [Int.natCast_add, Int.add_mul]; simp
      have nsp : D ≠ sp := fun z => by rw [z, esp] at hD; cases hD
      have nlf : D ≠ lf := fun z => by rw [z, elf] at hD; cases hD
      have hx : ∀ a ∈ [sp, lf, D], (upd H2 D (.lst [])) a ≠ none := by simp [upd_same, upd_ne nsp.symm, upd_ne nlf.symm, esp, elf]
      have hx' : ∀ a ∈ [sp, lf, D], H' a ≠ none := by simp [e1, e2, e3]
      walk_at "rd"
      refine ⟨c, sp, lf, ns, k', z', deep - 1, rfl, (hs2.same (same_new hD _)).keep K' (by simp [upd_same, upd_ne nsp.symm, upd_ne nlf.symm, esp, elf]), h63, e1, by omega, by omega, e2, hne, by omega, by omega, fun v d H4 k4 z4 K4 s4 a4 b4 f4 g4 h4 r4 d4 => ?_⟩
      have K4' : Keep [sp, lf, D] H' H4 := K4.sub (by simp)
      have g := grow (o := .lst (vs ++ [v])) K' K4' hx hx' (D := D) (by simp)
      refine ⟨vs, K4 _ _ e3 (by simp [nsp, nlf]), sz5l (by omega), ?_⟩
      refine ⟨vs ++ [v], ds ++ [d], ⟨(K'.trans K4').mut (by simp), k4, z4, by rw [upd_ne nsp.symm]; exact s4, by omega, by omega, by rw [upd_ne nlf.symm]; exact f4, by simp [cntAll_app, cntAll]; omega, by omega⟩, upd_same, by simp [hlen], pd_app (pd_imp hpd fun _ _ _ _ r => r.imp g.1) (.cons (r4.imp g.2) .nil), ?_⟩
      intro e he
      rcases List.mem_append.mp he with he | he
      · exact hdd e he
      · simp at he; subst he; exact d4
    · rintro D H' hD ⟨vs, ds, ⟨K', k', z', e1, l1, l2, e2, c1, c2⟩, e3, hlen, hpd, hdd⟩
      have hiP : (r : Int) * 5 ^ n ≤ 4 * 5 ^ n := Int.mul_le_mul_of_nonneg_right (by omega) (by omega)
      have nsp : D ≠ sp := fun z => by rw [z, esp] at hD; cases hD
      have nlf : D ≠ lf := fun z => by rw [z, elf] at hD; cases hD
      have hDH : H D = none := K2.free hD (by simp [nsp, nlf])
      have hnew : Same (news (upd H2 D (.lst [])) H') (news H H') := news_more (K2.new hD) (by simp [upd_ne nsp.symm, upd_ne nlf.symm, esp, elf])
      refine q (.ref D) (.list ds) H' k' z' (fun b o e hb => ?_) e1 (by omega) (by omega) e2 (by simp only [cnt]; omega) (.inr (by omega)) ⟨D, vs, rfl, by rw [news_at hDH]; exact e3, by omega, pd_imp hpd fun _ _ _ _ r => r.imp hnew⟩ ⟨by rw [← pd_len hpd]; omega, hdd⟩
      have hbD : b ≠ D := ne_of_none e hDH
      simp only [List.mem_cons, List.not_mem_nil, or_false, not_or] at hb
      refine K' b o ?_ (by simp [hb, hbD])
      rw [upd_ne hbD]
      exact K2 b o e (by simp [hb])
  · -- a dict
    intro p hp2
    refine ⟨⟨by decide, by decide⟩, m / 9, rfl, by omega, fun a Hx xs na sx ea hnd hl4 hnm => ⟨a, rfl, ⟨_, SqL.of ea⟩, ?_⟩⟩
    have nsp : p ≠ sp := fun z => by rw [z, esp] at hp2; cases hp2
    have nlf : p ≠ lf := fun z => by rw [z, elf] at hp2; cases hp2
    have hpH : H p = none := K2.free hp2 (by simp [nsp, nlf])
    have s2 : Same H2 Hx := (same_new hp2 _).trans sx
    have exp : Hx p = some (.dK []) := sx _ _ upd_same
    have exs := s2 _ _ esp
    have exl := s2 _ _ elf
    have hx : ∀ a ∈ [sp, lf, p], Hx a ≠ none := by simp [exp, exs, exl]
    have nap : a ∉ [sp, lf, p] := by
      have h1 : a ≠ sp := fun z => by subst z; rw [upd_ne nsp.symm, esp] at na; cases na
      have h2 : a ≠ lf := fun z => by subst z; rw [upd_ne nlf.symm, elf] at na; cases na
      have h3 : a ≠ p := fun z => by subst z; rw [upd_same] at na; cases na
      simp [h1, h2, h3]
    refine fo_it walk_list (fun i σ' H' => TrD sp lf p Hx (k + 1) (5 ^ n) (z - 1) n i xs H' ∧ ∃ lv, σ' = [some (V.ref c), some (V.ref sp), some (V.int deep), some (V.ref lf), some (V.int m), some (V.ref p), lv, none])
      ⟨⟨[], [], ⟨Keep.refl _ _, k + 1, z - 1, exs, by omega, by omega, exl, by simp [cntKv], by omega⟩, exp, by simp, .nil, by simp⟩, none, rfl⟩ (fun i σ' H' _ ⟨⟨_, _, h, _⟩, _⟩ => SqL.of (h.kp _ _ ea nap)) ?_ ?_
    · rintro i x σ' H0 H' hi ⟨⟨kvs, es, ⟨K', k', z', e1, l1, l2, e2, c1, c2⟩, e3, hkeys, hpd, hdd⟩, lv, rfl⟩ ⟨rfl, hxi⟩
      rw [List.length_map] at hi
      rw [List.getElem?_map, List.getElem?_eq_getElem hi] at hxi
      cases hxi
      have hiP : (i : Int) * 5 ^ n ≤ 3 * 5 ^ n := Int.mul_le_mul_of_nonneg_right (by omega) (by omega)
      have hi1 : ((i + 1 : Nat) : Int) * 5 ^ n = i * 5 ^ n + 5 ^ n := by rw [Int.natCast_add, Int.add_mul]; simp
      have hx' : ∀ a ∈ [sp, lf, p], H' a ≠ none := by simp [e1, e2, e3]
      have hkl : kvs.length = i := by
        have := congrArg List.length hkeys
        simp at this
        omega
      walk_at "rd"
      refine ⟨c, sp, lf, ns, k', z', deep - 1, rfl, (hs2.same s2).keep K' (by simp [exp, exs, exl]), h63, e1, by omega, by omega, e2, hne, by omega, by omega, fun v d H4 k4 z4 K4 s4 a4 b4 f4 g4 h4 r4 d4 => ?_⟩
      have K4' : Keep [sp, lf, p] H' H4 := K4.sub (by simp)
      have hnew : (Sum.inr xs[i] : Key) ∉ kvs.map (·.1) := by
        rw [hkeys]
        intro hm
        obtain ⟨y, hy, e⟩ := List.mem_map.mp hm
        cases e
        exact nd_take hnd hi hy
      have g := grow (o := .dK (kvs ++ [(Sum.inr xs[i], v)])) K' K4' hx hx' (D := p) (by simp)
      refine ⟨_, DPut.k (k := Sum.inr xs[i]) (K4 _ _ e3 (by simp [nsp, nlf])) (sz5l (by omega)), ?_⟩
      rw [putK_new v (valV_no hnew)]
      refine ⟨kvs ++ [(Sum.inr xs[i], v)], es ++ [(.str xs[i], d)], ⟨(K'.trans K4').mut (by simp), k4, z4, by rw [upd_ne nsp.symm]; exact s4, by omega, by omega, by rw [upd_ne nlf.symm]; exact f4, by simp [cntKv_app, cntKv]; omega, by omega⟩, upd_same, ?_, pd_app (pd_imp hpd fun _ _ _ _ r => ⟨r.1, r.2.imp g.1⟩) (.cons ⟨rfl, r4.imp g.2⟩ .nil), ?_⟩
      · rw [List.map_append, hkeys, List.take_succ, List.getElem?_eq_getElem hi, List.map_append]
        rfl
      · intro e he
        rcases List.mem_append.mp he with he | he
        · exact hdd e he
        · simp at he; subst he; exact ⟨⟨_, rfl, hnm _ (List.getElem_mem hi)⟩, d4⟩
    · rintro σ' H' ⟨⟨kvs, es, ⟨K', k', z', e1, l1, l2, e2, c1, c2⟩, e3, hkeys, hpd, hdd⟩, lv, rfl⟩
      walk_at "rd"
      have hkl : kvs.length = xs.length := by
        have := congrArg List.length hkeys
        simp at this
        omega
      rw [List.length_map] at l2 hkeys c2
      rw [List.take_length] at hkeys
      have hiP : (xs.length : Int) * 5 ^ n ≤ 4 * 5 ^ n := Int.mul_le_mul_of_nonneg_right (by omega) (by omega)
      have hnew : Same (news Hx H') (news H H') := news_more (K2.trans (.of s2)) (by simp [exs, exl])
      refine q (.ref p) (.dict es) H' k' z' (fun b o e hb => ?_) e1 (by omega) (by omega) e2 (by simp only [cnt]; omega) (.inr (by omega)) ⟨p, kvs, rfl, by rw [news_at hpH]; exact e3, by omega, ?_, pd_imp hpd fun _ _ _ _ r => ⟨r.1, r.2.imp hnew⟩⟩ ⟨by rw [← pd_len hpd]; omega, hdd⟩
      · have hbp : b ≠ p := ne_of_none e hpH
        simp only [List.mem_cons, List.not_mem_nil, or_false, not_or] at hb
        exact K' b o (s2 _ _ (K2 b o e (by simp [hb]))) (by simp [hb, hbp])
      · rw [hkeys]
        exact nd_inr hnd
/-- with no turn left nothing can be asked -/
theorem tree0 : FnOk P w K mg base CX0 1 f fd ["_law_cells", "_law_spot", "_law_deep_here", "_law_left"] (sp_tree K 0) := by
  have no : ∀ vs H Q E, ¬ sp_tree K 0 vs H Q E := by
    rintro vs H Q E ⟨c, sp, lf, ns, k, z, deep, _, _, _, _, _, _, _, _, _, h, _⟩
    omega
  exact ⟨fun vs H Q E h => absurd h (no vs H Q E), fun A outer s H args us vs Q E _ _ _ _ h => absurd h (no vs H Q E)⟩
theorem ok_trees (D : Def K mg "_law_tree" s_law_tree f fd) (B : Blt mg) (R_law_cell : Rdy P w K mg base 1 "_law_cell" ["_law_cells", "_law_spot"] (sp_cell K)) (R_law_leaf : Rdy P w K mg base 1 "_law_leaf" ["_law_n"] sp_leaf) (R_law_names : Rdy P w K mg base 1 "_law_names" ["_law_n"] sp_names) :
    ∀ n : Nat, FnOk P w K mg base CX0 (n + 1) f fd ["_law_cells", "_law_spot", "_law_deep_here", "_law_left"] (sp_tree K n)
  | 0 => tree0
  | n + 1 => ok_tree D B R_law_cell R_law_leaf R_law_names (D.rdy (fun _ _ _ _ _ _ us hl => match us, hl with | [_, _, _, _], _ => rfl) (ok_trees D B R_law_cell R_law_leaf R_law_names n))
end

/-! ### _law_deep -/
abbrev s_law_deep : Stmt := top 59
theorem sc_law_deep : FnScope ["_law_tree_here", "_law_part", "_law_label"] ["_law_tree_here"] (defScope s_law_deep) := ⟨rfl, rfl, rfl, by decide +kernel, rfl, by decide +kernel, by decide +kernel⟩
section
variable {P : Program} {w : World} {K : PySem.W.Frag} {mg : Str → Option Value} {base : Heap} {f : Addr} {fd : FuncData}
theorem ok_deepX {n : Nat} (D : Def K mg "_law_deep" s_law_deep f fd) (B : Blt mg) (R_law_deep : Rdy P w K mg base n "_law_deep" ["_law_tree_here"] (sp_depthX P w K n)) : FnOk P w K mg base CX0 (n + 1) f fd ["_law_tree_here"] (sp_depthX P w K (n + 1)) := by
  refine D.1.ok sc_law_deep (fun vs H Q E h => ?_) (fun cdv A outer s H vs Q E hr h => ?_)
  · obtain ⟨v, d, rfl, _⟩ := h
    rfl
  obtain ⟨v, d, rfl, hd, q⟩ := h
  have hu := hu_of hr
  refine ⟨_, (pss_cons (ps_if (pt_val (pe_callB (isiOK (K := K) rfl) (by rfl) B.b_isinstance (by decide +kernel) (pa_cons (pv 0) (pa_cons (pe_bltn (v := .ty "list") (by rfl) B.b_list (by decide +kernel) rfl) pa_nil))))
   (pss_one (ps_ret (pe_op op_add pe_int (pe_callB (maxK (K := K) rfl rfl) (by rfl) B.b_max (by decide +kernel) (pa_cons (pe_op op_cat (pe_lst (pa_cons pe_int pa_nil)) (pe_lc (own := [("_law_part", 1)]) (by rfl) sc_law_deep.nd (pi_list (pv 0)) (blkOk_by (own := [("_law_part", 1)]) (N := ["_law_tree_here", "_law_part", "_law_label"]) (sc := defScope s_law_deep) (by decide +kernel)) (fun _ _ _ _ _ => (pg_name (i := 1) sc_law_deep.nd rfl (by first | exact Or.inl rfl | exact Or.inr rfl))) (fun _ _ _ _ _ => pts_nil) (fun _ _ _ _ _ => (pe_c R_law_deep hr rfl (pa_cons (pv 1) pa_nil))))) pa_nil)))))
   pss_nil)
  (pss_cons (ps_if (pt_val (pe_callB (isiOK (K := K) rfl) (by rfl) B.b_isinstance (by decide +kernel) (pa_cons (pv 0) (pa_cons (pe_bltn (v := .ty "dict") (by rfl) B.b_dict (by decide +kernel) rfl) pa_nil))))
   (pss_one (ps_ret (pe_op op_add pe_int (pe_callB (maxK (K := K) rfl rfl) (by rfl) B.b_max (by decide +kernel) (pa_cons (pe_op op_cat (pe_lst (pa_cons pe_int pa_nil)) (pe_either (pe_lock (pe_lc (own := [("_law_label", 2)]) (by rfl) sc_law_deep.nd (pi_keys (pv 0)) (blkOk_by (own := [("_law_label", 2)]) (N := ["_law_tree_here", "_law_part", "_law_label"]) (sc := defScope s_law_deep) (by decide +kernel)) (fun _ _ _ _ _ => (pg_name (i := 2) sc_law_deep.nd rfl (by first | exact Or.inl rfl | exact Or.inr rfl))) (fun _ _ _ _ _ => pts_nil) (fun _ _ _ _ _ => (pe_c R_law_deep hr rfl (pa_cons (pe_dget hu (pv 0) (pv 2) (fun _ _ => rfl)) pa_nil))))) (pe_lc (own := [("_law_label", 2)]) (by rfl) sc_law_deep.nd (pi_N rfl (pv 0)) (blkOk_by (own := [("_law_label", 2)]) (N := ["_law_tree_here", "_law_part", "_law_label"]) (sc := defScope s_law_deep) (by decide +kernel)) (fun _ _ _ _ _ => (pg_name (i := 2) sc_law_deep.nd rfl (by first | exact Or.inl rfl | exact Or.inr rfl))) (fun _ _ _ _ _ => pts_nil) (fun _ _ _ _ _ => (pe_c R_law_deep hr rfl (pa_cons (pe_dgetN rfl (u9 hr) (pv 0) (pv 2) (fun _ _ => rfl)) pa_nil)))))) pa_nil)))))
   pss_nil)
  (pss_one (ps_ret pe_int)))), ?_⟩
  walk_at "rd"
  cases d with
  | none => exact isiX .list hd ⟨_, rfl, iteF (isiX .dict hd ⟨_, rfl, iteF (q H (Same.refl H))⟩)⟩
  | bool b => exact isiX .list hd ⟨_, rfl, iteF (isiX .dict hd ⟨_, rfl, iteF (q H (Same.refl H))⟩)⟩
  | int b => exact isiX .list hd ⟨_, rfl, iteF (isiX .dict hd ⟨_, rfl, iteF (q H (Same.refl H))⟩)⟩
  | str b => exact isiX .list hd ⟨_, rfl, iteF (isiX .dict hd ⟨_, rfl, iteF (q H (Same.refl H))⟩)⟩
  | tuple b => exact isiX .list hd ⟨_, rfl, iteF (isiX .dict hd ⟨_, rfl, iteF (q H (Same.refl H))⟩)⟩
  | list ds =>
    obtain ⟨a, xs, rfl, ha, hb, hp⟩ := id hd
    refine isiX .list hd ⟨_, rfl, iteT ⟨by decide, fun p np => ?_⟩⟩
    have s0 : Same H (upd H p (.lst [.int 0])) := same_new np _
    refine ⟨a, rfl, ⟨xs, SqL.of (s0 _ _ ha)⟩, lcP_list (SqL.of (s0 _ _ ha)) ((ds.map (dep n)).map V.int) (by simp [pd_len hp]) (by omega) ?_ ?_⟩
    · intro i x y H' N hx hy s N'
      obtain ⟨e, he, hr'⟩ := pd_get hp hx
      walk_at "rd"
      refine ⟨x, e, rfl, hr'.impL (.of (s0.trans s)), fun H4 s4 => ?_⟩
      simp [he] at hy
      subst hy
      exact N' H4 s4
    · intro D' H' nD s e
      exact max0 (s _ _ upd_same) e (by simp [← pd_len hp]; omega) fun H2 s2 => q H2 ((s0.trans s).trans s2)
  | dict es =>
    rcases id hd with ⟨a, kvs, rfl, ha, hb, hn, hp⟩ | ⟨a, kvs, rfl, ho, hb, _, hp⟩
    · refine isiX .list hd ⟨_, rfl, iteF (isiX .dict hd ⟨_, rfl, iteT ⟨by decide, fun p np => .inl ?_⟩⟩)⟩
      have s0 : Same H (upd H p (.lst [.int 0])) := same_new np _
      refine lcD_keys (rd_same s0 ha) upd_same rfl np s0 ((es.map fun e => dep n e.2).map V.int) (by simp [pd_len hp]) (by omega) ?_ ?_
      · intro i k v y H' N hk hy ls ha' N'
        obtain ⟨e, he, hk', hr'⟩ := pd_get hp hk
        walk_at "rd"
        refine ⟨v, .inl ⟨kvs, k, ha', rfl, (valV_at hn hk).symm⟩, ?_⟩
        refine ⟨v, e.2, rfl, hr'.impL ls, fun H4 s4 => ?_⟩
        simp [he] at hy
        subst hy
        exact N' H4 s4
      · intro D' H' nD s e
        exact max0 (s _ _ upd_same) e (by simp [← pd_len hp]; omega) fun H2 s2 => q H2 ((s0.trans s).trans s2)
    · refine isiX .list hd ⟨_, rfl, iteF (isiX .dict hd ⟨_, rfl, iteT ⟨by decide, fun p np => .inr ?_⟩⟩)⟩
      have s0 : Same H (upd H p (.lst [.int 0])) := same_new np _
      have ho0 := ho.imp s0
      have hlp := pd_len hp
      refine ⟨_, rfl, a, kvs, rfl, ho0, fun o o2 => ?_⟩
      refine lcP_map (walk_N (kvs := kvs)) (fun i x => ∃ k v, kvs[i]? = some (k, x, v)) (fun _ _ _ _ h => h) (fun H' s => s _ _ o2) ((es.map fun e => dep n e.2).map V.int) (by simp [hlp]) (by omega) (fun i x y H' N hx hy s N' => ?_) fun D' H' nD s e => ?_
      · obtain ⟨k, v, hk⟩ := hx
        obtain ⟨e, he, hk', hr'⟩ := pd_get hp hk
        walk_at "rd"
        refine ⟨_, rfl, _, rfl, a, kvs, i, k, x, v, rfl, (ho0.imp s).ks _ (List.mem_of_getElem? hk), ho0.imp s, hk, v, e.2, rfl, hr'.impL (.of (s0.trans s)), fun H4 s4 => ?_⟩
        simp [he] at hy
        subst hy
        exact N' H4 s4
      · exact max0 (s _ _ upd_same) e (by simp [← hlp]; omega) fun H2 s2 => q H2 ((s0.trans s).trans s2)
end
section
variable {P : Program} {w : World} {K : PySem.W.Frag} {mg : Str → Option Value} {base : Heap} {f : Addr} {fd : FuncData}
theorem ok_deepsX (D : Def K mg "_law_deep" s_law_deep f fd) (B : Blt mg) : ∀ n : Nat, FnOk P w K mg base CX0 n f fd ["_law_tree_here"] (sp_depthX P w K n)
  | 0 => ⟨fun vs H Q E ⟨_, _, _, h, _⟩ => h.elim, fun A outer s H args us vs Q E _ _ _ _ ⟨_, _, _, h, _⟩ => h.elim⟩
  | n + 1 => ok_deepX D B (D.rdy (fun _ _ _ _ _ _ us hl => match us, hl with | [_], _ => rfl) (ok_deepsX D B n))
end

/-! ### data of the draw: no instances; the parts of a dict stand apart from it -/
def ReN (w : World) : Nat → Hp → V → PyData → Prop
  | 0, _, _, _ => False
  | n + 1, H, v, .list ds => ∃ a xs, v = .ref a ∧ H a = some (.lst xs) ∧ xs.length ≤ 10000 ∧ Paired (ReN w n H) xs ds
  | n + 1, H, v, .dict es => (∃ a kvs, v = .ref a ∧ H a = some (.dK kvs) ∧ kvs.length ≤ 10000 ∧ (kvs.map (·.1)).Nodup ∧ Paired (KvR (ReN w n (del H a))) kvs es) ∨
      ∃ a kvs, v = .ref a ∧ FzN w H a kvs ∧ kvs.length ≤ 15 ∧ (∃ e ∈ es, ∀ x, e.1 ≠ PyData.str x) ∧ Paired (fun (p : NV) (q : PyData × PyData) => Rp H 3 p.2.1 q.1 ∧ ReN w n H p.2.2 q.2) kvs es
  | n + 1, H, v, .none => Rp H (n + 1) v .none
  | n + 1, H, v, .bool b => Rp H (n + 1) v (.bool b)
  | n + 1, H, v, .int i => Rp H (n + 1) v (.int i)
  | n + 1, H, v, .str x => Rp H (n + 1) v (.str x)
  | n + 1, H, v, .tuple ds => Rp H (n + 1) v (.tuple ds)
theorem same_del {H H' : Hp} (s : Same H H') (a : Addr) : Same (del H a) (del H' a) := fun b o e => by
  have hb : b ≠ a := fun z => by rw [z, del_at] at e; cases e
  rw [del_ne hb] at e ⊢
  exact s _ _ e
theorem ReN.imp {w : World} : ∀ {n : Nat} {H H' : Hp} {v : V} {d : PyData}, Same H H' → ReN w n H v d → ReN w n H' v d
  | 0, _, _, _, _, _, h => h.elim
  | n + 1, H, H', v, .list ds, s, ⟨a, xs, h1, h2, h3, h4⟩ => ⟨a, xs, h1, s _ _ h2, h3, pd_imp h4 fun _ _ _ _ r => r.imp s⟩
  | n + 1, H, H', v, .dict es, s, .inl ⟨a, kvs, h1, h2, h3, h4, h5⟩ => .inl ⟨a, kvs, h1, s _ _ h2, h3, h4, pd_imp h5 fun _ _ _ _ r => ⟨r.1, r.2.imp (same_del s a)⟩⟩
  | n + 1, H, H', v, .dict es, s, .inr ⟨a, kvs, h1, h2, h3, h4, h5⟩ => .inr ⟨a, kvs, h1, h2.imp s, h3, h4, pd_imp h5 fun _ _ _ _ r => ⟨Rp.imp s r.1, r.2.imp s⟩⟩
  | n + 1, H, H', v, .none, s, h => Rp.imp (n := n + 1) s h
  | n + 1, H, H', v, .bool _, s, h => Rp.imp (n := n + 1) s h
  | n + 1, H, H', v, .int _, s, h => Rp.imp (n := n + 1) s h
  | n + 1, H, H', v, .str _, s, h => Rp.imp (n := n + 1) s h
  | n + 1, H, H', v, .tuple _, s, h => Rp.imp (n := n + 1) s h
theorem ReN.x {P : Program} {w : World} {K : PySem.W.Frag} : ∀ {n : Nat} {H : Hp} {v : V} {d : PyData}, ReN w n H v d → ReX P w K H n v d
  | 0, _, _, _, h => h.elim
  | n + 1, H, v, .list ds, ⟨a, xs, h1, h2, h3, h4⟩ => ⟨a, xs, h1, h2, h3, pd_imp h4 fun _ _ _ _ r => r.x⟩
  | n + 1, H, v, .dict es, .inl ⟨a, kvs, h1, h2, h3, h4, h5⟩ => .inl ⟨a, kvs, h1, h2, h3, h4, pd_imp h5 fun _ _ _ _ r => ⟨r.1, (r.2.imp (del_sub _ _)).x⟩⟩
  | n + 1, H, v, .dict es, .inr ⟨a, kvs, h1, h2, h3, h4, h5⟩ => .inr ⟨a, kvs, h1, h2, h3, h4, pd_imp h5 fun _ _ _ _ r => ⟨r.1, r.2.x⟩⟩
  | n + 1, H, v, .none, h => h
  | n + 1, H, v, .bool _, h => h
  | n + 1, H, v, .int _, h => h
  | n + 1, H, v, .str _, h => h
  | n + 1, H, v, .tuple _, h => .inl h
theorem ReN.up1 {w : World} : ∀ {n : Nat} {H : Hp} {v : V} {d : PyData}, ReN w n H v d → ReN w (n + 1) H v d
  | 0, _, _, _, h => h.elim
  | n + 1, H, v, .list ds, ⟨a, xs, h1, h2, h3, h4⟩ => ⟨a, xs, h1, h2, h3, pd_imp h4 fun _ _ _ _ r => r.up1⟩
  | n + 1, H, v, .dict es, .inl ⟨a, kvs, h1, h2, h3, h4, h5⟩ => .inl ⟨a, kvs, h1, h2, h3, h4, pd_imp h5 fun _ _ _ _ r => ⟨r.1, r.2.up1⟩⟩
  | n + 1, H, v, .dict es, .inr ⟨a, kvs, h1, h2, h3, h4, h5⟩ => .inr ⟨a, kvs, h1, h2, h3, h4, pd_imp h5 fun _ _ _ _ r => ⟨r.1, r.2.up1⟩⟩
  | n + 1, H, v, .none, h => Rp.up1 (n := n + 1) h
  | n + 1, H, v, .bool _, h => Rp.up1 (n := n + 1) h
  | n + 1, H, v, .int _, h => Rp.up1 (n := n + 1) h
  | n + 1, H, v, .str _, h => Rp.up1 (n := n + 1) h
  | n + 1, H, v, .tuple _, h => Rp.up1 (n := n + 1) h
theorem ReN.up {w : World} {n m : Nat} {H : Hp} {v : V} {d : PyData} (h : ReN w n H v d) (hl : n ≤ m) : ReN w m H v d := by
  induction hl with
  | refl => exact h
  | step _ ih => exact ih.up1
theorem Re.n {w : World} : ∀ {n : Nat} {H : Hp} {v : V} {d : PyData}, Re H n v d → ReN w n H v d
  | 0, _, _, _, h => h.elim
  | n + 1, H, v, .list ds, ⟨a, xs, h1, h2, h3, h4⟩ => ⟨a, xs, h1, h2, h3, pd_imp h4 fun _ _ _ _ r => r.n⟩
  | n + 1, H, v, .dict es, h => by
    obtain ⟨a, kvs, rfl, h2, h3, h4, h5⟩ := id h
    refine .inl ⟨a, kvs, rfl, h2, h3, h4, pd_imp h5 fun _ e _ he r => ⟨r.1, ?_⟩⟩
    have hsz : sizeOf e.2 < sizeOf (PyData.dict es) := by
      have h4 := List.sizeOf_lt_of_mem he
      obtain ⟨e1, e2⟩ := e
      simp at h4 ⊢
      omega
    exact (Re.of (del_sub _ a) r.2 (Rp.del h.rp hsz r.2.rp)).n
  | n + 1, H, v, .none, h => Re.rp (n := n + 1) h
  | n + 1, H, v, .bool _, h => Re.rp (n := n + 1) h
  | n + 1, H, v, .int _, h => Re.rp (n := n + 1) h
  | n + 1, H, v, .str _, h => Re.rp (n := n + 1) h
  | n + 1, H, v, .tuple _, h => Re.rp (n := n + 1) h
theorem ReN.sh {P : Program} {w : World} : ∀ {n : Nat} {H : Hp} {v : V} {d : PyData}, ReN w n H v d → ShN P w H v d
  | 0, _, _, _, h => h.elim
  | n + 1, H, v, .list ds, ⟨a, xs, h1, h2, h3, h4⟩ => by subst h1; exact ShN.list h2 (pd_imp h4 fun _ _ _ _ r => r.sh)
  | n + 1, H, v, .dict es, .inl ⟨a, kvs, h1, h2, h3, h4, h5⟩ => by subst h1; exact ShN.dict (.inl h2) (pd_imp h5 fun _ _ _ _ r => ⟨r.1, (r.2.imp (del_sub _ _)).sh⟩)
  | n + 1, H, v, .dict es, .inr ⟨a, kvs, h1, h2, h3, h4, h5⟩ => by subst h1; exact ShN.odd h2 (pd_imp h5 fun _ _ _ _ r => ⟨Rp.shN r.1, r.2.sh⟩)
  | n + 1, H, v, .none, h => Rp.shN (n := n + 1) h
  | n + 1, H, v, .bool _, h => Rp.shN (n := n + 1) h
  | n + 1, H, v, .int _, h => Rp.shN (n := n + 1) h
  | n + 1, H, v, .str _, h => Rp.shN (n := n + 1) h
  | n + 1, H, v, .tuple _, h => Rp.shN (n := n + 1) h
theorem ReN.depth {w : World} : ∀ {n : Nat} {H : Hp} {v : V} {d : PyData}, ReN w n H v d → d.depth ≤ n + 3
  | 0, _, _, _, h => h.elim
  | n + 1, H, v, .list ds, ⟨a, xs, h1, h2, h3, h4⟩ => by
    have : PyData.depthAll ds ≤ n + 3 := depthAll_le fun d hd => by
      obtain ⟨x, _, r⟩ := pd_memR h4 hd
      exact r.depth
    show PyData.depthAll ds + 1 ≤ n + 1 + 3
    omega
  | n + 1, H, v, .dict es, .inl ⟨a, kvs, h1, h2, h3, h4, h5⟩ => by
    have : PyData.depthKv es ≤ n + 3 := depthKv_le fun e he => by
      obtain ⟨x, _, r⟩ := pd_memR h5 he
      exact ⟨by rw [r.1]; cases x.1 <;> exact Nat.zero_le _, r.2.depth⟩
    show PyData.depthKv es + 1 ≤ n + 1 + 3
    omega
  | n + 1, H, v, .dict es, .inr ⟨a, kvs, h1, h2, h3, h4, h5⟩ => by
    have : PyData.depthKv es ≤ n + 3 := depthKv_le fun e he => by
      obtain ⟨x, _, r⟩ := pd_memR h5 he
      exact ⟨by have := r.1.depth_le; omega, r.2.depth⟩
    show PyData.depthKv es + 1 ≤ n + 1 + 3
    omega
  | n + 1, H, v, .none, h => by have := Rp.depth_le (n := n + 1) h; omega
  | n + 1, H, v, .bool _, h => by have := Rp.depth_le (n := n + 1) h; omega
  | n + 1, H, v, .int _, h => by have := Rp.depth_le (n := n + 1) h; omega
  | n + 1, H, v, .str _, h => by have := Rp.depth_le (n := n + 1) h; omega
  | n + 1, H, v, .tuple _, h => by have := Rp.depth_le (n := n + 1) h; omega
/-! ### how large -/
def kfine (k : PyData) : Prop := k.showable = true ∧ k.leavesShort 40 = true ∧ k.weight ≤ 62
def okN : Nat → PyData → Prop
  | 0, _ => False
  | n + 1, .list ds => ds.length ≤ 10000 ∧ ∀ d ∈ ds, okN n d
  | n + 1, .dict es => es.length ≤ 60 ∧ ∀ e ∈ es, ((∀ x, e.1 = .str x → x.length ≤ 1000 ∧ AsciiS x) ∧ kfine e.1) ∧ okN n e.2
  | _ + 1, .tuple ds => Fine (.tuple ds) ∧ ∀ m, smallD m (.tuple ds)
  | _ + 1, .none => True
  | _ + 1, .bool _ => True
  | _ + 1, .int i => Fine (.int i)
  | _ + 1, .str x => x.length ≤ 1000 ∧ Fine (.str x)
theorem okN.up1 : ∀ {n : Nat} {d : PyData}, okN n d → okN (n + 1) d
  | 0, _, h => h.elim
  | n + 1, .list ds, h => ⟨h.1, fun d hd => (h.2 d hd).up1⟩
  | n + 1, .dict es, h => ⟨h.1, fun e he => ⟨(h.2 e he).1, (h.2 e he).2.up1⟩⟩
  | n + 1, .none, h => h
  | n + 1, .bool _, h => h
  | n + 1, .int _, h => h
  | n + 1, .str _, h => h
  | n + 1, .tuple _, h => h
theorem okN.up {n m : Nat} {d : PyData} (h : okN n d) (hl : n ≤ m) : okN m d := by
  induction hl with
  | refl => exact h
  | step _ ih => exact ih.up1
theorem okN.small : ∀ {n : Nat} {d : PyData}, okN n d → smallD n d
  | 0, _, h => h.elim
  | n + 1, .list ds, h => fun d hd => (h.2 d hd).small
  | n + 1, .dict es, h => ⟨h.1, fun e he => ⟨(h.2 e he).1.1, (h.2 e he).2.small⟩⟩
  | n + 1, .none, h => trivial
  | n + 1, .bool _, h => trivial
  | n + 1, .int _, h => trivial
  | n + 1, .str _, h => h.1
  | n + 1, .tuple _, h => h.2 (n + 1)
theorem fine_kvN {es : List (PyData × PyData)} (h : ∀ e ∈ es, kfine e.1 ∧ Fine e.2) : PyData.showableKv es = true ∧ PyData.leavesShortKv 40 es = true ∧ PyData.weightKv es ≤ 165 * cntKv es := by
  induction es with
  | nil => exact ⟨rfl, rfl, Nat.zero_le _⟩
  | cons e r ih =>
    obtain ⟨k, d⟩ := e
    obtain ⟨⟨k1, k2, k3⟩, a1, a2, a3⟩ := h (k, d) (by simp)
    obtain ⟨b1, b2, b3⟩ := ih fun e he => h e (by simp [he])
    refine ⟨?_, ?_, ?_⟩
    · show (PyData.showable k && PyData.showable d && _) = true; rw [k1, a1, b1]; rfl
    · show (PyData.leavesShort 40 k && PyData.leavesShort 40 d && _) = true; rw [k2, a2, b2]; rfl
    · show PyData.weight k + PyData.weight d + 2 + PyData.weightKv r ≤ 165 * (cnt d + cntKv r)
      have : PyData.weight d + 64 ≤ 165 * cnt d := a3
      have : PyData.weight k ≤ 62 := k3
      omega
theorem Fine.dictN {es : List (PyData × PyData)} (h : ∀ e ∈ es, kfine e.1 ∧ Fine e.2) : Fine (.dict es) := by
  obtain ⟨b1, b2, b3⟩ := fine_kvN h
  refine ⟨b1, b2, ?_⟩
  show PyData.weightKv es + 64 ≤ 165 * (1 + cntKv es)
  omega
theorem okN.fine : ∀ {n : Nat} {d : PyData}, okN n d → Fine d
  | 0, _, h => h.elim
  | n + 1, .list ds, h => Fine.list fun d hd => (h.2 d hd).fine
  | n + 1, .dict es, h => Fine.dictN fun e he => ⟨(h.2 e he).1.2, (h.2 e he).2.fine⟩
  | n + 1, .none, h => Fine.leaf trivial
  | n + 1, .bool _, h => Fine.leaf trivial
  | n + 1, .int _, h => h
  | n + 1, .str _, h => h.2
  | n + 1, .tuple _, h => h.1
theorem kfine_name {x : Str} (h1 : x.length ≤ 62) (h2 : AsciiS x) : kfine (.str x) := ⟨rfl, ascii_big h2, h1⟩
theorem docD.okN : ∀ {n : Nat} {d : PyData}, docD n d → okN n d
  | 0, _, h => h.elim
  | n + 1, .list ds, h => ⟨by have := h.1; omega, fun d hd => (h.2 d hd).okN⟩
  | n + 1, .dict es, h => ⟨by have := h.1; omega, fun e he => by
    obtain ⟨⟨x, hx, h1, h2⟩, h3⟩ := h.2 e he
    refine ⟨⟨fun y hy => ?_, ?_⟩, h3.okN⟩
    · rw [hx] at hy; cases hy; exact ⟨by omega, h2⟩
    · rw [hx]; exact kfine_name (by omega) h2⟩
  | n + 1, .none, h => trivial
  | n + 1, .bool _, h => trivial
  | n + 1, .int _, h => Fine.leaf h
  | n + 1, .str _, h => ⟨by have := h.1; omega, Fine.leaf h⟩
  | n + 1, .tuple _, h => h.elim
theorem fwN_okN : ∀ {n : Nat} {d : PyData} {p : List Key}, okN n d → fwN n d = some p → ∀ k ∈ p, leafD (kD k)
  | 0, _, _, r, _ => r.elim
  | n + 1, .list ds, p, sm, h => by
    obtain ⟨k, d, q, hm, h2, rfl⟩ := fstR_inv h
    obtain ⟨⟨d', i⟩, hz, he⟩ := List.mem_map.mp hm
    cases he
    have hi := List.mem_zipIdx' hz
    have hd : d' ∈ ds := by rw [hi.2]; exact List.getElem_mem _
    intro k hk
    rcases List.mem_cons.mp hk with rfl | hk
    · have := hi.1
      have hl := sm.1
      exact ⟨by omega, by omega⟩
    · exact fwN_okN (sm.2 d' hd) h2 k hk
  | n + 1, .dict es, p, sm, h => by
    simp only [fwN] at h
    split at h
    · rename_i hall
      obtain ⟨k, d, q, hm, h2, rfl⟩ := fstR_inv h
      obtain ⟨x, hx, he⟩ := List.mem_map.mp hm
      cases he
      obtain ⟨e, he, hxe⟩ := List.mem_map.mp (mem_srt.mp hx)
      have ht := List.all_eq_true.mp hall e he
      obtain ⟨y, hy⟩ : ∃ y, e.1 = .str y := by
        cases h : e.1 with
        | str y => exact ⟨y, rfl⟩
        | _ => rw [h] at ht; cases ht
      rw [hy] at ht hxe
      have hxe : y = x := hxe
      subst hxe
      cases hg : dget es y with
      | none => exact absurd (mem_srt.mp hx) (dget_none hg)
      | some d2 =>
        rw [hg] at h2
        obtain ⟨e2, he2, rfl, _⟩ := dget_mem hg
        intro k hk
        rcases List.mem_cons.mp hk with rfl | hk
        · exact ⟨of_decide_eq_true ht, ((sm.2 e he).1.1 y hy).2⟩
        · exact fwN_okN (sm.2 e2 he2).2 h2 k hk
    · cases h; intro k hk; cases hk
  | n + 1, .none, p, _, h => by cases h
  | n + 1, .bool _, p, _, h => by cases h
  | n + 1, .str x, p, _, h => by
    simp only [fwN] at h
    split at h <;> cases h
    intro k hk; cases hk
  | n + 1, .int x, p, _, h => by
    simp only [fwN] at h
    split at h <;> cases h
    intro k hk; cases hk
  | n + 1, .tuple _, p, _, h => by cases h; intro k hk; cases hk

/-! ### _law_odd -/
def sp_lodd (w : World) : Sp := fun vs H Q _ => ∃ m : Int, vs = [.int m] ∧ 0 ≤ m ∧ ∀ v d H', Same H H' → ReN w 2 (news H H') v d → okN 2 d → cnt d ≤ 3 → Q v H'
theorem nn_of {H H' : Hp} {a : Addr} (s : Same H H') (n : H' a = none) : H a = none := by
  cases h : H a with
  | none => rfl
  | some o => rw [s _ _ h] at n; cases n
abbrev s_law_odd : Stmt := top 57
theorem sc_law_odd : FnScope ["_law_n", "_law_some"] ["_law_n"] (defScope s_law_odd) := ⟨rfl, rfl, rfl, by decide +kernel, rfl, by decide +kernel, by decide +kernel⟩
section
variable {P : Program} {w : World} {K : PySem.W.Frag} {mg : Str → Option Value} {base : Heap} {f : Addr} {fd : FuncData}
theorem ok_lodd (D : Def K mg "_law_odd" s_law_odd f fd) (B : Blt mg) : FnOk P w K mg base CX0 1 f fd ["_law_n"] (sp_lodd w) := by
  refine D.1.ok sc_law_odd (fun vs H Q E h => ?_) (fun cdv A outer s H vs Q E hr h => ?_)
  · obtain ⟨m, rfl, _⟩ := h
    rfl
  obtain ⟨m, rfl, m0, q⟩ := h
  have hu := hu_of hr
  refine ⟨_, (pss_cons (ps_set (i := 1) sc_law_odd.nd rfl (by first | exact Or.inl rfl | exact Or.inr rfl) (pe_lst (pa_cons (pe_tup pa_nil) (pa_cons (pe_tup (pa_cons pe_int pa_nil)) (pa_cons (pe_op op_add (pe_op op_pow pe_int pe_int) pe_int) (pa_cons (pe_op op_sub (pe_un un_neg (pe_op op_pow pe_int pe_int)) pe_int) (pa_cons (pe_op op_mul_str pe_str pe_int) (pa_cons (pe_disp (L2.pps_cons pe_int pe_int L2.pps_nil) (by rfl) (by rfl) (fun z => by cases z) (by decide)) (pa_cons (pe_disp (L2.pps_cons (pe_op op_mul_str pe_str pe_int) pe_int L2.pps_nil) (by rfl) (by rfl) (fun z => by cases z) (by decide)) pa_nil)))))))))
  (pss_cons (ps_set (i := 1) sc_law_odd.nd rfl (by first | exact Or.inl rfl | exact Or.inr rfl) (pe_op op_cat (pv 1) (pe_lst (pa_cons (pe_dispN rfl (u8 hr) (L2.pps_cons pe_non pe_non (L2.pps_cons pe_str (pe_tup pa_nil) L2.pps_nil)) (by rfl) (by rfl) (fun z => by cases z) (by decide)) (pa_cons (pe_dispN rfl (u8 hr) (L2.pps_cons (pe_tup pa_nil) pe_int L2.pps_nil) (by rfl) (by rfl) (fun z => by cases z) (by decide)) (pa_cons (pe_dispN rfl (u8 hr) (L2.pps_cons pe_bl pe_bl L2.pps_nil) (by rfl) (by rfl) (fun z => by cases z) (by decide)) pa_nil))))))
  (pss_one (ps_ret (pe_ix (ixLK (K := K) rfl) (pv 1) (pe_op op_mod (pv 0) pe_int) (fun _ _ => rfl)))))), ?_⟩
  walk_at "rd"
  have cp : CPow 10 30 := ⟨by decide, by decide⟩
  refine ⟨Nat.zero_le _, fun a1 n1 => ⟨sz5 (by omega), fun a2 n2 => ⟨cp, cp, mul_ok (by decide +kernel) (by decide) (by decide), fun a3 n3 => ⟨upd_same, [(.inl 1, .int 2)], rfl, by simp, fun a4 n4 => ⟨mul_ok (by decide +kernel) (by decide) (by decide), upd_same, [(.inr (Txt.mul (Str.ofString "b") 61), .int 0)], rfl, by simp, sz5 (by omega), fun a5 n5 => ?_⟩⟩⟩⟩⟩
  have hm1 : mergeK [] [((Sum.inl 1 : Key), V.int 2)] = [((Sum.inl 1 : Key), V.int 2)] := by simp [mergeK, putK, valV]
  have hm2 : mergeK [] [((Sum.inr (Txt.mul (Str.ofString "b") 61) : Key), V.int 0)] = [((Sum.inr (Txt.mul (Str.ofString "b") 61) : Key), V.int 0)] := by simp [mergeK, putK, valV]
  rw [hm1] at n4 n5 ⊢
  rw [hm2] at n5 ⊢
  have t1 := same_new n1 (.tup [])
  have t2 := same_new n2 (.tup [.int 1])
  have t3 := same_mut (o := .dK [(Sum.inl 1, V.int 2)]) (same_new n3 (.dK [])) n3
  have t4 := same_mut (o := .dK [(Sum.inr (Txt.mul (Str.ofString "b") 61), V.int 0)]) (same_new n4 (.dK [])) n4
  have e1 := t4 _ _ (t3 _ _ (t2 _ _ (show upd H a1 (.tup []) a1 = _ from upd_same)))
  have e2 := t4 _ _ (t3 _ _ (show upd (upd H a1 (.tup [])) a2 (.tup [.int 1]) a2 = _ from upd_same))
  have e3 := t4 _ _ (show upd (upd (upd (upd H a1 (.tup [])) a2 (.tup [.int 1])) a3 (.dK [])) a3 (.dK [(Sum.inl 1, V.int 2)]) a3 = _ from upd_same)
  have e4 : upd (upd (upd (upd (upd (upd H a1 (.tup [])) a2 (.tup [.int 1])) a3 (.dK [])) a3 (.dK [(Sum.inl 1, V.int 2)])) a4 (.dK [])) a4 (.dK [(Sum.inr (Txt.mul (Str.ofString "b") 61), V.int 0)]) a4 = _ := upd_same
  have t14 := ((t1.trans t2).trans t3).trans t4
  have g1 : H a1 = none := n1
  have g2 : H a2 = none := nn_of t1 n2
  have g3 : H a3 = none := nn_of (t1.trans t2) n3
  have g4 : H a4 = none := nn_of ((t1.trans t2).trans t3) n4
  clear t1 t2 t3 t4
  generalize upd (upd (upd (upd (upd (upd H a1 (.tup [])) a2 (.tup [.int 1])) a3 (.dK [])) a3 (.dK [(Sum.inl 1, V.int 2)])) a4 (.dK [])) a4 (.dK [(Sum.inr (Txt.mul (Str.ofString "b") 61), V.int 0)]) = H5 at *
  have e5 : upd H5 a5 (.lst [V.ref a1, V.ref a2, V.int (10 ^ Int.toNat 30 + 1), V.int (-10 ^ Int.toNat 30 - 1), V.str (Txt.mul (Str.ofString "a") 61), V.ref a3, V.ref a4]) a5 = _ := upd_same
  have s5 := t14.trans (same_new n5 (.lst [V.ref a1, V.ref a2, V.int (10 ^ Int.toNat 30 + 1), V.int (-10 ^ Int.toNat 30 - 1), V.str (Txt.mul (Str.ofString "a") 61), V.ref a3, V.ref a4]))
  replace e1 := same_new n5 (.lst [V.ref a1, V.ref a2, V.int (10 ^ Int.toNat 30 + 1), V.int (-10 ^ Int.toNat 30 - 1), V.str (Txt.mul (Str.ofString "a") 61), V.ref a3, V.ref a4]) _ _ e1
  replace e2 := same_new n5 (.lst [V.ref a1, V.ref a2, V.int (10 ^ Int.toNat 30 + 1), V.int (-10 ^ Int.toNat 30 - 1), V.str (Txt.mul (Str.ofString "a") 61), V.ref a3, V.ref a4]) _ _ e2
  replace e3 := same_new n5 (.lst [V.ref a1, V.ref a2, V.int (10 ^ Int.toNat 30 + 1), V.int (-10 ^ Int.toNat 30 - 1), V.str (Txt.mul (Str.ofString "a") 61), V.ref a3, V.ref a4]) _ _ e3
  replace e4 := same_new n5 (.lst [V.ref a1, V.ref a2, V.int (10 ^ Int.toNat 30 + 1), V.int (-10 ^ Int.toNat 30 - 1), V.str (Txt.mul (Str.ofString "a") 61), V.ref a3, V.ref a4]) _ _ e4
  generalize upd H5 a5 (.lst [V.ref a1, V.ref a2, V.int (10 ^ Int.toNat 30 + 1), V.int (-10 ^ Int.toNat 30 - 1), V.str (Txt.mul (Str.ofString "a") 61), V.ref a3, V.ref a4]) = H6 at *
  simp only [tDispN]
  walk_at "rd"
  intro b1 nb1
  refine ⟨Nat.zero_le _, fun b2 nb2 => ?_⟩
  have d12 : b1 ≠ b2 := ne_of_none upd_same nb2
  refine ⟨by rw [upd_ne d12]; exact upd_same, [(.none, .non, .non), (.text (Str.ofString "a"), .str (Str.ofString "a"), .ref b2)], rfl, ?_, by simp, fun o1 F1 => ?_⟩
  · intro p hp
    simp only [List.mem_cons, List.not_mem_nil, or_false] at hp
    rcases hp with rfl | rfl <;> rfl
  have q1 : Same H6 (upd (upd (upd H6 b1 (.dK [])) b2 (.tup [])) b1 (oddH o1)) := same_mut ((same_new nb1 _).trans (same_new nb2 _)) nb1
  have eb2 : upd (upd (upd H6 b1 (.dK [])) b2 (.tup [])) b1 (oddH o1) b2 = some (.tup []) := by rw [upd_ne d12.symm]; exact upd_same
  have hb1 := nn_of s5 nb1
  have hb2 := nn_of (s5.trans (same_new nb1 _)) nb2
  generalize upd (upd (upd H6 b1 (.dK [])) b2 (.tup [])) b1 (oddH o1) = H7 at *
  intro c1 nc1
  refine ⟨Nat.zero_le _, fun c2 nc2 => ?_⟩
  have d34 : c1 ≠ c2 := ne_of_none upd_same nc2
  refine ⟨by rw [upd_ne d34]; exact upd_same, [(.tup [], .ref c2, .int 1)], rfl, ?_, by simp, fun o2 F2 => ?_⟩
  · intro p hp
    simp only [List.mem_cons, List.not_mem_nil, or_false] at hp
    subst hp
    exact ⟨c2, [], rfl, upd_same, .nil⟩
  have q2 : Same H7 (upd (upd (upd H7 c1 (.dK [])) c2 (.tup [])) c1 (oddH o2)) := same_mut ((same_new nc1 _).trans (same_new nc2 _)) nc1
  have ec2 : upd (upd (upd H7 c1 (.dK [])) c2 (.tup [])) c1 (oddH o2) c2 = some (.tup []) := by rw [upd_ne d34.symm]; exact upd_same
  have hc1 := nn_of (s5.trans q1) nc1
  have hc2 := nn_of ((s5.trans q1).trans (same_new nc1 _)) nc2
  generalize upd (upd (upd H7 c1 (.dK [])) c2 (.tup [])) c1 (oddH o2) = H8 at *
  intro k1 nk1
  refine ⟨upd_same, [(.num 1, .bl true, .bl false)], rfl, ?_, by simp, fun o3 F3 => ?_⟩
  · intro p hp
    simp only [List.mem_cons, List.not_mem_nil, or_false] at hp
    subst hp
    exact .inr ⟨true, rfl, rfl⟩
  have q3 : Same H8 (upd (upd H8 k1 (.dK [])) k1 (oddH o3)) := same_mut (same_new nk1 _) nk1
  have hk1 := nn_of ((s5.trans q1).trans q2) nk1
  generalize upd (upd H8 k1 (.dK [])) k1 (oddH o3) = H9 at *
  refine ⟨sz5 (by omega), fun r1 nr1 => ⟨a5, r1, _, _, rfl, rfl, (same_new nr1 _) _ _ (q3 _ _ (q2 _ _ (q1 _ _ e5))), upd_same, sz5 (by simp), fun r2 nr2 => ⟨by decide, ?_⟩⟩⟩
  have q4 := q3.trans ((same_new nr1 (.lst [V.ref b1, V.ref c1, V.ref k1])).trans (same_new nr2 (.lst ([V.ref a1, V.ref a2, V.int (10 ^ Int.toNat 30 + 1), V.int (-10 ^ Int.toNat 30 - 1), V.str (Txt.mul (Str.ofString "a") 61), V.ref a3, V.ref a4] ++ [V.ref b1, V.ref c1, V.ref k1]))))
  have F3 := F3.imp ((same_new nr1 (.lst [V.ref b1, V.ref c1, V.ref k1])).trans (same_new nr2 (.lst ([V.ref a1, V.ref a2, V.int (10 ^ Int.toNat 30 + 1), V.int (-10 ^ Int.toNat 30 - 1), V.str (Txt.mul (Str.ofString "a") 61), V.ref a3, V.ref a4] ++ [V.ref b1, V.ref c1, V.ref k1]))))
  have m10 := mod_in m (m := 10) (by decide)
  refine ix_any upd_same (by omega) (by simp; omega) fun x hx => ?_
  generalize upd (upd H9 r1 _) r2 _ = Hf at *
  have sF : Same H Hf := s5.trans (q1.trans (q2.trans q4))
  have w1 := (q1.trans (q2.trans q4)) _ _ e1
  have w2 := (q1.trans (q2.trans q4)) _ _ e2
  have w3 := (q1.trans (q2.trans q4)) _ _ e3
  have w4 := (q1.trans (q2.trans q4)) _ _ e4
  have u2 := (q2.trans q4) _ _ eb2
  have u4 := q4 _ _ ec2
  have F1 := F1.imp (q2.trans q4)
  have F2 := F2.imp q4
  clear q1 q2 q3 q4 e1 e2 e3 e4 e5 eb2 ec2
  have nw : ∀ {a : Addr} {o : HO}, H a = none → Hf a = some o → news H Hf a = some o := fun ha e => by rw [news_at ha]; exact e
  have fz : ∀ {a : Addr} {kvs : List NV}, H a = none → (∀ p ∈ kvs, KR (news H Hf) p.1 p.2.1) → FzN w Hf a kvs → FzN w (news H Hf) a kvs := fun ha hk F => by
    obtain ⟨o, h1, h2⟩ := F.li
    exact ⟨F.ne, ⟨o, nw ha h1, h2⟩, hk⟩
  have a61 : AsciiS (Txt.mul (Str.ofString "a") 61) := by unfold AsciiS; decide +kernel
  have b61 : AsciiS (Txt.mul (Str.ofString "b") 61) := by unfold AsciiS; decide +kernel
  simp only [List.cons_append, List.nil_append, List.mem_cons, List.not_mem_nil, or_false] at hx
  rcases hx with rfl | rfl | rfl | rfl | rfl | rfl | rfl | rfl | rfl | rfl
  · exact q _ (.tuple []) Hf sF ⟨a1, [], rfl, nw g1 w1, by simp, .nil⟩ ⟨⟨rfl, rfl, by decide⟩, fun m => by cases m <;> simp [smallD]⟩ (by simp [cnt, cntAll])
  · exact q _ (.tuple [.int 1]) Hf sF ⟨a2, _, rfl, nw g2 w2, by simp, .cons rfl .nil⟩ ⟨Fine.tuple fun d hd => by simp at hd; subst hd; exact Fine.leaf (by show _ ∧ _; omega), fun m => by cases m <;> simp [smallD]; rename_i m; cases m <;> simp [smallD]⟩ (by simp [cnt, cntAll])
  · exact q _ (.int (10 ^ 30 + 1)) Hf sF rfl ⟨by decide +kernel, by decide +kernel, by decide +kernel⟩ (by simp [cnt])
  · exact q _ (.int (-10 ^ 30 - 1)) Hf sF rfl ⟨by decide +kernel, by decide +kernel, by decide +kernel⟩ (by simp [cnt])
  · exact q _ (.str (Txt.mul (Str.ofString "a") 61)) Hf sF rfl ⟨by decide +kernel, rfl, ascii_big a61, by decide +kernel⟩ (by simp [cnt])
  · refine q _ (.dict [(.int 1, .int 2)]) Hf sF (.inl ⟨a3, _, rfl, nw g3 w3, by simp, by simp, .cons ⟨rfl, rfl⟩ .nil⟩) ⟨by simp, fun e he => ?_⟩ (by simp [cnt, cntKv])
    simp at he; subst he
    exact ⟨⟨fun x hx => (by cases hx), by decide +kernel, by decide +kernel, by decide +kernel⟩, Fine.leaf (by show _ ∧ _; omega)⟩
  · refine q _ (.dict [(.str (Txt.mul (Str.ofString "b") 61), .int 0)]) Hf sF (.inl ⟨a4, _, rfl, nw g4 w4, by simp, by simp, .cons ⟨rfl, rfl⟩ .nil⟩) ⟨by simp, fun e he => ?_⟩ (by simp [cnt, cntKv])
    simp at he; subst he
    refine ⟨⟨fun x hx => ?_, kfine_name (by decide +kernel) b61⟩, Fine.leaf (by show _ ∧ _; omega)⟩
    cases hx
    exact ⟨by decide +kernel, b61⟩
  · refine q _ (.dict [(.none, .none), (.str (Str.ofString "a"), .tuple [])]) Hf sF (.inr ⟨b1, _, rfl, fz hb1 (fun p hp => ?_) F1, by simp, ⟨_, List.mem_cons_self, fun x z => (by cases z)⟩, .cons ⟨rfl, rfl⟩ (.cons ⟨rfl, ⟨b2, [], rfl, nw hb2 u2, by simp, .nil⟩⟩ .nil)⟩) ⟨by simp, fun e he => ?_⟩ (by simp [cnt, cntKv, cntAll])
    · simp only [List.mem_cons, List.not_mem_nil, or_false] at hp
      rcases hp with rfl | rfl <;> rfl
    · simp only [List.mem_cons, List.not_mem_nil, or_false] at he
      rcases he with rfl | rfl
      · exact ⟨⟨fun x hx => (by cases hx), by decide +kernel, by decide +kernel, by decide +kernel⟩, trivial⟩
      · have a1 : AsciiS (Str.ofString "a") := by unfold AsciiS; decide +kernel
        refine ⟨⟨fun x hx => ?_, kfine_name (by decide +kernel) a1⟩, ⟨rfl, rfl, by decide⟩, fun m => by cases m <;> simp [smallD]⟩
        cases hx
        exact ⟨by decide +kernel, a1⟩
  · refine q _ (.dict [(.tuple [], .int 1)]) Hf sF (.inr ⟨c1, _, rfl, fz hc1 (fun p hp => ?_) F2, by simp, ⟨_, List.mem_cons_self, fun x z => (by cases z)⟩, .cons ⟨⟨c2, [], rfl, nw hc2 u4, by simp, .nil⟩, rfl⟩ .nil⟩) ⟨by simp, fun e he => ?_⟩ (by simp [cnt, cntKv])
    · simp only [List.mem_cons, List.not_mem_nil, or_false] at hp
      subst hp
      exact ⟨c2, [], rfl, nw hc2 u4, .nil⟩
    · simp at he; subst he
      exact ⟨⟨fun x hx => (by cases hx), by decide +kernel, by decide +kernel, by decide +kernel⟩, Fine.leaf (by show _ ∧ _; omega)⟩
  · refine q _ (.dict [(.bool true, .bool false)]) Hf sF (.inr ⟨k1, _, rfl, fz hk1 (fun p hp => ?_) F3, by simp, ⟨_, List.mem_cons_self, fun x z => (by cases z)⟩, .cons ⟨rfl, rfl⟩ .nil⟩) ⟨by simp, fun e he => ?_⟩ (by simp [cnt, cntKv])
    · simp only [List.mem_cons, List.not_mem_nil, or_false] at hp
      subst hp
      exact .inr ⟨true, rfl, rfl⟩
    · simp at he; subst he
      exact ⟨⟨fun x hx => (by cases hx), by decide +kernel, by decide +kernel, by decide +kernel⟩, trivial⟩
end

/-! ### _law_first -/
abbrev s_law_first : Stmt := top 60
theorem sc_law_first : FnScope ["_law_tree_here", "_law_rows", "_law_key", "_law_part", "_law_found", "_law_label"] ["_law_tree_here"] (defScope s_law_first) := ⟨rfl, rfl, rfl, by decide +kernel, rfl, by decide +kernel, by decide +kernel⟩
theorem text60 (y : Str) : decide ((60 : Int) < (y.length : Int)) = !isTextD (.str y) := by
  show _ = !decide (y.length ≤ 60)
  rw [← decide_not]
  exact decide_eq_decide.mpr (by omega)
section
variable {P : Program} {w : World} {K : PySem.W.Frag} {mg : Str → Option Value} {base : Heap} {f : Addr} {fd : FuncData}
theorem ok_lfirst {n : Nat} (D : Def K mg "_law_first" s_law_first f fd) (B : Blt mg)
    (R_law_first : Rdy P w K mg base (n + 1) "_law_first" ["_law_tree_here"] (sp_fw P w K n)) : FnOk P w K mg base CX0 (n + 2) f fd ["_law_tree_here"] (sp_fw P w K (n + 1)) := by
  refine D.1.ok sc_law_first (fun vs H Q E h => ?_) (fun cdv A outer s H vs Q E hr h => ?_)
  · obtain ⟨v, d, rfl, _⟩ := h
    rfl
  obtain ⟨v, d, rfl, hd, sm, h100, q⟩ := h
  have hu := hu_of hr
  have hr1 : Room 1 _ := hr.mono (by omega)
  have hdR := hd.rp
  refine ⟨_, (pss_cons (ps_if (pt_val (pe_callB (isiOK (K := K) rfl) (by rfl) B.b_isinstance (by decide +kernel) (pa_cons (pv 0) (pa_cons (pe_bltn (v := .ty "list") (by rfl) B.b_list (by decide +kernel) rfl) pa_nil))))
   (pss_one (ps_set (i := 1) sc_law_first.nd rfl (by first | exact Or.inl rfl | exact Or.inr rfl) (pe_listEn (K := K) rfl rfl (pv 0) (by rfl) B.b_list (by rfl) B.b_enumerate)))
   (pss_one (ps_if (pt_val (pe_callB (isiOK (K := K) rfl) (by rfl) B.b_isinstance (by decide +kernel) (pa_cons (pv 0) (pa_cons (pe_bltn (v := .ty "dict") (by rfl) B.b_dict (by decide +kernel) rfl) pa_nil))))
   (pss_cons (ps_if (pt_cmpR (neNilK (K := K) rfl hu) (pe_either (pe_lock (pe_lc (own := [("_law_label", 5)]) (by rfl) sc_law_first.nd (pi_keys (pv 0)) (blkOk_by (own := [("_law_label", 5)]) (N := ["_law_tree_here", "_law_rows", "_law_key", "_law_part", "_law_found", "_law_label"]) (sc := defScope s_law_first) (by decide +kernel)) (fun _ _ _ _ _ => (pg_name (i := 5) sc_law_first.nd rfl (by first | exact Or.inl rfl | exact Or.inr rfl))) (fun _ _ _ _ _ => (pts_one (PW.pt (pw_or (pt_not (pt_val (pe_callB (isiOK (K := K) rfl) (by rfl) B.b_isinstance (by decide +kernel) (pa_cons (pv 5) (pa_cons (pe_bltn (v := .ty "str") (by rfl) B.b_str (by decide +kernel) rfl) pa_nil))))) (pw_or1 (pt_cmpR op_gt (pe_callB (lenK (K := K) rfl) (by rfl) B.b_len (by decide +kernel) (pa_cons (pv 5) pa_nil)) pe_int (nomark _))))))) (fun _ _ _ _ _ => (pv 5)))) (pe_lc (own := [("_law_label", 5)]) (by rfl) sc_law_first.nd (pi_N rfl (pv 0)) (blkOk_by (own := [("_law_label", 5)]) (N := ["_law_tree_here", "_law_rows", "_law_key", "_law_part", "_law_found", "_law_label"]) (sc := defScope s_law_first) (by decide +kernel)) (fun _ _ _ _ _ => (pg_name (i := 5) sc_law_first.nd rfl (by first | exact Or.inl rfl | exact Or.inr rfl))) (fun _ _ _ _ _ => (pts_one (PW.pt (pw_or (pt_not (pt_val (pe_callB (isiOK (K := K) rfl) (by rfl) B.b_isinstance (by decide +kernel) (pa_cons (pv 5) (pa_cons (pe_bltn (v := .ty "str") (by rfl) B.b_str (by decide +kernel) rfl) pa_nil))))) (pw_or1 (pt_cmpR op_gt (pe_callB (lenK (K := K) rfl) (by rfl) B.b_len (by decide +kernel) (pa_cons (pv 5) pa_nil)) pe_int (nomark _))))))) (fun _ _ _ _ _ => (pv 5)))) (pe_lst pa_nil) (nomark _))
   (pss_one (ps_ret (pe_tup pa_nil)))
   pss_nil)
  (pss_one (ps_setLc (i := 1) (own := [("_law_label", 5)]) (by rfl) sc_law_first.nd rfl rfl (sw_true rfl rfl rfl (by decide +kernel)) (pi_list (pe_callB (sortedSK (K := K) rfl) (by rfl) B.b_sorted (by decide +kernel) (pa_cons (pe_callTy (call_listD rfl) (by rfl) B.b_list (by decide +kernel) (pa_cons (pv 0) pa_nil)) pa_nil))) (blkOk_by (own := [("_law_label", 5)]) (N := ["_law_tree_here", "_law_rows", "_law_key", "_law_part", "_law_found", "_law_label"]) (sc := defScope s_law_first) (by decide +kernel)) (fun _ _ _ _ _ => (pg_name (i := 5) sc_law_first.nd rfl (by first | exact Or.inl rfl | exact Or.inr rfl))) (fun _ _ _ _ _ => pts_nil) (fun _ _ _ _ _ => (pe_tup (pa_cons (pv 5) (pa_cons (pe_dget hu (pv 0) (pv 5) (fun _ _ => rfl)) pa_nil)))))))
   (pss_one (ps_if (pt_val (pe_callB (isiOK (K := K) rfl) (by rfl) B.b_isinstance (by decide +kernel) (pa_cons (pv 0) (pa_cons (pe_bltn (v := .ty "str") (by rfl) B.b_str (by decide +kernel) rfl) pa_nil))))
   (pss_one (ps_ret (pe_ifExp (pt_cmpR op_lt (pe_callB (lenK (K := K) rfl) (by rfl) B.b_len (by decide +kernel) (pa_cons (pv 0) pa_nil)) pe_int (nomark _)) pe_non (pe_tup pa_nil))))
   (pss_one (ps_if (pt_val (pe_callB (isiOK (K := K) rfl) (by rfl) B.b_isinstance (by decide +kernel) (pa_cons (pv 0) (pa_cons (pe_bltn (v := .ty "int") (by rfl) B.b_int (by decide +kernel) rfl) pa_nil))))
   (pss_one (ps_ret (pe_ifExp (pt_chain op_leN op_leN (pe_un un_neg (pe_op op_pow pe_int pe_int)) (pv 0) (pe_op op_pow pe_int pe_int)) pe_non (pe_tup pa_nil))))
   (pss_one (ps_ret (pe_ifExp (pt_cmpR op_isN (pv 0) pe_non (nomark _)) pe_non (pe_tup pa_nil)))))))))))
  (pss_cons (ps_for PassesOwn.never rfl (pi_list (pv 1)) (pg_tup (by rfl) (pgs_cons (pg_name (i := 2) sc_law_first.nd rfl (by first | exact Or.inl rfl | exact Or.inr rfl)) (pgs_cons (pg_name (i := 3) sc_law_first.nd rfl (by first | exact Or.inl rfl | exact Or.inr rfl)) pgs_nil)))
   (pss_cons (ps_set (i := 4) sc_law_first.nd rfl (by first | exact Or.inl rfl | exact Or.inr rfl) (pe_c R_law_first hr rfl (pa_cons (pv 3) pa_nil)))
  (pss_one (ps_if (pt_cmpR op_notN (pv 4) pe_non (nomark _))
   (pss_one (ps_ret (pe_op (op_catAK (K := K) rfl) (pe_tup (pa_cons (pv 2) pa_nil)) (pv 4))))
   pss_nil))))
  (pss_one (ps_ret pe_non)))), ?_⟩
  refine cutM (fun σ' H' => Same H H' ∧ ∃ r rs, fwN (n + 1) d = fstR (fwN n) rs ∧ FwRows P w K H' r n rs ∧ rs.length ≤ 10000 ∧ ∃ z1 z2 z3 z4, σ' = [some v, some (.ref r), z1, z2, z3, z4]) (fun N hN => ?_) ?_
  · walk_at "rd"
    refine isiX .list hdR ⟨_, rfl, ite2 (fun h1 => ?_) fun h1 => isiX .dict hdR ⟨_, rfl, ite2 (fun h2 => ?_) fun h2 => ?_⟩⟩
    · obtain ⟨a, rfl⟩ : ∃ a, d = .list a := by cases d <;> first | exact ⟨_, rfl⟩ | cases h1
      obtain ⟨p1, xs, rfl, ha, hb, hp⟩ := id hd
      refine ⟨p1, rfl, xs, SqL.of ha, sz5l (by omega), fun S ts H2 nS s2 eS hl hrow => hN _ _ ⟨s2, S, rowsL a, rfl, ⟨ts, eS, by rw [hl, pd_len hp]; simp [rowsL], fun j T hj => ?_⟩, by simp [rowsL, ← pd_len hp]; omega, _, _, _, _, rfl⟩⟩
      obtain ⟨x, h3, h4, _⟩ := hrow j T hj
      obtain ⟨dj, h5, h6⟩ := pd_get hp h3
      exact ⟨.inl (j : Nat), x, dj, by simp [rowsL, List.getElem?_zipIdx, h5], h4, h6.imp s2, sm _ (List.mem_of_getElem? h5)⟩
    · obtain ⟨a, rfl⟩ : ∃ a, d = .dict a := by cases d <;> first | exact ⟨_, rfl⟩ | cases h2
      rcases id hd with ⟨p1, xs, rfl, ha, hb, hn, hp⟩ | ⟨p1, kvs, rfl, ho, hb, hno, hp⟩
      rotate_left
      · have hlp := pd_len hp
        refine .inr ⟨_, rfl, p1, kvs, rfl, ho, fun o o2 => ?_⟩
        refine lcN_any (walk_N (kvs := kvs)) (fun i x => ∃ k v, kvs[i]? = some (k, x, v)) (fun _ _ _ _ h => h) (fun H' s => s _ _ o2) (fun i => (a[i]?).elim false fun e => !isTextD e.1) (by omega) (by simp) (fun i x H' N' hx s Nn => ?_) fun D' H2 ys nD s2 e2 hlen hne => ?_
        · obtain ⟨k, v, hk⟩ := hx
          obtain ⟨e, he, hk', _⟩ := pd_get hp hk
          have hk2 : Rp H' 3 x e.1 := hk'.imp s
          rw [he] at Nn
          have Nn : ∀ b : Bool, b = (!isTextD e.1) → N' b H' := fun b hb => hb ▸ Nn _ (Same.refl _)
          walk_at "rd"
          refine .inl (isi1 .str hk2 ⟨_, rfl, ite2 (fun h1 => Nn _ ?_) fun h1 => ?_⟩)
          · cases h9 : e.1 <;> first | rfl | (rw [h9] at h1; cases h1)
          · obtain ⟨y, hy⟩ : ∃ y, e.1 = .str y := by cases h9 : e.1 <;> first | exact ⟨_, rfl⟩ | exact absurd (by rw [h9]; rfl) h1
            have h1000 := ((sm.2 _ (List.mem_of_getElem? he)).1 y hy).1
            rw [hy] at hk2
            cases (show x = .str y from hk2)
            exact ⟨y.length, ⟨sz5 (by omega), rfl⟩, Nn _ (by rw [hy]; exact text60 y)⟩
        · refine ⟨Nat.zero_le _, fun pn npn => ⟨D', pn, _, rfl, rfl, SqL.of ((same_new npn _) _ _ e2), SqL.of upd_same, true, ?_, iteT' rfl ⟨Nat.zero_le _, fun p np => ?_⟩⟩⟩
          · obtain ⟨e, he, hne9⟩ := hno
            obtain ⟨i, hi⟩ := List.getElem?_of_mem he
            have hil : i < kvs.length := by rw [hlp]; exact (List.getElem?_eq_some_iff.mp hi).1
            have : ys ≠ [] := hne ⟨i, hil, by
              rw [hi]
              show (!isTextD e.1) = true
              cases h9 : e.1 with
              | str x => exact absurd h9 (hne9 x)
              | _ => rfl⟩
            rw [decide_eq_true this]
          · refine q _ _ ((s2.trans (same_new npn _)).trans (same_new np _)) ?_
            have : fwN (n + 1) (.dict a) = some [] := by
              simp only [fwN]
              rw [if_neg]
              intro hall
              obtain ⟨e, he, hne9⟩ := hno
              have := List.all_eq_true.mp hall e he
              cases h9 : e.1 with
              | str x => exact absurd h9 (hne9 x)
              | _ => rw [h9] at this; cases this
            rw [this]
            exact ⟨p, rfl, upd_same⟩
      have hxa := pd_len hp
      have h60 := sm.1
      refine .inl ?_
      have hall0 : ∀ xs : List (Key × V), Paired (KvR (ReX P w K H n)) xs a → decide ((((xs.map (·.1)).filter fun k => !isTextD (kD k)).map kV) ≠ []) = !(a.all fun e => isTextD e.1) := fun xs hp => by
        cases hA : a.all fun e => isTextD e.1
        · obtain ⟨e, he, hne⟩ := List.all_eq_false.mp hA
          obtain ⟨x, hx, hr9⟩ := pd_memR hp he
          refine decide_eq_true fun z => ?_
          have hm : x.1 ∈ (xs.map (·.1)).filter fun k => !isTextD (kD k) := List.mem_filter.mpr ⟨List.mem_map.mpr ⟨x, hx, rfl⟩, by rw [← hr9.1]; simpa using hne⟩
          rw [List.map_eq_nil_iff.mp z] at hm
          cases hm
        · refine decide_eq_false fun z => z ?_
          rw [List.map_eq_nil_iff, List.filter_eq_nil_iff]
          intro k hk
          obtain ⟨x, hx, rfl⟩ := List.mem_map.mp hk
          obtain ⟨i, hi⟩ := List.getElem?_of_mem hx
          obtain ⟨e, he, hk', _⟩ := pd_get hp hi
          have := List.all_eq_true.mp hA e (List.mem_of_getElem? he)
          rw [hk'] at this
          simp [this]
      refine lcU_keysF ha rfl (by simp) (fun k => !isTextD (kD k)) (by omega) ?_ ?_
      · intro k v H' N' hk ls ha' Nn
        obtain ⟨i, hi⟩ := List.getElem?_of_mem hk
        obtain ⟨e, he, hk', _⟩ := pd_get hp hi
        have hk' : e.1 = kD k := hk'
        have hk2 : Rp H' 1 (kV k) (kD k) := by cases k <;> rfl
        have Nn : ∀ b : Bool, b = (!isTextD (kD k)) → N' b H' := fun b hb => hb ▸ Nn _ (Same.refl _)
        walk_at "rd"
        refine .inl (isi1 .str hk2 ⟨_, rfl, ite2 (fun h1 => Nn _ ?_) fun h1 => ?_⟩)
        · cases k <;> first | rfl | cases h1
        · obtain ⟨y, rfl⟩ : ∃ y, k = .inr y := by cases k <;> first | exact ⟨_, rfl⟩ | exact absurd rfl h1
          have h1000 := ((sm.2 _ (List.mem_of_getElem? he)).1 y hk').1
          exact ⟨y.length, ⟨sz5 (by omega), rfl⟩, Nn _ (text60 y)⟩
      · intro D' H2 nD s2 e2
        refine ⟨Nat.zero_le _, fun pn npn => ⟨D', pn, _, rfl, rfl, SqL.of ((same_new npn _) _ _ e2), SqL.of upd_same, _, rfl, ?_⟩⟩
        rw [hall0 xs hp]
        have s2 := s2.trans (same_new npn (.lst []))
        generalize upd H2 pn (HO.lst []) = H2 at s2 ⊢
        refine ite2 (fun h3 => ⟨Nat.zero_le _, fun p np => ?_⟩) fun h3 => ?_
        · refine q _ _ (s2.trans (same_new np _)) ?_
          have : fwN (n + 1) (.dict a) = some [] := by
            simp only [fwN]
            rw [if_neg]
            simpa using h3
          rw [this]
          exact ⟨p, rfl, upd_same⟩
        · have hall : (a.all fun e => isTextD e.1) = true := by simpa using h3
          have k1 : StrKeys a := fun e he => by
            have := List.all_eq_true.mp hall e he
            cases h : e.1 with
            | str x => exact ⟨x, rfl⟩
            | _ => rw [h] at this; cases this
          have n1 := keys_nd hp k1 hn
          refine ⟨p1, rfl, xs, .inl (s2 _ _ ha), fun l1 nl1 => ?_⟩
          rw [keysV_of hp k1]
          refine ⟨l1, keysD a, rfl, SqL.of upd_same, by simp [keysD]; omega, fun z1 l2 pz1 sz1 nl2 => ?_⟩
          obtain rfl : z1 = srt (keysD a) := srt_is pz1 sz1
          have s3 : Same H (upd (upd H2 l1 (.lst ((keysD a).map V.str))) l2 (.lst ((srt (keysD a)).map V.str))) := s2.trans ((same_new nl1 _).trans (same_new nl2 _))
          have el : upd (upd H2 l1 (.lst ((keysD a).map V.str))) l2 (.lst ((srt (keysD a)).map V.str)) l2 = some (.lst ((srt (keysD a)).map V.str)) := upd_same
          generalize upd (upd H2 l1 (.lst ((keysD a).map V.str))) l2 (.lst ((srt (keysD a)).map V.str)) = H3 at s3 el ⊢
          refine ⟨l2, rfl, ⟨_, SqL.of el⟩, ?_⟩
          have hsl : (srt (keysD a)).length = a.length := by rw [srt_len]; simp [keysD]
          refine lc_itR (walk_list (xs := (srt (keysD a)).map V.str)) (fun D i H' => FwLc P w K H H3 D n (rowsD a) i H') (fun D hD => ⟨[], same_new hD _, upd_same, rfl, by simp⟩) (fun D i H' _ _ h => SqL.of (h.li.choose_spec.1 _ _ el)) ?_ ?_
          · rintro D i x H4 H5 hD hi ⟨ts, s4, e4, hl4, hr4⟩ ⟨rfl, hx⟩
            rw [List.getElem?_map, Option.map_eq_some_iff] at hx
            obtain ⟨x, hx, rfl⟩ := hx
            have hin : x ∈ keysD a := mem_srt.mp (List.mem_of_getElem? hx)
            rcases get_of hp k1 x with ⟨_, hnone⟩ | ⟨v2, d2, hv2, hd2, hr2⟩
            · exact absurd hin (dget_none hnone)
            obtain ⟨e', he', hde, _⟩ := dget_mem hd2
            have sH := s3.trans s4
            have hil : i < a.length := by
              have := (List.getElem?_eq_some_iff.mp hx).1
              omega
            walk_at "rd"
            refine ⟨v2, .inl ⟨xs, .inr x, .inl (sH _ _ ha), rfl, hv2.symm⟩, sz5 (by omega), fun T nT => ?_⟩
            have s5 : Same H5 (upd H5 T (.tup [V.str x, v2])) := same_new nT _
            refine ⟨_, s5 _ _ e4, sz5l (by simp; omega), ts ++ [T], same_mut (s4.trans s5) hD, by rw [upd_same, List.map_append]; rfl, by simp [hl4], ?_⟩
            intro j T' hj
            have nDT : T ≠ D := fun z => by rw [z] at nT; rw [nT] at e4; cases e4
            by_cases hji : j < ts.length
            · rw [List.getElem?_append_left hji] at hj
              obtain ⟨k, v, d, g1, g2, g3⟩ := hr4 j T' hj
              have nTD : T' ≠ D := ne_of g2 e4 (by intro z; cases z)
              exact ⟨k, v, d, g1, by rw [upd_ne nTD]; exact s5 _ _ g2, g3⟩
            · have hj2 : j = i := by
                have := (List.getElem?_eq_some_iff.mp hj).1
                simp at this
                omega
              subst hj2
              rw [← hl4, List.getElem?_append_right (Nat.le_refl _)] at hj
              simp at hj
              subst hj
              refine ⟨.inr x, v2, d2, by simp [rowsD, hx, hd2], by rw [upd_ne nDT, upd_same]; rfl, hr2, ?_⟩
              rw [← hde]
              exact (sm.2 _ he').2
          · rintro D H4 hD ⟨ts, s4, e4, hl4, hr4⟩
            have sH := s3.trans s4
            refine hN _ _ ⟨sH, D, rowsD a, ?_, ⟨ts, e4, by rw [hl4]; simp [rowsD], fun j T hj => ?_⟩, by simp [rowsD, hsl]; omega, _, _, _, _, rfl⟩
            · simp only [fwN]
              rw [if_pos hall]
            · obtain ⟨k, v, d, g1, g2, g3, g4⟩ := hr4 j T hj
              exact ⟨k, v, d, g1, g2, g3.imp sH, g4⟩
    · have out : ∀ H1, Same H H1 → fwN (n + 1) d = some [] → 0 ≤ sizeLine ∧ ∀ p, H1 p = none → Q (V.ref p) (upd H1 p (HO.tup [])) := fun H1 s1 e => ⟨Nat.zero_le _, fun p np => q _ _ (s1.trans (same_new np _)) (by rw [e]; exact ⟨p, rfl, upd_same⟩)⟩
      have hdL := hd.leaf h1 h2
      have nn : fwN (n + 1) d = none → Q V.non H := fun e => q _ _ (Same.refl _) (by rw [e]; rfl)
      have cp : CPow 10 30 := ⟨by decide, by decide⟩
      cases d with
      | none => cases hd; exact isiX .str hdR ⟨_, rfl, iteF' (by simp [isT]) (isiX .int hdR ⟨_, rfl, iteF' (by simp [isT]) (iteT' rfl (nn rfl))⟩)⟩
      | bool b =>
        cases id hd
        refine isiX .str hdR ⟨_, rfl, iteF' (by simp [isT]) (isiX .int hdR ⟨_, rfl, iteT' rfl ⟨cp, _, _, .inr (.inl ⟨rfl, b, rfl, rfl⟩), _, rfl, iteT' ?_ ⟨cp, _, _, .inr (.inr ⟨b, rfl, rfl, rfl⟩), _, rfl, iteT' ?_ (nn rfl)⟩⟩⟩)⟩
        · cases b <;> decide
        · cases b <;> decide
      | str x =>
        cases id hd
        refine isiX .str hdR ⟨_, rfl, iteT' rfl ⟨x.length, ⟨sz5 (by have : x.length ≤ 1000 := sm; omega), rfl⟩, ite2 (fun h3 => nn ?_) fun h3 => out _ (Same.refl _) ?_⟩⟩
        · simp only [fwN]; rw [if_pos (by omega)]
        · simp only [fwN]; rw [if_neg (by omega)]
      | int x =>
        cases id hd
        refine isiX .str hdR ⟨_, rfl, iteF' (by simp [isT]) (isiX .int hdR ⟨_, rfl, iteT' rfl ⟨cp, _, _, .inl ⟨rfl, rfl⟩, _, rfl, ite2 (fun h3 => ⟨cp, _, _, .inl ⟨rfl, rfl⟩, _, rfl, ite2 (fun h4 => nn ?_) fun h4 => out _ (Same.refl _) ?_⟩) fun h3 => out _ (Same.refl _) ?_⟩⟩)⟩
        · simp only [fwN]; rw [if_pos ⟨by simpa using h3, by simpa using h4⟩]
        · simp only [fwN]; rw [if_neg fun z => h4 (by simpa using z.2)]
        · simp only [fwN]; rw [if_neg fun z => h3 (by simpa using z.1)]
      | tuple x =>
        obtain ⟨p1, rfl⟩ : ∃ p1, v = .ref p1 := hd.elim (fun ⟨p1, _, e, _⟩ => ⟨p1, e⟩) (fun ⟨_, a, _, _, _, e, _⟩ => ⟨a, e⟩)
        exact isiX .str hdR ⟨_, rfl, iteF' (by simp [isT]) (isiX .int hdR ⟨_, rfl, iteF' (by simp [isT]) (iteF' (by simp) (out _ (Same.refl _) rfl))⟩)⟩
      | list x => exact absurd rfl h1
      | dict x => exact absurd rfl h2
  rintro σ' H' ⟨s0, r, rs, hfw, hrows, hlen, z1, z2, z3, z4, rfl⟩
  obtain ⟨ts, er, htl, hts⟩ := hrows.li
  walk_at "rd"
  refine ⟨⟨_, SqL.of er⟩, ?_⟩
  refine fo_it (walk_list (xs := ts.map V.ref)) (fun i σ' H2 => Same H' H2 ∧ (∀ j < i, ∀ q, rs[j]? = some q → fwN n q.2 = none) ∧ ∃ z1 z2 z3 z4, σ' = [some v, some (.ref r), z1, z2, z3, z4]) ⟨Same.refl _, by omega, _, _, _, _, rfl⟩ (fun _ _ _ _ h => SqL.of (h.1 _ _ er)) ?_ ?_
  · rintro i x σ' H2 H3 hi ⟨s1, hno, z1, z2, z3, z4, rfl⟩ ⟨rfl, hx⟩
    rw [List.getElem?_map, Option.map_eq_some_iff] at hx
    obtain ⟨T, hT, rfl⟩ := hx
    obtain ⟨k, u, dj, g1, g2, g3, g4⟩ := hts i T hT
    walk_at "rd"
    refine ⟨_, SqT.of (s1 _ _ g2), rfl, _, _, rfl, _, _, rfl, rfl, u, dj, rfl, g3.imp s1, g4, by omega, fun v' H4 s4 hp4 => ?_⟩
    cases hj : fwN n dj with
    | none =>
      rw [hj] at hp4
      cases hp4
      refine iteF' (by simp) ⟨s1.trans s4, ?_⟩
      intro j hj2 q hq
      by_cases hji : j = i
      · subst hji; rw [g1] at hq; cases hq; exact hj
      · exact hno j (by omega) q hq
    | some p =>
      rw [hj] at hp4
      obtain ⟨t, rfl, ht⟩ := hp4
      have hres : fwN (n + 1) d = some (k :: p) := by rw [hfw]; exact fstR_at hno g1 hj
      refine iteT' (by simp) ⟨sz5 (by omega), fun l nl => ⟨l, t, [kV k], p.map kV, rfl, rfl, SqT.of upd_same, SqT.of ((same_new nl _) _ _ ht), ?_, (fun h => by cases h), fun _ hp0 => ?_, fun _ hp0 l2 nl2 => ?_⟩⟩
      · have := fwN_len hj
        exact sz5 (by simp; omega)
      · refine q _ _ ((s0.trans (s1.trans s4)).trans (same_new nl _)) ?_
        rw [hres]
        refine ⟨l, rfl, ?_⟩
        rw [upd_same, List.map_eq_nil_iff.mp hp0]
        rfl
      · refine q _ _ (((s0.trans (s1.trans s4)).trans (same_new nl _)).trans (same_new nl2 _)) ?_
        rw [hres]
        exact ⟨l2, rfl, upd_same⟩
  · rintro σ' H2 ⟨s1, hno, z1, z2, z3, z4, rfl⟩
    walk_at "rd"
    refine q _ _ (s0.trans s1) ?_
    rw [hfw, fstR_none]
    · rfl
    · intro x hx
      obtain ⟨j, hj⟩ := List.getElem?_of_mem hx
      exact hno j (by have := (List.getElem?_eq_some_iff.mp hj).1; simp; omega) x hj
end

/-! ### _law_spoilt -/
def sp_spl (w : World) (n : Nat) : Sp := fun vs H Q _ => ∃ v d m S, vs = [v, .int m] ∧ 0 ≤ m ∧ (∀ a ∈ S, H a ≠ none) ∧ ReN w n (gone S H) v d ∧ okN n d ∧ ∀ v' d' H', Same H H' → ReN w (n + 1) (gone S H') v' d' → okN (n + 1) d' → cnt d' ≤ cnt d + 2 → Q v' H'
structure OdS (w : World) (p p1 : Addr) (S : List Addr) (L : Hp) (xs : List (Key × V)) (a : List (PyData × PyData)) (n i j : Nat) (H' : Hp) : Prop where
  li : ∃ kvs' es', Keep [p] L H' ∧ H' p = some (.dK kvs') ∧ kvs'.map (·.1) = (xs.take i).map (·.1) ∧ Paired (KvR (ReN w (n + 1) (gone (p1 :: p :: S) H'))) kvs' es' ∧ (∀ e ∈ es', ((∀ x, e.1 = .str x → x.length ≤ 1000 ∧ AsciiS x) ∧ kfine e.1) ∧ okN (n + 1) e.2) ∧ cntKv es' ≤ cntKv (a.take i) + if j < i then 2 else 0
structure OdB (w : World) (p : Addr) (S : List Addr) (L : Hp) (xs : List NV) (a : List (PyData × PyData)) (n i j : Nat) (H' : Hp) : Prop where
  li : ∃ (kvs' : List NV) (es' : List (PyData × PyData)), Keep [p] L H' ∧ BdN w H' p kvs' ∧ kvs'.map (fun q => (q.1, q.2.1)) = (xs.take i).map (fun q => (q.1, q.2.1)) ∧ Paired (fun (q : NV) (e : PyData × PyData) => Rp (gone (p :: S) H') 3 q.2.1 e.1 ∧ ReN w (n + 1) (gone (p :: S) H') q.2.2 e.2) kvs' es' ∧
    es'.map (·.1) = (a.take i).map (·.1) ∧ (∀ e ∈ es', ((∀ x, e.1 = .str x → x.length ≤ 1000 ∧ AsciiS x) ∧ kfine e.1) ∧ okN (n + 1) e.2) ∧ (cntKv es' ≤ cntKv (a.take i) + if j < i then 2 else 0) ∧ KsR (gone (p :: S) H') kvs'
abbrev s_law_spoilt : Stmt := top 58
theorem sc_law_spoilt : FnScope ["_law_tree_here", "_law_n", "_law_at", "_law_found", "_law_k", "_law_label", "_law_part"] ["_law_tree_here", "_law_n"] (defScope s_law_spoilt) := ⟨rfl, rfl, rfl, by decide +kernel, rfl, by decide +kernel, by decide +kernel⟩
section
variable {P : Program} {w : World} {K : PySem.W.Frag} {mg : Str → Option Value} {base : Heap} {f : Addr} {fd : FuncData}
theorem ok_spl {n : Nat} (D : Def K mg "_law_spoilt" s_law_spoilt f fd) (B : Blt mg) (R_law_odd : Rdy P w K mg base 1 "_law_odd" ["_law_n"] (sp_lodd w)) (R_law_spoilt : Rdy P w K mg base (n + 1) "_law_spoilt" ["_law_tree_here", "_law_n"] (sp_spl w n)) : FnOk P w K mg base CX0 (n + 2) f fd ["_law_tree_here", "_law_n"] (sp_spl w (n + 1)) := by
  refine D.1.ok sc_law_spoilt (fun vs H Q E h => ?_) (fun cdv A outer s H vs Q E hr h => ?_)
  · obtain ⟨v, d, m, S, rfl, _⟩ := h
    rfl
  obtain ⟨v, d, m, S, rfl, m0, hS, hd, ok, q⟩ := h
  have hu := hu_of hr
  have hr1 : Room 1 _ := hr.mono (by omega)
  refine ⟨_, (pss_cons (ps_if (PW.pt (pw_or (pt_cmpR op_eq (pe_op op_mod (pv 1) pe_int) pe_int (nomark _)) (pw_or (pt_not (pt_val (pe_callB (isiTOK (K := K) rfl) (by rfl) B.b_isinstance (by decide +kernel) (pa_cons (pv 0) (pa_cons (pe_tup (pa_cons (pe_bltn (v := .ty "list") (by rfl) B.b_list (by decide +kernel) rfl) (pa_cons (pe_bltn (v := .ty "dict") (by rfl) B.b_dict (by decide +kernel) rfl) pa_nil))) pa_nil))))) (pw_or1 (pt_cmpR op_eq (pe_callB (lenNK (K := K) rfl rfl) (by rfl) B.b_len (by decide +kernel) (pa_cons (pv 0) pa_nil)) pe_int (nomark _))))))
   (pss_one (ps_ret (pe_c R_law_odd hr1 rfl (pa_cons (pe_op op_fdiv (pv 1) pe_int) pa_nil))))
   pss_nil)
  (pss_cons (ps_if (pt_val (pe_callB (isiOK (K := K) rfl) (by rfl) B.b_isinstance (by decide +kernel) (pa_cons (pv 0) (pa_cons (pe_bltn (v := .ty "list") (by rfl) B.b_list (by decide +kernel) rfl) pa_nil))))
   (pss_cons (ps_set (i := 2) sc_law_spoilt.nd rfl (by first | exact Or.inl rfl | exact Or.inr rfl) (pe_op op_mod (pe_op op_fdiv (pv 1) pe_int) (pe_callB (lenNK (K := K) rfl rfl) (by rfl) B.b_len (by decide +kernel) (pa_cons (pv 0) pa_nil))))
  (pss_one (ps_ret (pe_op op_cat (pe_op op_cat (pe_slice (slLK (K := K) rfl) (pv 0) po_none (po_some (pv 2))) (pe_lst (pa_cons (pe_c R_law_spoilt hr rfl (pa_cons (pe_ix (ixLK (K := K) rfl) (pv 0) (pv 2) (fun _ _ => rfl)) (pa_cons (pe_op op_fdiv (pv 1) pe_int) pa_nil))) pa_nil))) (pe_slice (slLK (K := K) rfl) (pv 0) (po_some (pe_op op_add (pv 2) pe_int)) po_none)))))
   pss_nil)
  (pss_cons (ps_par (i := 3) (j := 2) (by rfl) sc_law_spoilt.nd rfl rfl (by decide) rfl rfl (pa_cons (pe_either pe_dnewK (pe_thawN rfl pe_dnewK)) (pa_cons (pe_op op_mod (pe_op op_fdiv (pv 1) pe_int) (pe_callB (lenNK (K := K) rfl rfl) (by rfl) B.b_len (by decide +kernel) (pa_cons (pv 0) pa_nil))) pa_nil)) (by rfl))
  (pss_cons (ps_either (ps_lock (ps_for PassesOwn.never rfl (pi_enumK (by rfl) B.b_enumerate (pa_cons (pv 0) pa_nil)) (pg_tup (by rfl) (pgs_cons (pg_name (i := 4) sc_law_spoilt.nd rfl (by first | exact Or.inl rfl | exact Or.inr rfl)) (pgs_cons (pg_name (i := 5) sc_law_spoilt.nd rfl (by first | exact Or.inl rfl | exact Or.inr rfl)) pgs_nil)))
   (pss_cons (ps_set (i := 6) sc_law_spoilt.nd rfl (by first | exact Or.inl rfl | exact Or.inr rfl) (pe_dget hu (pv 0) (pv 5) (fun _ _ => rfl)))
  (pss_one (ps_dput hu (pv 3) (pv 5) (pe_ifExp (pt_cmpR op_eq (pv 4) (pv 2) (nomark _)) (pe_c R_law_spoilt hr rfl (pa_cons (pv 6) (pa_cons (pe_op op_fdiv (pv 1) pe_int) pa_nil))) (pv 6)) rfl))))) (ps_for PassesOwn.never rfl (pi_enumN rfl (by rfl) B.b_enumerate (pa_cons (pv 0) pa_nil)) (pg_tup (by rfl) (pgs_cons (pg_name (i := 4) sc_law_spoilt.nd rfl (by first | exact Or.inl rfl | exact Or.inr rfl)) (pgs_cons (pg_name (i := 5) sc_law_spoilt.nd rfl (by first | exact Or.inl rfl | exact Or.inr rfl)) pgs_nil)))
   (pss_cons (ps_set (i := 6) sc_law_spoilt.nd rfl (by first | exact Or.inl rfl | exact Or.inr rfl) (pe_dgetN rfl (u9 hr) (pv 0) (pv 5) (fun _ _ => rfl)))
  (pss_one (ps_asg (pe_ifExp (pt_cmpR op_eq (pv 4) (pv 2) (nomark _)) (pe_c R_law_spoilt hr rfl (pa_cons (pv 6) (pa_cons (pe_op op_fdiv (pv 1) pe_int) pa_nil))) (pv 6)) (pg_sub (pv 3) (pv 5) (set_oddN rfl (u9 hr))))))))
  (pss_one (ps_ret (pe_either (pv 3) (pe_freezeN rfl (pv 3))))))))), ?_⟩
  -- an odd thing
  have odd : ∀ H1, Same H H1 → sp_lodd w [V.int (m / 4)] H1 Q E0 := fun H1 s1 => ⟨m / 4, rfl, by omega, fun v' d' H2 s2 r ok' c => q v' d' H2 (s1.trans s2) ((r.imp (news_gone (here_same hS s1))).up (by omega)) (ok'.up (by omega)) (by have := cnt_pos d; omega)⟩
  have hX : ∀ H1, Same H H1 → RpX P w K H1 (n + 1) v d := fun H1 s => ((hd.imp (gone_same s)).imp (gone_sub _ _)).x.rp
  refine cutM (fun σ' H' => ∃ z1 z2 z3 z4 z5, σ' = [some v, some (.int m), z1, z2, z3, z4, z5] ∧ Same H H' ∧ ((∃ a, d = .list a ∧ 0 < a.length) ∨ ∃ a, d = .dict a ∧ 0 < a.length)) (fun N hN => ?_) ?_
  · walk_at "rd"
    refine ⟨by decide, rfl, ite2 (fun h => ⟨⟨by decide, by decide⟩, odd H (Same.refl _)⟩) fun h0 => ⟨sz5 (by omega), fun p np => ?_⟩⟩
    have s1 := same_new np (.tup [.ty "list", .ty "dict"])
    have hd1 := (hd.imp (gone_same s1)).imp (gone_sub _ _)
    have e1 : upd H p (.tup [.ty "list", .ty "dict"]) p = some (.tup [.ty "list", .ty "dict"]) := upd_same
    generalize upd H p (.tup [.ty "list", .ty "dict"]) = H1 at s1 hd1 e1 ⊢
    have no : ∀ R : V → Hp → Bool → Prop, isT .list d = false → isT .dict d = false → TyX K H1 v (.type (tyD d)) → rIsiTO K [v, V.ref p] H1 fun x H1 => ∃ c, x = V.bl c ∧ if c = false then CDiv m 4 ∧ sp_lodd w [V.int (m / 4)] H1 Q E0 else R x H1 c := fun R h1 h2 ty => isiT_ty .list .dict ty e1 ⟨_, rfl, iteT' (by rw [h1, h2]; rfl) ⟨⟨by decide, by decide⟩, odd _ s1⟩⟩
    cases d with
    | none => exact no _ rfl rfl (Rp.ty (n := n + 1) hd1)
    | bool b => exact no _ rfl rfl (Rp.ty (n := n + 1) hd1)
    | int b => exact no _ rfl rfl (Rp.ty (n := n + 1) hd1)
    | str b => exact no _ rfl rfl (Rp.ty (n := n + 1) hd1)
    | tuple b => exact no _ rfl rfl (Rp.ty (n := n + 1) hd1)
    | list a =>
      obtain ⟨p1, xs, rfl, ha, hb, hp⟩ := id hd1
      have hxa := pd_len hp
      refine isiT_ty (d := .list a) .list .dict (.base (.lst ha)) e1 ⟨_, rfl, iteF' (by simp [isT]) (.inl ⟨_, _, rfl, LenA.l (SqL.of ha), rfl, ite2 (fun h => ⟨⟨by decide, by decide⟩, odd _ s1⟩) fun h => hN _ _ ⟨_, _, _, _, _, rfl, s1, .inl ⟨a, rfl, ?_⟩⟩⟩)⟩
      simp at h
      rw [← hxa]
      exact List.length_pos_iff.mpr h
    | dict a =>
      rcases id hd1 with ⟨p1, xs, rfl, ha, hb, hn, hp⟩ | ⟨p1, xs, rfl, F, hb, hn, hp⟩
      · have hxa := pd_len hp
        refine isiT_ty (d := .dict a) .list .dict (.base (.dK ha)) e1 ⟨_, rfl, iteF' (by simp [isT]) (.inl ⟨_, _, rfl, LenA.d (.inl ha), rfl, ite2 (fun h => ⟨⟨by decide, by decide⟩, odd _ s1⟩) fun h => hN _ _ ⟨_, _, _, _, _, rfl, s1, .inr ⟨a, rfl, ?_⟩⟩⟩)⟩
        simp at h
        rw [← hxa]
        exact List.length_pos_iff.mpr h
      · have hxa := pd_len hp
        refine isiT_odd .list .dict F e1 ⟨_, rfl, iteF' (by simp [isT]) (.inr ⟨_, _, rfl, F, by omega, rfl, ite2 (fun h => ⟨⟨by decide, by decide⟩, odd _ s1⟩) fun h => hN _ _ ⟨_, _, _, _, _, rfl, s1, .inr ⟨a, rfl, ?_⟩⟩⟩)⟩
        simp at h
        rw [← hxa]
        exact List.length_pos_iff.mpr h
  rintro σ' H1 ⟨z1, z2, z3, z4, z5, rfl, s1, hne⟩
  have hd1 := hd.imp (gone_same s1)
  have hS1 := here_same hS s1
  refine cutM (fun σ' H' => ∃ z1 z2 z3 z4 z5, σ' = [some v, some (.int m), z1, z2, z3, z4, z5] ∧ H' = H1 ∧ (∃ a, d = .dict a ∧ 0 < a.length)) (fun N hN => ?_) ?_
  · walk_at "rd"
    rcases hne with ⟨a, rfl, hpos⟩ | ⟨a, rfl, hpos⟩
    rotate_left
    · exact isiX .list (hX H1 s1) ⟨_, rfl, iteF' (by simp [isT]) (hN _ _ ⟨_, _, _, _, _, rfl, rfl, a, rfl, hpos⟩)⟩
    obtain ⟨p1, xs, rfl, ha0, hb, hp⟩ := id hd1
    have ha := gone_sub _ _ _ _ ha0
    have hxa := pd_len hp
    refine isiX .list (hX H1 s1) ⟨_, rfl, iteT' rfl ⟨⟨by decide, by decide⟩, .inl ⟨_, _, rfl, LenA.l (SqL.of ha), _, rfl, by omega, ?_⟩⟩⟩
    have ht := mod_in (m / 4) (m := (xs.length : Int)) (by omega)
    obtain ⟨j, hj⟩ : ∃ j : Nat, m / 4 % (xs.length : Int) = j := ⟨(m / 4 % (xs.length : Int)).toNat, by omega⟩
    rw [hj] at ht ⊢
    have hjl : j < xs.length := by omega
    have hja : j < a.length := by omega
    have hgj : a[j]? = some a[j] := List.getElem?_eq_getElem hja
    have hxj : xs[j]? = some xs[j] := List.getElem?_eq_getElem hjl
    obtain ⟨dj, e1, rj⟩ := pd_get hp hxj
    rw [hgj] at e1; cases e1
    have hmj := List.getElem_mem hja
    refine ⟨p1, xs, rfl, SqL.of ha, fun p2 np2 => ⟨p1, xs, j, xs[j], rfl, rfl, SqL.of ((same_new np2 _) _ _ ha), atI_nat hxj, ⟨by decide, by decide⟩, ?_⟩⟩
    rw [cut_take _ _ (by omega)]
    have t1 : Same H1 (upd H1 p2 (.lst (xs.take j))) := same_new np2 _
    refine ⟨xs[j], a[j], m / 5, S, rfl, by omega, here_same hS1 t1, rj.imp (gone_same t1), ok.2 _ hmj, fun v' d' H2 s2 r2 ok2 c2 => ⟨sz5 (by omega), fun p3 np3 => ?_⟩⟩
    have s3 : Same H2 (upd H2 p3 (.lst [v'])) := same_new np3 _
    refine ⟨p2, p3, _, _, rfl, rfl, s3 _ _ (s2 _ _ upd_same), upd_same, sz5 (by simp; omega), fun p4 np4 => ?_⟩
    have s4 : Same (upd H2 p3 (.lst [v'])) (upd (upd H2 p3 (.lst [v'])) p4 (.lst (xs.take j ++ [v']))) := same_new np4 _
    have s14 := ((t1.trans s2).trans s3).trans s4
    refine ⟨p1, xs, rfl, SqL.of (s14 _ _ ha), fun p5 np5 => ⟨p4, p5, xs.take j ++ [v'], _, rfl, rfl, (same_new np5 _) _ _ upd_same, upd_same, ?_, fun p6 np6 => ?_⟩⟩
    · rw [show (j : Int) + 1 = ((j + 1 : Nat) : Int) by omega, cut_drop _ _ (by omega)]
      exact sz5 (by simp; omega)
    rw [show (j : Int) + 1 = ((j + 1 : Nat) : Int) by omega, cut_drop _ _ (by omega)] at np6 ⊢
    have s56 := (s4.trans (same_new np5 (.lst (xs.drop (j + 1))))).trans (same_new np6 (.lst (xs.take j ++ [v'] ++ xs.drop (j + 1))))
    have s26 := s3.trans s56
    have s06 := (t1.trans s2).trans s26
    have hsp := cntAll_split hgj
    refine q (.ref p6) (.list (a.take j ++ [d'] ++ a.drop (j + 1))) _ (s1.trans s06) ⟨p6, xs.take j ++ [v'] ++ xs.drop (j + 1), rfl, ?_, ?_, ?_⟩ ⟨?_, ?_⟩ ?_
    · rw [gone_at (not_gone (here_same hS1 (((s14.trans (same_new np5 _))))) np6)]
      exact upd_same
    · simp; omega
    · exact pd_app (pd_app (pd_imp (pd_take hp j) fun _ _ _ _ r => (r.up1).imp (gone_same s06)) (.cons (r2.imp (gone_same s26)) .nil)) (pd_imp (pd_drop hp (j + 1)) fun _ _ _ _ r => (r.up1).imp (gone_same s06))
    · have := ok.1
      simp; omega
    · intro e he
      rcases List.mem_append.mp he with he | he
      · rcases List.mem_append.mp he with he | he
        · exact (ok.2 e (List.mem_of_mem_take he)).up1
        · simp at he; subst he; exact ok2
      · exact (ok.2 e (List.mem_of_mem_drop he)).up1
    · simp only [cnt, cntAll_app, cntAll]
      omega
  rintro σ' H2 ⟨z1, z2, z3, z4, z5, rfl, rfl, a, rfl, hpos⟩
  walk_at "rd"
  rcases id hd1 with ⟨p1, xs, rfl, ha0, hb, hn, hp⟩ | ⟨p1, xs, rfl, F0, hb, hn, hp⟩
  · left
    intro p np
    have ha := gone_sub _ _ _ _ ha0
    have hxa := pd_len hp
    have h60 := ok.1
    refine ⟨⟨by decide, by decide⟩, .inl ⟨_, _, rfl, LenA.d (.inl ((same_new np _) _ _ ha)), _, rfl, by omega, .inl ⟨p1, .dK xs, (same_new np _) _ _ ha, trivial, fun od => ?_⟩⟩⟩
    have ht := mod_in (m / 4) (m := (xs.length : Int)) (by omega)
    obtain ⟨j, hj⟩ : ∃ j : Nat, m / 4 % (xs.length : Int) = j := ⟨(m / 4 % (xs.length : Int)).toNat, by omega⟩
    rw [hj]
    walk_at "rd"
    refine ⟨od, xs, upd_same, ?_⟩
    have np1 : p1 ≠ p := ne_of_none ha np
    obtain ⟨L, eL⟩ : ∃ L, L = upd (upd H2 p (HO.dK [])) p1 (HO.frz od (HO.dK xs)) := ⟨_, rfl⟩
    rw [← eL]
    have Lp : L p = some (.dK []) := by rw [eL, upd_ne np1.symm, upd_same]
    have L1 : L p1 = some (.frz od (.dK xs)) := by rw [eL, upd_same]
    have L2 : ∀ b o, b ≠ p1 → H2 b = some o → L b = some o := fun b o hb e => by
      rw [eL, upd_ne hb, upd_ne (ne_of_none e np)]; exact e
    clear eL
    have n1 : (xs.map (·.1)).Nodup := hn
    refine fo_it walk_enumK (fun i σ' H' => OdS w p p1 S L xs a n i j H' ∧ ∃ z1 z2 z3, σ' = [some (V.ref p1), some (V.int m), some (V.int (j : Int)), some (V.ref p), z1, z2, z3]) ⟨⟨[], [], Keep.refl _ _, Lp, by simp, .nil, by simp, by simp [cntKv]⟩, _, _, _, rfl⟩ (fun i σ' H' _ ⟨⟨_, _, k, _⟩, _⟩ => k _ _ L1 (by simp [np1])) ?_ ?_
    · rintro i x σ' H1 H3 hi ⟨⟨kvs', es', k2, e2, hkeys, hpd, hes, hct⟩, z1, z2, z3, rfl⟩ ⟨T, y1, y2, rfl, nT, rfl, hy1, hy2⟩
      cases hy1
      rw [Option.map_eq_some_iff] at hy2
      obtain ⟨⟨k, v⟩, hkv, rfl⟩ := hy2
      obtain ⟨⟨e1, ed⟩, he, hk', hr'⟩ := pd_get hp hkv
      simp only at hk' hr'
      have hm := List.mem_of_getElem? he
      obtain ⟨sk, sd⟩ := ok.2 _ hm
      simp only at sk sd
      have sT : Same H1 (upd H1 T (.tup [V.int (i : Nat), kV k])) := same_new nT _
      have k3 := k2.trans (.of sT)
      have e3 := sT _ _ e2
      have hkl : kvs'.length ≤ i := by
        have := congrArg List.length hkeys
        simp only [List.length_map, List.length_take] at this
        omega
      have hgt : upd H1 T (.tup [V.int (i : Nat), kV k]) T = some (.tup [V.int (i : Nat), kV k]) := upd_same
      generalize upd H1 T (.tup [V.int (i : Nat), kV k]) = H3 at sT k3 e3 hgt ⊢
      have hpd' : Paired (KvR (ReN w (n + 1) (gone (p1 :: p :: S) H3))) kvs' es' := pd_imp hpd fun _ _ _ _ r => ⟨r.1, r.2.imp (gone_same sT)⟩
      have rpart : ReN w n (gone (p1 :: p :: S) H3) v ed := hr'.imp fun b o eb => by
        have hb1 : b ≠ p1 := fun z => by rw [z, del_at] at eb; cases eb
        rw [del_ne hb1] at eb
        have hbS : b ∉ S := fun z => by unfold gone at eb; rw [if_pos z] at eb; cases eb
        rw [gone_at hbS] at eb
        have hbp : b ≠ p := ne_of_none eb np
        rw [gone_at (by simp [hb1, hbp, hbS])]
        exact k3 _ _ (L2 _ _ hb1 eb) (by simp [hbp])
      have hnew : k ∉ kvs'.map (·.1) := fun hmm => by
        rw [hkeys, List.map_take] at hmm
        have hil : i < (xs.map (·.1)).length := by simpa using hi
        have := nd_take n1 hil
        rw [List.getElem_map, (List.getElem?_eq_some_iff.mp hkv).2] at this
        exact this hmm
      have hget : DGet H3 p1 (kV k) (some v) := .inl ⟨xs, k, .inr ⟨od, k3 _ _ L1 (by simp [np1])⟩, rfl, (valV_at hn hkv).symm⟩
      have put : ∀ (v' : V) (d' : PyData) (H4 : Hp) (c : Nat), Same H3 H4 → ReN w (n + 1) (gone (p1 :: p :: S) H4) v' d' → okN (n + 1) d' → cnt d' ≤ cnt ed + c → ((if j < i then 2 else 0) + c ≤ if j < i + 1 then 2 else 0) → ∃ H5, DPut H4 p (kV k) v' H5 ∧ OdS w p p1 S L xs a n (i + 1) j H5 := by
        intro v' d' H4 c s3 r3 dd3 hc1 hc2
        refine ⟨_, DPut.k (k := k) (s3 _ _ e3) (sz5l (by omega)), ?_⟩
        rw [putK_new v' (valV_no hnew)]
        refine ⟨_, es' ++ [(e1, d')], (k3.trans (.of s3)).mut (by simp), upd_same, ?_, ?_, ?_, ?_⟩
        · rw [List.map_append, hkeys, List.take_succ, hkv, List.map_append]
          rfl
        · rw [gone_mut (by simp)]
          exact pd_app (pd_imp hpd' fun _ _ _ _ r => ⟨r.1, r.2.imp (gone_same s3)⟩) (.cons ⟨hk', r3⟩ .nil)
        · intro e he
          rcases List.mem_append.mp he with he | he
          · exact hes e he
          · simp at he; subst he; exact ⟨sk, dd3⟩
        · rw [List.take_succ, he, cntKv_app, cntKv_app]
          simp only [Option.toList_some, cntKv]
          omega
      walk_at "rd"
      refine ⟨_, SqT.of hgt, rfl, _, _, rfl, _, _, rfl, rfl, v, hget, rfl, ite2 (fun g1 => ⟨⟨by decide, by decide⟩, v, ed, m / 5, p1 :: p :: S, rfl, by omega, ?_, rpart, sd, fun v' d' H4 s3 r3 dd3 hc => put v' d' H4 2 s3 r3 dd3 hc ?_⟩) fun g1 => put v ed H3 0 (Same.refl _) rpart.up1 sd.up1 (Nat.le_refl _) ?_⟩
      · refine here_cons (here_cons (fun b hb e => ?_) e3) (k3 _ _ L1 (by simp [np1]))
        cases hH : H2 b with
        | none => exact hS1 b hb hH
        | some o =>
          by_cases hb1 : b = p1
          · subst hb1; rw [k3 _ _ L1 (by simp [np1])] at e; cases e
          · rw [k3 _ _ (L2 _ _ hb1 hH) (by simp [ne_of_none hH np])] at e; cases e
      · have : i = j := by first | omega | (have g2 := of_decide_eq_true g1; omega) | (simp at g1; omega)
        subst this
        simp
      · split
        · rw [if_pos (by omega)]; omega
        · omega
    · rintro σ' H' ⟨⟨kvs', es', k2, e2, hkeys, hpd, hes, hct⟩, z1, z2, z3, rfl⟩
      walk_at "rd"
      have e1 : H' p1 = some (.frz od (.dK xs)) := k2 _ _ L1 (by simp [np1])
      have s0 : Same H2 (upd H' p1 (.dK xs)) := fun b o eb => by
        by_cases hb : b = p1
        · subst hb; rw [ha] at eb; cases eb; exact upd_same
        · rw [upd_ne hb]; exact k2 _ _ (L2 _ _ hb eb) (by simp [ne_of_none eb np])
      have hkl : kvs'.length ≤ a.length := by
        have := congrArg List.length hkeys
        simp only [List.length_map, List.length_take] at this
        omega
      have hel := pd_len hpd
      refine ⟨e1, .inl (q (.ref p) (.dict es') _ (s1.trans s0) (.inl ⟨p, kvs', rfl, ?_, by omega, ?_, ?_⟩) ⟨by omega, hes⟩ ?_)⟩
      · rw [gone_at (not_gone hS1 np), upd_ne np1.symm]; exact e2
      · rw [hkeys, List.map_take]
        exact (List.take_sublist _ _).nodup n1
      · refine pd_imp hpd fun _ _ _ _ r => ⟨r.1, r.2.imp fun b o eb => ?_⟩
        have hbn : b ∉ p1 :: p :: S := fun z => by unfold gone at eb; rw [if_pos z] at eb; cases eb
        rw [gone_at hbn] at eb
        simp only [List.mem_cons, not_or] at hbn
        rw [del_ne hbn.2.1, gone_at hbn.2.2, upd_ne hbn.1]
        exact eb
      · rw [List.take_of_length_le (by omega)] at hct
        simp only [cnt]
        have : (if j < xs.length then 2 else 0) ≤ 2 := by split <;> omega
        omega
  · right
    have F1 := F0.imp (gone_sub _ _)
    have hxa := pd_len hp
    have h60 := ok.1
    intro p np
    refine ⟨p, rfl, upd_same, fun B0 => ?_⟩
    have sG : Same H2 (upd (upd H2 p (.dK [])) p (oddE w p [])) := same_mut (same_new np _) np
    have gN0 : ∀ H', Keep [p] (upd (upd H2 p (.dK [])) p (oddE w p [])) H' → Same (gone S H2) (gone (p :: S) H') := fun H' k b o eb => by
      have hbS : b ∉ S := fun z => by unfold gone at eb; rw [if_pos z] at eb; cases eb
      rw [gone_at hbS] at eb
      have hbp : b ≠ p := ne_of_none eb np
      rw [gone_at (by simp [hbp, hbS])]
      exact k _ _ (sG _ _ eb) (by simp [hbp])
    change BdN w (upd (upd H2 p (.dK [])) p (oddE w p [])) p [] at B0
    show _ ∧ rLenN w K [V.ref p1] (upd (upd H2 p (.dK [])) p (oddE w p [])) _
    generalize upd (upd H2 p (.dK [])) p (oddE w p []) = L at B0 sG gN0 ⊢
    have FL := F1.imp sG
    refine ⟨⟨by decide, by decide⟩, .inr ⟨p1, xs, rfl, FL, by omega, _, rfl, by omega, .inr ?_⟩⟩
    have ht := mod_in (m / 4) (m := (xs.length : Int)) (by omega)
    obtain ⟨j, hj⟩ : ∃ j : Nat, m / 4 % (xs.length : Int) = j := ⟨(m / 4 % (xs.length : Int)).toNat, by omega⟩
    rw [hj]
    simp only [iEnumN]
    walk_at "rd"
    refine ⟨xs, FL, fun o eo => ?_⟩
    have n1 : (xs.map (·.1)).Nodup := by
      obtain ⟨_, _, O⟩ := F0.li
      obtain ⟨_, _, _, _, _, _, h⟩ := O.dat
      exact h
    have np1 : p1 ≠ p := fun z => by
      obtain ⟨_, h1, _⟩ := F1.li
      rw [z, np] at h1; cases h1
    refine fo_it walk_enumN (fun i σ' H' => OdB w p S L xs a n i j H' ∧ ∃ z1 z2 z3, σ' = [some (V.ref p1), some (V.int m), some (V.int (j : Int)), some (V.ref p), z1, z2, z3]) ⟨⟨[], [], Keep.refl _ _, B0, by simp, .nil, by simp, by simp, by simp [cntKv], fun q hq => by cases hq⟩, _, _, _, rfl⟩ (fun i σ' H' _ ⟨⟨_, _, k, _⟩, _⟩ => k _ _ eo (by simp [np1])) ?_ ?_
    · rintro i x σ' H1 H3 hi ⟨⟨kvs', es', k2, B1, hkeys, hpd, hek, hes, hct, hks⟩, z1, z2, z3, rfl⟩ ⟨T, y1, y2, rfl, nT, rfl, hy1, hy2⟩
      cases hy1
      rw [Option.map_eq_some_iff] at hy2
      obtain ⟨⟨k, u, v⟩, hkv, rfl⟩ := hy2
      obtain ⟨⟨e1, ed⟩, he, hk', hr'⟩ := pd_get hp hkv
      simp only at hk' hr'
      have hm := List.mem_of_getElem? he
      obtain ⟨sk, sd⟩ := ok.2 _ hm
      simp only at sk sd
      have sT : Same H1 (upd H1 T (.tup [V.int (i : Nat), u])) := same_new nT _
      have k3 := k2.trans (.of sT)
      have B3 := B1.imp sT
      have hkl : kvs'.length ≤ i := by
        have := congrArg List.length hkeys
        simp only [List.length_map, List.length_take] at this
        omega
      have hgt : upd H1 T (.tup [V.int (i : Nat), u]) T = some (.tup [V.int (i : Nat), u]) := upd_same
      generalize upd H1 T (.tup [V.int (i : Nat), u]) = H3 at sT k3 B3 hgt ⊢
      have hpd' := pd_imp hpd fun _ _ _ _ r => (⟨r.1.imp (gone_same sT), r.2.imp (gone_same sT)⟩ : _ ∧ _)
      have hkn : KR (gone S H2) k u := F0.ks _ (List.mem_of_getElem? hkv)
      have rpart : ReN w n (gone (p :: S) H3) v ed := hr'.imp (gN0 _ k3)
      have rkey : Rp (gone (p :: S) H3) 3 u e1 := hk'.imp (gN0 _ k3)
      have hnew : k ∉ kvs'.map (·.1) := fun hmm => by
        have e9 : kvs'.map (·.1) = (xs.take i).map (·.1) := by
          have := congrArg (List.map (·.1)) hkeys
          simpa [List.map_map, Function.comp_def] using this
        rw [e9, List.map_take] at hmm
        have hil : i < (xs.map (·.1)).length := by simpa using hi
        have := nd_take n1 hil
        rw [List.getElem_map, (List.getElem?_eq_some_iff.mp hkv).2] at this
        exact this hmm
      have put : ∀ (v' : V) (d' : PyData) (H4 : Hp) (c : Nat), Same H3 H4 → ReN w (n + 1) (gone (p :: S) H4) v' d' → okN (n + 1) d' → cnt d' ≤ cnt ed + c → ((if j < i then 2 else 0) + c ≤ if j < i + 1 then 2 else 0) → rSetN w (.ref p) u v' H4 fun H5 => OdB w p S L xs a n (i + 1) j H5 := by
        intro v' d' H4 c s3 r3 dd3 hc1 hc2
        have B4 := B3.imp s3
        have k4 := k3.trans (.of s3)
        have gk : KR (gone (p :: S) H4) k u := hkn.mono fun b xs e => gN0 _ k4 _ _ e
        have gk' : KR H4 k u := gk.mono fun b xs e => gone_sub _ _ _ _ e
        refine ⟨p, kvs', k, rfl, B4, gk', by omega, fun _ => ?_, fun j' u' v0 hj' => absurd (List.mem_map.mpr ⟨_, List.mem_of_getElem? hj', rfl⟩) hnew⟩
        refine ⟨_, es' ++ [(e1, d')], k4.mut (by simp), B4.put fun q hq => ?_, ?_, ?_, ?_, ?_, ?_, ?_⟩
        · rcases List.mem_append.mp hq with hq | hq
          · exact B4.ks q hq
          · simp at hq; subst hq; exact gk'
        · rw [List.map_append, hkeys, List.take_succ, hkv, List.map_append]
          rfl
        · rw [gone_mut (by simp)]
          exact pd_app (pd_imp hpd' fun _ _ _ _ r => ⟨r.1.imp (gone_same s3), r.2.imp (gone_same s3)⟩) (.cons ⟨rkey.imp (gone_same s3), r3⟩ .nil)
        · rw [List.map_append, hek, List.take_succ, he, List.map_append]
          rfl
        · intro e he
          rcases List.mem_append.mp he with he | he
          · exact hes e he
          · simp at he; subst he; exact ⟨sk, dd3⟩
        · rw [List.take_succ, he, cntKv_app, cntKv_app]
          simp only [Option.toList_some, cntKv]
          omega
        · intro q hq
          rw [gone_mut (by simp)]
          rcases List.mem_append.mp hq with hq | hq
          · exact (hks q hq).mono fun b xs e => gone_same (sT.trans s3) _ _ e
          · simp at hq; subst hq; exact gk
      walk_at "rd"
      refine ⟨_, SqT.of hgt, rfl, _, _, rfl, _, _, rfl, rfl, ?_⟩
      simp only [tDGetN]
      walk_at "rd"
      refine ⟨xs, i, k, (hkn.mono fun b xs e => gone_sub _ _ _ _ (gN0 _ k3 _ _ e)), ?_, u, v, hkv, ?_⟩
      · have := F0.imp (gN0 _ k3)
        exact this.imp (gone_sub _ _)
      refine ⟨rfl, ite2 (fun g1 => ⟨⟨by decide, by decide⟩, v, ed, m / 5, p :: S, rfl, by omega, ?_, rpart, sd, fun v' d' H4 s3 r3 dd3 hc => put v' d' H4 2 s3 r3 dd3 hc ?_⟩) fun g1 => put v ed H3 0 (Same.refl _) rpart.up1 sd.up1 (Nat.le_refl _) ?_⟩
      · refine here_cons (fun b hb e => ?_) B3.li
        cases hH : H2 b with
        | none => exact hS1 b hb hH
        | some o => rw [k3 _ _ (sG _ _ hH) (by simp [ne_of_none hH np])] at e; cases e
      · have : i = j := by first | omega | (have g2 := of_decide_eq_true g1; omega) | (simp at g1; omega)
        subst this
        simp
      · split
        · rw [if_pos (by omega)]; omega
        · omega
    · rintro σ' H' ⟨⟨kvs', es', k2, B1, hkeys, hpd, hek, hes, hct, hks⟩, z1, z2, z3, rfl⟩
      walk_at "rd"
      have hkl : kvs'.length ≤ xs.length := by
        have := congrArg List.length hkeys
        simp only [List.length_map, List.length_take] at this
        omega
      have hel := pd_len hpd
      right
      simp only [tFreezeN]
      walk_at "rd"
      refine ⟨kvs', B1, fun o2 O2 => ?_⟩
      have s0 : Same H2 (upd H' p (oddH o2)) := fun b o eb => by
        have hbp := ne_of_none eb np
        rw [upd_ne hbp]; exact k2 _ _ (sG _ _ eb) (by simp [hbp])
      have FK := B1.known O2
      have pS := not_gone hS1 np
      have gl : Same (gone (p :: S) H') (gone S (upd H' p (oddH o2))) := by
        rw [← gone_mut (S := p :: S) (o := oddH o2) (D := p) (by simp)]
        exact gone_less (by simp; exact fun b hb => .inr hb)
      refine q (.ref p) (.dict es') _ (s1.trans s0) (.inr ⟨p, kvs', rfl, ⟨FK.ne, ?_, fun q hq => (hks q hq).mono fun b xs e => gl _ _ e⟩, by omega, ?_, ?_⟩) ⟨by omega, hes⟩ ?_
      · obtain ⟨o3, h1, h2⟩ := FK.li
        exact ⟨o3, by rw [gone_at pS]; exact h1, h2⟩
      · obtain ⟨e, he, hne9⟩ := hn
        have : e.1 ∈ es'.map (·.1) := by
          rw [hek, List.take_of_length_le (by omega)]
          exact List.mem_map.mpr ⟨e, he, rfl⟩
        obtain ⟨e', he', hee⟩ := List.mem_map.mp this
        exact ⟨e', he', fun x hx => hne9 x (by rw [← hee]; exact hx)⟩
      · exact pd_imp hpd fun _ _ _ _ r => ⟨r.1.imp gl, r.2.imp gl⟩
      · rw [List.take_of_length_le (by omega)] at hct
        simp only [cnt]
        have : (if j < xs.length then 2 else 0) ≤ 2 := by split <;> omega
        omega
end
theorem ok_spls {P : Program} {w : World} {K : PySem.W.Frag} {mg : Str → Option Value} {base : Heap} {f : Addr} {fd : FuncData} (D : Def K mg "_law_spoilt" s_law_spoilt f fd) (B : Blt mg) (R_law_odd : Rdy P w K mg base 1 "_law_odd" ["_law_n"] (sp_lodd w)) : ∀ n : Nat, FnOk P w K mg base CX0 (n + 1) f fd ["_law_tree_here", "_law_n"] (sp_spl w n)
  | 0 => ⟨fun vs H Q E ⟨_, _, _, _, _, _, _, h, _⟩ => h.elim, fun A outer s H args us vs Q E _ _ _ _ ⟨_, _, _, _, _, _, _, h, _⟩ => h.elim⟩
  | n + 1 => ok_spl D B R_law_odd (D.rdy (fun _ _ _ _ _ _ us hl => match us, hl with | [_, _], _ => rfl) (ok_spls D B R_law_odd n))

local macro_rules | `(tactic| walk_at "rds") => `(tactic| simp only [List.map_cons, List.map_nil, tSeq, tNext, tIfS, tRet, tRetN, tAsg, gName, tDrop, L2.start, List.length_cons, List.length_nil, Nat.reduceAdd, Nat.reduceSub, List.reduceReplicate, List.replicate_zero, List.append_nil, List.nil_append, List.cons_append, List.set_cons_zero, List.set_cons_succ, Nat.zero_add, Nat.zero_sub, Nat.sub_self, Nat.sub_zero, cx_K])

/-! ### Bundle() -/
/-- what the class must have -/
structure BunT (K : PySem.W.Frag) (C : Addr) : Prop where
  it : InsT K C
  n1 : NoAttr K C "own_rows"
  n2 : NoAttr K C "own_past"
def sp_bini (K : PySem.W.Frag) : Sp := fun vs H Q _ => ∃ x C dx, vs = [.ref x] ∧ H x = some (.ins C dx []) ∧ BunT K C ∧ ∀ H' fs, Keep [x] H H' → H' x = some (.ins C dx fs) → Q .non H'
abbrev s_Bundle___init : Stmt := inClass (top 51) 1
theorem sc_Bundle___init : FnScope ["self", "schemas", "rows", "word"] ["self", "schemas"] (defScope s_Bundle___init) := ⟨rfl, rfl, rfl, by decide +kernel, rfl, by decide +kernel, by decide +kernel⟩
section
variable {P : Program} {w : World} {K : PySem.W.Frag} {mg : Str → Option Value} {base : Heap} {k : Nat} {fI : Addr} {fd : FuncData}
/-- C(): the class stands at C -/
structure Mk0 (P : Program) (w : World) (K : PySem.W.Frag) (mg : Str → Option Value) (base : Heap) (k : Nat) (x : Str) (C : Addr) (sp : Sp) : Prop where
  ex : ∃ fI : Addr, L2.Mk K C fI ∧ FnR P w K mg base CX0 k fI sp
  at_ : mg x = some (.ref C)
theorem pe_made0 {X : Cx} {x : Str} {C : Addr} {sp : Sp} {E : XK} {p pos : Pos} (M : Mk0 X.prog X.w X.K X.mg X.base k x C sp) (hr : Room (k + 1) X.A) (hg : Gl X x) (hdb : (x == ("__debug__" : Str)) = false := by decide) : PE X (.Call (.Name x p) [] [] pos) (StX.tMakeR C sp E tNil) := by
  obtain ⟨fI, M1, M2⟩ := M.ex
  exact pe_makeR0 M1 M2 hr hg M.at_ pass0 hdb
theorem ok_bini {oc kV doc pm cdv ct : Value} {od an : Option Addr} {osl : Array (Option Value)} (B : Blt mg) (lk : K.lookup fI = some ⟨oc, od, .func (PySem.W.fnOf "__init__" "Bundle.__init__" (defArgs s_Bundle___init) (defBody s_Bundle___init) (defScope s_Bundle___init) .none kV doc pm an cdv ct), osl⟩) (hcd : PySem.W.codeIn K cdv "Bundle.__init__" = true) : FnR P w K mg base CX0 1 fI (sp_bini K) := by
  have main := fn_kw0 (P := P) (w := w) (mg := mg) (base := base) (CX := CX0) (k := 0) (ps := ["self"]) (pd := "schemas") (sp := fun vs H Q E => ∃ d H0 x, vs = [.ref x, .ref d] ∧ H0 d = none ∧ H = upd H0 d (.dK []) ∧ sp_bini K [.ref x] H0 Q E) lk hcd sc_Bundle___init StX.cxUp_none (fun us hl => ?_) (fun A outer s H vs Q E hr h => ?_)
  · intro A outer s H us vs Q E hr e0 r hsp
    refine main A outer s H us vs Q E hr e0 r ⟨?_, fun d nd => ?_⟩
    · obtain ⟨x, C, dx, rfl, _⟩ := hsp
      rfl
    · obtain ⟨x, C, dx, rfl, h⟩ := hsp
      exact ⟨d, H, x, rfl, nd, rfl, x, C, dx, rfl, h⟩
  · obtain ⟨u, rfl⟩ : ∃ u, us = [u] := by
      match us, hl with
      | [u], _ => exact ⟨u, rfl⟩
    rfl
  · obtain ⟨d, H0, x, rfl, nd, rfl, _, C, dx, e, hx, bt, q⟩ := h
    cases e
    have hu := hu_of hr
    refine ⟨_, (pss_cons (ps_set (i := 2) sc_Bundle___init.nd rfl (by first | exact Or.inl rfl | exact Or.inr rfl) pe_dnewK)
  (pss_cons (ps_lock (ps_for (passes_of rfl) rfl (pi_keys (pv 1)) (pg_name (i := 3) sc_Bundle___init.nd rfl (by first | exact Or.inl rfl | exact Or.inr rfl))
   (pss_one ps_never)))
  (pss_cons (ps_fld (pv 0) (pv 2) (by rfl))
  (pss_one (ps_fld (pv 0) (pe_lst pa_nil) (by rfl)))))), ?_⟩
    walk_at "rd"
    intro p np
    have hH0 : H0 x = some (.ins C dx []) := hx
    have ne : x ≠ d := ne_of_none hx nd
    have e1 : upd (upd H0 d (.dK [])) p (.dK []) d = some (.dK []) := by
      have : d ≠ p := ne_of_none upd_same np
      rw [upd_ne this]; exact upd_same
    have sA : Same H0 (upd (upd H0 d (.dK [])) p (.dK [])) := (same_new nd _).trans (same_new np _)
    generalize upd (upd H0 d (.dK [])) p (.dK []) = H1 at e1 sA ⊢
    refine ⟨d, .dK [], e1, trivial, fun od => ?_⟩
    show tFor _ _ _ _ _ _
    rw [tFor_eq]
    refine ⟨.ref d, rfl, d, od, rfl, .inl ⟨[], upd_same, ?_⟩⟩
    refine fo_it (walk_keys (kvs := [])) (fun _ σ' H' => H' = upd H1 d (.frz od (.dK [])) ∧ σ' = [some (.ref x), some (.ref d), some (.ref p), none]) ⟨rfl, rfl⟩ (fun _ _ _ _ z => by rw [z.1]; exact upd_same) (fun i _ _ _ _ hi => absurd hi (Nat.not_lt_zero _)) ?_
    rintro σ' H' ⟨rfl, rfl⟩
    refine ⟨upd_same, ?_⟩
    have e2 : upd (upd H1 d (.frz od (.dK []))) d (.dK []) = H1 := by
      funext b
      by_cases hb : b = d
      · rw [hb, upd_same, e1]
      · rw [upd_ne hb, upd_ne hb]
    rw [e2]
    walk_at "rd"
    have k0 : Keep [x] H0 H1 := .of sA
    simp only [sFld]
    walk_at "rd"
    refine ⟨C, dx, [], sA _ _ hx, bt.it.cl, bt.n1, by simp, by decide, fun L nL => ?_⟩
    have nx : x ≠ L := ne_of_none upd_same nL
    refine ⟨C, dx, _, by rw [upd_ne nx, upd_same], bt.it.cl, bt.n2, by rw [show putF (Str.ofString "own_rows") (V.ref p) [] = [(Str.ofString "own_rows", V.ref p)] from rfl]; exact (by decide : 1 < 1000), ?_⟩
    exact q _ _ ((((Keep.of sA).mut (by simp)).new nL).mut (by simp)) upd_same
/-- Bundle() as a value -/
theorem made_bundle {C : Addr} {H : Hp} {Q : VK} {σ : L2.St} (bt : BunT K C) (q : ∀ x H', Same H H' → IsIns K H' (.ref x) → Q (.ref x) H') : StX.tMakeR C (sp_bini K) E0 tNil σ H Q := by
  intro x dx nx ndx ne
  refine ⟨x, C, dx, rfl, upd_same, bt, fun H' fs k e => ⟨rfl, q x H' (fun b o hb => k b o (by rw [upd_ne (ne_of_none hb nx), upd_ne (ne_of_none hb ndx)]; exact hb) (by
    rw [List.mem_singleton]; exact ne_of_none hb nx)) ⟨x, C, dx, fs, rfl, e, bt.it⟩⟩⟩
end

/-! ### _law_strange_right -/
theorem RX.up1 {P : Program} {w : World} {K : PySem.W.Frag} {H : Hp} : ∀ {n : Nat} {v : V} {d : PyData}, ReX P w K H n v d → ReX P w K H (n + 1) v d
  | 0, _, _, h => h.elim
  | n + 1, v, .list ds, ⟨a, xs, h1, h2, h3, h4⟩ => ⟨a, xs, h1, h2, h3, pd_imp h4 fun _ _ _ _ r => r.up1⟩
  | n + 1, v, .dict es, .inl ⟨a, kvs, h1, h2, h3, h4, h5⟩ => .inl ⟨a, kvs, h1, h2, h3, h4, pd_imp h5 fun _ _ _ _ r => ⟨r.1, r.2.up1⟩⟩
  | n + 1, v, .dict es, .inr ⟨a, kvs, h1, h2, h3, h4, h5⟩ => .inr ⟨a, kvs, h1, h2, h3, h4, pd_imp h5 fun _ _ _ _ r => ⟨r.1, r.2.up1⟩⟩
  | n + 1, v, .none, h => Rp.up1 (n := n + 1) h
  | n + 1, v, .bool _, h => Rp.up1 (n := n + 1) h
  | n + 1, v, .int _, h => Rp.up1 (n := n + 1) h
  | n + 1, v, .str _, h => Rp.up1 (n := n + 1) h
  | n + 1, v, .tuple _, h => Or.imp (fun h => Rp.up1 (n := n + 1) h) id (show _ ∨ _ from h)
theorem RX.up {P : Program} {w : World} {K : PySem.W.Frag} {H : Hp} {n m : Nat} {v : V} {d : PyData} (h : ReX P w K H n v d) (hl : n ≤ m) : ReX P w K H m v d := by
  induction hl with
  | refl => exact h
  | step _ ih => exact ih.up1
def greatI : Int := ((10 ^ 64) ^ 64) ^ 2
def sp_strange : Sp := fun vs H Q _ => vs = [] ∧ ∀ H', Same H H' → Q (.bl true) H'
abbrev s_law_strange_right : Stmt := top 61
theorem sc_law_strange_right : FnScope ["_law_far", "_law_told"] [] (defScope s_law_strange_right) := ⟨rfl, rfl, rfl, by decide +kernel, rfl, by decide +kernel, by decide +kernel⟩
section
variable {P : Program} {w : World} {K : PySem.W.Frag} {mg : Str → Option Value} {base : Heap} {f : Addr} {fd : FuncData}
theorem ok_strange (D : Def K mg "_law_strange_right" s_law_strange_right f fd) (B : Blt mg) (hsys : ∃ o, base.get? sysModules = some o) {C : Addr} (bt : BunT K C) (Z0 : Mk0 P w K mg base 1 "Bundle" C (sp_bini K)) (R_document_problem : Rdy P w K mg base 32 "document_problem" ["value"] (sp_dp P w K 30)) (R_is_document : Rdy P w K mg base 33 "is_document" ["value"] (sp_isdoc P w K 30)) : FnG P w K mg base 34 f fd [] sp_strange := by
  refine okG D.1 sc_law_strange_right (fun vs H Q E h => ?_) (fun cdv A outer s H vs Q E hgd hr h => ?_)
  · obtain ⟨rfl, _⟩ := h
    rfl
  obtain ⟨rfl, q⟩ := h
  have hu := hu_of hr
  have hu65 := hu65_of hr
  have hr2 : Room 2 _ := hr.mono (by omega)
  have hr3 : Room 32 _ := hr.mono (by omega)
  have hr4 : Room 33 _ := hr.mono (by omega)
  refine ⟨_, (pss_cons (ps_set (i := 0) sc_law_strange_right.nd rfl (by first | exact Or.inl rfl | exact Or.inr rfl) (pe_op op_powB (pe_op op_powB (pe_op op_pow pe_int pe_int) pe_int) pe_int))
  (pss_cons (ps_set (i := 1) sc_law_strange_right.nd rfl (by first | exact Or.inl rfl | exact Or.inr rfl) (pe_lst (pa_cons (pe_c R_document_problem hr3 rfl (pa_cons (pv 0) pa_nil)) (pa_cons (pe_c R_document_problem hr3 rfl (pa_cons (pe_lst (pa_cons pe_int (pa_cons (pe_disp (L2.pps_cons pe_str (pe_op op_sub pe_int (pv 0)) L2.pps_nil) (by rfl) (by rfl) (fun z => by cases z) (by decide)) pa_nil))) pa_nil)) (pa_cons (pe_c R_document_problem hr3 rfl (pa_cons (pe_disp (L2.pps_cons pe_str (pe_lst (pa_cons (pe_made0 (E := E0) Z0 hr2 (by rfl)) pa_nil)) (L2.pps_cons pe_str (pv 0) L2.pps_nil)) (by rfl) (by rfl) (fun z => by cases z) (by decide)) pa_nil)) pa_nil)))))
  (pss_cons (ps_if (PW.pt (pw_or (pt_cmpR (neDK (K := K) rfl hr.units) (pv 1) (pe_lst (pa_cons (pe_tup pa_nil) (pa_cons (pe_tup (pa_cons pe_int (pa_cons pe_str pa_nil))) (pa_cons (pe_tup (pa_cons pe_str (pa_cons pe_int pa_nil))) pa_nil)))) (nomark _)) (pw_or1 (pt_cmpR (neDK (K := K) rfl (Nat.lt_of_succ_lt hu65)) (pe_c R_document_problem hr3 rfl (pa_cons (pe_made0 (E := E0) Z0 hr2 (by rfl)) pa_nil)) (pe_tup pa_nil) (nomark _)))))
   (pss_one (ps_ret pe_bl))
   pss_nil)
  (pss_one (ps_ret (pe_cmpR (eqDK (K := K) rfl hr.units) (pe_lst (pa_cons (pe_c R_is_document hr4 rfl (pa_cons (pv 0) pa_nil)) (pa_cons (pe_c R_is_document hr4 rfl (pa_cons (pe_lst (pa_cons (pe_op op_sub pe_int (pv 0)) pa_nil)) pa_nil)) (pa_cons (pe_c R_is_document hr4 rfl (pa_cons (pe_made0 (E := E0) Z0 hr2 (by rfl)) pa_nil)) (pa_cons (pe_c R_is_document hr4 rfl (pa_cons (pe_disp (L2.pps_cons (pv 0) pe_int L2.pps_nil) (by rfl) (by rfl) (fun z => by cases z) (by decide)) pa_nil)) pa_nil))))) (pe_op op_rep (pe_lst (pa_cons pe_bl pa_nil)) pe_int) (nomark _))))))), ?_⟩
  refine cutM (fun σ' H' => H' = H ∧ σ' = [some (V.int greatI), none]) (fun N hN => ?_) ?_
  · have hN := hN _ _ ⟨rfl, rfl⟩
    exact ⟨10, 64, rfl, rfl, by unfold CPow; decide, _, 64, rfl, rfl, by unfold CPowB; decide +kernel, _, 2, rfl, rfl, by unfold CPowB; decide +kernel, hN⟩
  rintro σ' H0 ⟨rfl, rfl⟩
  have hg : ∃ g : Int, g = greatI := ⟨_, rfl⟩
  obtain ⟨g, hg⟩ := hg
  rw [← hg]
  have a1 : (Str.ofString "a").length ≤ 1000 ∧ AsciiS (Str.ofString "a") := ⟨by decide +kernel, by unfold AsciiS; decide +kernel⟩
  have b1 : (Str.ofString "b").length ≤ 1000 ∧ AsciiS (Str.ofString "b") := ⟨by decide +kernel, by unfold AsciiS; decide +kernel⟩
  have dp1 : dpN 30 (.int g) = some [] := by rw [hg]; decide +kernel
  have dp2 : dpN 30 (.list [.int 1, .dict [(.str (Str.ofString "a"), .int (0 - g))]]) = some [.inl 1, .inr (Str.ofString "a")] := by rw [hg]; decide +kernel
  have dp3 : dpN 30 (.dict [(.str (Str.ofString "a"), .list [.tuple []]), (.str (Str.ofString "b"), .int g)]) = some [.inr (Str.ofString "a"), .inl 0] := by 
    unfold dpN
    rw [if_neg (by rw [hg]; decide +kernel)]
    show (if _ then fstR (fwN 29) (rowsD _) else some []) = _
    unfold rowsD
    rw [show srt (keysD [(PyData.str (Str.ofString "a"), PyData.list [PyData.tuple []]), (PyData.str (Str.ofString "b"), PyData.int g)]) = [Str.ofString "a", Str.ofString "b"] from (srt_is (ys := [Str.ofString "a", Str.ofString "b"]) (.refl _) (by decide +kernel)).symm, hg]
    decide +kernel
  have dp4 : dpN 30 (.tuple []) = some [] := by decide +kernel
  have dp5 : dpN 30 (.list [.int (0 - g)]) = some [.inl 0] := by rw [hg]; decide +kernel
  have dp6 : dpN 30 (.dict [(.int g, .int 1)]) = some [] := by rw [hg]; decide +kernel
  clear hg
  walk_at "rd"
  refine ⟨.int g, .int g, rfl, RX.up (n := 1) (show ReX P w K H0 1 _ _ from rfl) (by omega), trivial, by omega, fun x1 H1 s1 hp1 p np => ⟨upd_same, [(.inr (Str.ofString "a"), .int (0 - g))], rfl, by simp, by decide, fun p1 np1 => ?_⟩⟩
  rw [dp1] at hp1
  obtain ⟨t1, rfl, e1⟩ := hp1
  rw [show mergeK [] [(Sum.inr (Str.ofString "a"), V.int (0 - g))] = [(Sum.inr (Str.ofString "a"), V.int (0 - g))] from rfl] at np1 ⊢
  have s2 : Same H1 (upd (upd (upd H1 p (HO.dK [])) p (HO.dK [(Sum.inr (Str.ofString "a"), V.int (0 - g))])) p1 (HO.lst [V.int 1, V.ref p])) := (same_mut (same_new np _) np).trans (same_new np1 _)
  have e2 := (same_new np1 (HO.lst [V.int 1, V.ref p])) _ _ (show upd (upd H1 p (HO.dK [])) p (HO.dK [(Sum.inr (Str.ofString "a"), V.int (0 - g))]) p = _ from upd_same)
  have e3 : upd (upd (upd H1 p (HO.dK [])) p (HO.dK [(Sum.inr (Str.ofString "a"), V.int (0 - g))])) p1 (HO.lst [V.int 1, V.ref p]) p1 = _ := upd_same
  generalize upd (upd (upd H1 p (HO.dK [])) p (HO.dK [(Sum.inr (Str.ofString "a"), V.int (0 - g))])) p1 (HO.lst [V.int 1, V.ref p]) = H2 at s2 e2 e3 ⊢
  have r2 : ReX P w K H2 3 (.ref p1) (.list [.int 1, .dict [(.str (Str.ofString "a"), .int (0 - g))]]) := ⟨p1, _, rfl, e3, by simp, .cons rfl (.cons (.inl ⟨p, _, rfl, e2, by simp, by simp, .cons ⟨rfl, rfl⟩ .nil⟩) .nil)⟩
  have m2 : smallD 30 (.list [.int 1, .dict [(.str (Str.ofString "a"), .int (0 - g))]]) := by
    intro d hd
    simp only [List.mem_cons, List.not_mem_nil, or_false] at hd
    rcases hd with rfl | rfl
    · trivial
    · refine ⟨by simp, fun e he => ?_⟩
      simp only [List.mem_cons, List.not_mem_nil, or_false] at he
      subst he
      exact ⟨fun x hx => by cases hx; exact a1, trivial⟩
  refine ⟨.ref p1, _, rfl, RX.up r2 (by omega), m2, by omega, fun x2 H3 s3 hp2 p3 np3 => made_bundle bt fun b H4 s4 ib => ⟨by decide, fun p4 np4 => ?_⟩⟩
  rw [dp2] at hp2
  obtain ⟨t2, rfl, e4⟩ := hp2
  have d34 : p3 ≠ p4 := ne_of_none (s4 _ _ upd_same) np4
  refine ⟨by rw [upd_ne d34]; exact s4 _ _ upd_same, [(.inr (Str.ofString "a"), .ref p4), (.inr (Str.ofString "b"), .int g)], rfl, by simp, ?_⟩
  rw [show mergeK [] [(Sum.inr (Str.ofString "a"), V.ref p4), (Sum.inr (Str.ofString "b"), V.int g)] = [(Sum.inr (Str.ofString "a"), V.ref p4), (Sum.inr (Str.ofString "b"), V.int g)] from rfl]
  have s5 : Same H3 (upd (upd H4 p4 (HO.lst [V.ref b])) p3 (HO.dK [(Sum.inr (Str.ofString "a"), V.ref p4), (Sum.inr (Str.ofString "b"), V.int g)])) := same_mut (((same_new np3 _).trans s4).trans (same_new np4 _)) np3
  have e5 : upd (upd H4 p4 (HO.lst [V.ref b])) p3 (HO.dK [(Sum.inr (Str.ofString "a"), V.ref p4), (Sum.inr (Str.ofString "b"), V.int g)]) p3 = _ := upd_same
  have e6 : upd (upd H4 p4 (HO.lst [V.ref b])) p3 (HO.dK [(Sum.inr (Str.ofString "a"), V.ref p4), (Sum.inr (Str.ofString "b"), V.int g)]) p4 = some (.lst [V.ref b]) := by rw [upd_ne d34.symm]; exact upd_same
  have ib5 : IsIns K (upd (upd H4 p4 (HO.lst [V.ref b])) p3 (HO.dK [(Sum.inr (Str.ofString "a"), V.ref p4), (Sum.inr (Str.ofString "b"), V.int g)])) (.ref b) := by
    obtain ⟨x, C1, dx, fs, hx, e, it⟩ := ib
    cases hx
    have n4 : b ≠ p4 := ne_of_none e np4
    have n3 : b ≠ p3 := ne_of e (s4 _ _ upd_same) (by intro z; cases z)
    exact ⟨_, C1, dx, fs, rfl, by rw [upd_ne n3, upd_ne n4]; exact e, it⟩
  generalize upd (upd H4 p4 (HO.lst [V.ref b])) p3 (HO.dK [(Sum.inr (Str.ofString "a"), V.ref p4), (Sum.inr (Str.ofString "b"), V.int g)]) = H5 at s5 e5 e6 ib5 ⊢
  have r3 : ReX P w K H5 3 (.ref p3) (.dict [(.str (Str.ofString "a"), .list [.tuple []]), (.str (Str.ofString "b"), .int g)]) := .inl ⟨p3, _, rfl, e5, by simp, (by simp; decide +kernel), .cons ⟨rfl, p4, _, rfl, e6, by simp, .cons (.inr ⟨rfl, ib5⟩) .nil⟩ (.cons ⟨rfl, rfl⟩ .nil)⟩
  have m3 : smallD 30 (.dict [(.str (Str.ofString "a"), .list [.tuple []]), (.str (Str.ofString "b"), .int g)]) := by
    refine ⟨by simp, fun e he => ?_⟩
    simp only [List.mem_cons, List.not_mem_nil, or_false] at he
    rcases he with rfl | rfl
    · refine ⟨fun x hx => by cases hx; exact a1, fun d hd => ?_⟩
      rw [List.mem_singleton.mp hd]
      exact fun d hd => by cases hd
    · exact ⟨fun x hx => by cases hx; exact b1, trivial⟩
  refine ⟨.ref p3, _, rfl, RX.up r3 (by omega), m3, by omega, fun x3 H6 s6 hp3 => ⟨by decide, fun p5 np5 => ⟨by decide, fun q1 nq1 => ⟨by decide, fun q2 nq2 => ⟨by decide, fun q3 nq3 => ⟨by decide, fun q4 nq4 => ?_⟩⟩⟩⟩⟩⟩
  rw [dp3] at hp3
  obtain ⟨t3, rfl, e7⟩ := hp3
  have z0 : Same H3 H6 := s5.trans s6
  have z1 := same_new np5 (HO.lst [V.ref t1, V.ref t2, V.ref t3])
  have z2 := same_new nq1 (HO.tup [])
  have z3 := same_new nq2 (HO.tup [V.int 1, V.str (Str.ofString "a")])
  have z4 := same_new nq3 (HO.tup [V.str (Str.ofString "a"), V.int 0])
  have z5 := same_new nq4 (HO.lst [V.ref q1, V.ref q2, V.ref q3])
  have z15 := (((z1.trans z2).trans z3).trans z4).trans z5
  have y1 := z15 _ _ (z0 _ _ (s3 _ _ (s2 _ _ e1)))
  have y2 := z15 _ _ (z0 _ _ e4)
  have y3 := z15 _ _ e7
  have y4 := ((z2.trans z3).trans (z4.trans z5)) _ _ (upd_same (H := H6) (a := p5))
  have w1 := (z3.trans (z4.trans z5)) _ _ (show upd (upd H6 p5 (HO.lst [V.ref t1, V.ref t2, V.ref t3])) q1 (HO.tup []) q1 = _ from upd_same)
  have w2 := (z4.trans z5) _ _ (show upd (upd (upd H6 p5 (HO.lst [V.ref t1, V.ref t2, V.ref t3])) q1 (HO.tup [])) q2 (HO.tup [V.int 1, V.str (Str.ofString "a")]) q2 = _ from upd_same)
  have w3 := z5 _ _ (show upd (upd (upd (upd H6 p5 (HO.lst [V.ref t1, V.ref t2, V.ref t3])) q1 (HO.tup [])) q2 (HO.tup [V.int 1, V.str (Str.ofString "a")])) q3 (HO.tup [V.str (Str.ofString "a"), V.int 0]) q3 = _ from upd_same)
  have w4 : upd (upd (upd (upd (upd H6 p5 (HO.lst [V.ref t1, V.ref t2, V.ref t3])) q1 (HO.tup [])) q2 (HO.tup [V.int 1, V.str (Str.ofString "a")])) q3 (HO.tup [V.str (Str.ofString "a"), V.int 0])) q4 (HO.lst [V.ref q1, V.ref q2, V.ref q3]) q4 = _ := upd_same
  have zz : Same H0 (upd (upd (upd (upd (upd H6 p5 (HO.lst [V.ref t1, V.ref t2, V.ref t3])) q1 (HO.tup [])) q2 (HO.tup [V.int 1, V.str (Str.ofString "a")])) q3 (HO.tup [V.str (Str.ofString "a"), V.int 0])) q4 (HO.lst [V.ref q1, V.ref q2, V.ref q3])) := s1.trans (s2.trans (s3.trans (z0.trans z15)))
  generalize upd (upd (upd (upd (upd H6 p5 (HO.lst [V.ref t1, V.ref t2, V.ref t3])) q1 (HO.tup [])) q2 (HO.tup [V.int 1, V.str (Str.ofString "a")])) q3 (HO.tup [V.str (Str.ofString "a"), V.int 0])) q4 (HO.lst [V.ref q1, V.ref q2, V.ref q3]) = H7 at y1 y2 y3 y4 w1 w2 w3 w4 zz ⊢
  refine ⟨.list [pathD [], pathD [.inl 1, .inr (Str.ofString "a")], pathD [.inr (Str.ofString "a"), .inl 0]], .list [pathD [], pathD [.inl 1, .inr (Str.ofString "a")], pathD [.inr (Str.ofString "a"), .inl 0]], .lst (SqL.of y4) (.cons (Dp_path (p := []) y1) (.cons (Dp_path (p := [.inl 1, .inr (Str.ofString "a")]) y2) (.cons (Dp_path (p := [.inr (Str.ofString "a"), .inl 0]) y3) .nil))), .lst (SqL.of w4) (.cons (Dp_path (p := []) w1) (.cons (Dp_path (p := [.inl 1, .inr (Str.ofString "a")]) w2) (.cons (Dp_path (p := [.inr (Str.ofString "a"), .inl 0]) w3) .nil))), by decide +kernel, by decide +kernel, _, rfl, ?_⟩
  rw [show PyData.eqv (.list [pathD [], pathD [.inl 1, .inr (Str.ofString "a")], pathD [.inr (Str.ofString "a"), .inl 0]]) (.list [pathD [], pathD [.inl 1, .inr (Str.ofString "a")], pathD [.inr (Str.ofString "a"), .inl 0]]) = true by decide +kernel]
  refine iteF' (by simp) (made_bundle bt fun b2 H8 s8 ib8 => ⟨.ref b2, .tuple [], rfl, RX.up (n := 1) (.inr ⟨rfl, ib8⟩) (by omega), (fun d hd => by cases hd), by omega, fun x4 H9 s9 hp4 => ⟨by decide, fun p6 np6 => ?_⟩⟩)
  rw [dp4] at hp4
  obtain ⟨t4, rfl, e9⟩ := hp4
  refine ⟨_, _, Dp_path (p := []) ((same_new np6 _) _ _ e9), Dp_path (p := []) upd_same, by decide +kernel, by decide +kernel, _, rfl, ?_⟩
  rw [show PyData.eqv (pathD []) (pathD []) = true by decide +kernel]
  refine iteF' (by simp) ?_
  have s10 := zz.trans ((s8.trans s9).trans (same_new np6 (HO.tup [])))
  refine ⟨.int g, .int g, rfl, RX.up (n := 1) (show ReX P w K _ 1 _ _ from rfl) (by omega), trivial, by omega, fun G1 v1 => ⟨by decide, fun u1 nu1 => ?_⟩⟩
  refine ⟨.ref u1, .list [.int (0 - g)], rfl, RX.up (n := 2) ⟨u1, _, rfl, upd_same, by simp, .cons rfl .nil⟩ (by omega), fun d hd => by rw [List.mem_singleton.mp hd]; trivial, by omega, fun G2 v2 => made_bundle bt fun b3 G3 v3 ib3 => ⟨.ref b3, .tuple [], rfl, RX.up (n := 1) (.inr ⟨rfl, ib3⟩) (by omega), (fun d hd => by cases hd), by omega, fun G4 v4 p7 np7 => ⟨upd_same, [(.inl g, .int 1)], rfl, by simp, ?_⟩⟩⟩
  rw [show mergeK [] [(Sum.inl g, V.int 1)] = [(Sum.inl g, V.int 1)] from rfl]
  have v5 : Same G4 (upd (upd G4 p7 (HO.dK [])) p7 (HO.dK [(Sum.inl g, V.int 1)])) := same_mut (same_new np7 _) np7
  refine ⟨.ref p7, .dict [(.int g, .int 1)], rfl, RX.up (n := 2) (.inl ⟨p7, _, rfl, upd_same, by simp, by simp, .cons ⟨rfl, rfl⟩ .nil⟩) (by omega), ⟨by simp, fun e he => ?_⟩, by omega, fun G5 v6 => ⟨by decide, fun p8 np8 => ⟨by decide, fun p9 np9 => ?_⟩⟩⟩
  · rw [List.mem_singleton.mp he]
    exact ⟨fun x hx => (by cases hx), trivial⟩
  simp only [dp1, dp4, dp5, dp6] at np9 ⊢
  have v7 := same_new np8 (HO.lst [V.bl (decide (some ([] : List Key) = none)), V.bl (decide (some [(.inl 0 : Key)] = none)), V.bl (decide (some ([] : List Key) = none)), V.bl (decide (some ([] : List Key) = none))])
  have v8 := same_new np9 (HO.lst [V.bl false])
  refine ⟨p9, 4, _, rfl, rfl, upd_same, by decide, by decide, (show 4 ≤ sizeLine by decide), fun r1 nr1 => ?_⟩
  have v9 := same_new nr1 (HO.lst (List.replicate (Int.toNat 4) [V.bl false]).flatten)
  have vv := s10.trans (v1.trans ((same_new nu1 (HO.lst [V.int (0 - g)])).trans (v2.trans (v3.trans (v4.trans (v5.trans (v6.trans (v7.trans (v8.trans v9)))))))))
  have f1 := (v8.trans v9) _ _ (upd_same (H := G5) (a := p8))
  refine ⟨.list [.bool false, .bool false, .bool false, .bool false], .list [.bool false, .bool false, .bool false, .bool false], Dp_bls (xs := [false, false, false, false]) f1, Dp_bls (xs := [false, false, false, false]) upd_same, by decide +kernel, by decide +kernel, ?_⟩
  rw [show PyData.eqv (.list [.bool false, .bool false, .bool false, .bool false]) (.list [.bool false, .bool false, .bool false, .bool false]) = true by decide +kernel]
  exact q _ vv
end

/-! ### law -/
def sp_law (K : PySem.W.Frag) : Sp := fun vs H Q _ => ∃ a ns, vs = [.ref a] ∧ Scr K H a ns ∧ ns.length ≤ 63 ∧ ∀ H', Q (.bl true) H'
def orS (sp sp' : Sp) : Sp := fun vs H Q E => sp vs H Q E ∨ sp' vs H Q E
theorem fn_or {P : Program} {w : World} {K : PySem.W.Frag} {mg : Str → Option Value} {base : Heap} {CX : CXT} {k : Nat} {f : Addr} {fd : FuncData} {ps : List Str} {sp sp' : Sp} (F : FnOk P w K mg base CX k f fd ps sp) (G : FnOk P w K mg base CX k f fd ps sp') : FnOk P w K mg base CX k f fd ps (orS sp sp') :=
  ⟨fun vs H Q E q => q.elim (F.len vs H Q E) (G.len vs H Q E), fun A outer s H args us vs Q E hr he hb hv hs => hs.elim (F.run A outer s H args us vs Q E hr he hb hv) (G.run A outer s H args us vs Q E hr he hb hv)⟩
def optD : Option (List Key) → PyData
  | none => .none
  | some p => .tuple (p.map kD)
theorem Rp_opt {H : Hp} {r : Option (List Key)} {v : V} (h : pathV r H v) (hl : ∀ p, r = some p → p.length ≤ 1000) : Rp H 2 v (optD r) := by
  cases r with
  | none => cases h; rfl
  | some p =>
    obtain ⟨t, rfl, ht⟩ := h
    exact Rp_path ht (hl _ rfl)
theorem reprN {P : Program} {w : World} {H : Hp} {v : V} {d : PyData} {Q : VK} (h : ShN P w H v d) (hd : d.depth ≤ 90) (hf : Fine d) (hc : cnt d ≤ 2000) (q : Q (.str d.shown) H) : rReprN P w [v] H Q :=
  ⟨v, d, rfl, h, hd, hf.1, hf.fits hc, q⟩
/-- the path that is told -/
structure Told (d : PyData) (r : Option (List Key)) : Prop where
  lf : ∀ p, r = some p → ∀ k ∈ p, leafD (kD k)
  ln : ∀ p, r = some p → p.length ≤ 30
theorem told_dp {d : PyData} (ok : okN 30 d) : Told d (dpN 30 d) where
  lf := fun p hp => by
    unfold dpN at hp
    split at hp
    · cases hp; intro k hk; cases hk
    · exact fwN_okN ok hp
  ln := fun p hp => by
    unfold dpN at hp
    split at hp
    · cases hp; simp
    · exact fwN_len hp
theorem Told.fine {d : PyData} {r : Option (List Key)} (h : Told d r) : Fine (optD r) ∧ cnt (optD r) ≤ 100 ∧ (optD r).depth ≤ 10 := by
  cases r with
  | none => exact ⟨Fine.leaf trivial, by simp [optD, cnt], Nat.zero_le _⟩
  | some p =>
    refine ⟨fine_path (h.lf p rfl), ?_, ?_⟩
    · simp only [optD, cnt, cnt_keys]
      have := h.ln p rfl
      omega
    · have := (Rp_path (H := fun _ => some (.tup (p.map kV))) (t := 0) rfl (by have := h.ln p rfl; omega)).depth_le
      exact Nat.le_trans this (by omega)
abbrev s_law : Stmt := top 62
theorem sc_law : FnScope ["_law_script", "_law_spot", "_law_turn", "_law_n", "_law_tree_here", "_law_k", "_law_kept", "_law_due", "_law_told"] ["_law_script"] (defScope s_law) := ⟨rfl, rfl, rfl, by decide +kernel, rfl, by decide +kernel, by decide +kernel⟩
section
variable {P : Program} {w : World} {K : PySem.W.Frag} {mg : Str → Option Value} {base : Heap} {f : Addr} {fd : FuncData}
theorem ok_law (D : Def K mg "law" s_law f fd) (B : Blt mg) (hsys : ∃ o, base.get? sysModules = some o) (R_law_cell : Rdy P w K mg base 1 "_law_cell" ["_law_cells", "_law_spot"] (sp_cell K)) (R_law_tree : Rdy P w K mg base 13 "_law_tree" ["_law_cells", "_law_spot", "_law_deep_here", "_law_left"] (sp_tree K 12))
    (R_law_spoilt : Rdy P w K mg base 14 "_law_spoilt" ["_law_tree_here", "_law_n"] (orS (sp_spl w 12) (sp_spl w 13))) (R_law_deep : Rdy P w K mg base 30 "_law_deep" ["_law_tree_here"] (sp_depthX P w K 30)) (R_law_first : Rdy P w K mg base 31 "_law_first" ["_law_tree_here"] (sp_fw P w K 30)) (R_law_strange_right : RdyG P w K mg base 34 "_law_strange_right" [] sp_strange)
    (R_document_problem : Rdy P w K mg base 32 "document_problem" ["value"] (sp_dp P w K 30)) (R_is_document : Rdy P w K mg base 33 "is_document" ["value"] (sp_isdoc P w K 30)) (RK_document_problem : RdyK P w K mg base 32 "document_problem" ["value"] ["value"] (fun vs zs => vs ++ zs) (sp_dp P w K 30)) (RK_is_document : RdyK P w K mg base 33 "is_document" ["value"] ["value"] (fun vs zs => vs ++ zs) (sp_isdoc P w K 30)) : FnG P w K mg base 35 f fd ["_law_script"] (sp_law K) := by
  refine okG D.1 sc_law (fun vs H Q E h => ?_) (fun cdv A outer s H vs Q E hgd hr h => ?_)
  · obtain ⟨a, ns, rfl, _⟩ := h
    rfl
  obtain ⟨a, ns, rfl, hs, h63, q⟩ := h
  have hu := hu_of hr
  have hr1 : Room 1 _ := hr.mono (by omega)
  have hr13 : Room 13 _ := hr.mono (by omega)
  have hr14 : Room 14 _ := hr.mono (by omega)
  have hr30 : Room 30 _ := hr.mono (by omega)
  have hr31 : Room 31 _ := hr.mono (by omega)
  have hr32 : Room 32 _ := hr.mono (by omega)
  have hr33 : Room 33 _ := hr.mono (by omega)
  refine ⟨_, (pss_cons (ps_set (i := 1) sc_law.nd rfl (by first | exact Or.inl rfl | exact Or.inr rfl) (pe_lst (pa_cons pe_int pa_nil)))
  (pss_cons (ps_if (pt_not (pt_val (pe_cg0 R_law_strange_right hgd hr rfl)))
   (pss_one (ps_ret pe_bl))
   pss_nil)
  (pss_cons (ps_for PassesOwn.never rfl (pi_range1 (by rfl) B.b_range (pa_cons (pe_op op_add pe_int (pe_callB (call_min2 rfl) (by rfl) B.b_min (by decide +kernel) (pa_cons pe_int (pa_cons (pe_callB (lenK (K := K) rfl) (by rfl) B.b_len (by decide +kernel) (pa_cons (pv 0) pa_nil)) pa_nil)))) pa_nil)) (pg_name (i := 2) sc_law.nd rfl (by first | exact Or.inl rfl | exact Or.inr rfl))
   (pss_cons (ps_set (i := 3) sc_law.nd rfl (by first | exact Or.inl rfl | exact Or.inr rfl) (pe_c R_law_cell hr1 rfl (pa_cons (pv 0) (pa_cons (pv 1) pa_nil))))
  (pss_cons (ps_set (i := 4) sc_law.nd rfl (by first | exact Or.inl rfl | exact Or.inr rfl) (pe_c R_law_tree hr13 rfl (pa_cons (pv 0) (pa_cons (pv 1) (pa_cons (pe_op op_add pe_int (pe_op op_mod (pv 3) pe_int)) (pa_cons (pe_lst (pa_cons pe_int pa_nil)) pa_nil))))))
  (pss_cons (ps_for PassesOwn.never rfl (pi_range1 (by rfl) B.b_range (pa_cons (pe_op op_mod (pe_op op_fdiv (pv 3) pe_int) pe_int) pa_nil)) (pg_name (i := 5) sc_law.nd rfl (by first | exact Or.inl rfl | exact Or.inr rfl))
   (pss_one (ps_set (i := 4) sc_law.nd rfl (by first | exact Or.inl rfl | exact Or.inr rfl) (pe_c R_law_spoilt hr14 rfl (pa_cons (pv 4) (pa_cons (pe_c R_law_cell hr1 rfl (pa_cons (pv 0) (pa_cons (pv 1) pa_nil))) pa_nil))))))
  (pss_cons (ps_for PassesOwn.never rfl (pi_range1 (by rfl) B.b_range (pa_cons (pe_ix (ixLK (K := K) rfl) (pe_lst (pa_cons pe_int (pa_cons pe_int (pa_cons pe_int (pa_cons pe_int (pa_cons pe_int pa_nil)))))) (pe_op op_mod (pe_op op_fdiv (pv 3) pe_int) pe_int) (fun _ _ => rfl)) pa_nil)) (pg_name (i := 5) sc_law.nd rfl (by first | exact Or.inl rfl | exact Or.inr rfl))
   (pss_one (ps_set (i := 4) sc_law.nd rfl (by first | exact Or.inl rfl | exact Or.inr rfl) (pe_ifExp (pt_cmpR op_eq (pe_op op_mod (pv 5) pe_int) pe_int (nomark _)) (pe_lst (pa_cons (pv 4) pa_nil)) (pe_disp (L2.pps_cons pe_str (pv 4) L2.pps_nil) (by rfl) (by rfl) (fun z => by cases z) (by decide))))))
  (pss_cons (ps_par (i := 6) (j := 7) (by rfl) sc_law.nd rfl rfl (by decide) rfl rfl (pa_cons (pe_callB (call_reprN (P := P) (w := w) rfl rfl hgd hsys (Room.u100 hr)) (by rfl) B.b_repr (by decide +kernel) (pa_cons (pv 4) pa_nil)) (pa_cons (pe_ifExp (pt_cmpR op_gt (pe_c R_law_deep hr30 rfl (pa_cons (pv 4) pa_nil)) pe_int (nomark _)) (pe_tup pa_nil) (pe_c R_law_first hr31 rfl (pa_cons (pv 4) pa_nil))) pa_nil)) (by rfl))
  (pss_cons (ps_set (i := 8) sc_law.nd rfl (by first | exact Or.inl rfl | exact Or.inr rfl) (pe_lst (pa_cons (pe_c R_document_problem hr32 rfl (pa_cons (pv 4) pa_nil)) (pa_cons (pe_ck0 R_document_problem hr32 rfl RK_document_problem (pk_cons (pv 4) pk_nil)) pa_nil))))
  (pss_cons (ps_if (PW.pt (pw_or (pt_cmpR op_ne (pe_callB (call_reprN (P := P) (w := w) rfl rfl hgd hsys (Room.u100 hr)) (by rfl) B.b_repr (by decide +kernel) (pa_cons (pv 8) pa_nil)) (pe_callB (call_reprN (P := P) (w := w) rfl rfl hgd hsys (Room.u100 hr)) (by rfl) B.b_repr (by decide +kernel) (pa_cons (pe_lst (pa_cons (pv 7) (pa_cons (pv 7) pa_nil))) pa_nil)) (nomark _)) (pw_or1 (pt_cmpR op_ne (pe_callB (call_reprN (P := P) (w := w) rfl rfl hgd hsys (Room.u100 hr)) (by rfl) B.b_repr (by decide +kernel) (pa_cons (pv 4) pa_nil)) (pv 6) (nomark _)))))
   (pss_one (ps_ret pe_bl))
   pss_nil)
  (pss_one (ps_if (pt_cmpR op_ne (pe_callB (call_reprN (P := P) (w := w) rfl rfl hgd hsys (Room.u100 hr)) (by rfl) B.b_repr (by decide +kernel) (pa_cons (pe_lst (pa_cons (pe_c R_is_document hr33 rfl (pa_cons (pv 4) pa_nil)) (pa_cons (pe_ck0 R_is_document hr33 rfl RK_is_document (pk_cons (pv 4) pk_nil)) pa_nil))) pa_nil)) (pe_callB (call_reprN (P := P) (w := w) rfl rfl hgd hsys (Room.u100 hr)) (by rfl) B.b_repr (by decide +kernel) (pa_cons (pe_op op_rep (pe_lst (pa_cons (pe_cmpR op_isN (pv 7) pe_non (nomark _)) pa_nil)) pe_int) pa_nil)) (nomark _))
   (pss_one (ps_ret pe_bl))
   pss_nil))))))))))
  (pss_one (ps_ret pe_bl))))), ?_⟩
  walk_at "rd"
  have hs0 : ∀ (p : Addr), H p = none → Scr K (upd H p (HO.lst [V.int 0])) a ns := fun p np => hs.same (same_new np _)
  refine ⟨sz5 (by omega), fun p np => ⟨rfl, fun H1 s1 => ⟨_, rfl, iteF' (by simp) ⟨_, .inl ⟨_, ((hs0 p np).same s1).sq, rfl⟩, ?_⟩⟩⟩⟩
  rw [List.length_map]
  have hmin : (0 : Int) ≤ (if (ns.length : Int) < 8 then (ns.length : Int) else 8) ∧ (if (ns.length : Int) < 8 then (ns.length : Int) else 8) ≤ 8 := by split <;> omega
  generalize (if (ns.length : Int) < 8 then (ns.length : Int) else 8) = mm at hmin ⊢
  refine ⟨by omega, by omega, ?_⟩
  obtain ⟨t, ht⟩ : ∃ t : Nat, (3 + mm).toNat = t := ⟨_, rfl⟩
  rw [ht]
  have ht2 : t ≤ 11 := by omega
  refine fo_it walk_range (fun i σ' H' => ∃ (k : Int) (v2 v3 v4 v5 v6 v7 v8 : Option V), σ' = [some (V.ref a), some (V.ref p), v2, v3, v4, v5, v6, v7, v8] ∧ Scr K H' a ns ∧ H' p = some (.lst [.int k]) ∧ 0 ≤ k ∧ k ≤ 300000000 * i)
    ⟨0, none, none, none, none, none, none, none, rfl, (hs0 p np).same s1, s1 _ _ upd_same, by omega, by omega⟩ (fun _ _ _ _ _ => trivial) ?_ ?_
  · rintro i y σ' H1 H2 hi ⟨k, v2, v3, v4, v5, v6, v7, v8, rfl, hs1, hp, k0, k1⟩ ⟨rfl, rfl⟩
    refine cutM (fun σ' H' => ∃ n : Int, 0 ≤ n ∧ σ' = [some (V.ref a), some (V.ref p), some (.int (0 + i)), some (.int n), v4, v5, v6, v7, v8] ∧ Scr K H' a ns ∧ H' p = some (.lst [.int (k + 1)])) (fun N hN => ?_) ?_
    · walk_at "rd"
      refine ⟨a, p, ns, k, rfl, hs1, h63, hp, k0, by omega, fun n n0 n1 => ?_⟩
      exact hN _ _ ⟨n, n0, rfl, hs1.put hp, upd_same⟩
    rintro σ' H3 ⟨n, n0, rfl, hs3, hp3⟩
    have m11 := mod_in n (m := 11) (by decide)
    refine cutM (fun σ' H' => ∃ v d k', σ' = [some (V.ref a), some (V.ref p), some (.int (0 + i)), some (.int n), some v, v5, v6, v7, v8] ∧ Scr K H' a ns ∧ H' p = some (.lst [.int k']) ∧ 0 ≤ k' ∧ k' ≤ 300000000 * i + 250000000 ∧ ReN w 12 (gone [p] H') v d ∧ okN 12 d ∧ cnt d ≤ 100) (fun N hN => ?_) ?_
    · walk_at "rd"
      refine ⟨by decide, sz5 (by omega), fun lf nlf => ?_⟩
      have npl : p ≠ lf := ne_of_none hp3 nlf
      have hp4 : upd H3 lf (.lst [.int 40]) p = some (.lst [.int (k + 1)]) := by rw [upd_ne npl]; exact hp3
      refine ⟨a, p, lf, ns, k + 1, 40, 2 + n % 11, rfl, hs3.same (same_new nlf _), h63, hp4, by omega, by omega, upd_same, npl, by omega, by omega, fun v d H4 k4 z4 K4 e1 l1 l2 e2 c1 c2 r4 d4 => ?_⟩
      have hS : ∀ b ∈ [p, lf], upd H3 lf (.lst [.int 40]) b ≠ none := by simp [hp4, upd_same]
      exact hN _ _ ⟨v, d, k4, rfl, (hs3.same (same_new nlf _)).keep K4 (by simp [hp4, upd_same]), e1, by omega, by omega, (r4.imp ((news_gone hS).trans (gone_less (by simp)))).n, d4.okN, by omega⟩
    rintro σ' H4 ⟨v, d, k4, rfl, hs4, hp4, k40, k41, rv, ok4, cv⟩
    -- spoilt
    refine cutM (fun σ' H' => ∃ v d k' v5, σ' = [some (V.ref a), some (V.ref p), some (.int (0 + i)), some (.int n), some v, v5, v6, v7, v8] ∧ Scr K H' a ns ∧ H' p = some (.lst [.int k']) ∧ 0 ≤ k' ∧ k' ≤ 300000000 * i + 250000002 ∧ ReN w 14 (gone [p] H') v d ∧ okN 14 d ∧ cnt d ≤ 104) (fun N hN => ?_) ?_
    · walk_at "rd"
      have m3 := mod_in (n / 11) (m := 3) (by decide)
      refine ⟨⟨by decide, by decide⟩, by decide, by omega, by omega, ?_⟩
      obtain ⟨t2, ht2⟩ : ∃ t : Nat, (n / 11 % 3).toNat = t := ⟨_, rfl⟩
      rw [ht2]
      refine fo_it walk_range (fun j σ' H' => ∃ v d k' v5, σ' = [some (V.ref a), some (V.ref p), some (.int (0 + i)), some (.int n), some v, v5, v6, v7, v8] ∧ Scr K H' a ns ∧ H' p = some (.lst [.int k']) ∧ 0 ≤ k' ∧ k' ≤ 300000000 * i + 250000000 + j ∧ ReN w (12 + j) (gone [p] H') v d ∧ okN (12 + j) d ∧ cnt d ≤ 100 + 2 * j) ⟨v, d, k4, v5, rfl, hs4, hp4, k40, by omega, rv, ok4, by omega⟩ (fun _ _ _ _ _ => trivial) ?_ ?_
      · rintro j y σ' H5 H6 hj ⟨v, d, k5, v5, rfl, hs5, hp5, k50, k51, rv5, ok5, cv5⟩ ⟨rfl, rfl⟩
        walk_at "rd"
        refine ⟨a, p, ns, k5, rfl, hs5, h63, hp5, k50, by omega, fun m m0 m1 => ?_⟩
        have hg : Same (gone [p] H6) (gone [p] (upd H6 p (.lst [.int (k5 + 1)]))) := by rw [gone_mut (by simp)]; exact .refl _
        have hS : ∀ b ∈ [p], upd H6 p (.lst [.int (k5 + 1)]) b ≠ none := by simp [upd_same]
        rcases (show j = 0 ∨ j = 1 by omega) with rfl | rfl
        · exact .inl ⟨v, d, m, [p], rfl, m0, hS, rv5.imp hg, ok5, fun v' d' H' s r o c => ⟨(hs5.put hp5).same s, d', k5 + 1, s _ _ upd_same, by omega, by omega, r, o, by omega⟩⟩
        · exact .inr ⟨v, d, m, [p], rfl, m0, hS, rv5.imp hg, ok5, fun v' d' H' s r o c => ⟨(hs5.put hp5).same s, d', k5 + 1, s _ _ upd_same, by omega, by omega, r, o, by omega⟩⟩
      · rintro σ' H' ⟨v, d, k5, v5, rfl, hs5, hp5, k50, k51, rv5, ok5, cv5⟩
        exact hN _ _ ⟨v, d, k5, v5, rfl, hs5, hp5, k50, by omega, rv5.up (by omega), ok5.up (by omega), by omega⟩
    clear rv ok4 cv hs4 hp4
    rintro σ' H5 ⟨v, d, k5, v5, rfl, hs5, hp5, k50, k51, rv, ok5, cv⟩
    -- wrapped
    refine cutM (fun σ' H' => ∃ v d v5, σ' = [some (V.ref a), some (V.ref p), some (.int (0 + i)), some (.int n), some v, v5, v6, v7, v8] ∧ Same H5 H' ∧ ReN w 30 H' v d ∧ okN 30 d ∧ cnt d ≤ 120) (fun N hN => ?_) ?_
    · walk_at "rd"
      have n5 := mod_in (n / 33) (m := 5) (by decide)
      refine ⟨by decide, fun pl npl => ⟨⟨by decide, by decide⟩, by decide, ix_any upd_same (by omega) (by simp; omega) fun u hu => ?_⟩⟩
      obtain ⟨c, rfl, hc⟩ : ∃ c : Nat, u = V.int c ∧ c ≤ 12 := by
        simp only [List.mem_cons, List.not_mem_nil, or_false] at hu
        rcases hu with rfl | rfl | rfl | rfl | rfl
        · exact ⟨0, rfl, by omega⟩
        · exact ⟨0, rfl, by omega⟩
        · exact ⟨3, rfl, by omega⟩
        · exact ⟨9, rfl, by omega⟩
        · exact ⟨12, rfl, by omega⟩
      refine ⟨_, rfl, by omega, by omega, ?_⟩
      rw [Int.toNat_natCast]
      have sL := same_new npl (.lst [V.int 0, V.int 0, V.int 3, V.int 9, V.int 12])
      have rvL : ReN w 14 (upd H5 pl (.lst [V.int 0, V.int 0, V.int 3, V.int 9, V.int 12])) v d := rv.imp fun b o e => sL _ _ (gone_sub _ _ _ _ e)
      generalize upd H5 pl (.lst [V.int 0, V.int 0, V.int 3, V.int 9, V.int 12]) = HL at sL rvL ⊢
      refine fo_it walk_range (fun j σ' H' => ∃ v d v5, σ' = [some (V.ref a), some (V.ref p), some (.int (0 + i)), some (.int n), some v, v5, v6, v7, v8] ∧ Same H5 H' ∧ ReN w (14 + j) H' v d ∧ okN (14 + j) d ∧ cnt d ≤ 104 + j) ⟨v, d, v5, rfl, sL, rvL, ok5, by omega⟩ (fun _ _ _ _ _ => trivial) ?_ ?_
      · rintro j y σ' H6 H7 hj ⟨v, d, v5, rfl, s6, rv6, ok6, cv6⟩ ⟨rfl, rfl⟩
        walk_at "rd"
        refine ⟨by decide, rfl, ite2 (fun g1 => ⟨by decide, fun p1 np1 => ?_⟩) fun g1 p1 np1 => ⟨upd_same, [(.inr (Str.ofString "a"), v)], rfl, by simp, ?_⟩⟩
        · exact ⟨s6.trans (same_new np1 _), .list [d], ⟨p1, [v], rfl, upd_same, by simp, .cons (rv6.imp (same_new np1 _)) .nil⟩, ⟨by simp, fun e he => by rw [List.mem_singleton.mp he]; exact ok6⟩, by simp only [cnt, cntAll]; omega⟩
        · rw [show mergeK [] [(Sum.inr (Str.ofString "a"), v)] = [(Sum.inr (Str.ofString "a"), v)] from rfl]
          have sd : Same H7 (del (upd (upd H7 p1 (.dK [])) p1 (.dK [(Sum.inr (Str.ofString "a"), v)])) p1) := fun b o e => by
            have hb := ne_of_none e np1
            rw [del_ne hb, upd_ne hb, upd_ne hb]
            exact e
          have a1 : (Str.ofString "a").length ≤ 1000 ∧ AsciiS (Str.ofString "a") := ⟨by decide +kernel, by unfold AsciiS; decide +kernel⟩
          refine ⟨s6.trans (same_mut (same_new np1 _) np1), .dict [(.str (Str.ofString "a"), d)], .inl ⟨p1, _, rfl, upd_same, by simp, by simp, .cons ⟨rfl, rv6.imp sd⟩ .nil⟩, ⟨by simp, fun e he => ?_⟩, by simp only [cnt, cntKv]; omega⟩
          rw [List.mem_singleton.mp he]
          exact ⟨⟨fun x hx => by cases hx; exact a1, kfine_name (by decide +kernel) a1.2⟩, ok6⟩
      · rintro σ' H' ⟨v, d, v5, rfl, s6, rv6, ok6, cv6⟩
        exact hN _ _ ⟨v, d, v5, rfl, s6, rv6.up (by omega), ok6.up (by omega), by omega⟩
    clear rv ok5 cv
    rintro σ' H6 ⟨v, d, v5, rfl, s6, rv, ok, cv⟩
    have told := told_dp ok
    obtain ⟨tf1, tf2, tf3⟩ := told.fine
    have sm := ok.small
    have dd := rv.depth
    -- what is due
    refine cutM (fun σ' H' => ∃ v7, σ' = [some (V.ref a), some (V.ref p), some (.int (0 + i)), some (.int n), some v, v5, some (.str d.shown), some v7, v8] ∧ Same H6 H' ∧ pathV (dpN 30 d) H' v7) (fun N hN => ?_) ?_
    · walk_at "rd"
      refine reprN rv.sh (by omega) ok.fine (by omega) ⟨v, d, rfl, rv.x.rp, fun H7 s7 => ?_⟩
      refine ⟨_, rfl, ite2 (fun g1 => ⟨by decide, fun p1 np1 => ?_⟩) fun g1 => ⟨v, d, rfl, (rv.imp s7).x, sm, by omega, fun v1 H8 s8 hp => ?_⟩⟩
      · refine hN _ _ ⟨_, rfl, s7.trans (same_new np1 _), ?_⟩
        rw [dpN, if_pos g1]
        exact ⟨p1, rfl, upd_same⟩
      · refine hN _ _ ⟨_, rfl, s7.trans s8, ?_⟩
        rw [dpN, if_neg g1]
        exact hp
    rintro σ' H7 ⟨v7, rfl, s7, p7⟩
    have hv7 : decide (v7 = V.non) = decide (dpN 30 d = none) := by
      cases hr9 : dpN 30 d with
      | none => rw [hr9] at p7; cases p7; simp
      | some p9 => rw [hr9] at p7; obtain ⟨t9, rfl, _⟩ := p7; simp
    have r7 := Rp_opt p7 (fun p hp => by have := told.ln p hp; omega)
    have opt : ∀ {H' : Hp} {v : V}, pathV (dpN 30 d) H' v → Rp H' 2 v (optD (dpN 30 d)) := fun h => Rp_opt h (fun p hp => by have := told.ln p hp; omega)
    generalize optD (dpN 30 d) = o9 at opt r7 tf1 tf2 tf3
    have fL : Fine (.list [o9, o9]) := Fine.list fun x hx => by
      simp only [List.mem_cons, List.not_mem_nil, or_false] at hx
      rcases hx with rfl | rfl <;> exact tf1
    have cL : cnt (.list [o9, o9]) ≤ 2000 := by simp only [cnt, cntAll]; omega
    have dL : (PyData.list [o9, o9]).depth ≤ 90 := by
      have : PyData.depthAll [o9, o9] ≤ 10 := depthAll_le fun x hx => by
        simp only [List.mem_cons, List.not_mem_nil, or_false] at hx
        rcases hx with rfl | rfl <;> exact tf3
      show PyData.depthAll [o9, o9] + 1 ≤ 90
      omega
    have bf : ∀ b : Bool, Fine (.list [.bool b, .bool b]) := fun b => Fine.list fun x hx => by
      simp only [List.mem_cons, List.not_mem_nil, or_false] at hx
      rcases hx with rfl | rfl <;> exact Fine.leaf trivial
    have bd : ∀ b : Bool, (PyData.list [.bool b, .bool b]).depth ≤ 90 := fun b => (by cases b <;> decide)
    have x7 := rv.imp s7
    walk_at "rd"
    refine ⟨v, d, rfl, x7.x, sm, by omega, fun va Ha sa pa => ⟨v, d, rfl, (x7.imp sa).x, sm, by omega, fun vb Hb sb pb => ⟨by decide, fun q1 nq1 => ?_⟩⟩⟩
    have t1 := same_new nq1 (.lst [va, vb])
    refine reprN (ShN.list upd_same (.cons ((opt pa).imp (sb.trans t1)).shN (.cons ((opt pb).imp t1).shN .nil))) dL fL cL ⟨by decide, fun q2 nq2 => ?_⟩
    have t2 := same_new nq2 (.lst [v7, v7])
    have s72 := sa.trans (sb.trans (t1.trans t2))
    refine reprN (ShN.list upd_same (.cons (r7.imp s72).shN (.cons (r7.imp s72).shN .nil))) dL fL cL ⟨rfl, iteF' (by simp) (reprN (x7.imp s72).sh (by omega) ok.fine (by omega) ⟨rfl, iteF' (by simp) ?_⟩)⟩
    refine ⟨v, d, rfl, (x7.imp s72).x, sm, by omega, fun Hc sc => ⟨v, d, rfl, ((x7.imp s72).imp sc).x, sm, by omega, fun Hd sd => ⟨by decide, fun q3 nq3 => ?_⟩⟩⟩
    have t3 := same_new nq3 (.lst [V.bl (decide (dpN 30 d = none)), V.bl (decide (dpN 30 d = none))])
    refine reprN (d := .list [.bool (decide (dpN 30 d = none)), .bool (decide (dpN 30 d = none))]) (ShN.list upd_same (.cons (Rp.shN (n := 1) rfl) (.cons (Rp.shN (n := 1) rfl) .nil))) (bd _) (bf _) (by simp [cnt, cntAll]) ⟨by decide, fun q4 nq4 => ?_⟩
    have t4 := same_new nq4 (.lst [V.bl (decide (v7 = V.non))])
    refine ⟨q4, 2, _, rfl, rfl, upd_same, by decide, by decide, (show 2 ≤ sizeLine by decide), fun q5 nq5 => ?_⟩
    have t5 := same_new nq5 (HO.lst (List.replicate (Int.toNat 2) [V.bl (decide (v7 = V.non))]).flatten)
    have e5 : upd (upd (upd Hd q3 (.lst [V.bl (decide (dpN 30 d = none)), V.bl (decide (dpN 30 d = none))])) q4 (.lst [V.bl (decide (v7 = V.non))])) q5 (HO.lst (List.replicate (Int.toNat 2) [V.bl (decide (v7 = V.non))]).flatten) q5 = some (.lst [V.bl (decide (v7 = V.non)), V.bl (decide (v7 = V.non))]) := upd_same
    have sall := s6.trans (s7.trans (s72.trans (sc.trans (sd.trans (t3.trans (t4.trans t5))))))
    refine reprN (d := .list [.bool (decide (v7 = V.non)), .bool (decide (v7 = V.non))]) (ShN.list e5 (.cons (Rp.shN (n := 1) rfl) (.cons (Rp.shN (n := 1) rfl) .nil))) (bd _) (bf _) (by simp [cnt, cntAll]) ⟨rfl, iteF' (by rw [hv7]; simp) ?_⟩
    exact ⟨hs5.same sall, k5, sall _ _ hp5, k50, by omega⟩
  · rintro σ' H' _
    walk_at "rd"
    exact q _
end

abbrev LVL : Nat := 35
section
variable {P : Program} {w : World} {K : PySem.W.Frag} {mg : Str → Option Value} {base : Heap} {f : Addr} {fd : FuncData}
theorem ok_lfirsts (D : Def K mg "_law_first" s_law_first f fd) (B : Blt mg) :
    ∀ n : Nat, FnOk P w K mg base CX0 (n + 1) f fd ["_law_tree_here"] (sp_fw P w K n)
  | 0 => ⟨fun vs H Q E ⟨_, _, _, h, _⟩ => h.elim, fun A outer s H args us vs Q E _ _ _ _ ⟨_, _, _, h, _⟩ => h.elim⟩
  | n + 1 => ok_lfirst D B (D.rdy (fun _ _ _ _ _ _ us hl => match us, hl with | [_], _ => rfl) (ok_lfirsts D B n))
end
theorem all_mk {l : PySem.W.OpenLaw} {w : World} {K : PySem.W.Frag} {h : Heap} {mg : Str → Option Value} {fa f0 f1 f2 f3 f4 f5 f6 f7 f8 f9 f10 f11 f12 f13 f14 f15 : Addr} (X : K.In h) (G : h.Ns mainGlobals mg) (hfa : mg "law" = some (.ref fa))
    {od0 an0 : Option Addr} {sl0 : Array (Option Value)} {oc0 kV0 dc0 pm0 cd0 ct0 : Value}
    (a0 : PySem.W.nsIn K mainGlobals "is_integer" = some (some (.ref f0)))
    (l0 : K.lookup f0 = some ⟨oc0, od0, .func (PySem.W.fnOf "is_integer" "is_integer" (defArgs s_is_integer) (defBody s_is_integer) (defScope s_is_integer) .none kV0 dc0 pm0 an0 cd0 ct0), sl0⟩)
    (c0 : PySem.W.codeIn K cd0 "is_integer" = true) (k0 : PySem.W.keepIn K (.ref f0) = true)
    {od1 an1 : Option Addr} {sl1 : Array (Option Value)} {oc1 kV1 dc1 pm1 cd1 ct1 : Value}
    (a1 : PySem.W.nsIn K mainGlobals "is_text" = some (some (.ref f1)))
    (l1 : K.lookup f1 = some ⟨oc1, od1, .func (PySem.W.fnOf "is_text" "is_text" (defArgs s_is_text) (defBody s_is_text) (defScope s_is_text) .none kV1 dc1 pm1 an1 cd1 ct1), sl1⟩)
    (c1 : PySem.W.codeIn K cd1 "is_text" = true) (k1 : PySem.W.keepIn K (.ref f1) = true)
    {od2 an2 : Option Addr} {sl2 : Array (Option Value)} {oc2 kV2 dc2 pm2 cd2 ct2 : Value}
    (a2 : PySem.W.nsIn K mainGlobals "depth_of" = some (some (.ref f2)))
    (l2 : K.lookup f2 = some ⟨oc2, od2, .func (PySem.W.fnOf "depth_of" "depth_of" (defArgs s_depth_of) (defBody s_depth_of) (defScope s_depth_of) .none kV2 dc2 pm2 an2 cd2 ct2), sl2⟩)
    (c2 : PySem.W.codeIn K cd2 "depth_of" = true) (k2 : PySem.W.keepIn K (.ref f2) = true)
    {od3 an3 : Option Addr} {sl3 : Array (Option Value)} {oc3 kV3 dc3 pm3 cd3 ct3 : Value}
    (a3 : PySem.W.nsIn K mainGlobals "first_wrong" = some (some (.ref f3)))
    (l3 : K.lookup f3 = some ⟨oc3, od3, .func (PySem.W.fnOf "first_wrong" "first_wrong" (defArgs s_first_wrong) (defBody s_first_wrong) (defScope s_first_wrong) .none kV3 dc3 pm3 an3 cd3 ct3), sl3⟩)
    (c3 : PySem.W.codeIn K cd3 "first_wrong" = true) (k3 : PySem.W.keepIn K (.ref f3) = true)
    {od4 an4 : Option Addr} {sl4 : Array (Option Value)} {oc4 kV4 dc4 pm4 cd4 ct4 : Value}
    (a4 : PySem.W.nsIn K mainGlobals "document_problem" = some (some (.ref f4)))
    (l4 : K.lookup f4 = some ⟨oc4, od4, .func (PySem.W.fnOf "document_problem" "document_problem" (defArgs s_document_problem) (defBody s_document_problem) (defScope s_document_problem) .none kV4 dc4 pm4 an4 cd4 ct4), sl4⟩)
    (c4 : PySem.W.codeIn K cd4 "document_problem" = true) (k4 : PySem.W.keepIn K (.ref f4) = true)
    {od5 an5 : Option Addr} {sl5 : Array (Option Value)} {oc5 kV5 dc5 pm5 cd5 ct5 : Value}
    (a5 : PySem.W.nsIn K mainGlobals "is_document" = some (some (.ref f5)))
    (l5 : K.lookup f5 = some ⟨oc5, od5, .func (PySem.W.fnOf "is_document" "is_document" (defArgs s_is_document) (defBody s_is_document) (defScope s_is_document) .none kV5 dc5 pm5 an5 cd5 ct5), sl5⟩)
    (c5 : PySem.W.codeIn K cd5 "is_document" = true) (k5 : PySem.W.keepIn K (.ref f5) = true)
    {od6 an6 : Option Addr} {sl6 : Array (Option Value)} {oc6 kV6 dc6 pm6 cd6 ct6 : Value}
    (a6 : PySem.W.nsIn K mainGlobals "_law_cell" = some (some (.ref f6)))
    (l6 : K.lookup f6 = some ⟨oc6, od6, .func (PySem.W.fnOf "_law_cell" "_law_cell" (defArgs s_law_cell) (defBody s_law_cell) (defScope s_law_cell) .none kV6 dc6 pm6 an6 cd6 ct6), sl6⟩)
    (c6 : PySem.W.codeIn K cd6 "_law_cell" = true) (k6 : PySem.W.keepIn K (.ref f6) = true)
    {od7 an7 : Option Addr} {sl7 : Array (Option Value)} {oc7 kV7 dc7 pm7 cd7 ct7 : Value}
    (a7 : PySem.W.nsIn K mainGlobals "_law_leaf" = some (some (.ref f7)))
    (l7 : K.lookup f7 = some ⟨oc7, od7, .func (PySem.W.fnOf "_law_leaf" "_law_leaf" (defArgs s_law_leaf) (defBody s_law_leaf) (defScope s_law_leaf) .none kV7 dc7 pm7 an7 cd7 ct7), sl7⟩)
    (c7 : PySem.W.codeIn K cd7 "_law_leaf" = true) (k7 : PySem.W.keepIn K (.ref f7) = true)
    {od8 an8 : Option Addr} {sl8 : Array (Option Value)} {oc8 kV8 dc8 pm8 cd8 ct8 : Value}
    (a8 : PySem.W.nsIn K mainGlobals "_law_names" = some (some (.ref f8)))
    (l8 : K.lookup f8 = some ⟨oc8, od8, .func (PySem.W.fnOf "_law_names" "_law_names" (defArgs s_law_names) (defBody s_law_names) (defScope s_law_names) .none kV8 dc8 pm8 an8 cd8 ct8), sl8⟩)
    (c8 : PySem.W.codeIn K cd8 "_law_names" = true) (k8 : PySem.W.keepIn K (.ref f8) = true)
    {od9 an9 : Option Addr} {sl9 : Array (Option Value)} {oc9 kV9 dc9 pm9 cd9 ct9 : Value}
    (a9 : PySem.W.nsIn K mainGlobals "_law_tree" = some (some (.ref f9)))
    (l9 : K.lookup f9 = some ⟨oc9, od9, .func (PySem.W.fnOf "_law_tree" "_law_tree" (defArgs s_law_tree) (defBody s_law_tree) (defScope s_law_tree) .none kV9 dc9 pm9 an9 cd9 ct9), sl9⟩)
    (c9 : PySem.W.codeIn K cd9 "_law_tree" = true) (k9 : PySem.W.keepIn K (.ref f9) = true)
    {od10 an10 : Option Addr} {sl10 : Array (Option Value)} {oc10 kV10 dc10 pm10 cd10 ct10 : Value}
    (a10 : PySem.W.nsIn K mainGlobals "_law_odd" = some (some (.ref f10)))
    (l10 : K.lookup f10 = some ⟨oc10, od10, .func (PySem.W.fnOf "_law_odd" "_law_odd" (defArgs s_law_odd) (defBody s_law_odd) (defScope s_law_odd) .none kV10 dc10 pm10 an10 cd10 ct10), sl10⟩)
    (c10 : PySem.W.codeIn K cd10 "_law_odd" = true) (k10 : PySem.W.keepIn K (.ref f10) = true)
    {od11 an11 : Option Addr} {sl11 : Array (Option Value)} {oc11 kV11 dc11 pm11 cd11 ct11 : Value}
    (a11 : PySem.W.nsIn K mainGlobals "_law_spoilt" = some (some (.ref f11)))
    (l11 : K.lookup f11 = some ⟨oc11, od11, .func (PySem.W.fnOf "_law_spoilt" "_law_spoilt" (defArgs s_law_spoilt) (defBody s_law_spoilt) (defScope s_law_spoilt) .none kV11 dc11 pm11 an11 cd11 ct11), sl11⟩)
    (c11 : PySem.W.codeIn K cd11 "_law_spoilt" = true) (k11 : PySem.W.keepIn K (.ref f11) = true)
    {od12 an12 : Option Addr} {sl12 : Array (Option Value)} {oc12 kV12 dc12 pm12 cd12 ct12 : Value}
    (a12 : PySem.W.nsIn K mainGlobals "_law_deep" = some (some (.ref f12)))
    (l12 : K.lookup f12 = some ⟨oc12, od12, .func (PySem.W.fnOf "_law_deep" "_law_deep" (defArgs s_law_deep) (defBody s_law_deep) (defScope s_law_deep) .none kV12 dc12 pm12 an12 cd12 ct12), sl12⟩)
    (c12 : PySem.W.codeIn K cd12 "_law_deep" = true) (k12 : PySem.W.keepIn K (.ref f12) = true)
    {od13 an13 : Option Addr} {sl13 : Array (Option Value)} {oc13 kV13 dc13 pm13 cd13 ct13 : Value}
    (a13 : PySem.W.nsIn K mainGlobals "_law_first" = some (some (.ref f13)))
    (l13 : K.lookup f13 = some ⟨oc13, od13, .func (PySem.W.fnOf "_law_first" "_law_first" (defArgs s_law_first) (defBody s_law_first) (defScope s_law_first) .none kV13 dc13 pm13 an13 cd13 ct13), sl13⟩)
    (c13 : PySem.W.codeIn K cd13 "_law_first" = true) (k13 : PySem.W.keepIn K (.ref f13) = true)
    {od14 an14 : Option Addr} {sl14 : Array (Option Value)} {oc14 kV14 dc14 pm14 cd14 ct14 : Value}
    (a14 : PySem.W.nsIn K mainGlobals "_law_strange_right" = some (some (.ref f14)))
    (l14 : K.lookup f14 = some ⟨oc14, od14, .func (PySem.W.fnOf "_law_strange_right" "_law_strange_right" (defArgs s_law_strange_right) (defBody s_law_strange_right) (defScope s_law_strange_right) .none kV14 dc14 pm14 an14 cd14 ct14), sl14⟩)
    (c14 : PySem.W.codeIn K cd14 "_law_strange_right" = true) (k14 : PySem.W.keepIn K (.ref f14) = true)
    {od15 an15 : Option Addr} {sl15 : Array (Option Value)} {oc15 kV15 dc15 pm15 cd15 ct15 : Value}
    (a15 : PySem.W.nsIn K mainGlobals "law" = some (some (.ref f15)))
    (l15 : K.lookup f15 = some ⟨oc15, od15, .func (PySem.W.fnOf "law" "law" (defArgs s_law) (defBody s_law) (defScope s_law) .none kV15 dc15 pm15 an15 cd15 ct15), sl15⟩)
    (c15 : PySem.W.codeIn K cd15 "law" = true) (k15 : PySem.W.keepIn K (.ref f15) = true)
    {tk_MOST_NUMBER : Tok} (g_MOST_NUMBER : PySem.W.nsIn K mainGlobals "MOST_NUMBER" = some (some (.int (10^30) tk_MOST_NUMBER)))
    {tk_MOST_TEXT : Tok} (g_MOST_TEXT : PySem.W.nsIn K mainGlobals "MOST_TEXT" = some (some (.int 60 tk_MOST_TEXT)))
    {tk_MOST_DEEP : Tok} (g_MOST_DEEP : PySem.W.nsIn K mainGlobals "MOST_DEEP" = some (some (.int 12 tk_MOST_DEEP)))
    {C_Bundle fI_Bundle : Addr} {od_Bundle an_Bundle : Option Addr} {oc_Bundle kV_Bundle dc_Bundle pm_Bundle cd_Bundle ct_Bundle : Value} {sl_Bundle : Array (Option Value)}
    (gc_Bundle : PySem.W.nsIn K mainGlobals "Bundle" = some (some (.ref C_Bundle)))
    (mk_Bundle : PySem.W.makesIn K C_Bundle = true) (in_Bundle : PySem.W.findIn K (.ref C_Bundle) "__init__" = some (some (.ref fI_Bundle))) (fn_Bundle : PySem.W.isFn K (.ref fI_Bundle) = true) (kp_Bundle : PySem.W.keepIn K (.ref C_Bundle) = true)
    (lf_Bundle : K.lookup fI_Bundle = some ⟨oc_Bundle, od_Bundle, .func (PySem.W.fnOf "__init__" "Bundle.__init__" (defArgs s_Bundle___init) (defBody s_Bundle___init) (defScope s_Bundle___init) .none kV_Bundle dc_Bundle pm_Bundle an_Bundle cd_Bundle ct_Bundle), sl_Bundle⟩)
    (cq_Bundle : PySem.W.codeIn K cd_Bundle "Bundle.__init__" = true)
    (pg_Bundle : PySem.W.plainGet K C_Bundle Str.empty = true) (hd_Bundle : PySem.W.hasDictIn K C_Bundle = true) (po_Bundle : PySem.W.plainOver K C_Bundle = true) (sa_Bundle : PySem.W.findIn K (.ref C_Bundle) "__setattr__" = some (some (.builtin "object.__setattr__"))) (no0_Bundle : PySem.W.findIn K (.ref C_Bundle) "own_rows" = some none) (no1_Bundle : PySem.W.findIn K (.ref C_Bundle) "own_past" = some none)
    (ca_Bundle : PySem.W.findIn K (.ref C_Bundle) "__class__" = some (some (.builtin "object.__class__"))) (cn_Bundle : PySem.W.specialIn K (.builtin "object.__class__") "__get__" = some (some (.builtin "getset_descriptor.__get__"))) (cx_Bundle : PySem.W.takesIn K (.builtin "object.__class__") = some true) (cm_Bundle : PySem.W.mroIn K C_Bundle (.type "object") = some true)
    (kt_Bundle : ∀ T : Ty, PySem.W.kitOne K (.ref C_Bundle) (.type T.nm) = some false)
    (z_len : PySem.W.nsIn K mainGlobals "len" = some none)
    (z_range : PySem.W.nsIn K mainGlobals "range" = some none)
    (z_isinstance : PySem.W.nsIn K mainGlobals "isinstance" = some none)
    (z_max : PySem.W.nsIn K mainGlobals "max" = some none)
    (z_min : PySem.W.nsIn K mainGlobals "min" = some none)
    (z_list : PySem.W.nsIn K mainGlobals "list" = some none)
    (z_dict : PySem.W.nsIn K mainGlobals "dict" = some none)
    (z_int : PySem.W.nsIn K mainGlobals "int" = some none)
    (z_str : PySem.W.nsIn K mainGlobals "str" = some none)
    (z_bool : PySem.W.nsIn K mainGlobals "bool" = some none)
    (z_tuple : PySem.W.nsIn K mainGlobals "tuple" = some none)
    (z_sorted : PySem.W.nsIn K mainGlobals "sorted" = some none)
    (z_enumerate : PySem.W.nsIn K mainGlobals "enumerate" = some none)
    (z_repr : PySem.W.nsIn K mainGlobals "repr" = some none)
    (z_all : PySem.W.nsIn K mainGlobals "all" = some none)
    (z_any : PySem.W.nsIn K mainGlobals "any" = some none)
    (z_zip : PySem.W.nsIn K mainGlobals "zip" = some none)
    (z_set : PySem.W.nsIn K mainGlobals "set" = some none)
    (z_sum : PySem.W.nsIn K mainGlobals "sum" = some none)
    : ∃ fd : FuncData, (∀ (s : Shared) (v : Value), BindsTo s fd ⟨[v], []⟩ [("_law_script", v)]) ∧ ∀ base : Heap, K.In base → base.Ns mainGlobals mg → (∃ o, base.get? sysModules = some o) → FnG l.prog w K mg base LVL fa fd ["_law_script"] (sp_law K) := by
  have e := hfa.symm.trans (PySem.W.mg_of X G a15)
  cases e
  have D_is_integer : Def K mg "is_integer" s_is_integer _ _ := ⟨fun_mk (st := s_is_integer) l0 c0 k0, PySem.W.mg_of X G a0⟩
  have D_is_text : Def K mg "is_text" s_is_text _ _ := ⟨fun_mk (st := s_is_text) l1 c1 k1, PySem.W.mg_of X G a1⟩
  have D_depth_of : Def K mg "depth_of" s_depth_of _ _ := ⟨fun_mk (st := s_depth_of) l2 c2 k2, PySem.W.mg_of X G a2⟩
  have D_first_wrong : Def K mg "first_wrong" s_first_wrong _ _ := ⟨fun_mk (st := s_first_wrong) l3 c3 k3, PySem.W.mg_of X G a3⟩
  have D_document_problem : Def K mg "document_problem" s_document_problem _ _ := ⟨fun_mk (st := s_document_problem) l4 c4 k4, PySem.W.mg_of X G a4⟩
  have D_is_document : Def K mg "is_document" s_is_document _ _ := ⟨fun_mk (st := s_is_document) l5 c5 k5, PySem.W.mg_of X G a5⟩
  have D_law_cell : Def K mg "_law_cell" s_law_cell _ _ := ⟨fun_mk (st := s_law_cell) l6 c6 k6, PySem.W.mg_of X G a6⟩
  have D_law_leaf : Def K mg "_law_leaf" s_law_leaf _ _ := ⟨fun_mk (st := s_law_leaf) l7 c7 k7, PySem.W.mg_of X G a7⟩
  have D_law_names : Def K mg "_law_names" s_law_names _ _ := ⟨fun_mk (st := s_law_names) l8 c8 k8, PySem.W.mg_of X G a8⟩
  have D_law_tree : Def K mg "_law_tree" s_law_tree _ _ := ⟨fun_mk (st := s_law_tree) l9 c9 k9, PySem.W.mg_of X G a9⟩
  have D_law_odd : Def K mg "_law_odd" s_law_odd _ _ := ⟨fun_mk (st := s_law_odd) l10 c10 k10, PySem.W.mg_of X G a10⟩
  have D_law_spoilt : Def K mg "_law_spoilt" s_law_spoilt _ _ := ⟨fun_mk (st := s_law_spoilt) l11 c11 k11, PySem.W.mg_of X G a11⟩
  have D_law_deep : Def K mg "_law_deep" s_law_deep _ _ := ⟨fun_mk (st := s_law_deep) l12 c12 k12, PySem.W.mg_of X G a12⟩
  have D_law_first : Def K mg "_law_first" s_law_first _ _ := ⟨fun_mk (st := s_law_first) l13 c13 k13, PySem.W.mg_of X G a13⟩
  have D_law_strange_right : Def K mg "_law_strange_right" s_law_strange_right _ _ := ⟨fun_mk (st := s_law_strange_right) l14 c14 k14, PySem.W.mg_of X G a14⟩
  have D_law : Def K mg "law" s_law _ _ := ⟨fun_mk (st := s_law) l15 c15 k15, PySem.W.mg_of X G a15⟩
  have g_MOST_NUMBER := PySem.W.mg_of X G g_MOST_NUMBER
  have g_MOST_TEXT := PySem.W.mg_of X G g_MOST_TEXT
  have g_MOST_DEEP := PySem.W.mg_of X G g_MOST_DEEP
  have B : Blt mg := ⟨PySem.W.mg_none_of X G z_len, PySem.W.mg_none_of X G z_range, PySem.W.mg_none_of X G z_isinstance, PySem.W.mg_none_of X G z_max, PySem.W.mg_none_of X G z_min, PySem.W.mg_none_of X G z_list, PySem.W.mg_none_of X G z_dict, PySem.W.mg_none_of X G z_int, PySem.W.mg_none_of X G z_str, PySem.W.mg_none_of X G z_bool, PySem.W.mg_none_of X G z_tuple, PySem.W.mg_none_of X G z_sorted, PySem.W.mg_none_of X G z_enumerate, PySem.W.mg_none_of X G z_repr, PySem.W.mg_none_of X G z_all, PySem.W.mg_none_of X G z_any, PySem.W.mg_none_of X G z_zip, PySem.W.mg_none_of X G z_set, PySem.W.mg_none_of X G z_sum⟩
  refine ⟨PySem.W.fnOf "law" "law" (defArgs s_law) (defBody s_law) (defScope s_law) .none kV15 dc15 pm15 an15 cd15 ct15, fun s v => .of_eq rfl, fun base _ _ hsys => ?_⟩
  have bt_Bundle : BunT K C_Bundle := ⟨⟨⟨pg_Bundle, hd_Bundle, po_Bundle, sa_Bundle⟩, ca_Bundle, cn_Bundle, cx_Bundle, cm_Bundle, kt_Bundle⟩, no0_Bundle, no1_Bundle⟩
  have Z_Bundle : Mk0 l.prog w K mg base 1 "Bundle" C_Bundle (sp_bini K) := ⟨⟨fI_Bundle, ⟨mk_Bundle, in_Bundle, fn_Bundle, kp_Bundle⟩, ok_bini B lf_Bundle cq_Bundle⟩, PySem.W.mg_of X G gc_Bundle⟩
  have R_cell := D_law_cell.rdy (P := l.prog) (w := w) (base := base) (fun _ _ _ _ _ _ us hl => match us, hl with | [_, _], _ => rfl) (ok_cell D_law_cell B)
  have R_leaf := D_law_leaf.rdy (P := l.prog) (w := w) (base := base) (fun _ _ _ _ _ _ us hl => match us, hl with | [_], _ => rfl) (ok_leaf D_law_leaf B)
  have R_names := D_law_names.rdy (P := l.prog) (w := w) (base := base) (fun _ _ _ _ _ _ us hl => match us, hl with | [_], _ => rfl) (ok_names D_law_names B)
  have R_tree := D_law_tree.rdy (P := l.prog) (w := w) (base := base) (fun _ _ _ _ _ _ us hl => match us, hl with | [_, _, _, _], _ => rfl) (ok_trees D_law_tree B R_cell R_leaf R_names 12)
  have R_isint := D_is_integer.rdy (P := l.prog) (w := w) (base := base) (fun _ _ _ _ _ _ us hl => match us, hl with | [_], _ => rfl) (ok_isint D_is_integer B)
  have R_text := D_is_text.rdy (P := l.prog) (w := w) (base := base) (fun _ _ _ _ _ _ us hl => match us, hl with | [_], _ => rfl) (ok_text D_is_text B g_MOST_TEXT)
  have R_depth := D_depth_of.rdy (P := l.prog) (w := w) (base := base) (fun _ _ _ _ _ _ us hl => match us, hl with | [_], _ => rfl) (ok_depthsX D_depth_of B 30)
  have R_fw := D_first_wrong.rdy (P := l.prog) (w := w) (base := base) (fun _ _ _ _ _ _ us hl => match us, hl with | [_], _ => rfl) (ok_fws D_first_wrong B g_MOST_NUMBER R_isint R_text 30)
  have F_dp := ok_dp (n := 30) D_document_problem B g_MOST_DEEP (R_depth.mono (Nat.le_succ _)) R_fw
  have R_dp := D_document_problem.rdy (P := l.prog) (w := w) (base := base) (fun _ _ _ _ _ _ us hl => match us, hl with | [_], _ => rfl) F_dp
  have F_isdoc := ok_isdoc (n := 30) D_is_document B R_dp
  have R_isdoc := D_is_document.rdy (P := l.prog) (w := w) (base := base) (fun _ _ _ _ _ _ us hl => match us, hl with | [_], _ => rfl) F_isdoc
  have RK_dp := D_document_problem.rdyK (P := l.prog) (w := w) (base := base) ["value"] (fun vs zs => vs ++ zs) vals_app (fun _ _ _ _ _ _ us ws hl => match us, ws, hl with | [], [_], _ => rfl | [_], [], _ => rfl) F_dp
  have RK_isdoc := D_is_document.rdyK (P := l.prog) (w := w) (base := base) ["value"] (fun vs zs => vs ++ zs) vals_app (fun _ _ _ _ _ _ us ws hl => match us, ws, hl with | [], [_], _ => rfl | [_], [], _ => rfl) F_isdoc
  have R_odd := D_law_odd.rdy (P := l.prog) (w := w) (base := base) (fun _ _ _ _ _ _ us hl => match us, hl with | [_], _ => rfl) (ok_lodd D_law_odd B)
  have R_spl := D_law_spoilt.rdy (P := l.prog) (w := w) (base := base) (fun _ _ _ _ _ _ us hl => match us, hl with | [_, _], _ => rfl) (fn_or ((ok_spls D_law_spoilt B R_odd 12).mono (by omega : 12 + 1 ≤ 14)) (ok_spls D_law_spoilt B R_odd 13))
  have R_deep := D_law_deep.rdy (P := l.prog) (w := w) (base := base) (fun _ _ _ _ _ _ us hl => match us, hl with | [_], _ => rfl) (ok_deepsX D_law_deep B 30)
  have R_first := D_law_first.rdy (P := l.prog) (w := w) (base := base) (fun _ _ _ _ _ _ us hl => match us, hl with | [_], _ => rfl) (ok_lfirsts D_law_first B 30)
  have R_strange := D_law_strange_right.rdyG (P := l.prog) (w := w) (base := base) (fun _ _ _ _ _ _ us hl => match us, hl with | [], _ => rfl) (ok_strange D_law_strange_right B hsys bt_Bundle Z_Bundle R_dp R_isdoc)
  exact ok_law D_law B hsys R_cell R_tree R_spl R_deep R_first R_strange R_dp R_isdoc RK_dp RK_isdoc
theorem walk {l : PySem.W.OpenLaw} {q : Program} {loose : List Str} {XP : (Str → Option Value) → Heap → Prop} {YP : World → Heap → Prop} {d : DefRec} {K : Params → PySem.W.Frag} (hn : l.most = some 63) (hdf : d.params.defaults = [])
    (hq : PyProof.Rows.importsNone q = true) (hY : ∀ (w : World) (h : Heap), YP w h → (K w.params).In h)
    (F : ∀ (w : World) (mg : Str → Option Value) (fa : Addr) (h : Heap), (K w.params).In h → h.Ns mainGlobals mg → mg d.name = some (.ref fa) →
      ∃ fd : FuncData, (∀ (s : Shared) (u : Value), BindsTo s fd ⟨[u], []⟩ [("_law_script", u)]) ∧ ∀ base : Heap, (K w.params).In base → base.Ns mainGlobals mg → (∃ o, base.get? sysModules = some o) → FnG l.prog w (K w.params) mg base LVL fa fd ["_law_script"] (sp_law (K w.params))) :
    PySem.W.WalkO q loose XP YP l.row.toRowW d [] (fun f vs => PySem.call f vs) :=
  SC.walkG (n := 63) (k := LVL) (x := "_law_script") (sp := sp_law) hn (by decide) hdf ⟨rfl, by decide, by decide⟩ hq hY F fun K H a ns hl hO hS => ⟨a, ns, rfl, Scr.of hS hO, hl, fun _ => rfl⟩

end SC
open PySem PySem.W PyProof.Rows
set_option maxRecDepth 100000 in
set_option maxHeartbeats 0 in
theorem PySem.Challenge.cw_schemacheck_k02_documents_judged_holds : PySem.Challenge.rw_schemacheck_k02_documents_judged.Holds := by
  w_on; o_law; k_head; (case hw => w_witness2)
  k_fill
  refine SC.walk (l := PySem.Challenge.rw_schemacheck_k02_documents_judged) rfl rfl (by decide +kernel) (fun w h Y => PySem.W.kIn_of Y) ?F
  case F =>
    intro w mg fa h KX G hmg
    refine' SC.all_mk KX G hmg ?a0 ?l0 ?c0 ?k0 ?a1 ?l1 ?c1 ?k1 ?a2 ?l2 ?c2 ?k2 ?a3 ?l3 ?c3 ?k3 ?a4 ?l4 ?c4 ?k4 ?a5 ?l5 ?c5 ?k5 ?a6 ?l6 ?c6 ?k6 ?a7 ?l7 ?c7 ?k7 ?a8 ?l8 ?c8 ?k8 ?a9 ?l9 ?c9 ?k9 ?a10 ?l10 ?c10 ?k10 ?a11 ?l11 ?c11 ?k11 ?a12 ?l12 ?c12 ?k12 ?a13 ?l13 ?c13 ?k13 ?a14 ?l14 ?c14 ?k14 ?a15 ?l15 ?c15 ?k15 ?g_MOST_NUMBER ?g_MOST_TEXT ?g_MOST_DEEP ?gc_Bundle ?mk_Bundle ?in_Bundle ?fn_Bundle ?kp_Bundle ?lf_Bundle ?cq_Bundle ?pg_Bundle ?hd_Bundle ?po_Bundle ?sa_Bundle ?no0_Bundle ?no1_Bundle ?ca_Bundle ?cn_Bundle ?cx_Bundle ?cm_Bundle ?kt_Bundle ?z_len ?z_range ?z_isinstance ?z_max ?z_min ?z_list ?z_dict ?z_int ?z_str ?z_bool ?z_tuple ?z_sorted ?z_enumerate ?z_repr ?z_all ?z_any ?z_zip ?z_set ?z_sum
    (case a0 => k_is)
    (case l0 => k_is)
    (case c0 => k_is)
    (case k0 => k_is)
    (case a1 => k_is)
    (case l1 => k_is)
    (case c1 => k_is)
    (case k1 => k_is)
    (case a2 => k_is)
    (case l2 => k_is)
    (case c2 => k_is)
    (case k2 => k_is)
    (case a3 => k_is)
    (case l3 => k_is)
    (case c3 => k_is)
    (case k3 => k_is)
    (case a4 => k_is)
    (case l4 => k_is)
    (case c4 => k_is)
    (case k4 => k_is)
    (case a5 => k_is)
    (case l5 => k_is)
    (case c5 => k_is)
    (case k5 => k_is)
    (case a6 => k_is)
    (case l6 => k_is)
    (case c6 => k_is)
    (case k6 => k_is)
    (case a7 => k_is)
    (case l7 => k_is)
    (case c7 => k_is)
    (case k7 => k_is)
    (case a8 => k_is)
    (case l8 => k_is)
    (case c8 => k_is)
    (case k8 => k_is)
    (case a9 => k_is)
    (case l9 => k_is)
    (case c9 => k_is)
    (case k9 => k_is)
    (case a10 => k_is)
    (case l10 => k_is)
    (case c10 => k_is)
    (case k10 => k_is)
    (case a11 => k_is)
    (case l11 => k_is)
    (case c11 => k_is)
    (case k11 => k_is)
    (case a12 => k_is)
    (case l12 => k_is)
    (case c12 => k_is)
    (case k12 => k_is)
    (case a13 => k_is)
    (case l13 => k_is)
    (case c13 => k_is)
    (case k13 => k_is)
    (case a14 => k_is)
    (case l14 => k_is)
    (case c14 => k_is)
    (case k14 => k_is)
    (case a15 => k_is)
    (case l15 => k_is)
    (case c15 => k_is)
    (case k15 => k_is)
    (case g_MOST_NUMBER => k_is)
    (case g_MOST_TEXT => k_is)
    (case g_MOST_DEEP => k_is)
    (case gc_Bundle => k_is)
    (case mk_Bundle => k_is)
    (case in_Bundle => k_is)
    (case fn_Bundle => k_is)
    (case kp_Bundle => k_is)
    (case lf_Bundle => k_is)
    (case cq_Bundle => k_is)
    (case pg_Bundle => k_is)
    (case hd_Bundle => k_is)
    (case po_Bundle => k_is)
    (case sa_Bundle => k_is)
    (case no0_Bundle => k_is)
    (case no1_Bundle => k_is)
    (case ca_Bundle => k_is)
    (case cn_Bundle => k_is)
    (case cx_Bundle => k_is)
    (case cm_Bundle => k_is)
    (case kt_Bundle => intro T; cases T <;> first | k_is | decide +kernel | kernel_rfl)
    (case z_len => k_is)
    (case z_range => k_is)
    (case z_isinstance => k_is)
    (case z_max => k_is)
    (case z_min => k_is)
    (case z_list => k_is)
    (case z_dict => k_is)
    (case z_int => k_is)
    (case z_str => k_is)
    (case z_bool => k_is)
    (case z_tuple => k_is)
    (case z_sorted => k_is)
    (case z_enumerate => k_is)
    (case z_repr => k_is)
    (case z_all => k_is)
    (case z_any => k_is)
    (case z_zip => k_is)
    (case z_set => k_is)
    (case z_sum => k_is)
#print axioms PySem.Challenge.cw_schemacheck_k02_documents_judged_holds

