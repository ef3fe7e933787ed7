import PyProof.Rows.All
import Wide.All
import OpenK.AllK
import Wide.FinOn
import HandS.ForMost
import HandS.IsInst
import HandS.DictComp
import HandS.Flow
import HandS.Walk
import PySem.Challenge.RW_schemacheck_k03_kinds_and_depths
set_option Elab.async false
set_option linter.all false
set_option maxRecDepth 100000
set_option maxHeartbeats 4000000
/-! Schemacheck: data as trees over the abstract heap. -/
namespace SC
open PySem L2

/-! ### pairs -/
theorem pd_len {A B : Type} {F : A → B → Prop} {xs : List A} {ys : List B} (h : Paired F xs ys) : xs.length = ys.length := by
  induction h with
  | nil => rfl
  | cons _ _ ih => simp [ih]
theorem pd_imp {A B : Type} {F G : A → B → Prop} {xs : List A} {ys : List B} (h : Paired F xs ys) (f : ∀ a b, a ∈ xs → b ∈ ys → F a b → G a b) : Paired G xs ys := by
  induction h with
  | nil => exact .nil
  | cons r _ ih => exact .cons (f _ _ (by simp) (by simp) r) (ih fun a b ha hb q => f a b (by simp [ha]) (by simp [hb]) q)
theorem pd_app {A B : Type} {F : A → B → Prop} {xs zs : List A} {ys ws : List B} (h : Paired F xs ys) (g : Paired F zs ws) : Paired F (xs ++ zs) (ys ++ ws) := by
  induction h with
  | nil => exact g
  | cons r _ ih => exact .cons r ih
theorem pd_get {A B : Type} {F : A → B → Prop} {xs : List A} {ys : List B} (h : Paired F xs ys) : ∀ {i : Nat} {x : A}, xs[i]? = some x → ∃ y, ys[i]? = some y ∧ F x y := by
  induction h with
  | nil => intro i x e; simp at e
  | cons r _ ih =>
    intro i x e
    cases i with
    | zero => simp at e; subst e; exact ⟨_, rfl, r⟩
    | succ i => simp at e; obtain ⟨y, h1, h2⟩ := ih e; exact ⟨y, by simpa using h1, h2⟩
theorem pd_memR {A B : Type} {F : A → B → Prop} {xs : List A} {ys : List B} (h : Paired F xs ys) : ∀ {y : B}, y ∈ ys → ∃ x, x ∈ xs ∧ F x y := by
  induction h with
  | nil => intro y e; simp at e
  | cons r _ ih =>
    intro y e
    rcases List.mem_cons.mp e with rfl | e
    · exact ⟨_, by simp, r⟩
    · obtain ⟨x, h1, h2⟩ := ih e; exact ⟨x, by simp [h1], h2⟩
theorem pd_eq {A B : Type} {F G : A → B → Prop} {xs : List A} {ys zs : List B} (h : Paired F xs ys) (g : Paired G xs zs) (f : ∀ a b c, b ∈ ys → c ∈ zs → F a b → G a c → b = c) : ys = zs := by
  induction h generalizing zs with
  | nil => cases g; rfl
  | cons r _ ih =>
    cases g with
    | cons r2 g2 =>
      rw [f _ _ _ (by simp) (by simp) r r2, ih g2 fun a b c hb hc => f a b c (by simp [hb]) (by simp [hc])]

/-! ### a value stands for a datum, at most n deep -/
def kD : Key → PyData
  | .inl i => .int i
  | .inr x => .str x
theorem kD_inj {a b : Key} (h : kD a = kD b) : a = b := by
  cases a <;> cases b <;> simp [kD] at h <;> simp [h]
def Rp (H : Hp) : Nat → V → PyData → Prop
  | 0, _, _ => False
  | _ + 1, v, .none => v = .non
  | _ + 1, v, .bool b => v = .bl b
  | _ + 1, v, .int i => v = .int i
  | _ + 1, v, .str x => v = .str x
  | n + 1, v, .list ds => ∃ a xs, v = .ref a ∧ H a = some (.lst xs) ∧ xs.length ≤ 10000 ∧ Paired (Rp H n) xs ds
  | n + 1, v, .tuple ds => ∃ a xs, v = .ref a ∧ H a = some (.tup xs) ∧ xs.length ≤ 10000 ∧ Paired (Rp H n) xs ds
  | n + 1, v, .dict es => ∃ a kvs, v = .ref a ∧ H a = some (.dK kvs) ∧ kvs.length ≤ 10000 ∧ (kvs.map (·.1)).Nodup ∧ Paired (fun (p : Key × V) (q : PyData × PyData) => q.1 = kD p.1 ∧ Rp H n p.2 q.2) kvs es
theorem Rp.imp {H H' : Hp} : ∀ {n : Nat} {v : V} {d : PyData}, Same H H' → Rp H n v d → Rp H' n v d
  | 0, _, _, _, h => h
  | n + 1, v, .none, _, h => h
  | n + 1, v, .bool _, _, h => h
  | n + 1, v, .int _, _, h => h
  | n + 1, v, .str _, _, h => h
  | n + 1, v, .list ds, e, ⟨a, xs, h1, h2, hb, h3⟩ => ⟨a, xs, h1, e _ _ h2, hb, pd_imp h3 fun _ _ _ _ q => Rp.imp e q⟩
  | n + 1, v, .tuple ds, e, ⟨a, xs, h1, h2, hb, h3⟩ => ⟨a, xs, h1, e _ _ h2, hb, pd_imp h3 fun _ _ _ _ q => Rp.imp e q⟩
  | n + 1, v, .dict es, e, ⟨a, xs, h1, h2, hb, hn, h3⟩ => ⟨a, xs, h1, e _ _ h2, hb, hn, pd_imp h3 fun _ _ _ _ q => ⟨q.1, Rp.imp e q.2⟩⟩
theorem Rp.up1 {H : Hp} : ∀ {n : Nat} {v : V} {d : PyData}, Rp H n v d → Rp H (n + 1) v d
  | 0, _, _, h => h.elim
  | n + 1, v, .none, h => h
  | n + 1, v, .bool _, h => h
  | n + 1, v, .int _, h => h
  | n + 1, v, .str _, h => h
  | n + 1, v, .list ds, ⟨a, xs, h1, h2, hb, h3⟩ => ⟨a, xs, h1, h2, hb, pd_imp h3 fun _ _ _ _ q => Rp.up1 q⟩
  | n + 1, v, .tuple ds, ⟨a, xs, h1, h2, hb, h3⟩ => ⟨a, xs, h1, h2, hb, pd_imp h3 fun _ _ _ _ q => Rp.up1 q⟩
  | n + 1, v, .dict es, ⟨a, xs, h1, h2, hb, hn, h3⟩ => ⟨a, xs, h1, h2, hb, hn, pd_imp h3 fun _ _ _ _ q => ⟨q.1, Rp.up1 q.2⟩⟩
theorem Rp.up {H : Hp} {n m : Nat} {v : V} {d : PyData} (h : Rp H n v d) (hl : n ≤ m) : Rp H m v d := by
  induction hl with
  | refl => exact h
  | step _ ih => exact ih.up1
theorem Rp.pos {H : Hp} {n : Nat} {v : V} {d : PyData} (h : Rp H n v d) : 0 < n := by
  cases n with
  | zero => exact h.elim
  | succ n => omega
/-- a value stands for one datum alone -/
theorem Rp.one {H : Hp} : ∀ {n m : Nat} {v : V} {d e : PyData}, Rp H n v d → Rp H m v e → d = e
  | 0, _, _, _, _, h, _ => h.elim
  | _, 0, _, _, _, _, h => h.elim
  | n + 1, m + 1, v, .none, e, h, g => by
    cases h
    cases e <;> simp [Rp] at g <;> rfl
  | n + 1, m + 1, v, .bool b, e, h, g => by
    cases h
    cases e <;> simp [Rp] at g
    subst g; rfl
  | n + 1, m + 1, v, .int b, e, h, g => by
    cases h
    cases e <;> simp [Rp] at g
    subst g; rfl
  | n + 1, m + 1, v, .str b, e, h, g => by
    cases h
    cases e <;> simp [Rp] at g
    subst g; rfl
  | n + 1, m + 1, v, .list ds, e, ⟨a, xs, h1, h2, hb, h3⟩, g => by
    subst h1
    cases e <;> simp [Rp] at g
    · obtain ⟨ys, g2, gb, g3⟩ := g
      rw [h2] at g2; cases g2
      rw [pd_eq h3 g3 fun _ _ _ _ _ p q => Rp.one p q]
    · rw [h2] at g; simp at g
    · rw [h2] at g; simp at g
  | n + 1, m + 1, v, .tuple ds, e, ⟨a, xs, h1, h2, hb, h3⟩, g => by
    subst h1
    cases e <;> simp [Rp] at g
    · rw [h2] at g; simp at g
    · obtain ⟨ys, g2, gb, g3⟩ := g
      rw [h2] at g2; cases g2
      rw [pd_eq h3 g3 fun _ _ _ _ _ p q => Rp.one p q]
    · rw [h2] at g; simp at g
  | n + 1, m + 1, v, .dict es, e, ⟨a, xs, h1, h2, hb, hn, h3⟩, g => by
    subst h1
    cases e <;> simp [Rp] at g
    · rw [h2] at g; simp at g
    · rw [h2] at g; simp at g
    · obtain ⟨ys, g2, gb, gn, g3⟩ := g
      rw [h2] at g2; cases g2
      rw [pd_eq h3 g3 fun x b c _ _ p q => by
        obtain ⟨b1, b2⟩ := b
        obtain ⟨c1, c2⟩ := c
        obtain ⟨p1, p2⟩ := p
        obtain ⟨q1, q2⟩ := q
        simp at p1 q1 p2 q2
        rw [p1, q1, Rp.one p2 q2]]
/-- a smaller datum does not hold a greater one: what stands at a may change -/
theorem Rp.off {H : Hp} {a : Addr} {m : Nat} {D : PyData} (hD : Rp H m (.ref a) D) (o : HO) : ∀ {n : Nat} {v : V} {d : PyData}, sizeOf d < sizeOf D → Rp H n v d → Rp (upd H a o) n v d
  | 0, _, _, _, h => h
  | n + 1, v, .none, _, h => h
  | n + 1, v, .bool _, _, h => h
  | n + 1, v, .int _, _, h => h
  | n + 1, v, .str _, _, h => h
  | n + 1, v, .list ds, hs, h => by
    obtain ⟨b, xs, h1, h2, hl, h3⟩ := id h
    have hb : b ≠ a := by
      rintro rfl
      subst h1
      rw [Rp.one h hD] at hs
      exact absurd hs (Nat.lt_irrefl _)
    refine ⟨b, xs, h1, by rw [upd_ne hb]; exact h2, hl, pd_imp h3 fun x d _ hd q => Rp.off hD o ?_ q⟩
    have := List.sizeOf_lt_of_mem hd
    simp at hs
    omega
  | n + 1, v, .tuple ds, hs, h => by
    obtain ⟨b, xs, h1, h2, hl, h3⟩ := id h
    have hb : b ≠ a := by
      rintro rfl
      subst h1
      rw [Rp.one h hD] at hs
      exact absurd hs (Nat.lt_irrefl _)
    refine ⟨b, xs, h1, by rw [upd_ne hb]; exact h2, hl, pd_imp h3 fun x d _ hd q => Rp.off hD o ?_ q⟩
    have := List.sizeOf_lt_of_mem hd
    simp at hs
    omega
  | n + 1, v, .dict es, hs, h => by
    obtain ⟨b, xs, h1, h2, hl, hn, h3⟩ := id h
    have hb : b ≠ a := by
      rintro rfl
      subst h1
      rw [Rp.one h hD] at hs
      exact absurd hs (Nat.lt_irrefl _)
    refine ⟨b, xs, h1, by rw [upd_ne hb]; exact h2, hl, hn, pd_imp h3 fun x d _ hd q => ⟨q.1, Rp.off hD o ?_ q.2⟩⟩
    have h4 := List.sizeOf_lt_of_mem hd
    obtain ⟨d1, d2⟩ := d
    simp at hs h4
    show sizeOf d2 < _
    omega
theorem size_kv {es : List (PyData × PyData)} {q : PyData × PyData} (h : q ∈ es) : sizeOf q.2 < sizeOf (PyData.dict es) := by
  have h4 := List.sizeOf_lt_of_mem h
  obtain ⟨d1, d2⟩ := q
  simp at h4
  show sizeOf d2 < _
  simp
  omega
theorem size_item {ds : List PyData} {d : PyData} (h : d ∈ ds) : sizeOf d < sizeOf (PyData.list ds) := by
  have h4 := List.sizeOf_lt_of_mem h
  simp
  omega

/-! ### heaps: all as before, but for some places -/
def Keep (S : List Addr) (H H' : Hp) : Prop := ∀ b o, H b = some o → b ∉ S → H' b = some o
theorem Keep.refl (S : List Addr) (H : Hp) : Keep S H H := fun _ _ h _ => h
theorem Keep.trans {S : List Addr} {H H1 H2 : Hp} (a : Keep S H H1) (b : Keep S H1 H2) : Keep S H H2 := fun c o h n => b c o (a c o h n) n
theorem Keep.sub {S T : List Addr} {H H' : Hp} (a : Keep S H H') (h : ∀ b ∈ S, b ∈ T) : Keep T H H' := fun c o e n => a c o e fun z => n (h c z)
theorem Keep.of {S : List Addr} {H H' : Hp} (a : Same H H') : Keep S H H' := fun c o e _ => a c o e
theorem Keep.same {H H' : Hp} (a : Keep [] H H') : Same H H' := fun c o e => a c o e (by simp)
theorem Keep.new {S : List Addr} {H H' : Hp} {p : Addr} {o : HO} (a : Keep S H H') (h : H' p = none) : Keep S H (upd H' p o) := fun c u e n => by
  rw [upd_ne (ne_of_none (a c u e n) h)]
  exact a c u e n
theorem Keep.mut {S : List Addr} {H H' : Hp} {p : Addr} {o : HO} (a : Keep S H H') (h : p ∈ S) : Keep S H (upd H' p o) := fun c u e n => by
  have hc : c ≠ p := fun z => n (by rw [z]; exact h)
  rw [upd_ne hc]
  exact a c u e n
theorem Keep.fresh {S : List Addr} {H H' : Hp} {p : Addr} {o : HO} (a : Keep S H H') (h : H p = none) : Keep S H (upd H' p o) := fun c u e n => by
  rw [upd_ne (ne_of_none e h)]
  exact a c u e n
theorem Keep.free {S : List Addr} {H H' : Hp} {p : Addr} (a : Keep S H H') (h : H' p = none) (n : p ∉ S) : H p = none := by
  cases e : H p with
  | none => rfl
  | some o =>
    rw [a p o e n] at h
    cases h
theorem same_new {H : Hp} {p : Addr} (h : H p = none) (o : HO) : Same H (upd H p o) := fun b u q => by rw [upd_ne (ne_of_none q h)]; exact q
theorem same_mut {H H' : Hp} {p : Addr} {o : HO} (a : Same H H') (h : H p = none) : Same H (upd H' p o) := fun c u e => by
  rw [upd_ne (ne_of_none e h)]
  exact a c u e
/-- what is new in H' -/
def news (H H' : Hp) : Hp := fun a => match H a with
  | some _ => none
  | none => H' a
theorem news_sub (H H' : Hp) : Same (news H H') H' := fun b o e => by
  unfold news at e
  split at e
  · cases e
  · exact e
theorem news_no {H H' : Hp} {a : Addr} {o : HO} (h : H a = some o) : news H H' a = none := by
  unfold news; rw [h]
theorem news_at {H H' : Hp} {a : Addr} (h : H a = none) : news H H' a = H' a := by
  unfold news; rw [h]
/-- a later heap that keeps all that H1 has outside S, S known in H -/
theorem news_mono {S : List Addr} {H H1 H2 : Hp} (k : Keep S H1 H2) (hs : ∀ a ∈ S, H a ≠ none) : Same (news H H1) (news H H2) := fun b o e => by
  unfold news at e ⊢
  split at e
  · cases e
  · rename_i hb
    exact k b o e fun z => hs b z hb
/-- newer than H1 is newer than H -/
theorem news_more {S : List Addr} {H H1 H2 : Hp} (k : Keep S H H1) (hs : ∀ a ∈ S, H1 a ≠ none) : Same (news H1 H2) (news H H2) := fun b o e => by
  unfold news at e ⊢
  split at e
  · cases e
  · rename_i hb
    split
    · rename_i u hu
      by_cases hz : b ∈ S
      · exact absurd hb (hs b hz)
      · rw [k b _ hu hz] at hb; cases hb
    · exact e

/-- a turn of a loop that makes new data and stores at D -/
theorem grow {S : List Addr} {Hx H1 H4 : Hp} {D : Addr} {o : HO} (k1 : Keep S Hx H1) (k2 : Keep S H1 H4) (hx : ∀ a ∈ S, Hx a ≠ none) (h1 : ∀ a ∈ S, H1 a ≠ none) (hD : D ∈ S) :
    Same (news Hx H1) (news Hx (upd H4 D o)) ∧ Same (news H1 H4) (news Hx (upd H4 D o)) :=
  ⟨news_mono (k2.mut hD) hx, (news_more k1 h1).trans (news_mono (S := S) ((Keep.refl _ _).mut hD) hx)⟩

/-! ### the script, read and never written -/
def Scr (K : PySem.W.Frag) (H : Hp) (a : Addr) (ns : List Int) : Prop := (∃ ob, H a = some (.frz ob (.lst (ns.map V.int)))) ∨ ∀ H' : Hp, SqL K H' a (ns.map V.int)
theorem Scr.of {K : PySem.W.Frag} {H : Hp} {a : Addr} {ns : List Int} (h : SqL K H a (ns.map V.int)) (hO : Only H) : Scr K H a ns := by
  rcases h with (h | ⟨o, h⟩) | h
  · rcases hO a with z | ⟨ob, xs, z⟩
    · rw [z] at h; cases h
    · rw [z] at h; cases h
  · exact .inl ⟨o, h⟩
  · exact .inr fun _ => .inr h
theorem Scr.sq {K : PySem.W.Frag} {H : Hp} {a : Addr} {ns : List Int} (h : Scr K H a ns) : SqL K H a (ns.map V.int) := by
  rcases h with ⟨o, h⟩ | h
  · exact .inl (.inr ⟨o, h⟩)
  · exact h H
theorem Scr.keep {K : PySem.W.Frag} {S : List Addr} {H H' : Hp} {a : Addr} {ns : List Int} (h : Scr K H a ns) (k : Keep S H H') (n : ∀ b ∈ S, ∀ ob u, H b ≠ some (.frz ob u)) : Scr K H' a ns := by
  rcases h with ⟨o, h⟩ | h
  · refine .inl ⟨o, k _ _ h fun z => ?_⟩
    exact n a z _ _ h
  · exact .inr h
theorem Scr.same {K : PySem.W.Frag} {H H' : Hp} {a : Addr} {ns : List Int} (h : Scr K H a ns) (k : Same H H') : Scr K H' a ns := by
  rcases h with ⟨o, h⟩ | h
  · exact .inl ⟨o, k _ _ h⟩
  · exact .inr h
theorem Scr.put {K : PySem.W.Frag} {H : Hp} {a b : Addr} {ns : List Int} {xs : List V} {o : HO} (h : Scr K H a ns) (e : H b = some (.lst xs)) : Scr K (upd H b o) a ns := by
  rcases h with ⟨u, h⟩ | h
  · refine .inl ⟨u, ?_⟩
    rw [upd_ne (ne_of h e (by intro z; cases z))]
    exact h
  · exact .inr h
end SC

set_option Elab.async false
set_option linter.all false
set_option maxRecDepth 100000
set_option maxHeartbeats 4000000
/-! Schemacheck: defs that are ready to be called, built-ins, kinds of values. -/
namespace SC
open PySem L2

/-! ### a def that may be called -/
def Rdy (P : Program) (w : World) (K : PySem.W.Frag) (mg : Str → Option Value) (base : Heap) (k : Nat) (x : Str) (ps : List Str) (sp : Sp) : Prop :=
  ∃ f fd, FnOk P w K mg base CX0 k f fd ps sp ∧ mg x = some (.ref f) ∧ PySem.W.keepIn K (.ref f) = true ∧ Binds K fd ps []
/-- and with keywords ks: gV puts the positional values and the keywords' values in order -/
def RdyK (P : Program) (w : World) (K : PySem.W.Frag) (mg : Str → Option Value) (base : Heap) (k : Nat) (x : Str) (ps ks : List Str) (gV : List V → List V → List V) (sp : Sp) : Prop :=
  ∃ f fd g, FnOk P w K mg base CX0 k f fd ps sp ∧ mg x = some (.ref f) ∧ PySem.W.keepIn K (.ref f) = true ∧ KBinds K fd ps ks g gV
theorem Rdy.mono {P : Program} {w : World} {K : PySem.W.Frag} {mg : Str → Option Value} {base : Heap} {j k : Nat} {x : Str} {ps : List Str} {sp : Sp} (h : Rdy P w K mg base j x ps sp) (l : j ≤ k) : Rdy P w K mg base k x ps sp := by
  obtain ⟨f, fd, h1, h2⟩ := h
  exact ⟨f, fd, h1.mono l, h2⟩
section
variable {X : Cx} {k : Nat} {x : Str} {ps ks : List Str} {sp : Sp} {p pos : Pos} {e : Expr} {es : List Expr} {kws : List Keyword} {t tk : TA} {gV : List V → List V → List V}
theorem pe_c (R : Rdy X.prog X.w X.K X.mg X.base k x ps sp) (hr : Room k X.A) (hg : Gl X x) (ha : PA X (e :: es) t) (hdb : (x == ("__debug__" : Str)) = false := by decide)
    (he : starEach (e :: es) X.env = (false, eval e X.env) :: starEach es X.env := by rfl) (hpl : (backTo pos (starEach es X.env)).any (·.1) = false := by rfl) : PE X (.Call (.Name x p) (e :: es) [] pos) (tCall sp [] E0 t) := by
  obtain ⟨f, fd, h1, h2, h3, h4⟩ := R
  exact pe_call h1 hr hg h2 h3 h4 .nil pass0 ha hdb he hpl
theorem pe_c0 (R : Rdy X.prog X.w X.K X.mg X.base k x ps sp) (hr : Room k X.A) (hg : Gl X x) (hdb : (x == ("__debug__" : Str)) = false := by decide) : PE X (.Call (.Name x p) [] [] pos) (tCall sp [] E0 tNil) := by
  obtain ⟨f, fd, h1, h2, h3, h4⟩ := R
  exact pe_call0 h1 hr hg h2 h3 h4 .nil pass0 hdb
theorem pe_ck (_R : Rdy X.prog X.w X.K X.mg X.base k x ps sp) (hr : Room k X.A) (hg : Gl X x) (R : RdyK X.prog X.w X.K X.mg X.base k x ps ks gV sp) (ha : PA X (e :: es) t) (hkw : PK X kws tk)
    (hall : (backToKw pos (keywordEach kws X.env)).all (·.1.isSome) = true := by rfl) (hks : (backToKw pos (keywordEach kws X.env)).filterMap (·.1) = ks := by rfl) (hdb : (x == ("__debug__" : Str)) = false := by decide)
    (he : starEach (e :: es) X.env = (false, eval e X.env) :: starEach es X.env := by rfl) (hpl : ((backTo pos (starEach (e :: es) X.env)).any (·.1) || (backToKw pos (keywordEach kws X.env)).any (·.1.isNone)) = false := by rfl) :
    PE X (.Call (.Name x p) (e :: es) kws pos) (tCallK sp gV E0 t tk) := by
  obtain ⟨f, fd, g, h1, h2, h3, h4⟩ := R
  exact pe_callK h1 hr hg h2 h3 h4 pass0 ha hkw hall hks hdb he hpl
/-- only keywords -/
theorem pe_ck0 (_R : Rdy X.prog X.w X.K X.mg X.base k x ps sp) (hr : Room k X.A) (hg : Gl X x) (R : RdyK X.prog X.w X.K X.mg X.base k x ps ks gV sp) (hkw : PK X kws tk)
    (hall : (backToKw pos (keywordEach kws X.env)).all (·.1.isSome) = true := by rfl) (hks : (backToKw pos (keywordEach kws X.env)).filterMap (·.1) = ks := by rfl) (hdb : (x == ("__debug__" : Str)) = false := by decide)
    (hpl : ((backTo pos (starEach [] X.env)).any (·.1) || (backToKw pos (keywordEach kws X.env)).any (·.1.isNone)) = false := by rfl) :
    PE X (.Call (.Name x p) [] kws pos) (tCallK sp gV E0 tNil tk) := by
  obtain ⟨f, fd, g, h1, h2, h3, h4⟩ := R
  constructor
  intro pins s σ H Q I h
  apply wpAny_Call_Name_kw
  apply ld_glob I hg h2 _ hdb
  apply PySem.W.callWith_KW0 (h₀ := X.base) I.ok.mod.kin h3 hall _ hpl
  apply thn (hkw.run pos pins s σ H _ I h)
  rintro ws s2 ⟨zs, H2, I2, rz, q2⟩
  constructor
  · exact I2.kIn
  · rw [hks]
    exact run_fnk (us := []) (vs := []) h1 hr h4 pass0 I2 .nil rz q2
end
/-- the def st stands at the name x, with parameters ps -/
def Def (K : PySem.W.Frag) (mg : Str → Option Value) (x : Str) (st : Stmt) (f : Addr) (fd : FuncData) : Prop := Fun K x x st f fd ∧ mg x = some (.ref f)
theorem Def.rdy {P : Program} {w : World} {K : PySem.W.Frag} {mg : Str → Option Value} {base : Heap} {k : Nat} {x : Str} {st : Stmt} {f : Addr} {fd : FuncData} {ps : List Str} {sp : Sp} (D : Def K mg x st f fd)
    (b : ∀ (kV doc pm : Value) (an : Option Addr) (cdv ct : Value) (us : List Value), us.length = ps.length → bindArgs (PySem.W.fnOf x x (defArgs st) (defBody st) (defScope st) .none kV doc pm an cdv ct) ⟨us, []⟩ = pure (ps.zip us))
    (h : FnOk P w K mg base CX0 k f fd ps sp) : Rdy P w K mg base k x ps sp := ⟨f, fd, h, D.2, D.1.kp, D.1.binds b⟩
theorem Def.rdyK {P : Program} {w : World} {K : PySem.W.Frag} {mg : Str → Option Value} {base : Heap} {k : Nat} {x : Str} {st : Stmt} {f : Addr} {fd : FuncData} {ps : List Str} {sp : Sp} (D : Def K mg x st f fd) (ks : List Str) (g : {α : Type} → List α → List α → List α)
    (hrel : ∀ {vs zs : List V} {us ws : List Value}, Vals vs us → Vals zs ws → Vals (g vs zs) (g us ws))
    (b : ∀ (kV doc pm : Value) (an : Option Addr) (cdv ct : Value) (us ws : List Value), (g us ws).length = ps.length → bindArgs (PySem.W.fnOf x x (defArgs st) (defBody st) (defScope st) .none kV doc pm an cdv ct) ⟨us, ks.zip ws⟩ = pure (ps.zip (g us ws)))
    (h : FnOk P w K mg base CX0 k f fd ps sp) : RdyK P w K mg base k x ps ks (fun vs zs => g vs zs) sp := by
  obtain ⟨oc, od, kV, doc, pm, an, cdv, ct, osl, rfl, lk, hcd⟩ := D.1.ex
  exact ⟨f, _, fun us ws => g us ws, h, D.2, D.1.kp, ⟨fun s us ws _ hl => .of_eq (b kV doc pm an cdv ct us ws hl), hrel⟩⟩

theorem vals_app : ∀ {vs zs : List V} {us ws : List Value}, Vals vs us → Vals zs ws → Vals (vs ++ zs) (us ++ ws) := fun a b => a.append b
/-! ### built-ins that the module has not named otherwise -/
structure Blt (mg : Str → Option Value) : Prop where
  b_len : mg "len" = none
  b_range : mg "range" = none
  b_isinstance : mg "isinstance" = none
  b_max : mg "max" = none
  b_min : mg "min" = none
  b_list : mg "list" = none
  b_dict : mg "dict" = none
  b_int : mg "int" = none
  b_str : mg "str" = none
  b_bool : mg "bool" = none
  b_tuple : mg "tuple" = none
  b_sorted : mg "sorted" = none
  b_enumerate : mg "enumerate" = none
  b_repr : mg "repr" = none
  b_all : mg "all" = none
  b_any : mg "any" = none
  b_zip : mg "zip" = none
  b_set : mg "set" = none
  b_sum : mg "sum" = none

/-! ### text * number -/
theorem op_mul_str {X : Cx} : OpR X (binaryOp .Mult) (fun x y H Q => ∃ z n, x = .str z ∧ y = .int n ∧ MulOk z n ∧ Q (.str (Txt.mul z n)) H) := by
  intro pins s σ H x y v u Q I rx ry h
  obtain ⟨z, n, rfl, rfl, hk, q⟩ := h
  obtain ⟨t, rfl⟩ := rx
  obtain ⟨t2, rfl⟩ := ry
  exact SB.mul hk fun a b => ⟨.str (Txt.mul z n), H, I.tok _, ⟨_, rfl⟩, q⟩

/-! ### isinstance of a datum -/
inductive Ty where
  | bool | int | str | list | tuple | dict
def Ty.nm : Ty → String
  | .bool => "bool"
  | .int => "int"
  | .str => "str"
  | .list => "list"
  | .tuple => "tuple"
  | .dict => "dict"
def isT : Ty → PyData → Bool
  | .bool, .bool _ => true
  | .int, .bool _ => true
  | .int, .int _ => true
  | .str, .str _ => true
  | .list, .list _ => true
  | .tuple, .tuple _ => true
  | .dict, .dict _ => true
  | _, _ => false
def tyD : PyData → String
  | .none => "NoneType"
  | .bool _ => "bool"
  | .int _ => "int"
  | .str _ => "str"
  | .list _ => "list"
  | .tuple _ => "tuple"
  | .dict _ => "dict"
theorem Rp.ty {K : PySem.W.Frag} {H : Hp} {n : Nat} {v : V} : ∀ {d : PyData}, Rp H n v d → TyX K H v (.type (tyD d)) := by
  intro d h
  cases n with
  | zero => exact h.elim
  | succ n =>
    cases d with
    | none => cases h; exact .base .non
    | bool b => cases h; exact .base (.bl b)
    | int i => cases h; exact .base (.int i)
    | str x => cases h; exact .base (.str x)
    | list ds => obtain ⟨a, xs, rfl, h2, _⟩ := h; exact .base (.lst h2)
    | tuple ds => obtain ⟨a, xs, rfl, h2, _⟩ := h; exact .base (.tup h2)
    | dict ds => obtain ⟨a, xs, rfl, h2, _⟩ := h; exact .base (.dK h2)
theorem kit_isT (T : Ty) (d : PyData) : kitB (tyD d) T.nm = some (isT T d) := by
  cases T <;> cases d <;> (show kitB _ _ = some _; simp only [tyD, isT, Ty.nm]; decide +kernel)
theorem isi1 {K : PySem.W.Frag} {H : Hp} {n : Nat} {v : V} {d : PyData} (T : Ty) {Q : VK} (h : Rp H n v d) (q : Q (.bl (isT T d)) H) : rIsi K [v, .ty T.nm] H Q :=
  ⟨v, .ty T.nm, _, _, isT T d, rfl, .ty T.nm, h.ty, kit_ty (kit_isT T d), q⟩
theorem isi2 {K : PySem.W.Frag} {H : Hp} {n : Nat} {v : V} {d : PyData} {p : Addr} (T U : Ty) {Q : VK} (h : Rp H n v d) (hp : H p = some (.tup [.ty T.nm, .ty U.nm])) (q : Q (.bl (isT T d || isT U d)) H) : rIsiT K [v, .ref p] H Q := by
  refine ⟨v, p, _, _, [.type T.nm, .type U.nm], isT T d || isT U d, rfl, hp, .cons (.ty _) (.cons (.ty _) .nil), h.ty, ?_, q⟩
  refine kitAny_cons (b := isT T d) (kit_ty (kit_isT T d)) (fun e => ?_) (fun e => by rw [e]; rfl)
  rw [e, Bool.false_or]
  exact kitAny_cons (b := isT U d) (kit_ty (kit_isT U d)) (fun e => by rw [e]; exact kitAny_nil) (fun e => e)
end SC

set_option Elab.async false
set_option linter.all false
set_option maxRecDepth 100000
set_option maxHeartbeats 4000000
/-! Schemacheck: loops and comprehensions, read once more. -/
namespace SC
open PySem L2

/-- a for whose walk has begun -/
def FoR (J : It) (g : TG) (tb : TS) (D : Ends) (σ : St) (H : Hp) : Prop := tFor (fun _ G R => R J G) g tb D σ H
theorem tFor_eq (wi : TI) (g : TG) (tb : TS) : tFor wi g tb = fun D σ H => wi σ H fun J H1 => FoR J g tb D σ H1 := rfl
/-- a comprehension whose walk has begun -/
def LcR (J : It) (g : TG) (tt : TT) (te : TE) (vs : List Nat) (σ : St) (H : Hp) (Q : VK) : Prop := tLc (fun _ G R => R J G) g tt te vs σ H Q
theorem tLc_eq (wi : TI) (g : TG) (tt : TT) (te : TE) (vs : List Nat) : tLc wi g tt te vs = fun σ H Q => wi σ H fun J H1 => LcR J g tt te vs σ H1 Q := rfl
def DcR (J : It) (g : TG) (tt : TT) (tk tv : TE) (vs : List Nat) (σ : St) (H : Hp) (Q : VK) : Prop := tDc (fun _ G R => R J G) g tt tk tv vs σ H Q
theorem tDc_eq (wi : TI) (g : TG) (tt : TT) (tk tv : TE) (vs : List Nat) : tDc wi g tt tk tv vs = fun σ H Q => wi σ H fun J H1 => DcR J g tt tk tv vs σ H1 Q := rfl
section
variable {J : It} {n : Nat} {G : Hp → Prop} {Y : Nat → Hp → V → Hp → Prop}
theorem fo_it (w : Walk J n G Y) {g : TG} {tb : TS} {D : Ends} {σ : St} {H : Hp} (Pv : Nat → St → Hp → Prop) (h0 : Pv 0 σ H) (hG : ∀ i σ H, i ≤ n → Pv i σ H → G H)
    (hs : ∀ i x σ H H', i < n → Pv i σ H → Y i H x H' → g x σ H' fun σ2 H2 => tb { nx := Pv (i + 1), rt := D.rt, bk := D.nx, ct := Pv (i + 1) } σ2 H2) (hd : ∀ σ H, Pv n σ H → D.nx σ H) : FoR J g tb D σ H :=
  for_it w Pv h0 hG hs hd
theorem lc_itR (w : Walk J n G Y) {g : TG} {tt : TT} {te : TE} {vs : List Nat} {σ : St} {H1 : Hp} {Q : VK} (Pv : Addr → Nat → Hp → Prop) (h0 : ∀ D, H1 D = none → Pv D 0 (upd H1 D (.lst []))) (hG : ∀ D i H, H1 D = none → i ≤ n → Pv D i H → G H)
    (hs : ∀ D i x H H', H1 D = none → i < n → Pv D i H → Y i H x H' → g x (wipe σ vs) H' fun σ2 H2 => wipe σ2 vs = wipe σ vs ∧ tt σ2 H2 fun b H3 =>
      if b = true then te σ2 H3 fun y H4 => ∃ acc, H4 D = some (.lst acc) ∧ acc.length < sizeLine ∧ Pv D (i + 1) (upd H4 D (.lst (acc ++ [y]))) else Pv D (i + 1) H3)
    (hd : ∀ D H, H1 D = none → Pv D n H → Q (.ref D) H) : LcR J g tt te vs σ H1 Q := fun D hD =>
  lc_it w (Pv D) (h0 D hD) (fun i H => hG D i H hD) (fun i x H H' => hs D i x H H' hD) fun H => hd D H hD
theorem wipe1 {σ : St} {j : Nat} {x : Option V} : wipe ((wipe σ [j]).set j x) [j] = wipe σ [j] := by
  show ((σ.set j none).set j x).set j none = σ.set j none
  rw [List.set_set, List.set_set]
/-- [e for x in ..], each e a value known ahead, the heap only grows -/
theorem lcP_map (w : Walk J n G Y) (X : Nat → V → Prop) (hX : ∀ i H x H', Y i H x H' → H' = H ∧ X i x) {te : TE} {j : Nat} {σ : St} {H1 : Hp} {Q : VK} (hG : ∀ H', Same H1 H' → G H') (ys : List V) (hl : ys.length = n) (hz : n ≤ 100000)
    (step : ∀ i x y H' (N : VK), X i x → ys[i]? = some y → Same H1 H' → (∀ H4, Same H' H4 → N y H4) → te ((wipe σ [j]).set j (some x)) H' N)
    (done : ∀ D H', H1 D = none → Same H1 H' → H' D = some (.lst ys) → Q (.ref D) H') : LcR J (gName j) tYes te [j] σ H1 Q := by
  refine lc_itR w (fun D i H' => Same H1 H' ∧ H' D = some (.lst (ys.take i))) (fun D hD => ⟨same_new hD _, by rw [upd_same, List.take_zero]⟩) (fun D i H _ _ p => hG H p.1) ?_ (fun D H hD p => done D H hD p.1 (by rw [p.2, ← hl, List.take_length]))
  rintro D i x H H' hD hi ⟨s, e⟩ y
  obtain ⟨rfl, hx⟩ := hX _ _ _ _ y
  obtain ⟨z, hz'⟩ : ∃ z, ys[i]? = some z := ⟨ys[i]'(by omega), by rw [List.getElem?_eq_getElem]⟩
  refine ⟨wipe1, ?_⟩
  show te _ _ _
  refine step i x z _ _ hx hz' s fun H4 s4 => ⟨_, s4 _ _ e, ?_, same_mut (s.trans s4) hD, ?_⟩
  · rw [List.length_take]
    exact Nat.lt_of_le_of_lt (Nat.min_le_left _ _) (Nat.lt_of_lt_of_le (Nat.lt_of_lt_of_le hi hz) (by decide))
  · rw [upd_same, List.take_succ, hz']
    rfl
end
/-- a block cut behind its first statement: what holds there, and what follows it -/
theorem cutM {t u : TS} {D : Ends} {σ : St} {H : Hp} (M : St → Hp → Prop) (h1 : ∀ N : St → Hp → Prop, (∀ σ' H', M σ' H' → N σ' H') → t { D with nx := N } σ H) (h2 : ∀ σ' H', M σ' H' → u D σ' H') : tSeq t u D σ H := h1 (u D) h2
/-- the walks -/
theorem lcP_list {K : PySem.W.Frag} {a : Addr} {xs : List V} {te : TE} {j : Nat} {σ : St} {H1 : Hp} {Q : VK} (hS : SqL K H1 a xs) (ys : List V) (hl : ys.length = xs.length) (hz : xs.length ≤ 100000)
    (step : ∀ (i : Nat) x y H' (N : VK), xs[i]? = some x → ys[i]? = some y → Same H1 H' → (∀ H4, Same H' H4 → N y H4) → te ((wipe σ [j]).set j (some x)) H' N)
    (done : ∀ D H', H1 D = none → Same H1 H' → H' D = some (.lst ys) → Q (.ref D) H') : LcR (Itl K a) (gName j) tYes te [j] σ H1 Q :=
  lcP_map (walk_list (xs := xs)) (fun i x => xs[i]? = some x) (fun _ _ _ _ h => h) (fun _ s => s.seq hS) ys hl hz step done
theorem lcP_range {lo : Int} {n : Nat} {te : TE} {j : Nat} {σ : St} {H1 : Hp} {Q : VK} (ys : List V) (hl : ys.length = n) (hz : n ≤ 100000)
    (step : ∀ (i : Nat) x y H' (N : VK), x = V.int (lo + (i : Nat)) → ys[i]? = some y → Same H1 H' → (∀ H4, Same H' H4 → N y H4) → te ((wipe σ [j]).set j (some x)) H' N)
    (done : ∀ D H', H1 D = none → Same H1 H' → H' D = some (.lst ys) → Q (.ref D) H') : LcR (Itr lo n) (gName j) tYes te [j] σ H1 Q :=
  lcP_map walk_range (fun i x => x = V.int (lo + (i : Nat))) (fun _ _ _ _ h => h) (fun _ _ => trivial) ys hl hz step done
theorem lcP_keys {d : Addr} {o : Obj} {kvs : List (Key × V)} {te : TE} {j : Nat} {σ : St} {H1 : Hp} {Q : VK} (hd : H1 d = some (.frz o (.dK kvs))) (ys : List V) (hl : ys.length = kvs.length) (hz : kvs.length ≤ 100000)
    (step : ∀ (i : Nat) k v y H' (N : VK), kvs[i]? = some (k, v) → ys[i]? = some y → Same H1 H' → (∀ H4, Same H' H4 → N y H4) → te ((wipe σ [j]).set j (some (kV k))) H' N)
    (done : ∀ D H', H1 D = none → Same H1 H' → H' D = some (.lst ys) → Q (.ref D) H') : LcR (Itk d o kvs) (gName j) tYes te [j] σ H1 Q :=
  lcP_map walk_keys (fun i x => ∃ k v, kvs[i]? = some (k, v) ∧ x = kV k) (fun _ _ _ _ h => h) (fun _ s => s _ _ hd) ys hl hz (fun i x y H' N ⟨k, v, h1, h2⟩ hy s n => by subst h2; exact step i k v y H' N h1 hy s n) done
/-- under a lock: what was there is there, what the lock hid comes back -/
theorem same_lock {H H' : Hp} {d : Addr} {u : HO} {od : Obj} (hd : H d = some u) (s : Same (upd H d (.frz od u)) H') : Same H (upd H' d u) := fun b o e => by
  by_cases hb : b = d
  · subst hb
    rw [hd] at e
    cases e
    exact upd_same
  · rw [upd_ne hb]
    exact s b o (by rw [upd_ne hb]; exact e)
/-- a dict's value by its key -/
theorem valV_at {kvs : List (Key × V)} {i : Nat} {k : Key} {v : V} (hn : (kvs.map (·.1)).Nodup) (h : kvs[i]? = some (k, v)) : valV kvs k = some v := by
  induction kvs generalizing i with
  | nil => simp at h
  | cons p r ih =>
    cases i with
    | zero =>
      simp at h
      subst h
      simp [valV]
    | succ i =>
      simp at h
      have hm : (k, v) ∈ r := List.mem_of_getElem? h
      have hne : ¬ p.1 = k := by
        intro e
        simp only [List.map_cons, List.nodup_cons] at hn
        exact hn.1 (List.mem_map.mpr ⟨_, hm, e.symm⟩)
      have := ih (by simp only [List.map_cons, List.nodup_cons] at hn; exact hn.2) h
      simp only [valV, List.find?_cons, decide_eq_false hne] at this ⊢
      exact this
theorem cx_K {CX : CXT} {P : Program} {w : World} {K : PySem.W.Frag} {mg : Str → Option Value} {base : Heap} {N : List Str} {q : Str} {sc : Scope} {f : Addr} {cd : Value} {A : Around} {outer : List Env} {s : Shared} {H : Hp} {E : XK} : (cxOf CX P w K mg base N q sc f cd A outer s H E).K = K := rfl
/-- an item of a written list, whichever -/
theorem ix_any {K : PySem.W.Frag} {H : Hp} {p : Addr} {xs : List V} {i : Int} {Q : VK} (hp : H p = some (.lst xs)) (h0 : 0 ≤ i) (h1 : i < (xs.length : Int)) (q : ∀ v ∈ xs, Q v H) : rIxL K (.ref p) (.int i) H Q := by
  obtain ⟨j, rfl⟩ : ∃ j : Nat, i = j := ⟨i.toNat, by omega⟩
  have hl : j < xs.length := by omega
  exact ⟨p, xs, j, xs[j], rfl, rfl, SqL.of hp, atI_nat (List.getElem?_eq_getElem hl), q _ (List.getElem_mem hl)⟩
theorem mul_ok {x : Str} {n : Int} (hx : x.length = 1) (h0 : -1000 ≤ n) (h1 : n ≤ 1000) : MulOk x n := by
  refine ⟨?_, ?_, ?_⟩
  · rw [decide_eq_false (by omega), decide_eq_false (by omega)]; rfl
  · intro h2 _
    rw [hx]
    have : (2 ^ 63 - 1 : Int) / n ≥ 1 := Int.le_ediv_of_mul_le (by omega) (by omega)
    omega
  · intro h2 _
    rw [hx]
    have h3 : ∀ k : Fin 1001, PySem.Builtin.Str.tooLong (1 * k.1) = false := by decide +kernel
    exact h3 ⟨n.toNat, by omega⟩
theorem erase_map {A B : Type} (f : A → B) : ∀ (l : List A) (k : Nat), (l.map f).eraseIdx k = (l.eraseIdx k).map f
  | [], _ => rfl
  | _ :: _, 0 => rfl
  | x :: r, k + 1 => by simp [List.eraseIdx, erase_map f r k]
theorem erase_perm {A : Type} : ∀ (l : List A) (k : Nat) (x : A), l[k]? = some x → (x :: l.eraseIdx k).Perm l
  | [], _, _, h => by simp at h
  | y :: r, 0, x, h => by simp at h; subst h; exact .refl _
  | y :: r, k + 1, x, h => by
    simp at h
    exact (List.Perm.swap y x _).trans ((erase_perm r k x h).cons y)
theorem seqIx {j n : Nat} (h : j < n) : seqIndex? (j : Int) n = some j := by
  have h1 : ¬ (j : Int) < 0 := by omega
  unfold seqIndex?
  simp only [if_neg h1]
  rw [if_pos (by simp; omega)]
  simp
theorem valV_no {kvs : List (Key × V)} {k : Key} (h : k ∉ kvs.map (·.1)) : valV kvs k = none := by
  unfold valV
  rw [List.find?_eq_none.mpr]
  · rfl
  · intro p hp
    simp only [decide_eq_true_eq]
    intro e
    exact h (List.mem_map.mpr ⟨p, hp, e⟩)
theorem nd_take {A : Type} {xs : List A} {i : Nat} (h : xs.Nodup) (hi : i < xs.length) : xs[i] ∉ xs.take i := by
  intro hm
  rw [← List.take_append_drop i xs] at h
  exact (List.nodup_append.mp h).2.2 _ hm _ (List.mem_of_getElem (i := 0) (h := by rw [List.length_drop]; omega) (by simp)) rfl
theorem iteT' {c A B : Prop} [Decidable c] (hc : c) (h : A) : if c then A else B := by rw [if_pos hc]; exact h
theorem iteF' {c A B : Prop} [Decidable c] (hc : ¬ c) (h : B) : if c then A else B := by rw [if_neg hc]; exact h
theorem mod_in (n : Int) {m : Int} (h : 0 < m) : 0 ≤ n % m ∧ n % m < m := ⟨Int.emod_nonneg _ (by omega), Int.emod_lt_of_pos _ h⟩
theorem sz5 {n : Nat} (h : n ≤ 100000) : n ≤ sizeLine := Nat.le_trans h (by decide)
theorem sz5l {n : Nat} (h : n < 100000) : n < sizeLine := Nat.lt_of_lt_of_le h (by decide)
end SC

set_option Elab.async false
set_option linter.all false
set_option maxRecDepth 100000
set_option maxHeartbeats 4000000
namespace SC
open PySem L2
local macro_rules | `(tactic| walk_at "rd") => `(tactic| simp only [tSeq, tNext, tIfS, tB, tTest, tCB, tCons, tC, tNil, tVar, tRet, tRetN, tAsg, gName, tOp, tUn, tAnd, tOr, tNot, tAndV, tOrV, tNotV, tIf, tDrop, tCall, tCallK, rI, rI0, rU, rEq, rNe, tPar, tAug, ipI, tLst, tTup, tDNewK, tDGet, tDIn, tDNotIn, sDPut, tBM, tBM0, gSub, rSetL, tChain, gTup, gCons, gNil, tYes, tBreak, tCont, tDisp, tPairs, L2.start, L2.wipe, cx_K, tFor_eq, tLc_eq, tDc_eq, tSl, tPart, tNoPart, iList, iTup, iRng1, iRng2, iKeys, iStr, iEnum, List.map_cons, List.map_nil, List.length_cons, List.length_nil, Nat.reduceAdd, Nat.reduceSub, List.reduceReplicate, List.replicate_zero, List.append_nil, List.nil_append, List.cons_append, List.getElem?_cons_zero, List.getElem?_cons_succ, Option.some.injEq, exists_eq_left', exists_eq_left, exists_eq', exists_eq, exists_and_left, V.int.injEq, V.ref.injEq, V.str.injEq, V.bl.injEq, List.cons.injEq, and_true, true_and, and_assoc, Bool.false_eq_true, ↓reduceIte, List.set_cons_zero, List.set_cons_succ, decide_eq_true_eq, Bool.not_eq_true', decide_eq_false_iff_not, Nat.zero_add, Nat.zero_sub, Nat.sub_self, Nat.sub_zero])

def top (i : Nat) : Stmt := PySem.Challenge.pw_schemacheck_k03_kinds_and_depths.main.body.getD i (.Pass ⟨0, 0, 0, 0⟩)
/-! ### kind_of, depth_of -/
def kindD : PyData → Str
  | .none => "null"
  | .bool _ => "boolean"
  | .int _ => "integer"
  | .str _ => "string"
  | .list _ => "array"
  | _ => "object"
def sp_kind : Sp := fun vs H Q _ => ∃ n v d, vs = [v] ∧ Rp H n v d ∧ Q (.str (kindD d)) H
def sp_kind' : Sp := fun vs H Q _ => ∃ n v d, vs = [v] ∧ Rp H n v d ∧ ∀ H', Same H H' → Q (.str (kindD d)) H'
abbrev s_kind_of : Stmt := top 2
theorem sc_kind_of : FnScope ["document"] ["document"] (defScope s_kind_of) := ⟨rfl, rfl, rfl, by decide +kernel, rfl, by decide +kernel, by decide +kernel⟩
abbrev s_depth_of : Stmt := top 1
theorem sc_depth_of : FnScope ["document", "name", "part"] ["document"] (defScope s_depth_of) := ⟨rfl, rfl, rfl, by decide +kernel, rfl, by decide +kernel, by decide +kernel⟩
section
variable {P : Program} {w : World} {K : PySem.W.Frag} {mg : Str → Option Value} {base : Heap} {f : Addr} {fd : FuncData}
theorem ok_kind_of (D : Def K mg "kind_of" s_kind_of f fd) (B : Blt mg) : FnOk P w K mg base CX0 1 f fd ["document"] sp_kind := by
  refine D.1.ok sc_kind_of (fun vs H Q E h => ?_) (fun cdv A outer s H vs Q E hr h => ?_)
  · obtain ⟨n, v, d, rfl, _⟩ := h
    rfl
  obtain ⟨n, v, d, rfl, hd, q⟩ := h
  refine ⟨_, (pss_cons (ps_if (pt_cmpR op_isN (pv 0) pe_non (nomark _))
   (pss_one (ps_ret pe_str))
   pss_nil)
  (pss_cons (ps_if (pt_val (pe_callB call_isi (by rfl) B.b_isinstance (by decide +kernel) (pa_cons (pv 0) (pa_cons (pe_bltn (v := .ty "bool") (by rfl) B.b_bool (by decide +kernel) rfl) pa_nil))))
   (pss_one (ps_ret pe_str))
   pss_nil)
  (pss_cons (ps_if (pt_val (pe_callB call_isi (by rfl) B.b_isinstance (by decide +kernel) (pa_cons (pv 0) (pa_cons (pe_bltn (v := .ty "int") (by rfl) B.b_int (by decide +kernel) rfl) pa_nil))))
   (pss_one (ps_ret pe_str))
   pss_nil)
  (pss_cons (ps_if (pt_val (pe_callB call_isi (by rfl) B.b_isinstance (by decide +kernel) (pa_cons (pv 0) (pa_cons (pe_bltn (v := .ty "str") (by rfl) B.b_str (by decide +kernel) rfl) pa_nil))))
   (pss_one (ps_ret pe_str))
   pss_nil)
  (pss_one (ps_ret (pe_ifExp (pt_val (pe_callB call_isi (by rfl) B.b_isinstance (by decide +kernel) (pa_cons (pv 0) (pa_cons (pe_bltn (v := .ty "list") (by rfl) B.b_list (by decide +kernel) rfl) pa_nil)))) pe_str pe_str))))))), ?_⟩
  walk_at "rd"
  cases n with
  | zero => exact hd.elim
  | succ n =>
  cases d with
  | none =>
    cases hd
    exact if_pos rfl ▸ q
  | bool b =>
    cases id hd
    simp only [reduceCtorEq, ↓reduceIte]
    exact isi1 .bool hd ⟨_, rfl, iteT q⟩
  | int b =>
    cases id hd
    simp only [reduceCtorEq, ↓reduceIte]
    exact isi1 .bool hd ⟨_, rfl, iteF (isi1 .int hd ⟨_, rfl, iteT q⟩)⟩
  | str b =>
    cases id hd
    simp only [reduceCtorEq, ↓reduceIte]
    exact isi1 .bool hd ⟨_, rfl, iteF (isi1 .int hd ⟨_, rfl, iteF (isi1 .str hd ⟨_, rfl, iteT q⟩)⟩)⟩
  | list b =>
    obtain ⟨a, xs, rfl, _⟩ := id hd
    simp only [reduceCtorEq, ↓reduceIte]
    exact isi1 .bool hd ⟨_, rfl, iteF (isi1 .int hd ⟨_, rfl, iteF (isi1 .str hd ⟨_, rfl, iteF (isi1 .list hd ⟨_, rfl, iteT q⟩)⟩)⟩)⟩
  | tuple b =>
    obtain ⟨a, xs, rfl, _⟩ := id hd
    simp only [reduceCtorEq, ↓reduceIte]
    exact isi1 .bool hd ⟨_, rfl, iteF (isi1 .int hd ⟨_, rfl, iteF (isi1 .str hd ⟨_, rfl, iteF (isi1 .list hd ⟨_, rfl, iteF q⟩)⟩)⟩)⟩
  | dict b =>
    obtain ⟨a, xs, rfl, _⟩ := id hd
    simp only [reduceCtorEq, ↓reduceIte]
    exact isi1 .bool hd ⟨_, rfl, iteF (isi1 .int hd ⟨_, rfl, iteF (isi1 .str hd ⟨_, rfl, iteF (isi1 .list hd ⟨_, rfl, iteF q⟩)⟩)⟩)⟩
/-- how deep -/
def mx : List Int → Int
  | [] => 0
  | x :: r => if mx r < x then x else mx r
theorem mx_le : ∀ {l : List Int} {y : Int}, y ∈ (0 : Int) :: l → y ≤ mx l
  | [], y, h => by simp at h; subst h; exact Int.le_refl _
  | x :: r, y, h => by
    have h0 := mx_le (l := r) (y := 0) (by simp)
    show y ≤ (if mx r < x then x else mx r)
    rcases List.mem_cons.mp h with rfl | h
    · split <;> omega
    · rcases List.mem_cons.mp h with rfl | h
      · split <;> omega
      · have := mx_le (l := r) (y := y) (by simp [h])
        split <;> omega
theorem mx_mem : ∀ l : List Int, mx l ∈ (0 : Int) :: l
  | [] => by simp [mx]
  | x :: r => by
    show (if mx r < x then x else mx r) ∈ _
    split
    · simp
    · have := mx_mem r
      simp at this ⊢
      rcases this with h | h
      · exact .inl h
      · exact .inr (.inr h)
theorem mx_is {l : List Int} {m : Int} (h1 : m ∈ (0 : Int) :: l) (h2 : ∀ y ∈ (0 : Int) :: l, y ≤ m) : m = mx l :=
  Int.le_antisymm (mx_le h1) (h2 _ (mx_mem l))
def dep : Nat → PyData → Int
  | 0, _ => 1
  | n + 1, .list ds => 1 + mx (ds.map (dep n))
  | n + 1, .dict es => 1 + mx (es.map fun e => dep n e.2)
  | _ + 1, _ => 1
theorem max0 {K : PySem.W.Frag} {H : Hp} {p D : Addr} {ns : List Int} {R : Int → Hp → Prop} (h1 : H p = some (.lst [.int 0])) (h2 : H D = some (.lst (ns.map V.int))) (hl : ns.length ≤ 10000) (q : ∀ H', Same H H' → R (mx ns) H') :
    rCat (.ref p) (.ref D) H fun x H1 => rMax K [x] H1 fun y H2 => ∃ z, y = V.int z ∧ R z H2 := by
  refine ⟨p, D, _, _, rfl, rfl, h1, h2, ?_, fun r hr => ?_⟩
  · rw [List.length_map]
    exact sz5 (by simp; omega)
  refine ⟨r, 0 :: ns, rfl, SqL.of upd_same, by simp, fun m hm hle => ⟨m, rfl, ?_⟩⟩
  rw [mx_is hm hle]
  exact q _ (same_new hr _)
def sp_depth (n : Nat) : Sp := fun vs H Q _ => ∃ v d, vs = [v] ∧ Rp H n v d ∧ ∀ H', Same H H' → Q (.int (dep n d)) H'
theorem ok_depth_of {n : Nat} (D : Def K mg "depth_of" s_depth_of f fd) (B : Blt mg) (R_depth_of : Rdy P w K mg base n "depth_of" ["document"] (sp_depth n)) : FnOk P w K mg base CX0 (n + 1) f fd ["document"] (sp_depth (n + 1)) := by
  refine D.1.ok sc_depth_of (fun vs H Q E h => ?_) (fun cdv A outer s H vs Q E hr h => ?_)
  · obtain ⟨v, d, rfl, _⟩ := h
    rfl
  obtain ⟨v, d, rfl, hd, q⟩ := h
  have hu := hu_of hr
  refine ⟨_, (pss_cons (ps_if (pt_val (pe_callB call_isi (by rfl) B.b_isinstance (by decide +kernel) (pa_cons (pv 0) (pa_cons (pe_bltn (v := .ty "dict") (by rfl) B.b_dict (by decide +kernel) rfl) pa_nil))))
   (pss_one (ps_ret (pe_op op_add pe_int (pe_callB (cr_max rfl) (by rfl) B.b_max (by decide +kernel) (pa_cons (pe_op op_cat (pe_lst (pa_cons pe_int pa_nil)) (pe_lock (pe_lc (own := [("name", 1)]) (by rfl) sc_depth_of.nd (pi_keys (pv 0)) (blkOk_by (own := [("name", 1)]) (N := ["document", "name", "part"]) (sc := defScope s_depth_of) (by decide +kernel)) (fun _ _ _ _ _ => (pg_name (i := 1) sc_depth_of.nd rfl (by first | exact Or.inl rfl | exact Or.inr rfl))) (fun _ _ _ _ _ => pts_nil) (fun _ _ _ _ _ => (pe_c R_depth_of hr rfl (pa_cons (pe_dget hu (pv 0) (pv 1) (fun _ _ => rfl)) pa_nil)))))) pa_nil)))))
   pss_nil)
  (pss_cons (ps_if (pt_val (pe_callB call_isi (by rfl) B.b_isinstance (by decide +kernel) (pa_cons (pv 0) (pa_cons (pe_bltn (v := .ty "list") (by rfl) B.b_list (by decide +kernel) rfl) pa_nil))))
   (pss_one (ps_ret (pe_op op_add pe_int (pe_callB (cr_max rfl) (by rfl) B.b_max (by decide +kernel) (pa_cons (pe_op op_cat (pe_lst (pa_cons pe_int pa_nil)) (pe_lc (own := [("part", 2)]) (by rfl) sc_depth_of.nd (pi_list (pv 0)) (blkOk_by (own := [("part", 2)]) (N := ["document", "name", "part"]) (sc := defScope s_depth_of) (by decide +kernel)) (fun _ _ _ _ _ => (pg_name (i := 2) sc_depth_of.nd rfl (by first | exact Or.inl rfl | exact Or.inr rfl))) (fun _ _ _ _ _ => pts_nil) (fun _ _ _ _ _ => (pe_c R_depth_of hr rfl (pa_cons (pv 2) pa_nil))))) pa_nil)))))
   pss_nil)
  (pss_one (ps_ret pe_int)))), ?_⟩
  walk_at "rd"
  cases d with
  | none => exact isi1 .dict hd ⟨_, rfl, iteF (isi1 .list hd ⟨_, rfl, iteF (q H (Same.refl H))⟩)⟩
  | bool b => exact isi1 .dict hd ⟨_, rfl, iteF (isi1 .list hd ⟨_, rfl, iteF (q H (Same.refl H))⟩)⟩
  | int b => exact isi1 .dict hd ⟨_, rfl, iteF (isi1 .list hd ⟨_, rfl, iteF (q H (Same.refl H))⟩)⟩
  | str b => exact isi1 .dict hd ⟨_, rfl, iteF (isi1 .list hd ⟨_, rfl, iteF (q H (Same.refl H))⟩)⟩
  | tuple b => exact isi1 .dict hd ⟨_, rfl, iteF (isi1 .list hd ⟨_, rfl, iteF (q H (Same.refl H))⟩)⟩
  | list ds =>
    obtain ⟨a, xs, rfl, ha, hb, hp⟩ := id hd
    refine isi1 .dict hd ⟨_, rfl, iteF (isi1 .list hd ⟨_, rfl, iteT ⟨by decide, fun p np => ?_⟩⟩)⟩
    have s0 : Same H (upd H p (.lst [.int 0])) := same_new np _
    refine ⟨a, rfl, ⟨xs, SqL.of (s0 _ _ ha)⟩, lcP_list (SqL.of (s0 _ _ ha)) ((ds.map (dep n)).map V.int) (by simp [pd_len hp]) (by omega) ?_ ?_⟩
    · intro i x y H' N hx hy s N'
      obtain ⟨e, he, hr'⟩ := pd_get hp hx
      walk_at "rd"
      refine ⟨x, e, rfl, (hr'.imp s0).imp s, fun H4 s4 => ?_⟩
      simp [he] at hy
      subst hy
      exact N' H4 s4
    · intro D' H' nD s e
      exact max0 (s _ _ upd_same) e (by simp [← pd_len hp]; omega) fun H2 s2 => q H2 ((s0.trans s).trans s2)
  | dict es =>
    obtain ⟨a, kvs, rfl, ha, hb, hn, hp⟩ := id hd
    refine isi1 .dict hd ⟨_, rfl, iteT ⟨by decide, fun p np => ?_⟩⟩
    have s0 : Same H (upd H p (.lst [.int 0])) := same_new np _
    have hD := hd.imp s0
    refine ⟨a, .dK kvs, s0 _ _ ha, trivial, fun od => ?_⟩
    refine ⟨_, rfl, a, rfl, od, .inl ⟨kvs, upd_same, lcP_keys upd_same ((es.map fun e => dep n e.2).map V.int) (by simp [pd_len hp]) (by omega) ?_ ?_⟩⟩
    · intro i k v y H' N hk hy s N'
      obtain ⟨e, he, hk', hr'⟩ := pd_get hp hk
      walk_at "rd"
      refine ⟨v, .inl ⟨kvs, k, .inr ⟨od, s _ _ upd_same⟩, rfl, (valV_at hn hk).symm⟩, ?_⟩
      refine ⟨v, e.2, rfl, (hD.off _ (size_kv (List.mem_of_getElem? he)) (hr'.imp s0)).imp s, fun H4 s4 => ?_⟩
      simp [he] at hy
      subst hy
      exact N' H4 s4
    · intro D' H' nD s e
      have nDa : D' ≠ a := fun z => by subst z; rw [upd_same] at nD; cases nD
      have npa : p ≠ a := fun z => by subst z; rw [np] at ha; cases ha
      refine ⟨s _ _ upd_same, ?_⟩
      have s1 := same_lock (s0 _ _ ha) s
      exact max0 (s1 _ _ upd_same) (by rw [upd_ne nDa]; exact e) (by simp [← pd_len hp]; omega) fun H2 s2 => q H2 ((s0.trans s1).trans s2)
end

/-! ### _law_cell -/
def sp_cell (K : PySem.W.Frag) : Sp := fun vs H Q _ => ∃ c sp ns k, vs = [.ref c, .ref sp] ∧ Scr K H c ns ∧ ns.length ≤ 63 ∧ H sp = some (.lst [.int k]) ∧ 0 ≤ k ∧ k < 2 ^ 60 ∧
  ∀ n : Int, 0 ≤ n → n < 306783379 → Q (.int n) (upd H sp (.lst [.int (k + 1)]))
abbrev s_law_cell : Stmt := top 4
theorem sc_law_cell : FnScope ["_law_cells", "_law_spot", "_law_k", "_law_base", "_law_at", "_law_turn", "_law_rest", "_law_j"] ["_law_cells", "_law_spot"] (defScope s_law_cell) := ⟨rfl, rfl, rfl, by decide +kernel, rfl, by decide +kernel, by decide +kernel⟩
theorem cell_end (b : Int) : 0 ≤ (b % 2147483647) ^ Int.toNat 5 % 2147483647 / 7 ∧ (b % 2147483647) ^ Int.toNat 5 % 2147483647 / 7 < 306783379 := by
  have h1 := Int.emod_nonneg ((b % 2147483647) ^ Int.toNat 5) (show (2147483647 : Int) ≠ 0 by decide)
  have h2 := Int.emod_lt_of_pos ((b % 2147483647) ^ Int.toNat 5) (show (0 : Int) < 2147483647 by decide)
  omega
theorem cell_pow (b : Int) : CPow (b % 2147483647) 5 := by
  have h1 := Int.emod_nonneg b (show (2147483647 : Int) ≠ 0 by decide)
  have h2 := Int.emod_lt_of_pos b (show (0 : Int) < 2147483647 by decide)
  refine ⟨by decide, by decide, ?_⟩
  omega
theorem at_ints {ns : List Int} {i : Int} (h0 : 0 ≤ i) (h1 : i < ((ns.map V.int).length : Int)) : ∃ x : Int, atI (ns.map V.int) i = some (.int x) := by
  obtain ⟨j, rfl⟩ : ∃ j : Nat, i = j := ⟨i.toNat, by omega⟩
  have hl : j < ns.length := by rw [List.length_map] at h1; omega
  exact ⟨ns[j], atI_nat (by rw [List.getElem?_map, List.getElem?_eq_getElem hl]; rfl)⟩
section
variable {P : Program} {w : World} {K : PySem.W.Frag} {mg : Str → Option Value} {base : Heap} {f : Addr} {fd : FuncData}
theorem ok_cell (D : Def K mg "_law_cell" s_law_cell f fd) (B : Blt mg) : FnOk P w K mg base CX0 1 f fd ["_law_cells", "_law_spot"] (sp_cell K) := by
  refine D.1.ok sc_law_cell (fun vs H Q E h => ?_) (fun cdv A outer s H vs Q E hr h => ?_)
  · obtain ⟨c, sp, ns, k, rfl, _⟩ := h
    rfl
  obtain ⟨c, sp, ns, k, rfl, hs, h63, hp, h0, h1, q⟩ := h
  refine ⟨_, (pss_cons (ps_set (i := 2) sc_law_cell.nd rfl (by first | exact Or.inl rfl | exact Or.inr rfl) (pe_ix ix_list (pv 1) pe_int (fun _ _ => rfl)))
  (pss_cons (ps_asg (pe_op op_add (pv 2) pe_int) (pg_sub (pv 1) pe_int set_list))
  (pss_cons (ps_set (i := 3) sc_law_cell.nd rfl (by first | exact Or.inl rfl | exact Or.inr rfl) (pe_op op_add (pe_op op_mul (pe_op op_mul pe_int (pv 2)) (pv 2)) (pe_op op_mul pe_int (pv 2))))
  (pss_cons (ps_if (pt_cmpR op_gt (pe_callB call_len (by rfl) B.b_len (by decide +kernel) (pa_cons (pv 0) pa_nil)) pe_int (nomark _))
   (pss_cons (ps_par (i := 4) (j := 5) (by rfl) sc_law_cell.nd rfl rfl (by decide) rfl rfl (pa_cons (pe_op op_mod (pv 2) (pe_callB call_len (by rfl) B.b_len (by decide +kernel) (pa_cons (pv 0) pa_nil))) (pa_cons (pe_op op_fdiv (pv 2) (pe_callB call_len (by rfl) B.b_len (by decide +kernel) (pa_cons (pv 0) pa_nil))) pa_nil)) (by rfl))
  (pss_cons (ps_if (PW.pt (pw_and (pt_cmpR op_ge (pe_ix ix_list (pv 0) (pv 4) (fun _ _ => rfl)) (pe_op op_pow pe_int pe_int) (nomark _)) (pw_and1 (pt_cmpR op_lt (pv 5) pe_int (nomark _)))))
   (pss_cons (ps_set (i := 6) sc_law_cell.nd rfl (by first | exact Or.inl rfl | exact Or.inr rfl) (pe_ix ix_list (pv 0) (pv 4) (fun _ _ => rfl)))
  (pss_cons (ps_for PassesOwn.never rfl (pi_range1 (by rfl) B.b_range (pa_cons (pv 5) pa_nil)) (pg_name (i := 7) sc_law_cell.nd rfl (by first | exact Or.inl rfl | exact Or.inr rfl))
   (pss_one (ps_set (i := 6) sc_law_cell.nd rfl (by first | exact Or.inl rfl | exact Or.inr rfl) (pe_op op_fdiv (pv 6) pe_int))))
  (pss_one (ps_if (pt_cmpR op_gt (pv 6) pe_int (nomark _))
   (pss_one (ps_ret (pe_op op_mod (pv 6) pe_int)))
   pss_nil))))
   pss_nil)
  (pss_one (ps_set (i := 3) sc_law_cell.nd rfl (by first | exact Or.inl rfl | exact Or.inr rfl) (pe_op op_add (pv 3) (pe_op op_mul (pe_op op_mod (pe_ix ix_list (pv 0) (pv 4) (fun _ _ => rfl)) pe_int) (pe_op op_add pe_int (pv 5))))))))
   pss_nil)
  (pss_one (ps_ret (pe_op op_fdiv (pe_op op_mod (pe_op op_pow (pe_op op_mod (pv 3) pe_int) pe_int) pe_int) pe_int))))))), ?_⟩
  walk_at "rd"
  have hs1 : Scr K (upd H sp (.lst [.int (k + 1)])) c ns := hs.put hp
  refine ⟨sp, _, 0, _, rfl, rfl, SqL.of hp, rfl, ?_⟩
  walk_at "rd"
  refine ⟨_, hp, 0, rfl, .inl (by omega), .inr (by omega), .inl (by decide), _, .inl ⟨_, hs1.sq, rfl⟩, ?_⟩
  split
  · rename_i hl
    have hL : ((ns.map V.int).length : Int) < 64 := by rw [List.length_map]; omega
    have hm0 := Int.emod_nonneg k (show ((ns.map V.int).length : Int) ≠ 0 by omega)
    have hm1 := Int.emod_lt_of_pos k hl
    obtain ⟨x, hx⟩ := at_ints hm0 hm1
    have hd0 : 0 ≤ k / ((ns.map V.int).length : Int) := Int.ediv_nonneg h0 (by omega)
    have hd1 : k / ((ns.map V.int).length : Int) ≤ k := Int.ediv_le_self _ h0
    refine ⟨_, .inl ⟨_, hs1.sq, rfl⟩, hl, _, .inl ⟨_, hs1.sq, rfl⟩, ⟨hl, by omega⟩, ?_⟩
    have last : ∀ b : Int, CMul (x % 2147483629) (1 + k / ((ns.map V.int).length : Int)) ∧ (0 : Int) < 2147483647 ∧ CPow (b % 2147483647) 5 ∧ (0 : Int) < 2147483647 ∧ CDiv ((b % 2147483647) ^ Int.toNat 5 % 2147483647) 7 ∧ Q (V.int ((b % 2147483647) ^ Int.toNat 5 % 2147483647 / 7)) (upd H sp (HO.lst [V.int (k + 1)])) := fun b => by
      have a1 := Int.emod_nonneg x (show (2147483629 : Int) ≠ 0 by decide)
      have a2 := Int.emod_lt_of_pos x (show (0 : Int) < 2147483629 by decide)
      exact ⟨.inl (by omega), by decide, cell_pow _, by decide, ⟨by decide, by decide⟩, q _ (cell_end _).1 (cell_end _).2⟩
    refine ⟨c, _, _, _, rfl, rfl, hs1.sq, hx, ⟨by decide, by decide, by decide⟩, ?_⟩
    walk_at "rd"
    split
    · split
      · refine ⟨c, _, _, _, rfl, rfl, hs1.sq, hx, by omega, by omega, ?_⟩
        refine fo_it walk_range (fun i σ' H' => H' = upd H sp (.lst [.int (k + 1)]) ∧ ∃ (r : Int) (j : Option V), σ' = [some (V.ref c), some (V.ref sp), some (V.int k), some (V.int (31 * k * k + 7919 * k)), some (V.int (k % ((ns.map V.int).length : Int))), some (V.int (k / ((ns.map V.int).length : Int))), some (V.int r), j]) ⟨rfl, x, none, rfl⟩ (fun _ _ _ _ _ => trivial) ?_ ?_
        · rintro i y σ' H' H'' hi ⟨rfl, r, j, rfl⟩ ⟨rfl, rfl⟩
          walk_at "rd"
          exact ⟨by decide, by decide⟩
        · rintro σ' H' ⟨rfl, r, j, rfl⟩
          walk_at "rd"
          split
          · refine ⟨by decide, q _ (Int.emod_nonneg _ (by decide)) (Int.emod_lt_of_pos _ (by decide))⟩
          · refine ⟨c, _, _, _, rfl, rfl, hs1.sq, hx, ?_⟩
            walk_at "rd"
            exact ⟨by decide, last _⟩
      · refine ⟨c, _, _, _, rfl, rfl, hs1.sq, hx, ?_⟩
        walk_at "rd"
        exact ⟨by decide, last _⟩
    · refine ⟨c, _, _, _, rfl, rfl, hs1.sq, hx, ?_⟩
      walk_at "rd"
      exact ⟨by decide, last _⟩
  · exact ⟨by decide, cell_pow _, by decide, ⟨by decide, by decide⟩, q _ (cell_end _).1 (cell_end _).2⟩
end

/-! ### _law_leaf -/
def AsciiS (s : Str) : Prop := ∀ c ∈ s.cps.toList, c < 128
def leafD : PyData → Prop
  | .none => True
  | .bool _ => True
  | .int i => -10 ^ 30 ≤ i ∧ i ≤ 10 ^ 30
  | .str s => s.length ≤ 60 ∧ AsciiS s
  | _ => False
def LeafV (v : V) : Prop := ∃ d, leafD d ∧ ∀ G, Rp G 1 v d
def sp_leaf : Sp := fun vs H Q _ => ∃ n : Int, vs = [.int n] ∧ 0 ≤ n ∧ n < 2 ^ 60 ∧ ∀ v H', LeafV v → Same H H' → Q v H'
abbrev s_law_leaf : Stmt := top 5
theorem sc_law_leaf : FnScope ["_law_n", "_law_m"] ["_law_n"] (defScope s_law_leaf) := ⟨rfl, rfl, rfl, by decide +kernel, rfl, by decide +kernel, by decide +kernel⟩
theorem tilde_ok (n : Int) : MulOk (Str.ofString "~") (n % 61) := by
  have h := mod_in n (m := 61) (by decide)
  exact mul_ok (by decide +kernel) (by omega) (by omega)
theorem tilde_leaf (n : Int) : LeafV (.str (Txt.mul (Str.ofString "~") (n % 61))) := by
  have h := mod_in n (m := 61) (by decide)
  refine ⟨.str (Txt.mul (Str.ofString "~") (n % 61)), ?_, fun _ => rfl⟩
  have h2 : ∀ k : Fin 61, (Txt.mul (Str.ofString "~") ((k.1 : Nat) : Int)).length ≤ 60 ∧ ∀ c ∈ (Txt.mul (Str.ofString "~") ((k.1 : Nat) : Int)).cps.toList, c < 128 := by decide +kernel
  have h3 := h2 ⟨(n % 61).toNat, by omega⟩
  have e : (((n % 61).toNat : Nat) : Int) = n % 61 := by omega
  simp only [e] at h3
  exact h3
theorem leaf_str (x : Str) (h : x.length ≤ 60) (h2 : ∀ c ∈ x.cps.toList, c < 128) : LeafV (.str x) := ⟨.str x, ⟨h, h2⟩, fun _ => rfl⟩
theorem leaf_int (i : Int) (h : -10 ^ 30 ≤ i ∧ i ≤ 10 ^ 30) : LeafV (.int i) := ⟨.int i, h, fun _ => rfl⟩
theorem leaf_bl (b : Bool) : LeafV (.bl b) := ⟨.bool b, trivial, fun _ => rfl⟩
theorem leaf_non : LeafV .non := ⟨.none, trivial, fun _ => rfl⟩
section
variable {P : Program} {w : World} {K : PySem.W.Frag} {mg : Str → Option Value} {base : Heap} {f : Addr} {fd : FuncData}
theorem ok_leaf (D : Def K mg "_law_leaf" s_law_leaf f fd) (B : Blt mg) : FnOk P w K mg base CX0 1 f fd ["_law_n"] sp_leaf := by
  refine D.1.ok sc_law_leaf (fun vs H Q E h => ?_) (fun cdv A outer s H vs Q E hr h => ?_)
  · obtain ⟨n, rfl, _⟩ := h
    rfl
  obtain ⟨n, rfl, h0, h1, q⟩ := h
  refine ⟨_, (pss_cons (ps_set (i := 1) sc_law_leaf.nd rfl (by first | exact Or.inl rfl | exact Or.inr rfl) (pe_op op_fdiv (pv 0) pe_int))
  (pss_cons (ps_if (pt_cmpR op_eq (pe_op op_mod (pv 0) pe_int) pe_int (nomark _))
   (pss_one (ps_ret (pe_ix ix_list (pe_lst (pa_cons pe_int (pa_cons pe_int (pa_cons (pe_op op_mod (pv 1) pe_int) (pa_cons (pe_un un_neg (pv 1)) (pa_cons (pe_op op_sub (pe_op op_pow pe_int pe_int) (pe_op op_mod (pv 1) pe_int)) (pa_cons (pe_un un_neg (pe_op op_pow pe_int pe_int)) pa_nil))))))) (pe_op op_mod (pv 1) pe_int) (fun _ _ => rfl))))
   pss_nil)
  (pss_cons (ps_if (pt_cmpR op_eq (pe_op op_mod (pv 0) pe_int) pe_int (nomark _))
   (pss_one (ps_ret (pe_ix ix_list (pe_lst (pa_cons pe_str (pa_cons pe_str (pa_cons pe_str (pa_cons pe_str (pa_cons pe_str (pa_cons (pe_op op_mul_str pe_str (pe_op op_mod (pv 1) pe_int)) pa_nil))))))) (pe_op op_mod (pv 1) pe_int) (fun _ _ => rfl))))
   pss_nil)
  (pss_one (ps_ret (pe_ix ix_list (pe_lst (pa_cons pe_non (pa_cons pe_bl (pa_cons pe_bl pa_nil)))) (pe_op op_mod (pv 0) pe_int) (fun _ _ => rfl))))))), ?_⟩
  walk_at "rd"
  have m5 := mod_in n (m := 5) (by decide)
  have m6 := mod_in (n / 5) (m := 6) (by decide)
  have m10 := mod_in (n / 5) (m := 10) (by decide)
  have m9 := mod_in (n / 5) (m := 9) (by decide)
  refine ⟨⟨by decide, by decide⟩, by decide, rfl, ?_⟩
  split
  · refine ⟨by decide, ⟨by decide, by decide, by decide⟩, by decide, ⟨by decide, by decide, by decide⟩, by decide, fun p np => ⟨by decide, ?_⟩⟩
    refine ix_any upd_same m6.1 m6.2 fun v hv => q v _ ?_ (same_new np _)
    simp only [List.mem_cons, List.not_mem_nil, or_false] at hv
    have e30 : (10 : Int) ^ Int.toNat 30 = 10 ^ 30 := by decide
    rcases hv with rfl | rfl | rfl | rfl | rfl | rfl <;> refine leaf_int _ ?_ <;> first | decide | omega | (rw [e30]; omega)
  · refine ⟨by decide, rfl, ?_⟩
    split
    · refine ⟨by decide, tilde_ok _, by decide, fun p np => ⟨by decide, ?_⟩⟩
      refine ix_any upd_same m6.1 m6.2 fun v hv => q v _ ?_ (same_new np _)
      simp only [List.mem_cons, List.not_mem_nil, or_false] at hv
      rcases hv with rfl | rfl | rfl | rfl | rfl | rfl
      · exact leaf_str _ (by decide +kernel) (by decide +kernel)
      · exact leaf_str _ (by decide +kernel) (by decide +kernel)
      · exact leaf_str _ (by decide +kernel) (by decide +kernel)
      · exact leaf_str _ (by decide +kernel) (by decide +kernel)
      · exact leaf_str _ (by decide +kernel) (by decide +kernel)
      · exact tilde_leaf _
    · refine ⟨by decide, fun p np => ⟨by decide, ?_⟩⟩
      refine ix_any upd_same m5.1 (by simp; omega) fun v hv => q v _ ?_ (same_new np _)
      simp only [List.mem_cons, List.not_mem_nil, or_false] at hv
      rcases hv with rfl | rfl | rfl
      · exact leaf_non
      · exact leaf_bl _
      · exact leaf_bl _
end

/-! ### _law_names -/
def NameOk (x : Str) : Prop := x.length ≤ 60 ∧ AsciiS x
def stock9 : List Str := ["a", "b", "c", "x y", "1a", "_", "A_1", "", Txt.mul "q" 60]
theorem stock9_nd : stock9.Nodup := by decide +kernel
theorem stock9_ok : ∀ x ∈ stock9, NameOk x := by
  have h : ∀ x ∈ stock9, x.length ≤ 60 ∧ ∀ c ∈ x.cps.toList, c < 128 := by decide +kernel
  exact h
def sp_names : Sp := fun vs H Q _ => ∃ n : Int, vs = [.int n] ∧ 0 ≤ n ∧ ∀ (r : Addr) (H' : Hp) (xs : List Str), H r = none → Same H H' → H' r = some (.lst (xs.map V.str)) → xs.Nodup → xs.length ≤ 4 → (∀ x ∈ xs, NameOk x) → Q (.ref r) H'
abbrev s_law_names : Stmt := top 6
theorem sc_law_names : FnScope ["_law_n", "_law_stock", "_law_found", "_law_k"] ["_law_n"] (defScope s_law_names) := ⟨rfl, rfl, rfl, by decide +kernel, rfl, by decide +kernel, by decide +kernel⟩
section
variable {P : Program} {w : World} {K : PySem.W.Frag} {mg : Str → Option Value} {base : Heap} {f : Addr} {fd : FuncData}
theorem ok_names (D : Def K mg "_law_names" s_law_names f fd) (B : Blt mg) : FnOk P w K mg base CX0 1 f fd ["_law_n"] sp_names := by
  refine D.1.ok sc_law_names (fun vs H Q E h => ?_) (fun cdv A outer s H vs Q E hr h => ?_)
  · obtain ⟨n, rfl, _⟩ := h
    rfl
  obtain ⟨n, rfl, h0, q⟩ := h
  refine ⟨_, (pss_cons (ps_par (i := 1) (j := 2) (by rfl) sc_law_names.nd rfl rfl (by decide) rfl rfl (pa_cons (pe_lst (pa_cons pe_str (pa_cons pe_str (pa_cons pe_str (pa_cons pe_str (pa_cons pe_str (pa_cons pe_str (pa_cons pe_str (pa_cons pe_str (pa_cons (pe_op op_mul_str pe_str pe_int) pa_nil)))))))))) (pa_cons (pe_lst pa_nil) pa_nil)) (by rfl))
  (pss_cons (ps_for PassesOwn.never rfl (pi_range1 (by rfl) B.b_range (pa_cons (pe_op op_mod (pv 0) pe_int) pa_nil)) (pg_name (i := 3) sc_law_names.nd rfl (by first | exact Or.inl rfl | exact Or.inr rfl))
   (pss_cons (ps_set (i := 0) sc_law_names.nd rfl (by first | exact Or.inl rfl | exact Or.inr rfl) (pe_op op_add (pe_op op_add (pe_op op_fdiv (pv 0) pe_int) (pe_op op_mul pe_int (pv 0))) (pv 3)))
  (pss_one (ps_expr (pe_bm PySem.F.plainAttrs_list PySem.F.slot_list_append PySem.F.type_list_append mt_append (pv 2) (pa_cons (pe_bm PySem.F.plainAttrs_list PySem.F.slot_list_pop PySem.F.type_list_pop mt_popAt (pv 1) (pa_cons (pe_op op_mod (pv 0) (pe_callB call_len (by rfl) B.b_len (by decide +kernel) (pa_cons (pv 1) pa_nil))) pa_nil)) pa_nil))))))
  (pss_one (ps_ret (pv 2))))), ?_⟩
  walk_at "rd"
  have m5 := mod_in n (m := 5) (by decide)
  refine ⟨mul_ok (by decide +kernel) (by decide) (by decide), by decide, fun p np => ⟨by decide, fun r nr => ⟨by decide, by omega, by omega, ?_⟩⟩⟩
  have npr : p ≠ r := fun z => by subst z; rw [upd_same] at nr; cases nr
  have nr0 : H r = none := by rw [upd_ne npr.symm] at nr; exact nr
  refine fo_it walk_range (fun i σ' H' => Same H H' ∧ ∃ (m : Int) (st fo : List Str) (kv : Option V), 0 ≤ m ∧ σ' = [some (.int m), some (.ref p), some (.ref r), kv] ∧ H' p = some (.lst (st.map V.str)) ∧ H' r = some (.lst (fo.map V.str)) ∧ (fo ++ st).Perm stock9 ∧ fo.length = i)
    ⟨(same_new np _).trans (same_new nr _), n, stock9, [], none, h0, rfl, by rw [upd_ne npr, upd_same]; rfl, by rw [upd_same]; rfl, .refl _, rfl⟩ (fun _ _ _ _ _ => trivial) ?_ ?_
  · rintro i y σ' H1 H2 hi ⟨s1, m, st, fo, kv, hm, rfl, e1, e2, hpm, hf⟩ ⟨rfl, rfl⟩
    have hlen := hpm.length_eq
    rw [List.length_append, show stock9.length = 9 from rfl] at hlen
    walk_at "rd"
    refine ⟨⟨by decide, by decide⟩, .inl (by decide), .inl ⟨rfl, _, SqL.of e2⟩, .inl ⟨rfl, _, SqL.of e1⟩, _, .inl ⟨_, SqL.of e1, rfl⟩, by simp; omega, ?_⟩
    have hx := mod_in (m / 3 + 7 * m + (0 + (i : Int))) (m := ((st.map V.str).length : Int)) (by simp; omega)
    have hy : 0 ≤ m / 3 + 7 * m + (0 + (i : Int)) := by omega
    generalize (m / 3 + 7 * m + (0 + (i : Int))) % ((st.map V.str).length : Int) = u at hx ⊢
    obtain ⟨j, rfl⟩ : ∃ j : Nat, u = j := ⟨u.toNat, by omega⟩
    have hj : j < st.length := by have := hx.2; simp at this; exact this
    refine ⟨p, _, _, j, .str st[j], rfl, rfl, e1, by omega, by omega, seqIx (by simpa using hj), by rw [List.getElem?_map, List.getElem?_eq_getElem hj]; rfl, ?_⟩
    refine ⟨r, _, _, rfl, rfl, (by rw [upd_ne npr.symm]; exact e2), sz5l (by simp; omega), ?_⟩
    refine ⟨same_mut (same_mut s1 np) nr0, _, hy, rfl, st.eraseIdx j, by rw [upd_ne npr, upd_same, erase_map], fo ++ [st[j]], by rw [upd_same]; simp, ?_, by simp [hf]⟩
    have hp1 := erase_perm st j st[j] (List.getElem?_eq_getElem hj)
    rw [List.append_assoc]
    exact (hp1.append_left fo).trans hpm
  · rintro σ' H1 ⟨s1, m, st, fo, kv, hm, rfl, e1, e2, hpm, hf⟩
    walk_at "rd"
    have hnd := hpm.nodup_iff.mpr stock9_nd
    exact q r H1 fo nr0 s1 e2 (List.nodup_append.mp hnd).1 (by omega) fun x hx => stock9_ok x (hpm.mem_iff.mp (List.mem_append_left _ hx))
end

/-! ### _law_tree -/
def docD : Nat → PyData → Prop
  | 0, _ => False
  | n + 1, .list ds => ds.length ≤ 10 ∧ ∀ d ∈ ds, docD n d
  | n + 1, .dict es => es.length ≤ 10 ∧ ∀ e ∈ es, (∃ x, e.1 = .str x ∧ NameOk x) ∧ docD n e.2
  | _ + 1, d => leafD d
theorem docD.leaf {d : PyData} (h : leafD d) (n : Nat) : docD (n + 1) d := by
  cases d <;> first | exact h | exact h.elim
def sp_tree (K : PySem.W.Frag) (n : Nat) : Sp := fun vs H Q _ => ∃ c sp lf ns k z deep, vs = [.ref c, .ref sp, .int deep, .ref lf] ∧ Scr K H c ns ∧ ns.length ≤ 63 ∧ H sp = some (.lst [.int k]) ∧ 0 ≤ k ∧ k + 5 ^ n < 2 ^ 60 ∧ H lf = some (.lst [.int z]) ∧ sp ≠ lf ∧ deep ≤ (n : Int) ∧ 1 ≤ n ∧
  ∀ v d H' k' z', Keep [sp, lf] H H' → H' sp = some (.lst [.int k']) → k ≤ k' → k' ≤ k + 5 ^ n → H' lf = some (.lst [.int z']) → Rp (news H H') n v d → docD n d → Q v H'
theorem nd_inr {xs : List Str} (h : xs.Nodup) : (xs.map (Sum.inr : Str → Key)).Nodup := by
  induction xs with
  | nil => exact List.nodup_nil
  | cons x r ih =>
    rw [List.nodup_cons] at h
    rw [List.map_cons, List.nodup_cons]
    refine ⟨fun hm => ?_, ih h.2⟩
    obtain ⟨y, hy, e⟩ := List.mem_map.mp hm
    cases e
    exact h.1 hy
/-- between two turns: the counters, all else as it was in Hx but at D -/
structure TrI (sp lf D : Addr) (Hx : Hp) (k P : Int) (i : Nat) (H' : Hp) : Prop where
  kp : Keep [sp, lf, D] Hx H'
  ct : ∃ k' z', H' sp = some (.lst [.int k']) ∧ k ≤ k' ∧ k' ≤ k + i * P ∧ H' lf = some (.lst [.int z'])
structure TrL (sp lf D : Addr) (Hx : Hp) (k P : Int) (n i : Nat) (H' : Hp) : Prop extends TrI sp lf D Hx k P i H' where
  li : ∃ vs ds, H' D = some (.lst vs) ∧ vs.length = i ∧ Paired (Rp (news Hx H') n) vs ds ∧ ∀ d ∈ ds, docD n d
structure TrD (sp lf D : Addr) (Hx : Hp) (k P : Int) (n i : Nat) (xs : List Str) (H' : Hp) : Prop extends TrI sp lf D Hx k P i H' where
  li : ∃ kvs es, H' D = some (.dK kvs) ∧ kvs.map (·.1) = (xs.take i).map Sum.inr ∧ Paired (fun (p : Key × V) (q : PyData × PyData) => q.1 = kD p.1 ∧ Rp (news Hx H') n p.2 q.2) kvs es ∧ ∀ e ∈ es, (∃ x, e.1 = .str x ∧ NameOk x) ∧ docD n e.2
abbrev s_law_tree : Stmt := top 7
theorem sc_law_tree : FnScope ["_law_cells", "_law_spot", "_law_deep", "_law_left", "_law_n", "_law_found", "_law_label", "_law_k"] ["_law_cells", "_law_spot", "_law_deep", "_law_left"] (defScope s_law_tree) := ⟨rfl, rfl, rfl, by decide +kernel, rfl, by decide +kernel, by decide +kernel⟩
section
variable {P : Program} {w : World} {K : PySem.W.Frag} {mg : Str → Option Value} {base : Heap} {f : Addr} {fd : FuncData}
theorem ok_tree {n : Nat} (D : Def K mg "_law_tree" s_law_tree f fd) (B : Blt mg) (R_law_cell : Rdy P w K mg base 1 "_law_cell" ["_law_cells", "_law_spot"] (sp_cell K)) (R_law_leaf : Rdy P w K mg base 1 "_law_leaf" ["_law_n"] sp_leaf) (R_law_names : Rdy P w K mg base 1 "_law_names" ["_law_n"] sp_names)
    (R_law_tree : Rdy P w K mg base (n + 1) "_law_tree" ["_law_cells", "_law_spot", "_law_deep", "_law_left"] (sp_tree K n)) : FnOk P w K mg base CX0 (n + 2) f fd ["_law_cells", "_law_spot", "_law_deep", "_law_left"] (sp_tree K (n + 1)) := by
  refine D.1.ok sc_law_tree (fun vs H Q E h => ?_) (fun cdv A outer s H vs Q E hr h => ?_)
  · obtain ⟨c, sp, lf, ns, k, z, deep, rfl, _⟩ := h
    rfl
  obtain ⟨c, sp, lf, ns, k, z, deep, rfl, hs, h63, hp, h0, h1, hl, hne, hdp, _, q⟩ := h
  have hu := hu_of hr
  have hr1 : Room 1 _ := hr.mono (by omega)
  refine ⟨_, (pss_cons (ps_set (i := 4) sc_law_tree.nd rfl (by first | exact Or.inl rfl | exact Or.inr rfl) (pe_c R_law_cell hr1 rfl (pa_cons (pv 0) (pa_cons (pv 1) pa_nil))))
  (pss_cons (ps_asg (pe_op op_sub (pe_ix ix_list (pv 3) pe_int (fun _ _ => rfl)) pe_int) (pg_sub (pv 3) pe_int set_list))
  (pss_cons (ps_if (PW.pt (pw_or (pt_cmpR op_lt (pv 2) pe_int (nomark _)) (pw_or (pt_cmpR op_lt (pe_ix ix_list (pv 3) pe_int (fun _ _ => rfl)) pe_int (nomark _)) (pw_or1 (pt_cmpR op_lt (pe_op op_mod (pv 4) pe_int) pe_int (nomark _))))))
   (pss_one (ps_ret (pe_c R_law_leaf hr1 rfl (pa_cons (pe_op op_fdiv (pv 4) pe_int) pa_nil))))
   pss_nil)
  (pss_cons (ps_if (pt_cmpR op_lt (pe_op op_mod (pv 4) pe_int) pe_int (nomark _))
   (pss_one (ps_ret (pe_lc (own := [("_law_k", 7)]) (by rfl) sc_law_tree.nd (pi_range1 (by rfl) B.b_range (pa_cons (pe_op op_mod (pe_op op_fdiv (pv 4) pe_int) pe_int) pa_nil)) (blkOk_by (own := [("_law_k", 7)]) (N := ["_law_cells", "_law_spot", "_law_deep", "_law_left", "_law_n", "_law_found", "_law_label", "_law_k"]) (sc := defScope s_law_tree) (by decide +kernel)) (fun _ _ _ _ _ => (pg_name (i := 7) sc_law_tree.nd rfl (by first | exact Or.inl rfl | exact Or.inr rfl))) (fun _ _ _ _ _ => pts_nil) (fun _ _ _ _ _ => (pe_c R_law_tree hr rfl (pa_cons (pv 0) (pa_cons (pv 1) (pa_cons (pe_op op_sub (pv 2) pe_int) (pa_cons (pv 3) pa_nil)))))))))
   pss_nil)
  (pss_cons (ps_set (i := 5) sc_law_tree.nd rfl (by first | exact Or.inl rfl | exact Or.inr rfl) pe_dnewK)
  (pss_cons (ps_for PassesOwn.never rfl (pi_list (pe_c R_law_names hr1 rfl (pa_cons (pe_op op_fdiv (pv 4) pe_int) pa_nil))) (pg_name (i := 6) sc_law_tree.nd rfl (by first | exact Or.inl rfl | exact Or.inr rfl))
   (pss_one (ps_dput hu (pv 5) (pv 6) (pe_c R_law_tree hr rfl (pa_cons (pv 0) (pa_cons (pv 1) (pa_cons (pe_op op_sub (pv 2) pe_int) (pa_cons (pv 3) pa_nil))))) rfl)))
  (pss_one (ps_ret (pv 5))))))))), ?_⟩
  walk_at "rd"
  have h5 : (5 : Int) ^ (n + 1) = 5 ^ n * 5 := Int.pow_succ _ _
  have hP : (1 : Int) ≤ 5 ^ n := Int.pow_pos (by decide)
  refine ⟨c, sp, ns, k, rfl, hs, h63, hp, h0, by omega, fun m m0 m1 => ?_⟩
  have hl1 : (upd H sp (.lst [.int (k + 1)])) lf = some (.lst [.int z]) := by rw [upd_ne hne.symm]; exact hl
  refine ⟨lf, _, 0, _, rfl, rfl, SqL.of hl1, rfl, ?_⟩
  walk_at "rd"
  refine ⟨_, hl1, 0, rfl, ?_⟩
  walk_at "rd"
  obtain ⟨H2, eH2⟩ : ∃ H2, H2 = upd (upd H sp (.lst [.int (k + 1)])) lf (.lst [.int (z - 1)]) := ⟨_, rfl⟩
  rw [← eH2]
  have K2 : Keep [sp, lf] H H2 := by rw [eH2]; exact ((Keep.refl _ H).mut (by simp)).mut (by simp)
  have esp : H2 sp = some (.lst [.int (k + 1)]) := by rw [eH2, upd_ne hne, upd_same]
  have elf : H2 lf = some (.lst [.int (z - 1)]) := by rw [eH2, upd_same]
  have hs2 : Scr K H2 c ns := by rw [eH2]; exact (hs.put hp).put hl1
  clear eH2
  have leaf : sp_leaf [V.int (m / 9)] H2 Q E0 := ⟨m / 9, rfl, by omega, by omega, fun v H' ⟨d, hd, hv⟩ s => q v d H' (k + 1) (z - 1) (K2.trans (.of s)) (s _ _ esp) (by omega) (by omega) (s _ _ elf) ((hv _).up (by omega)) (docD.leaf hd n)⟩
  have inS : ∀ b ∈ [sp, lf], ∃ xs, H2 b = some (.lst xs) := fun b hb => by
    simp only [List.mem_cons, List.not_mem_nil, or_false] at hb
    rcases hb with rfl | rfl
    · exact ⟨_, esp⟩
    · exact ⟨_, elf⟩
  split
  · exact ⟨⟨by decide, by decide⟩, leaf⟩
  rename_i hdeep
  refine ⟨lf, _, 0, _, rfl, rfl, SqL.of elf, rfl, ?_⟩
  walk_at "rd"
  split
  · exact ⟨⟨by decide, by decide⟩, leaf⟩
  refine ⟨by decide, ?_⟩
  split
  · exact ⟨⟨by decide, by decide⟩, leaf⟩
  refine ⟨by decide, ?_⟩
  split
  · -- a list
    have m4 := mod_in (m / 9) (m := 4) (by decide)
    refine ⟨⟨by decide, by decide⟩, by decide, by omega, by omega, ?_⟩
    have hr4 : (m / 9 % 4).toNat ≤ 4 := by omega
    generalize (m / 9 % 4).toNat = r at hr4 ⊢
    refine lc_itR walk_range (fun D i H' => TrL sp lf D (upd H2 D (.lst [])) (k + 1) (5 ^ n) n i H')
      (fun D hD => ⟨⟨Keep.refl _ _, k + 1, z - 1, by rw [upd_ne (ne_of_none esp hD)]; exact esp, by omega, by omega, by rw [upd_ne (ne_of_none elf hD)]; exact elf⟩, [], [], upd_same, rfl, .nil, by simp⟩) (fun _ _ _ _ _ _ => trivial) ?_ ?_
    · rintro D i x H0 H' hD hi ⟨⟨K', k', z', e1, l1, l2, e2⟩, vs, ds, e3, hlen, hpd, hdd⟩ ⟨rfl, rfl⟩
      have hiP : (i : Int) * 5 ^ n ≤ 3 * 5 ^ n := Int.mul_le_mul_of_nonneg_right (by omega) (by omega)
      have hi1 : ((i + 1 : Nat) : Int) * 5 ^ n = i * 5 ^ n + 5 ^ n := by rw [Int.natCast_add, Int.add_mul]; simp
      have nsp : D ≠ sp := fun z => by rw [z, esp] at hD; cases hD
      have nlf : D ≠ lf := fun z => by rw [z, elf] at hD; cases hD
      have hx : ∀ a ∈ [sp, lf, D], (upd H2 D (.lst [])) a ≠ none := by simp [upd_same, upd_ne nsp.symm, upd_ne nlf.symm, esp, elf]
      have hx' : ∀ a ∈ [sp, lf, D], H' a ≠ none := by simp [e1, e2, e3]
      walk_at "rd"
      refine ⟨c, sp, lf, ns, k', z', deep - 1, rfl, (hs2.same (same_new hD _)).keep K' (by simp [upd_same, upd_ne nsp.symm, upd_ne nlf.symm, esp, elf]), h63, e1, by omega, by omega, e2, hne, by omega, by omega, fun v d H4 k4 z4 K4 s4 a4 b4 f4 r4 d4 => ?_⟩
      have K4' : Keep [sp, lf, D] H' H4 := K4.sub (by simp)
      have g := grow (o := .lst (vs ++ [v])) K' K4' hx hx' (D := D) (by simp)
      refine ⟨vs, K4 _ _ e3 (by simp [nsp, nlf]), sz5l (by omega), ?_⟩
      refine ⟨⟨(K'.trans K4').mut (by simp), k4, z4, by rw [upd_ne nsp.symm]; exact s4, by omega, by omega, by rw [upd_ne nlf.symm]; exact f4⟩, vs ++ [v], ds ++ [d], upd_same, by simp [hlen], pd_app (pd_imp hpd fun _ _ _ _ r => r.imp g.1) (.cons (r4.imp g.2) .nil), ?_⟩
      intro e he
      rcases List.mem_append.mp he with he | he
      · exact hdd e he
      · simp at he; subst he; exact d4
    · rintro D H' hD ⟨⟨K', k', z', e1, l1, l2, e2⟩, vs, ds, e3, hlen, hpd, hdd⟩
      have hiP : (r : Int) * 5 ^ n ≤ 4 * 5 ^ n := Int.mul_le_mul_of_nonneg_right (by omega) (by omega)
      have nsp : D ≠ sp := fun z => by rw [z, esp] at hD; cases hD
      have nlf : D ≠ lf := fun z => by rw [z, elf] at hD; cases hD
      have hDH : H D = none := K2.free hD (by simp [nsp, nlf])
      have hnew : Same (news (upd H2 D (.lst [])) H') (news H H') := news_more (K2.new hD) (by simp [upd_ne nsp.symm, upd_ne nlf.symm, esp, elf])
      refine q (.ref D) (.list ds) H' k' z' (fun b o e hb => ?_) e1 (by omega) (by omega) e2 ⟨D, vs, rfl, by rw [news_at hDH]; exact e3, by omega, pd_imp hpd fun _ _ _ _ r => r.imp hnew⟩ ⟨by rw [← pd_len hpd]; omega, hdd⟩
      have hbD : b ≠ D := ne_of_none e hDH
      simp only [List.mem_cons, List.not_mem_nil, or_false, not_or] at hb
      refine K' b o ?_ (by simp [hb, hbD])
      rw [upd_ne hbD]
      exact K2 b o e (by simp [hb])
  · -- a dict
    intro p hp2
    refine ⟨⟨by decide, by decide⟩, m / 9, rfl, by omega, fun a Hx xs na sx ea hnd hl4 hnm => ⟨a, rfl, ⟨_, SqL.of ea⟩, ?_⟩⟩
    have nsp : p ≠ sp := fun z => by rw [z, esp] at hp2; cases hp2
    have nlf : p ≠ lf := fun z => by rw [z, elf] at hp2; cases hp2
    have hpH : H p = none := K2.free hp2 (by simp [nsp, nlf])
    have s2 : Same H2 Hx := (same_new hp2 _).trans sx
    have exp : Hx p = some (.dK []) := sx _ _ upd_same
    have exs := s2 _ _ esp
    have exl := s2 _ _ elf
    have hx : ∀ a ∈ [sp, lf, p], Hx a ≠ none := by simp [exp, exs, exl]
    have nap : a ∉ [sp, lf, p] := by
      have h1 : a ≠ sp := fun z => by subst z; rw [upd_ne nsp.symm, esp] at na; cases na
      have h2 : a ≠ lf := fun z => by subst z; rw [upd_ne nlf.symm, elf] at na; cases na
      have h3 : a ≠ p := fun z => by subst z; rw [upd_same] at na; cases na
      simp [h1, h2, h3]
    refine fo_it walk_list (fun i σ' H' => TrD sp lf p Hx (k + 1) (5 ^ n) n i xs H' ∧ ∃ lv, σ' = [some (V.ref c), some (V.ref sp), some (V.int deep), some (V.ref lf), some (V.int m), some (V.ref p), lv, none])
      ⟨⟨⟨Keep.refl _ _, k + 1, z - 1, exs, by omega, by omega, exl⟩, [], [], exp, by simp, .nil, by simp⟩, none, rfl⟩ (fun i σ' H' _ h => SqL.of (h.1.kp _ _ ea nap)) ?_ ?_
    · rintro i x σ' H0 H' hi ⟨⟨⟨K', k', z', e1, l1, l2, e2⟩, kvs, es, e3, hkeys, hpd, hdd⟩, lv, rfl⟩ ⟨rfl, hxi⟩
      rw [List.length_map] at hi
      rw [List.getElem?_map, List.getElem?_eq_getElem hi] at hxi
      cases hxi
      have hiP : (i : Int) * 5 ^ n ≤ 3 * 5 ^ n := Int.mul_le_mul_of_nonneg_right (by omega) (by omega)
      have hi1 : ((i + 1 : Nat) : Int) * 5 ^ n = i * 5 ^ n + 5 ^ n := by rw [Int.natCast_add, Int.add_mul]; simp
      have hx' : ∀ a ∈ [sp, lf, p], H' a ≠ none := by simp [e1, e2, e3]
      have hkl : kvs.length = i := by
        have := congrArg List.length hkeys
        simp at this
        omega
      walk_at "rd"
      refine ⟨c, sp, lf, ns, k', z', deep - 1, rfl, (hs2.same s2).keep K' (by simp [exp, exs, exl]), h63, e1, by omega, by omega, e2, hne, by omega, by omega, fun v d H4 k4 z4 K4 s4 a4 b4 f4 r4 d4 => ?_⟩
      have K4' : Keep [sp, lf, p] H' H4 := K4.sub (by simp)
      have hnew : (Sum.inr xs[i] : Key) ∉ kvs.map (·.1) := by
        rw [hkeys]
        intro hm
        obtain ⟨y, hy, e⟩ := List.mem_map.mp hm
        cases e
        exact nd_take hnd hi hy
      have g := grow (o := .dK (kvs ++ [(Sum.inr xs[i], v)])) K' K4' hx hx' (D := p) (by simp)
      refine ⟨_, DPut.k (k := Sum.inr xs[i]) (K4 _ _ e3 (by simp [nsp, nlf])) (sz5l (by omega)), ?_⟩
      rw [putK_new v (valV_no hnew)]
      refine ⟨⟨(K'.trans K4').mut (by simp), k4, z4, by rw [upd_ne nsp.symm]; exact s4, by omega, by omega, by rw [upd_ne nlf.symm]; exact f4⟩, kvs ++ [(Sum.inr xs[i], v)], es ++ [(.str xs[i], d)], upd_same, ?_, pd_app (pd_imp hpd fun _ _ _ _ r => ⟨r.1, r.2.imp g.1⟩) (.cons ⟨rfl, r4.imp g.2⟩ .nil), ?_⟩
      · rw [List.map_append, hkeys, List.take_succ, List.getElem?_eq_getElem hi, List.map_append]
        rfl
      · intro e he
        rcases List.mem_append.mp he with he | he
        · exact hdd e he
        · simp at he; subst he; exact ⟨⟨_, rfl, hnm _ (List.getElem_mem hi)⟩, d4⟩
    · rintro σ' H' ⟨⟨⟨K', k', z', e1, l1, l2, e2⟩, kvs, es, e3, hkeys, hpd, hdd⟩, lv, rfl⟩
      walk_at "rd"
      have hkl : kvs.length = xs.length := by
        have := congrArg List.length hkeys
        simp at this
        omega
      rw [List.length_map] at l2 hkeys
      rw [List.take_length] at hkeys
      have hiP : (xs.length : Int) * 5 ^ n ≤ 4 * 5 ^ n := Int.mul_le_mul_of_nonneg_right (by omega) (by omega)
      have hnew : Same (news Hx H') (news H H') := news_more (K2.trans (.of s2)) (by simp [exs, exl])
      refine q (.ref p) (.dict es) H' k' z' (fun b o e hb => ?_) e1 (by omega) (by omega) e2 ⟨p, kvs, rfl, by rw [news_at hpH]; exact e3, by omega, ?_, pd_imp hpd fun _ _ _ _ r => ⟨r.1, r.2.imp hnew⟩⟩ ⟨by rw [← pd_len hpd]; omega, hdd⟩
      · have hbp : b ≠ p := ne_of_none e hpH
        simp only [List.mem_cons, List.not_mem_nil, or_false, not_or] at hb
        exact K' b o (s2 _ _ (K2 b o e (by simp [hb]))) (by simp [hb, hbp])
      · rw [hkeys]
        exact nd_inr hnd
/-- with no turn left nothing can be asked -/
theorem tree0 : FnOk P w K mg base CX0 1 f fd ["_law_cells", "_law_spot", "_law_deep", "_law_left"] (sp_tree K 0) := by
  have no : ∀ vs H Q E, ¬ sp_tree K 0 vs H Q E := by
    rintro vs H Q E ⟨c, sp, lf, ns, k, z, deep, _, _, _, _, _, _, _, _, _, h, _⟩
    omega
  exact ⟨fun vs H Q E h => absurd h (no vs H Q E), fun A outer s H args us vs Q E _ _ _ _ h => absurd h (no vs H Q E)⟩
theorem ok_trees (D : Def K mg "_law_tree" s_law_tree f fd) (B : Blt mg) (R_law_cell : Rdy P w K mg base 1 "_law_cell" ["_law_cells", "_law_spot"] (sp_cell K)) (R_law_leaf : Rdy P w K mg base 1 "_law_leaf" ["_law_n"] sp_leaf) (R_law_names : Rdy P w K mg base 1 "_law_names" ["_law_n"] sp_names) :
    ∀ n : Nat, FnOk P w K mg base CX0 (n + 1) f fd ["_law_cells", "_law_spot", "_law_deep", "_law_left"] (sp_tree K n)
  | 0 => tree0
  | n + 1 => ok_tree D B R_law_cell R_law_leaf R_law_names (D.rdy (fun _ _ _ _ _ _ us hl => match us, hl with | [_, _, _, _], _ => rfl) (ok_trees D B R_law_cell R_law_leaf R_law_names n))
end

abbrev s_law_kind : Stmt := top 8
theorem sc_law_kind : FnScope ["_law_tree_here"] ["_law_tree_here"] (defScope s_law_kind) := ⟨rfl, rfl, rfl, by decide +kernel, rfl, by decide +kernel, by decide +kernel⟩
abbrev s_law_right : Stmt := top 9
theorem sc_law_right : FnScope ["_law_tree_here", "_law_inner", "_law_found", "_law_due", "_law_label", "_law_part"] ["_law_tree_here"] (defScope s_law_right) := ⟨rfl, rfl, rfl, by decide +kernel, rfl, by decide +kernel, by decide +kernel⟩
abbrev s_law : Stmt := top 10
theorem sc_law : FnScope ["_law_script", "_law_spot", "_law_turn", "_law_n", "_law_tree_here"] ["_law_script"] (defScope s_law) := ⟨rfl, rfl, rfl, by decide +kernel, rfl, by decide +kernel, by decide +kernel⟩
section
variable {P : Program} {w : World} {K : PySem.W.Frag} {mg : Str → Option Value} {base : Heap} {f : Addr} {fd : FuncData}
theorem ok_lkind (D : Def K mg "_law_kind" s_law_kind f fd) (B : Blt mg) : FnOk P w K mg base CX0 1 f fd ["_law_tree_here"] sp_kind' := by
  refine D.1.ok sc_law_kind (fun vs H Q E h => ?_) (fun cdv A outer s H vs Q E hr h => ?_)
  · obtain ⟨n, v, d, rfl, _⟩ := h
    rfl
  obtain ⟨n, v, d, rfl, hd, q⟩ := h
  refine ⟨_, (pss_cons (ps_if (PW.pt (pw_or (pt_cmpR op_isN (pv 0) pe_non (nomark _)) (pw_or1 (pt_val (pe_callB call_isi (by rfl) B.b_isinstance (by decide +kernel) (pa_cons (pv 0) (pa_cons (pe_bltn (v := .ty "bool") (by rfl) B.b_bool (by decide +kernel) rfl) pa_nil)))))))
   (pss_one (ps_ret (pe_ifExp (pt_cmpR op_isN (pv 0) pe_non (nomark _)) pe_str pe_str)))
   pss_nil)
  (pss_cons (ps_if (pt_val (pe_callB call_isiT (by rfl) B.b_isinstance (by decide +kernel) (pa_cons (pv 0) (pa_cons (pe_tup (pa_cons (pe_bltn (v := .ty "int") (by rfl) B.b_int (by decide +kernel) rfl) (pa_cons (pe_bltn (v := .ty "str") (by rfl) B.b_str (by decide +kernel) rfl) pa_nil))) pa_nil))))
   (pss_one (ps_ret (pe_ifExp (pt_val (pe_callB call_isi (by rfl) B.b_isinstance (by decide +kernel) (pa_cons (pv 0) (pa_cons (pe_bltn (v := .ty "int") (by rfl) B.b_int (by decide +kernel) rfl) pa_nil)))) pe_str pe_str)))
   pss_nil)
  (pss_one (ps_ret (pe_ifExp (pt_val (pe_callB call_isi (by rfl) B.b_isinstance (by decide +kernel) (pa_cons (pv 0) (pa_cons (pe_bltn (v := .ty "list") (by rfl) B.b_list (by decide +kernel) rfl) pa_nil)))) pe_str pe_str))))), ?_⟩
  walk_at "rd"
  cases n with
  | zero => exact hd.elim
  | succ n =>
  cases d with
  | none =>
    cases hd
    exact iteT' rfl (iteT' rfl (q _ (Same.refl _)))
  | bool b =>
    cases id hd
    exact iteF' (by simp) (isi1 .bool hd ⟨_, rfl, iteT (iteF' (by simp) (q _ (Same.refl _)))⟩)
  | int b =>
    cases id hd
    exact iteF' (by simp) (isi1 .bool hd ⟨_, rfl, iteF ⟨by decide, fun p np => isi2 .int .str (hd.imp (same_new np _)) upd_same ⟨_, rfl, iteT (isi1 .int (hd.imp (same_new np _)) ⟨_, rfl, iteT (q _ (same_new np _))⟩)⟩⟩⟩)
  | str b =>
    cases id hd
    exact iteF' (by simp) (isi1 .bool hd ⟨_, rfl, iteF ⟨by decide, fun p np => isi2 .int .str (hd.imp (same_new np _)) upd_same ⟨_, rfl, iteT (isi1 .int (hd.imp (same_new np _)) ⟨_, rfl, iteF (q _ (same_new np _))⟩)⟩⟩⟩)
  | list b =>
    obtain ⟨a, xs, rfl, _⟩ := id hd
    exact iteF' (by simp) (isi1 .bool hd ⟨_, rfl, iteF ⟨by decide, fun p np => isi2 .int .str (hd.imp (same_new np _)) upd_same ⟨_, rfl, iteF (isi1 .list (hd.imp (same_new np _)) ⟨_, rfl, iteT (q _ (same_new np _))⟩)⟩⟩⟩)
  | tuple b =>
    obtain ⟨a, xs, rfl, _⟩ := id hd
    exact iteF' (by simp) (isi1 .bool hd ⟨_, rfl, iteF ⟨by decide, fun p np => isi2 .int .str (hd.imp (same_new np _)) upd_same ⟨_, rfl, iteF (isi1 .list (hd.imp (same_new np _)) ⟨_, rfl, iteF (q _ (same_new np _))⟩)⟩⟩⟩)
  | dict b =>
    obtain ⟨a, xs, rfl, _⟩ := id hd
    exact iteF' (by simp) (isi1 .bool hd ⟨_, rfl, iteF ⟨by decide, fun p np => isi2 .int .str (hd.imp (same_new np _)) upd_same ⟨_, rfl, iteF (isi1 .list (hd.imp (same_new np _)) ⟨_, rfl, iteF (q _ (same_new np _))⟩)⟩⟩⟩)
def sp_right (n : Nat) : Sp := fun vs H Q _ => ∃ v d, vs = [v] ∧ Rp H n v d ∧ ∀ H', Same H H' → Q (.int (dep n d)) H'
theorem dep_pos (n : Nat) (d : PyData) : 1 ≤ dep n d := by
  cases n with
  | zero => exact Int.le_refl _
  | succ n =>
    cases d with
    | list ds => have := mx_le (l := ds.map (dep n)) (y := 0) (by simp); show 1 ≤ 1 + _; omega
    | dict es => have := mx_le (l := es.map fun e => dep n e.2) (y := 0) (by simp); show 1 ≤ 1 + _; omega
    | _ => exact Int.le_refl _
theorem no0 {ds : List Int} (h : ∀ x ∈ ds, 1 ≤ x) : inV (.int 0) (ds.map V.int) = false := by
  unfold inV
  rw [List.any_eq_false]
  intro v hv
  obtain ⟨x, hx, rfl⟩ := List.mem_map.mp hv
  have := h x hx
  simp [eqV]
  omega
theorem kind_mem (d : PyData) : kindD d ∈ (["null", "boolean", "integer", "string", "array", "object"] : List Str) := by cases d <;> simp [kindD]
theorem shaped_kind (d : PyData) : SeqAt.shaped (.list [.str (kindD d), .str (kindD d)]) = true := by
  have h : ∀ k ∈ (["null", "boolean", "integer", "string", "array", "object"] : List Str), SeqAt.shaped (.list [.str k, .str k]) = true := by decide +kernel
  exact h _ (kind_mem d)
theorem ok_right {n : Nat} (D : Def K mg "_law_right" s_law_right f fd) (B : Blt mg) (R_depth_of : Rdy P w K mg base (n + 1) "depth_of" ["document"] (sp_depth (n + 1))) (RK_depth_of : RdyK P w K mg base (n + 1) "depth_of" ["document"] ["document"] (fun vs zs => vs ++ zs) (sp_depth (n + 1)))
    (R_kind_of : Rdy P w K mg base 1 "kind_of" ["document"] sp_kind) (RK_kind_of : RdyK P w K mg base 1 "kind_of" ["document"] ["document"] (fun vs zs => vs ++ zs) sp_kind) (R_law_kind : Rdy P w K mg base 1 "_law_kind" ["_law_tree_here"] sp_kind')
    (R_law_right : Rdy P w K mg base (n + 1) "_law_right" ["_law_tree_here"] (sp_right n)) : FnOk P w K mg base CX0 (n + 2) f fd ["_law_tree_here"] (sp_right (n + 1)) := by
  refine D.1.ok sc_law_right (fun vs H Q E h => ?_) (fun cdv A outer s H vs Q E hr h => ?_)
  · obtain ⟨v, d, rfl, _⟩ := h
    rfl
  obtain ⟨v, d, rfl, hd, q⟩ := h
  have hu := hu_of hr
  have hr1 : Room 1 _ := hr.mono (by omega)
  refine ⟨_, (pss_cons (ps_set (i := 1) sc_law_right.nd rfl (by first | exact Or.inl rfl | exact Or.inr rfl) (pe_lst pa_nil))
  (pss_cons (ps_if (pt_val (pe_callB call_isi (by rfl) B.b_isinstance (by decide +kernel) (pa_cons (pv 0) (pa_cons (pe_bltn (v := .ty "list") (by rfl) B.b_list (by decide +kernel) rfl) pa_nil))))
   (pss_one (ps_set (i := 1) sc_law_right.nd rfl (by first | exact Or.inl rfl | exact Or.inr rfl) (pe_callTy call_list_of (by rfl) B.b_list (by decide +kernel) (pa_cons (pv 0) pa_nil))))
   (pss_one (ps_if (pt_val (pe_callB call_isi (by rfl) B.b_isinstance (by decide +kernel) (pa_cons (pv 0) (pa_cons (pe_bltn (v := .ty "dict") (by rfl) B.b_dict (by decide +kernel) rfl) pa_nil))))
   (pss_one (ps_lock (ps_setLc (i := 1) (own := [("_law_label", 4)]) (by rfl) sc_law_right.nd rfl rfl (sw_true rfl rfl rfl (by decide +kernel)) (pi_keys (pv 0)) (blkOk_by (own := [("_law_label", 4)]) (N := ["_law_tree_here", "_law_inner", "_law_found", "_law_due", "_law_label", "_law_part"]) (sc := defScope s_law_right) (by decide +kernel)) (fun _ _ _ _ _ => (pg_name (i := 4) sc_law_right.nd rfl (by first | exact Or.inl rfl | exact Or.inr rfl))) (fun _ _ _ _ _ => pts_nil) (fun _ _ _ _ _ => (pe_dget hu (pv 0) (pv 4) (fun _ _ => rfl))))))
   pss_nil)))
  (pss_cons (ps_setLc (i := 2) (own := [("_law_part", 5)]) (by rfl) sc_law_right.nd rfl rfl (sw_true rfl rfl rfl (by decide +kernel)) (pi_list (pv 1)) (blkOk_by (own := [("_law_part", 5)]) (N := ["_law_tree_here", "_law_inner", "_law_found", "_law_due", "_law_label", "_law_part"]) (sc := defScope s_law_right) (by decide +kernel)) (fun _ _ _ _ _ => (pg_name (i := 5) sc_law_right.nd rfl (by first | exact Or.inl rfl | exact Or.inr rfl))) (fun _ _ _ _ _ => pts_nil) (fun _ _ _ _ _ => (pe_c R_law_right hr rfl (pa_cons (pv 5) pa_nil))))
  (pss_cons (ps_set (i := 3) sc_law_right.nd rfl (by first | exact Or.inl rfl | exact Or.inr rfl) (pe_op op_add pe_int (pe_callB (cr_max rfl) (by rfl) B.b_max (by decide +kernel) (pa_cons (pe_op op_cat (pe_lst (pa_cons pe_int pa_nil)) (pv 2)) pa_nil))))
  (pss_cons (ps_if (PW.pt (pw_or (pt_cmpR op_in_seq pe_int (pv 2) rfl) (pw_or1 (pt_cmpR (op_neD hr.units) (pe_lst (pa_cons (pe_c R_kind_of hr1 rfl (pa_cons (pv 0) pa_nil)) (pa_cons (pe_ck0 R_kind_of hr1 rfl RK_kind_of (pk_cons (pv 0) pk_nil)) pa_nil))) (pe_op op_rep (pe_lst (pa_cons (pe_c R_law_kind hr1 rfl (pa_cons (pv 0) pa_nil)) pa_nil)) pe_int) (nomark _)))))
   (pss_one (ps_ret pe_int))
   pss_nil)
  (pss_one (ps_ret (pe_ifExp (PW.pt (pw_and (pt_cmpR op_eq (pe_c R_depth_of hr rfl (pa_cons (pv 0) pa_nil)) (pv 3) (nomark _)) (pw_and1 (pt_cmpR op_eq (pe_ck0 R_depth_of hr rfl RK_depth_of (pk_cons (pv 0) pk_nil)) (pv 3) (nomark _))))) (pv 3) pe_int)))))))), ?_⟩
  refine cutM (fun σ' H' => ∃ p, H p = none ∧ σ' = [some v, some (.ref p), none, none, none, none] ∧ H' = upd H p (.lst [])) (fun N hN => ?_) ?_
  · walk_at "rd"
    exact ⟨by decide, fun p np => hN _ _ ⟨p, np, rfl, rfl⟩⟩
  rintro σ' H' ⟨p, np, rfl, rfl⟩
  have s0 : Same H (upd H p (.lst [])) := same_new np _
  refine cutM (fun σ' H' => ∃ l xs ds, σ' = [some v, some (.ref l), none, none, none, none] ∧ Same H H' ∧ H' l = some (.lst xs) ∧ xs.length ≤ 10000 ∧ Paired (Rp H' n) xs ds ∧ 1 + mx (ds.map (dep n)) = dep (n + 1) d) (fun N hN => ?_) ?_
  · walk_at "rd"
    have hD := hd.imp s0
    cases d with
    | none => exact isi1 .list hD ⟨_, rfl, iteF (isi1 .dict hD ⟨_, rfl, iteF (hN _ _ ⟨p, [], [], rfl, s0, upd_same, by simp, .nil, rfl⟩)⟩)⟩
    | bool b => exact isi1 .list hD ⟨_, rfl, iteF (isi1 .dict hD ⟨_, rfl, iteF (hN _ _ ⟨p, [], [], rfl, s0, upd_same, by simp, .nil, rfl⟩)⟩)⟩
    | int b => exact isi1 .list hD ⟨_, rfl, iteF (isi1 .dict hD ⟨_, rfl, iteF (hN _ _ ⟨p, [], [], rfl, s0, upd_same, by simp, .nil, rfl⟩)⟩)⟩
    | str b => exact isi1 .list hD ⟨_, rfl, iteF (isi1 .dict hD ⟨_, rfl, iteF (hN _ _ ⟨p, [], [], rfl, s0, upd_same, by simp, .nil, rfl⟩)⟩)⟩
    | tuple b => exact isi1 .list hD ⟨_, rfl, iteF (isi1 .dict hD ⟨_, rfl, iteF (hN _ _ ⟨p, [], [], rfl, s0, upd_same, by simp, .nil, rfl⟩)⟩)⟩
    | list ds =>
      obtain ⟨a, xs, rfl, ha, hb, hp⟩ := id hd
      exact isi1 .list hD ⟨_, rfl, iteT ⟨a, rfl, xs, .inl (SqL.of (s0 _ _ ha)), fun l nl => hN _ _ ⟨l, xs, ds, rfl, s0.trans (same_new nl _), upd_same, hb, pd_imp hp (fun _ _ _ _ r => (r.imp s0).imp (same_new nl _)), rfl⟩⟩⟩
    | dict es =>
      obtain ⟨a, kvs, rfl, ha, hb, hn, hp⟩ := id hd
      refine isi1 .list hD ⟨_, rfl, iteF (isi1 .dict hD ⟨_, rfl, iteT ⟨a, .dK kvs, s0 _ _ ha, trivial, fun od => ?_⟩⟩)⟩
      walk_at "rd"
      refine ⟨od, .inl ⟨kvs, upd_same, lcP_keys upd_same (kvs.map (·.2)) (by simp) (by omega) ?_ ?_⟩⟩
      · intro i k v y H' N' hk hy s N2
        walk_at "rd"
        refine ⟨v, .inl ⟨kvs, k, .inr ⟨od, s _ _ upd_same⟩, rfl, (valV_at hn hk).symm⟩, ?_⟩
        simp [hk] at hy
        subst hy
        exact N2 H' (Same.refl _)
      · intro D' H' nD s e
        have nDa : D' ≠ a := fun z => by subst z; rw [upd_same] at nD; cases nD
        have s1 := same_lock (s0 _ _ ha) s
        refine ⟨s _ _ upd_same, hN _ _ ⟨D', kvs.map (·.2), es.map (·.2), rfl, s0.trans s1, by rw [upd_ne nDa]; exact e, by simpa using hb, ?_, ?_⟩⟩
        · have : ∀ {l1 : List (Key × V)} {l2 : List (PyData × PyData)}, Paired (fun (p : Key × V) (q : PyData × PyData) => q.1 = kD p.1 ∧ Rp H n p.2 q.2) l1 l2 → Paired (Rp (upd H' a (.dK kvs)) n) (l1.map (·.2)) (l2.map (·.2)) := by
            intro l1 l2 h
            induction h with
            | nil => exact .nil
            | cons r _ ih => exact .cons ((r.2.imp s0).imp s1) ih
          exact this hp
        · show 1 + mx ((es.map (·.2)).map (dep n)) = 1 + mx (es.map fun e => dep n e.2)
          rw [List.map_map]
          rfl
  · rintro σ' H' ⟨l, xs, ds, rfl, s1, e1, hb, hp, hdp⟩
    walk_at "rd"
    refine ⟨⟨_, SqL.of e1⟩, lcP_list (SqL.of e1) ((ds.map (dep n)).map V.int) (by simp [pd_len hp]) (by omega) ?_ ?_⟩
    · intro i x y H1 N hx hy s N'
      obtain ⟨e, he, hr'⟩ := pd_get hp hx
      walk_at "rd"
      refine ⟨x, e, rfl, hr'.imp s, fun H4 s4 => ?_⟩
      simp [he] at hy
      subst hy
      exact N' H4 s4
    · intro D' H1 nD s e
      refine ⟨by decide, fun p2 np2 => ?_⟩
      refine max0 (ns := ds.map (dep n)) upd_same (by rw [upd_ne (ne_of_none e np2)]; exact e) (by simp [← pd_len hp]; omega) fun H2 s2 => ?_
      have e2 := s2 _ _ (by rw [upd_ne (ne_of_none e np2)]; exact e)
      have s3 : Same H H2 := ((s1.trans s).trans (same_new np2 _)).trans s2
      refine ⟨D', _, rfl, .inl (SqL.of e2), rfl, by simp [flatV], _, rfl, ?_⟩
      rw [if_neg Bool.false_ne_true, no0 (by
        intro x hx
        obtain ⟨d', _, rfl⟩ := List.mem_map.mp hx
        exact dep_pos n d')]
      refine iteF ⟨n + 1, v, d, rfl, hd.imp s3, n + 1, v, d, rfl, hd.imp s3, by decide, fun p3 np3 => ?_⟩
      have s4 := s3.trans (same_new np3 (.lst [V.str (kindD d), V.str (kindD d)]))
      refine ⟨n + 1, v, d, rfl, hd.imp s4, fun H5 s5 => ⟨by decide, fun p6 np6 => ?_⟩⟩
      have s6 := (s4.trans s5).trans (same_new np6 (.lst [V.str (kindD d)]))
      refine ⟨p6, 2, _, rfl, rfl, upd_same, by decide, by decide, (by show 1 * 2 ≤ sizeLine; decide), fun p7 np7 => ?_⟩
      have s7 := s6.trans (same_new np7 (.lst [V.str (kindD d), V.str (kindD d)]))
      have q3 := ((s5.trans (same_new np6 (.lst [V.str (kindD d)]))).trans (same_new np7 (.lst [V.str (kindD d), V.str (kindD d)]))) _ _ upd_same
      refine ⟨.list [.str (kindD d), .str (kindD d)], .list [.str (kindD d), .str (kindD d)], .lst (SqL.of q3) (.cons (.str _) (.cons (.str _) .nil)), .lst (SqL.of upd_same) (.cons (.str _) (.cons (.str _) .nil)), shaped_kind d, shaped_kind d, _, rfl, ?_⟩
      rw [SeqAt.eqv_refl _ (SeqAt.canLay_of_shaped (shaped_kind d))]
      refine iteF ⟨v, d, rfl, hd.imp s7, fun H8 s8 => ⟨rfl, ?_⟩⟩
      rw [hdp]
      refine iteT' rfl ⟨v, d, rfl, (hd.imp s7).imp s8, fun H9 s9 => ⟨rfl, iteT' rfl (q _ ((s7.trans s8).trans s9))⟩⟩
def sp_law (K : PySem.W.Frag) : Sp := fun vs H Q _ => ∃ (a : Addr) (ns : List Int), vs = [.ref a] ∧ Scr K H a ns ∧ ns.length ≤ 63 ∧ ∀ H', Q (.bl true) H'
structure LawI (K : PySem.W.Frag) (a p : Addr) (ns : List Int) (i : Nat) (H' : Hp) : Prop where
  sc : Scr K H' a ns
  ct : ∃ k, H' p = some (.lst [.int k]) ∧ 0 ≤ k ∧ k ≤ i * 300000000
theorem ok_law (D : Def K mg "law" s_law f fd) (B : Blt mg) (R_law_cell : Rdy P w K mg base 1 "_law_cell" ["_law_cells", "_law_spot"] (sp_cell K)) (R_law_tree : Rdy P w K mg base 13 "_law_tree" ["_law_cells", "_law_spot", "_law_deep", "_law_left"] (sp_tree K 12))
    (R_law_right : Rdy P w K mg base 13 "_law_right" ["_law_tree_here"] (sp_right 12)) (R_depth_of : Rdy P w K mg base 12 "depth_of" ["document"] (sp_depth 12)) : FnOk P w K mg base CX0 14 f fd ["_law_script"] (sp_law K) := by
  refine D.1.ok sc_law (fun vs H Q E h => ?_) (fun cdv A outer s H vs Q E hr h => ?_)
  · obtain ⟨a, ns, rfl, _⟩ := h
    rfl
  obtain ⟨a, ns, rfl, hs, h63, q⟩ := h
  have hu := hu_of hr
  have hr1 : Room 1 _ := hr.mono (by omega)
  have hr12 : Room 12 _ := hr.mono (by omega)
  refine ⟨_, (pss_cons (ps_set (i := 1) sc_law.nd rfl (by first | exact Or.inl rfl | exact Or.inr rfl) (pe_lst (pa_cons pe_int pa_nil)))
  (pss_cons (ps_for PassesOwn.never rfl (pi_range1 (by rfl) B.b_range (pa_cons (pe_op op_add pe_int (pe_callB (call_min2 rfl) (by rfl) B.b_min (by decide +kernel) (pa_cons pe_int (pa_cons (pe_callB call_len (by rfl) B.b_len (by decide +kernel) (pa_cons (pv 0) pa_nil)) pa_nil)))) pa_nil)) (pg_name (i := 2) sc_law.nd rfl (by first | exact Or.inl rfl | exact Or.inr rfl))
   (pss_cons (ps_set (i := 3) sc_law.nd rfl (by first | exact Or.inl rfl | exact Or.inr rfl) (pe_c R_law_cell hr1 rfl (pa_cons (pv 0) (pa_cons (pv 1) pa_nil))))
  (pss_cons (ps_set (i := 4) sc_law.nd rfl (by first | exact Or.inl rfl | exact Or.inr rfl) (pe_c R_law_tree hr rfl (pa_cons (pv 0) (pa_cons (pv 1) (pa_cons (pe_op op_add pe_int (pe_op op_mod (pv 3) pe_int)) (pa_cons (pe_lst (pa_cons pe_int pa_nil)) pa_nil))))))
  (pss_one (ps_if (pt_cmpR op_eq (pe_c R_law_right hr rfl (pa_cons (pv 4) pa_nil)) pe_int (nomark _))
   (pss_one (ps_ret pe_bl))
   pss_nil)))))
  (pss_one (ps_ret (pe_cmpR (op_eqD hr.units) (pe_lst (pa_cons (pe_c R_depth_of hr12 rfl (pa_cons (pe_lst pa_nil) pa_nil)) (pa_cons (pe_c R_depth_of hr12 rfl (pa_cons pe_dnewK pa_nil)) (pa_cons (pe_c R_depth_of hr12 rfl (pa_cons (pe_lst (pa_cons (pe_lst pa_nil) pa_nil)) pa_nil)) (pa_cons (pe_c R_depth_of hr12 rfl (pa_cons (pe_disp (pps_cons pe_str (pe_disp (pps_cons pe_str pe_int pps_nil) (by rfl) (by rfl) (fun z => by cases z) (by decide)) pps_nil) (by rfl) (by rfl) (fun z => by cases z) (by decide)) pa_nil)) pa_nil))))) (pe_lst (pa_cons pe_int (pa_cons pe_int (pa_cons pe_int (pa_cons pe_int pa_nil))))) (nomark _)))))), ?_⟩
  walk_at "rd"
  refine ⟨by decide, fun p np => ?_⟩
  have s0 : Same H (upd H p (.lst [.int 0])) := same_new np _
  refine ⟨_, .inl ⟨_, (hs.same s0).sq, rfl⟩, by split <;> omega, by split <;> omega, ?_⟩
  have hr13 : (3 + if ((ns.map V.int).length : Int) < 10 then ((ns.map V.int).length : Int) else 10).toNat ≤ 13 := by split <;> omega
  generalize (3 + if ((ns.map V.int).length : Int) < 10 then ((ns.map V.int).length : Int) else 10).toNat = r at hr13 ⊢
  refine fo_it walk_range (fun i σ' H' => LawI K a p ns i H' ∧ ∃ x y z, σ' = [some (.ref a), some (.ref p), x, y, z]) ⟨⟨hs.same s0, 0, upd_same, by omega, by omega⟩, _, _, _, rfl⟩ (fun _ _ _ _ _ => trivial) ?_ ?_
  · rintro i x σ' H0 H' hi ⟨⟨hsc, k, e1, k0, k1⟩, x2, x3, x4, rfl⟩ ⟨rfl, rfl⟩
    walk_at "rd"
    refine ⟨a, p, ns, k, rfl, hsc, h63, e1, k0, by omega, fun n n0 n1 => ⟨n, rfl, by decide, by decide, fun l nl => ?_⟩⟩
    have npl : p ≠ l := fun z => by subst z; rw [upd_same] at nl; cases nl
    have e2 : (upd (upd H' p (.lst [.int (k + 1)])) l (.lst [.int 40])) p = some (.lst [.int (k + 1)]) := by rw [upd_ne npl, upd_same]
    have hsc2 : Scr K (upd (upd H' p (.lst [.int (k + 1)])) l (.lst [.int 40])) a ns := (hsc.put e1).same (same_new nl _)
    have n12 := mod_in n (m := 12) (by decide)
    refine ⟨a, p, l, ns, k + 1, 40, 1 + n % 12, rfl, hsc2, h63, e2, by omega, by omega, upd_same, npl, by omega, by decide, fun v d H4 k4 z4 K4 s4 a4 b4 f4 r4 d4 => ?_⟩
    refine ⟨v, d, rfl, r4.imp (news_sub _ _), fun H5 s5 => ⟨rfl, iteF' ?_ ?_⟩⟩
    · have := dep_pos 12 d
      simp
      omega
    · exact ⟨(hsc2.keep K4 (by simp [e2, upd_same])).same s5, k4, s5 _ _ s4, by omega, by omega⟩
  · rintro σ' H' ⟨⟨hsc, k, e1, k0, k1⟩, x2, x3, x4, rfl⟩
    walk_at "rd"
    refine ⟨by decide, fun p1 n1 => ⟨.ref p1, .list [], rfl, ⟨p1, [], rfl, upd_same, by simp, .nil⟩, fun H1 s1 p2 n2 => ?_⟩⟩
    refine ⟨.ref p2, .dict [], rfl, ⟨p2, [], rfl, upd_same, by simp, by simp, .nil⟩, fun H2 s2 => ⟨by decide, fun p3 n3 => ⟨by decide, fun p4 n4 => ?_⟩⟩⟩
    have n34 : p3 ≠ p4 := fun z => by subst z; rw [upd_same] at n4; cases n4
    refine ⟨.ref p4, .list [.list []], rfl, ⟨p4, _, rfl, upd_same, by simp, .cons ⟨p3, [], rfl, by rw [upd_ne n34, upd_same], by simp, .nil⟩ .nil⟩, fun H3 s3 p5 n5 p6 n6 => ?_⟩
    have n56 : p5 ≠ p6 := fun z => by subst z; rw [upd_same] at n6; cases n6
    refine ⟨upd_same, [(.inr "b", .int 1)], rfl, by decide, by rw [upd_ne n56, upd_ne n56, upd_same], [(.inr "a", .ref p6)], rfl, by simp, ?_⟩
    refine ⟨.ref p5, .dict [(.str "a", .dict [(.str "b", .int 1)])], rfl, ⟨p5, [(.inr "a", .ref p6)], rfl, upd_same, by simp, by simp, .cons ⟨rfl, p6, [(.inr "b", .int 1)], rfl, by rw [upd_ne n56.symm, upd_same]; rfl, by simp, by simp, .cons ⟨rfl, rfl⟩ .nil⟩ .nil⟩, fun H4 s4 => ⟨by decide, fun p7 n7 => ⟨by decide, fun p8 n8 => ?_⟩⟩⟩
    have n78 : p7 ≠ p8 := fun z => by subst z; rw [upd_same] at n8; cases n8
    have e1 : dep 12 (.list []) = 1 := by decide
    have e2 : dep 12 (.dict []) = 1 := by decide
    have e3 : dep 12 (.list [.list []]) = 2 := by decide
    have e4 : dep 12 (.dict [(.str "a", .dict [(.str "b", .int 1)])]) = 3 := by decide
    rw [e1, e2, e3, e4]
    refine ⟨.list [.int 1, .int 1, .int 2, .int 3], .list [.int 1, .int 1, .int 2, .int 3], .lst (SqL.of (by rw [upd_ne n78, upd_same])) (.cons (.int _) (.cons (.int _) (.cons (.int _) (.cons (.int _) .nil)))), .lst (SqL.of upd_same) (.cons (.int _) (.cons (.int _) (.cons (.int _) (.cons (.int _) .nil)))), by decide +kernel, by decide +kernel, ?_⟩
    have e5 : PyData.eqv (.list [.int 1, .int 1, .int 2, .int 3]) (.list [.int 1, .int 1, .int 2, .int 3]) = true := by decide +kernel
    rw [e5]
    exact q _
end

abbrev LVL : Nat := 14
theorem ok_depths {P : Program} {w : World} {K : PySem.W.Frag} {mg : Str → Option Value} {base : Heap} {f : Addr} {fd : FuncData} (D : Def K mg "depth_of" s_depth_of f fd) (B : Blt mg) : ∀ n : Nat, FnOk P w K mg base CX0 n f fd ["document"] (sp_depth n)
  | 0 => ⟨fun vs H Q E ⟨_, _, _, h, _⟩ => h.elim, fun A outer s H args us vs Q E _ _ _ _ ⟨_, _, _, h, _⟩ => h.elim⟩
  | n + 1 => ok_depth_of D B (D.rdy (fun _ _ _ _ _ _ us hl => match us, hl with | [_], _ => rfl) (ok_depths D B n))
theorem ok_rights {P : Program} {w : World} {K : PySem.W.Frag} {mg : Str → Option Value} {base : Heap} {f f2 : Addr} {fd fd2 : FuncData} (D : Def K mg "_law_right" s_law_right f fd) (B : Blt mg) (D2 : Def K mg "depth_of" s_depth_of f2 fd2)
    (R_kind_of : Rdy P w K mg base 1 "kind_of" ["document"] sp_kind) (RK_kind_of : RdyK P w K mg base 1 "kind_of" ["document"] ["document"] (fun vs zs => vs ++ zs) sp_kind) (R_law_kind : Rdy P w K mg base 1 "_law_kind" ["_law_tree_here"] sp_kind') : ∀ n : Nat, FnOk P w K mg base CX0 (n + 1) f fd ["_law_tree_here"] (sp_right n)
  | 0 => ⟨fun vs H Q E ⟨_, _, _, h, _⟩ => h.elim, fun A outer s H args us vs Q E _ _ _ _ ⟨_, _, _, h, _⟩ => h.elim⟩
  | n + 1 => ok_right D B (D2.rdy (fun _ _ _ _ _ _ us hl => match us, hl with | [_], _ => rfl) (ok_depths D2 B (n + 1))) (D2.rdyK ["document"] (fun vs zs => vs ++ zs) vals_app (fun _ _ _ _ _ _ us ws hl => match us, ws, hl with | [], [_], _ => rfl | [_], [], _ => rfl) (ok_depths D2 B (n + 1))) R_kind_of RK_kind_of R_law_kind (D.rdy (fun _ _ _ _ _ _ us hl => match us, hl with | [_], _ => rfl) (ok_rights D B D2 R_kind_of RK_kind_of R_law_kind n))
theorem all_mk {l : PySem.W.OpenLaw} {w : World} {K : PySem.W.Frag} {h : Heap} {mg : Str → Option Value} {fa f0 f1 f2 f3 f4 f5 f6 f7 f8 : Addr} (X : K.In h) (G : h.Ns mainGlobals mg) (hfa : mg "law" = some (.ref fa))
    {od0 an0 : Option Addr} {sl0 : Array (Option Value)} {oc0 kV0 dc0 pm0 cd0 ct0 : Value}
    (a0 : PySem.W.nsIn K mainGlobals "depth_of" = some (some (.ref f0)))
    (l0 : K.lookup f0 = some ⟨oc0, od0, .func (PySem.W.fnOf "depth_of" "depth_of" (defArgs s_depth_of) (defBody s_depth_of) (defScope s_depth_of) .none kV0 dc0 pm0 an0 cd0 ct0), sl0⟩)
    (c0 : PySem.W.codeIn K cd0 "depth_of" = true) (k0 : PySem.W.keepIn K (.ref f0) = true)
    {od1 an1 : Option Addr} {sl1 : Array (Option Value)} {oc1 kV1 dc1 pm1 cd1 ct1 : Value}
    (a1 : PySem.W.nsIn K mainGlobals "kind_of" = some (some (.ref f1)))
    (l1 : K.lookup f1 = some ⟨oc1, od1, .func (PySem.W.fnOf "kind_of" "kind_of" (defArgs s_kind_of) (defBody s_kind_of) (defScope s_kind_of) .none kV1 dc1 pm1 an1 cd1 ct1), sl1⟩)
    (c1 : PySem.W.codeIn K cd1 "kind_of" = true) (k1 : PySem.W.keepIn K (.ref f1) = true)
    {od2 an2 : Option Addr} {sl2 : Array (Option Value)} {oc2 kV2 dc2 pm2 cd2 ct2 : Value}
    (a2 : PySem.W.nsIn K mainGlobals "_law_cell" = some (some (.ref f2)))
    (l2 : K.lookup f2 = some ⟨oc2, od2, .func (PySem.W.fnOf "_law_cell" "_law_cell" (defArgs s_law_cell) (defBody s_law_cell) (defScope s_law_cell) .none kV2 dc2 pm2 an2 cd2 ct2), sl2⟩)
    (c2 : PySem.W.codeIn K cd2 "_law_cell" = true) (k2 : PySem.W.keepIn K (.ref f2) = true)
    {od3 an3 : Option Addr} {sl3 : Array (Option Value)} {oc3 kV3 dc3 pm3 cd3 ct3 : Value}
    (a3 : PySem.W.nsIn K mainGlobals "_law_leaf" = some (some (.ref f3)))
    (l3 : K.lookup f3 = some ⟨oc3, od3, .func (PySem.W.fnOf "_law_leaf" "_law_leaf" (defArgs s_law_leaf) (defBody s_law_leaf) (defScope s_law_leaf) .none kV3 dc3 pm3 an3 cd3 ct3), sl3⟩)
    (c3 : PySem.W.codeIn K cd3 "_law_leaf" = true) (k3 : PySem.W.keepIn K (.ref f3) = true)
    {od4 an4 : Option Addr} {sl4 : Array (Option Value)} {oc4 kV4 dc4 pm4 cd4 ct4 : Value}
    (a4 : PySem.W.nsIn K mainGlobals "_law_names" = some (some (.ref f4)))
    (l4 : K.lookup f4 = some ⟨oc4, od4, .func (PySem.W.fnOf "_law_names" "_law_names" (defArgs s_law_names) (defBody s_law_names) (defScope s_law_names) .none kV4 dc4 pm4 an4 cd4 ct4), sl4⟩)
    (c4 : PySem.W.codeIn K cd4 "_law_names" = true) (k4 : PySem.W.keepIn K (.ref f4) = true)
    {od5 an5 : Option Addr} {sl5 : Array (Option Value)} {oc5 kV5 dc5 pm5 cd5 ct5 : Value}
    (a5 : PySem.W.nsIn K mainGlobals "_law_tree" = some (some (.ref f5)))
    (l5 : K.lookup f5 = some ⟨oc5, od5, .func (PySem.W.fnOf "_law_tree" "_law_tree" (defArgs s_law_tree) (defBody s_law_tree) (defScope s_law_tree) .none kV5 dc5 pm5 an5 cd5 ct5), sl5⟩)
    (c5 : PySem.W.codeIn K cd5 "_law_tree" = true) (k5 : PySem.W.keepIn K (.ref f5) = true)
    {od6 an6 : Option Addr} {sl6 : Array (Option Value)} {oc6 kV6 dc6 pm6 cd6 ct6 : Value}
    (a6 : PySem.W.nsIn K mainGlobals "_law_kind" = some (some (.ref f6)))
    (l6 : K.lookup f6 = some ⟨oc6, od6, .func (PySem.W.fnOf "_law_kind" "_law_kind" (defArgs s_law_kind) (defBody s_law_kind) (defScope s_law_kind) .none kV6 dc6 pm6 an6 cd6 ct6), sl6⟩)
    (c6 : PySem.W.codeIn K cd6 "_law_kind" = true) (k6 : PySem.W.keepIn K (.ref f6) = true)
    {od7 an7 : Option Addr} {sl7 : Array (Option Value)} {oc7 kV7 dc7 pm7 cd7 ct7 : Value}
    (a7 : PySem.W.nsIn K mainGlobals "_law_right" = some (some (.ref f7)))
    (l7 : K.lookup f7 = some ⟨oc7, od7, .func (PySem.W.fnOf "_law_right" "_law_right" (defArgs s_law_right) (defBody s_law_right) (defScope s_law_right) .none kV7 dc7 pm7 an7 cd7 ct7), sl7⟩)
    (c7 : PySem.W.codeIn K cd7 "_law_right" = true) (k7 : PySem.W.keepIn K (.ref f7) = true)
    {od8 an8 : Option Addr} {sl8 : Array (Option Value)} {oc8 kV8 dc8 pm8 cd8 ct8 : Value}
    (a8 : PySem.W.nsIn K mainGlobals "law" = some (some (.ref f8)))
    (l8 : K.lookup f8 = some ⟨oc8, od8, .func (PySem.W.fnOf "law" "law" (defArgs s_law) (defBody s_law) (defScope s_law) .none kV8 dc8 pm8 an8 cd8 ct8), sl8⟩)
    (c8 : PySem.W.codeIn K cd8 "law" = true) (k8 : PySem.W.keepIn K (.ref f8) = true)
    (z_len : PySem.W.nsIn K mainGlobals "len" = some none)
    (z_range : PySem.W.nsIn K mainGlobals "range" = some none)
    (z_isinstance : PySem.W.nsIn K mainGlobals "isinstance" = some none)
    (z_max : PySem.W.nsIn K mainGlobals "max" = some none)
    (z_min : PySem.W.nsIn K mainGlobals "min" = some none)
    (z_list : PySem.W.nsIn K mainGlobals "list" = some none)
    (z_dict : PySem.W.nsIn K mainGlobals "dict" = some none)
    (z_int : PySem.W.nsIn K mainGlobals "int" = some none)
    (z_str : PySem.W.nsIn K mainGlobals "str" = some none)
    (z_bool : PySem.W.nsIn K mainGlobals "bool" = some none)
    (z_tuple : PySem.W.nsIn K mainGlobals "tuple" = some none)
    (z_sorted : PySem.W.nsIn K mainGlobals "sorted" = some none)
    (z_enumerate : PySem.W.nsIn K mainGlobals "enumerate" = some none)
    (z_repr : PySem.W.nsIn K mainGlobals "repr" = some none)
    (z_all : PySem.W.nsIn K mainGlobals "all" = some none)
    (z_any : PySem.W.nsIn K mainGlobals "any" = some none)
    (z_zip : PySem.W.nsIn K mainGlobals "zip" = some none)
    (z_set : PySem.W.nsIn K mainGlobals "set" = some none)
    (z_sum : PySem.W.nsIn K mainGlobals "sum" = some none)
    : ∃ fd : FuncData, (∀ (s : Shared) (v : Value), BindsTo s fd ⟨[v], []⟩ [("_law_script", v)]) ∧ ∀ base : Heap, K.In base → base.Ns mainGlobals mg → FnOk l.prog w K mg base CX0 LVL fa fd ["_law_script"] (sp_law K) := by
  have e := hfa.symm.trans (PySem.W.mg_of X G a8)
  cases e
  have D_depth_of : Def K mg "depth_of" s_depth_of _ _ := ⟨fun_mk (st := s_depth_of) l0 c0 k0, PySem.W.mg_of X G a0⟩
  have D_kind_of : Def K mg "kind_of" s_kind_of _ _ := ⟨fun_mk (st := s_kind_of) l1 c1 k1, PySem.W.mg_of X G a1⟩
  have D_law_cell : Def K mg "_law_cell" s_law_cell _ _ := ⟨fun_mk (st := s_law_cell) l2 c2 k2, PySem.W.mg_of X G a2⟩
  have D_law_leaf : Def K mg "_law_leaf" s_law_leaf _ _ := ⟨fun_mk (st := s_law_leaf) l3 c3 k3, PySem.W.mg_of X G a3⟩
  have D_law_names : Def K mg "_law_names" s_law_names _ _ := ⟨fun_mk (st := s_law_names) l4 c4 k4, PySem.W.mg_of X G a4⟩
  have D_law_tree : Def K mg "_law_tree" s_law_tree _ _ := ⟨fun_mk (st := s_law_tree) l5 c5 k5, PySem.W.mg_of X G a5⟩
  have D_law_kind : Def K mg "_law_kind" s_law_kind _ _ := ⟨fun_mk (st := s_law_kind) l6 c6 k6, PySem.W.mg_of X G a6⟩
  have D_law_right : Def K mg "_law_right" s_law_right _ _ := ⟨fun_mk (st := s_law_right) l7 c7 k7, PySem.W.mg_of X G a7⟩
  have D_law : Def K mg "law" s_law _ _ := ⟨fun_mk (st := s_law) l8 c8 k8, PySem.W.mg_of X G a8⟩
  have B : Blt mg := ⟨PySem.W.mg_none_of X G z_len, PySem.W.mg_none_of X G z_range, PySem.W.mg_none_of X G z_isinstance, PySem.W.mg_none_of X G z_max, PySem.W.mg_none_of X G z_min, PySem.W.mg_none_of X G z_list, PySem.W.mg_none_of X G z_dict, PySem.W.mg_none_of X G z_int, PySem.W.mg_none_of X G z_str, PySem.W.mg_none_of X G z_bool, PySem.W.mg_none_of X G z_tuple, PySem.W.mg_none_of X G z_sorted, PySem.W.mg_none_of X G z_enumerate, PySem.W.mg_none_of X G z_repr, PySem.W.mg_none_of X G z_all, PySem.W.mg_none_of X G z_any, PySem.W.mg_none_of X G z_zip, PySem.W.mg_none_of X G z_set, PySem.W.mg_none_of X G z_sum⟩
  refine ⟨PySem.W.fnOf "law" "law" (defArgs s_law) (defBody s_law) (defScope s_law) .none kV8 dc8 pm8 an8 cd8 ct8, fun s v => .of_eq rfl, fun base _ _ => ?_⟩
  have R_cell := D_law_cell.rdy (P := l.prog) (w := w) (base := base) (fun _ _ _ _ _ _ us hl => match us, hl with | [_, _], _ => rfl) (ok_cell D_law_cell B)
  have R_leaf := D_law_leaf.rdy (P := l.prog) (w := w) (base := base) (fun _ _ _ _ _ _ us hl => match us, hl with | [_], _ => rfl) (ok_leaf D_law_leaf B)
  have R_names := D_law_names.rdy (P := l.prog) (w := w) (base := base) (fun _ _ _ _ _ _ us hl => match us, hl with | [_], _ => rfl) (ok_names D_law_names B)
  have R_tree := D_law_tree.rdy (fun _ _ _ _ _ _ us hl => match us, hl with | [_, _, _, _], _ => rfl) (ok_trees D_law_tree B R_cell R_leaf R_names 12)
  have R_kind := D_kind_of.rdy (P := l.prog) (w := w) (base := base) (fun _ _ _ _ _ _ us hl => match us, hl with | [_], _ => rfl) (ok_kind_of D_kind_of B)
  have RK_kind := D_kind_of.rdyK (P := l.prog) (w := w) (base := base) ["document"] (fun vs zs => vs ++ zs) vals_app (fun _ _ _ _ _ _ us ws hl => match us, ws, hl with | [], [_], _ => rfl | [_], [], _ => rfl) (ok_kind_of D_kind_of B)
  have R_lkind := D_law_kind.rdy (P := l.prog) (w := w) (base := base) (fun _ _ _ _ _ _ us hl => match us, hl with | [_], _ => rfl) (ok_lkind D_law_kind B)
  have R_right := D_law_right.rdy (fun _ _ _ _ _ _ us hl => match us, hl with | [_], _ => rfl) (ok_rights D_law_right B D_depth_of R_kind RK_kind R_lkind 12)
  have R_depth := D_depth_of.rdy (P := l.prog) (w := w) (base := base) (fun _ _ _ _ _ _ us hl => match us, hl with | [_], _ => rfl) (ok_depths D_depth_of B 12)
  exact ok_law D_law B R_cell R_tree R_right R_depth
theorem walk {l : PySem.W.OpenLaw} {q : Program} {loose : List Str} {XP : (Str → Option Value) → Heap → Prop} {YP : World → Heap → Prop} {d : DefRec} {K : Params → PySem.W.Frag} (hn : l.most = some 63) (hdf : d.params.defaults = [])
    (hY : ∀ (w : World) (h : Heap), YP w h → (K w.params).In h)
    (F : ∀ (w : World) (mg : Str → Option Value) (fa : Addr) (h : Heap), (K w.params).In h → h.Ns mainGlobals mg → mg d.name = some (.ref fa) →
      ∃ fd : FuncData, (∀ (s : Shared) (u : Value), BindsTo s fd ⟨[u], []⟩ [("_law_script", u)]) ∧ ∀ base : Heap, (K w.params).In base → base.Ns mainGlobals mg → FnOk l.prog w (K w.params) mg base CX0 LVL fa fd ["_law_script"] (sp_law (K w.params))) :
    PySem.W.WalkO q loose XP YP l.row.toRowW d [] (fun f vs => PySem.call f vs) :=
  L2.walk_of (n := 63) (k := LVL) (x := "_law_script") (CX := fun _ => CX0) (sp := fun w => sp_law (K w.params)) hn (by decide) hdf ⟨rfl, by decide, by decide⟩ hY F (fun _ _ a ns hl hO hS => ⟨a, ns, rfl, Scr.of hS hO, hl, fun _ => rfl⟩) fun _ _ _ _ _ z => z

end SC
open PySem PySem.W PyProof.Rows
set_option maxRecDepth 100000 in
set_option maxHeartbeats 0 in
theorem PySem.Challenge.cw_schemacheck_k03_kinds_and_depths_holds : PySem.Challenge.rw_schemacheck_k03_kinds_and_depths.Holds := by
  w_on; o_law; k_head; (case hw => w_witness2)
  k_fill
  refine SC.walk (l := PySem.Challenge.rw_schemacheck_k03_kinds_and_depths) rfl rfl (fun w h Y => PySem.W.kIn_of Y) ?F
  case F =>
    intro w mg fa h KX G hmg
    refine' SC.all_mk KX G hmg ?a0 ?l0 ?c0 ?k0 ?a1 ?l1 ?c1 ?k1 ?a2 ?l2 ?c2 ?k2 ?a3 ?l3 ?c3 ?k3 ?a4 ?l4 ?c4 ?k4 ?a5 ?l5 ?c5 ?k5 ?a6 ?l6 ?c6 ?k6 ?a7 ?l7 ?c7 ?k7 ?a8 ?l8 ?c8 ?k8 ?z_len ?z_range ?z_isinstance ?z_max ?z_min ?z_list ?z_dict ?z_int ?z_str ?z_bool ?z_tuple ?z_sorted ?z_enumerate ?z_repr ?z_all ?z_any ?z_zip ?z_set ?z_sum
    (case a0 => k_is)
    (case l0 => k_is)
    (case c0 => k_is)
    (case k0 => k_is)
    (case a1 => k_is)
    (case l1 => k_is)
    (case c1 => k_is)
    (case k1 => k_is)
    (case a2 => k_is)
    (case l2 => k_is)
    (case c2 => k_is)
    (case k2 => k_is)
    (case a3 => k_is)
    (case l3 => k_is)
    (case c3 => k_is)
    (case k3 => k_is)
    (case a4 => k_is)
    (case l4 => k_is)
    (case c4 => k_is)
    (case k4 => k_is)
    (case a5 => k_is)
    (case l5 => k_is)
    (case c5 => k_is)
    (case k5 => k_is)
    (case a6 => k_is)
    (case l6 => k_is)
    (case c6 => k_is)
    (case k6 => k_is)
    (case a7 => k_is)
    (case l7 => k_is)
    (case c7 => k_is)
    (case k7 => k_is)
    (case a8 => k_is)
    (case l8 => k_is)
    (case c8 => k_is)
    (case k8 => k_is)
    (case z_len => k_is)
    (case z_range => k_is)
    (case z_isinstance => k_is)
    (case z_max => k_is)
    (case z_min => k_is)
    (case z_list => k_is)
    (case z_dict => k_is)
    (case z_int => k_is)
    (case z_str => k_is)
    (case z_bool => k_is)
    (case z_tuple => k_is)
    (case z_sorted => k_is)
    (case z_enumerate => k_is)
    (case z_repr => k_is)
    (case z_all => k_is)
    (case z_any => k_is)
    (case z_zip => k_is)
    (case z_set => k_is)
    (case z_sum => k_is)
#print axioms PySem.Challenge.cw_schemacheck_k03_kinds_and_depths_holds
