import PyProof.Rows.All
import Wide.All
import OpenK.AllK
import Wide.FinOn
import HandS.ForMost
import HandS.Exc
import HandS.TryOnly
import HandS.ExcOwn
import HandS.Style
import HandS.IsInst
import HandS.TupAny
import HandS.Defaults
import HandS.Deep
import HandS.Nested
import KE.SortData
import HandS.Conv
import KE.DataMinMax
import HandS.Flow
import HandS.TupMul
import PyProof.NeData
import PyProof.P3Eq
import KE.KDflt
import KE.KRevSl
import HandS.ExcIs
import HandS.Strs
import HandS.SetFor
import PyProof.Rows.NestShow
import HandS.Comp
import HandS.Iter
import HandS.Zip
import HandS.Small
import PyProof.ExcBaseAll.ValueError
import OpenK.KMore
import HandS.EndTab
import HandS.HeadHook4
import KE.KStateDown
import HandS.Head0
import HandS.Head1
import HandS.Head2
import HandS.HeadEnd
import PySem.Challenge.RW_pursespassed_k00_staffs_and_lines
set_option Elab.async false
set_option linter.all false
set_option maxRecDepth 100000
set_option maxHeartbeats 4000000
namespace Mi
open PySem PySem.Spec PyProof.Rows L2

/-! ### clean values -/
inductive Val where
  | non | bl (b : Bool) | int (i : Int) | str (s : Str)
  | tup (l : List Val) | lst (l : List Val)
  | ref (a : Addr) | fn (f : Nat) | exc (c : Nat)
  | emp
  deriving Inhabited

/-- abstract objects -/
inductive Ab where
  | draws (n : Nat)
  | other (n : Nat)

inductive CO where
  | list (l : List Val)
  | dict (deep : Bool) (kvs : List (Val × Val))
  | inst (c : Nat) (fs : List (Str × Val))
  | ab (A : Ab)

structure CH where
  f : Addr → Option CO
  fin : ∃ n : Nat, ∀ a : Nat, n ≤ a → f a = none
instance : CoeFun CH (fun _ => Addr → Option CO) := ⟨CH.f⟩
theorem CH.ext {h h' : CH} (e : ∀ a, h a = h' a) : h = h' := by
  cases h; cases h'; congr; exact funext e
def CH.set (h : CH) (a : Addr) (o : CO) : CH :=
  ⟨fun b => if b = a then some o else h b, by
    obtain ⟨n, hn⟩ := h.fin
    refine ⟨max n (a + 1), fun (b : Nat) hb => ?_⟩
    have h1 : b ≠ a := by
      have := Nat.le_max_right n (a + 1)
      exact Nat.ne_of_gt (Nat.lt_of_lt_of_le (Nat.lt_succ_self a) (Nat.le_trans this hb))
    simp only [if_neg h1]
    exact hn b (Nat.le_trans (Nat.le_max_left n (a + 1)) hb)⟩
theorem CH.set_same {h : CH} {a : Addr} {o : CO} : h.set a o a = some o := by simp [CH.set]
theorem CH.set_ne {h : CH} {a b : Addr} {o : CO} (e : b ≠ a) : h.set a o b = h b := by simp [CH.set, e]
theorem CH.set_at {h : CH} {a b : Addr} {o : CO} : h.set a o b = if b = a then some o else h b := rfl
theorem CH.set_set {h : CH} {a : Addr} {o o' : CO} : (h.set a o).set a o' = h.set a o' := by
  apply CH.ext; intro b; simp only [CH.set_at]; split <;> rfl
theorem CH.fresh (h : CH) : ∃ p, h p = none := by
  obtain ⟨n, hn⟩ := h.fin
  exact ⟨n, hn n (Nat.le_refl _)⟩
/-- only what stood in g stays -/
def CH.keep (h g : CH) : CH :=
  ⟨fun b => match g b with
    | some _ => h b
    | none => none, by
    obtain ⟨n, hn⟩ := h.fin
    refine ⟨n, fun b hb => ?_⟩
    split
    · exact hn b hb
    · rfl⟩
theorem CH.keep_at {h g : CH} {b : Addr} : h.keep g b = match g b with
    | some _ => h b
    | none => none := rfl
theorem CH.keep_self {h : CH} : h.keep h = h := by
  apply CH.ext; intro b; rw [CH.keep_at]; split
  · rfl
  · rename_i e; exact e.symm
theorem CH.keep_set {h g : CH} {p : Addr} {o : CO} (e : g p = none) : (h.set p o).keep g = h.keep g := by
  apply CH.ext; intro b; rw [CH.keep_at, CH.keep_at]
  split
  · rename_i x hx
    rw [CH.set_ne]
    rintro rfl
    rw [e] at hx; cases hx
  · rfl

/-! ### what a clean value is, in an abstract heap -/
structure Gc where
  K : PySem.W.Frag
  fa : Nat → Addr
  ca : Nat → Addr
  T : List (Addr × Str)

mutual
def RelD (G : Gc) (H : Hp) : Val → V → Prop
  | .non, x => x = .non
  | .bl b, x => x = .bl b
  | .int i, x => x = .int i
  | .str s, x => x = .str s ∧ s.length ≤ sizeLine ∧ s.cps.all (· < 0x110000) = true
  | .tup l, x => ∃ p xs, x = .ref p ∧ SqT G.K H p xs ∧ RelDs G H l xs
  | .lst l, x => ∃ p o xs, x = .ref p ∧ H p = some (.frz o (.lst xs)) ∧ RelDs G H l xs
  | .ref a, x => x = .ref a
  | .fn f, x => x = .ref (G.fa f)
  | .exc c, x => ∃ p o, x = .ref p ∧ H p = some (.frz o (.ext fun _ => True)) ∧ o.cls = .ref (G.ca c) ∧ o.dict = none ∧ ∃ vs, o.data = .fields vs
  | .emp, x => ∃ p o, x = .ref p ∧ H p = some (.frz o (.dK []))
def RelDs (G : Gc) (H : Hp) : List Val → List V → Prop
  | [], xs => xs = []
  | v :: l, xs => ∃ x r, xs = x :: r ∧ RelD G H v x ∧ RelDs G H l r
end

/-- may be written -/
structure MutO (o : HO) : Prop where
  tup : ∀ xs, o ≠ .tup xs
  frz : ∀ ob u, o ≠ .frz ob u
  tbl : ∀ ps, o ≠ .tbl ps
  code : ∀ c q, o ≠ LamX.CodeO c q
theorem mutL {xs : List V} : MutO (.lst xs) := ⟨(fun _ e => by cases e), (fun _ _ e => by cases e), (fun _ e => by cases e), (fun _ _ e => by cases e)⟩
theorem mutD {xs : List (Key × V)} : MutO (.dK xs) := ⟨(fun _ e => by cases e), (fun _ _ e => by cases e), (fun _ e => by cases e), (fun _ _ e => by cases e)⟩
theorem mutI {C dx : Addr} {fs : List (Str × V)} : MutO (.ins C dx fs) := ⟨(fun _ e => by cases e), (fun _ _ e => by cases e), (fun _ e => by cases e), (fun _ _ e => by cases e)⟩
/-- what never changes stays -/
structure Le (H H' : Hp) : Prop where
  tup : ∀ b xs, H b = some (.tup xs) → H' b = some (.tup xs)
  frz : ∀ b o u, H b = some (.frz o u) → H' b = some (.frz o u)
  code : ∀ c q, H c = some (LamX.CodeO c q) → H' c = some (LamX.CodeO c q)
theorem Le.refl (H : Hp) : Le H H := ⟨fun _ _ e => e, fun _ _ _ e => e, fun _ _ e => e⟩
theorem Le.trans {H H1 H2 : Hp} (a : Le H H1) (b : Le H1 H2) : Le H H2 := ⟨fun c xs e => b.tup c xs (a.tup c xs e), fun c o u e => b.frz c o u (a.frz c o u e), fun c q t => b.code c q (a.code c q t)⟩
theorem Le.new {H : Hp} {p : Addr} {o : HO} (n : H p = none) : Le H (upd H p o) :=
  ⟨fun b xs e => by rw [upd_ne (ne_of_none e n)]; exact e, fun b o u e => by rw [upd_ne (ne_of_none e n)]; exact e, fun c q e => by rw [upd_ne (ne_of_none e n)]; exact e⟩
theorem Le.set {H : Hp} {p : Addr} {o u : HO} (e : H p = some u) (m : MutO u) : Le H (upd H p o) :=
  ⟨fun b xs q => by
    rw [upd_ne]; exact q
    rintro rfl; rw [e] at q; cases q; exact m.tup _ rfl, fun b ob v q => by
    rw [upd_ne]; exact q
    rintro rfl; rw [e] at q; cases q; exact m.frz _ _ rfl, fun c q e2 => by
    rw [upd_ne]; exact e2
    rintro rfl; rw [e] at e2
    exact m.code _ _ (Option.some.inj e2)⟩
theorem Le.sqT {K : PySem.W.Frag} {H H' : Hp} (l : Le H H') {p : Addr} {xs : List V} (h : SqT K H p xs) : SqT K H' p xs := by
  rcases h with (h | ⟨o, h⟩) | h
  · exact .inl (.inl (l.tup _ _ h))
  · exact .inl (.inr ⟨o, l.frz _ _ _ h⟩)
  · exact .inr h
mutual
theorem RelD.mono {G : Gc} {H H' : Hp} (l : Le H H') : ∀ (v : Val) (x : V), RelD G H v x → RelD G H' v x
  | .non, _, h => h
  | .bl _, _, h => h
  | .int _, _, h => h
  | .str _, _, h => h
  | .tup vs, x, h => by
    obtain ⟨p, xs, e, q, r⟩ := h
    exact ⟨p, xs, e, l.sqT q, RelDs.mono l vs xs r⟩
  | .lst vs, x, h => by
    obtain ⟨p, o, xs, e, q, r⟩ := h
    exact ⟨p, o, xs, e, l.frz _ _ _ q, RelDs.mono l vs xs r⟩
  | .ref _, _, h => h
  | .fn _, _, h => h
  | .exc c, x, h => by
    obtain ⟨p, o, e, q, r⟩ := h
    exact ⟨p, o, e, l.frz _ _ _ q, r⟩
  | .emp, x, h => by
    obtain ⟨p, o, e, q⟩ := h
    exact ⟨p, o, e, l.frz _ _ _ q⟩
theorem RelDs.mono {G : Gc} {H H' : Hp} (l : Le H H') : ∀ (vs : List Val) (xs : List V), RelDs G H vs xs → RelDs G H' vs xs
  | [], _, h => h
  | v :: vs, xs, h => by
    obtain ⟨x, r, e, h1, h2⟩ := h
    exact ⟨x, r, e, RelD.mono l v x h1, RelDs.mono l vs r h2⟩
end
theorem RelDs.nil {G : Gc} {H : Hp} : RelDs G H [] [] := rfl
theorem RelDs.cons {G : Gc} {H : Hp} {v : Val} {x : V} {vs : List Val} {xs : List V} (a : RelD G H v x) (b : RelDs G H vs xs) : RelDs G H (v :: vs) (x :: xs) := ⟨x, xs, rfl, a, b⟩
theorem RelDs.length {G : Gc} {H : Hp} : ∀ {vs : List Val} {xs : List V}, RelDs G H vs xs → xs.length = vs.length
  | [], _, h => by cases h; rfl
  | v :: vs, xs, h => by
    obtain ⟨x, r, rfl, _, h2⟩ := h
    simp [RelDs.length h2]
theorem RelDs.get {G : Gc} {H : Hp} : ∀ {vs : List Val} {xs : List V} {i : Nat} {v : Val}, RelDs G H vs xs → vs[i]? = some v → ∃ x, xs[i]? = some x ∧ RelD G H v x
  | [], _, _, _, _, e => by simp at e
  | u :: vs, xs, i, v, h, e => by
    obtain ⟨x, r, rfl, h1, h2⟩ := h
    cases i with
    | zero => simp at e; subst e; exact ⟨x, rfl, h1⟩
    | succ i =>
      obtain ⟨y, q1, q2⟩ := RelDs.get (i := i) h2 (by simpa using e)
      exact ⟨y, by simpa using q1, q2⟩
theorem RelDs.get' {G : Gc} {H : Hp} : ∀ {vs : List Val} {xs : List V} {i : Nat} {x : V}, RelDs G H vs xs → xs[i]? = some x → ∃ v, vs[i]? = some v ∧ RelD G H v x
  | [], _, _, _, h, e => by cases h; simp at e
  | u :: vs, xs, i, x, h, e => by
    obtain ⟨y, r, rfl, h1, h2⟩ := h
    cases i with
    | zero => simp at e; subst e; exact ⟨u, rfl, h1⟩
    | succ i =>
      obtain ⟨v, q1, q2⟩ := RelDs.get' (i := i) h2 (by simpa using e)
      exact ⟨v, by simpa using q1, q2⟩
theorem RelDs.append {G : Gc} {H : Hp} : ∀ {vs ws : List Val} {xs ys : List V}, RelDs G H vs xs → RelDs G H ws ys → RelDs G H (vs ++ ws) (xs ++ ys)
  | [], _, _, _, h, q => by cases h; exact q
  | v :: vs, _, _, _, h, q => by
    obtain ⟨x, r, rfl, h1, h2⟩ := h
    exact .cons h1 (RelDs.append h2 q)
theorem RelDs.take {G : Gc} {H : Hp} : ∀ {vs : List Val} {xs : List V} (n : Nat), RelDs G H vs xs → RelDs G H (vs.take n) (xs.take n)
  | _, _, 0, _ => by simpa using RelDs.nil
  | [], _, n + 1, h => by cases h; simpa using RelDs.nil
  | v :: vs, xs, n + 1, h => by
    obtain ⟨x, r, rfl, h1, h2⟩ := h
    exact .cons h1 (RelDs.take n h2)
theorem RelDs.drop {G : Gc} {H : Hp} : ∀ {vs : List Val} {xs : List V} (n : Nat), RelDs G H vs xs → RelDs G H (vs.drop n) (xs.drop n)
  | _, _, 0, h => h
  | [], _, n + 1, h => by cases h; simpa using RelDs.nil
  | v :: vs, xs, n + 1, h => by
    obtain ⟨x, r, rfl, h1, h2⟩ := h
    exact RelDs.drop n h2
theorem RelDs.dropLast {G : Gc} {H : Hp} {vs : List Val} {xs : List V} (h : RelDs G H vs xs) : RelDs G H vs.dropLast xs.dropLast := by
  rw [List.dropLast_eq_take, List.dropLast_eq_take, h.length]; exact h.take _
theorem RelDs.eraseIdx {G : Gc} {H : Hp} : ∀ {vs : List Val} {xs : List V} (n : Nat), RelDs G H vs xs → RelDs G H (vs.eraseIdx n) (xs.eraseIdx n)
  | [], _, n, h => by cases h; simpa using RelDs.nil
  | v :: vs, xs, 0, h => by
    obtain ⟨x, r, rfl, h1, h2⟩ := h
    exact h2
  | v :: vs, xs, n + 1, h => by
    obtain ⟨x, r, rfl, h1, h2⟩ := h
    exact .cons h1 (RelDs.eraseIdx n h2)
theorem RelDs.set {G : Gc} {H : Hp} {v : Val} {x : V} (q : RelD G H v x) : ∀ {vs : List Val} {xs : List V} (n : Nat), RelDs G H vs xs → RelDs G H (vs.set n v) (xs.set n x)
  | [], _, n, h => by cases h; simpa using RelDs.nil
  | u :: vs, xs, 0, h => by
    obtain ⟨y, r, rfl, h1, h2⟩ := h
    exact .cons q h2
  | u :: vs, xs, n + 1, h => by
    obtain ⟨y, r, rfl, h1, h2⟩ := h
    exact .cons h1 (RelDs.set q n h2)
theorem RelDs.reverse {G : Gc} {H : Hp} : ∀ {vs : List Val} {xs : List V}, RelDs G H vs xs → RelDs G H vs.reverse xs.reverse
  | [], _, h => by cases h; simpa using RelDs.nil
  | v :: vs, xs, h => by
    obtain ⟨x, r, rfl, h1, h2⟩ := h
    rw [List.reverse_cons, List.reverse_cons]
    exact (RelDs.reverse h2).append (.cons h1 .nil)

/-! ### keys of plain dicts -/
def keyV : Val → Option Key
  | .int i => some (.inl i)
  | .str s => some (.inr s)
  | _ => none
def RelKV (G : Gc) (H : Hp) : List (Val × Val) → List (Key × V) → Prop := Paired fun p q => keyV p.1 = some q.1 ∧ RelD G H p.2 q.2

/-- a concrete object -/
def RelCO (G : Gc) (H : Hp) (a : Addr) : CO → Prop
  | .list l => ∃ xs, H a = some (.lst xs) ∧ RelDs G H l xs
  | .dict deep kvs => deep = false ∧ ∃ ks, H a = some (.dK ks) ∧ RelKV G H kvs ks
  | .inst c fs => ∃ dx fs', H a = some (.ins (G.ca c) dx fs') ∧ Paired (fun (p : Str × Val) (q : Str × V) => p.1 = q.1 ∧ RelD G H p.2 q.2) fs fs'
  | .ab _ => False
theorem Paired.imp {α β : Type} {F E : α → β → Prop} (h : ∀ a b, F a b → E a b) : ∀ {l : List α} {m : List β}, Paired F l m → Paired E l m
  | _, _, .nil => .nil
  | _, _, .cons r t => .cons (h _ _ r) (Paired.imp h t)
theorem RelCO.mono {G : Gc} {H H' : Hp} {a : Addr} (l : Le H H') (e : H' a = H a) : ∀ {o : CO}, RelCO G H a o → RelCO G H' a o
  | .list _, ⟨xs, h, r⟩ => ⟨xs, e.trans h, RelDs.mono l _ _ r⟩
  | .dict _ _, ⟨d, ks, h, r⟩ => ⟨d, ks, e.trans h, Paired.imp (fun _ _ q => ⟨q.1, RelD.mono l _ _ q.2⟩) r⟩
  | .inst _ _, ⟨dx, fs, h, r⟩ => ⟨dx, fs, e.trans h, Paired.imp (fun _ _ q => ⟨q.1, RelD.mono l _ _ q.2⟩) r⟩
theorem RelCO.some {G : Gc} {H : Hp} {a : Addr} : ∀ {o : CO}, RelCO G H a o → ∃ u, H a = some u ∧ MutO u
  | .list _, ⟨xs, h, r⟩ => ⟨_, h, mutL⟩
  | .dict _ _, ⟨d, ks, h, r⟩ => ⟨_, h, mutD⟩
  | .inst _ _, ⟨dx, fs, h, r⟩ => ⟨_, h, mutI⟩

/-! ### the clean heap against the abstract one: hc holds the parts of the abstract objects too, own tells whose part an object is -/
def AbsOk (A : Ab) (a : Addr) (hc : Addr → Option CO) (own : Addr → Addr) : Prop :=
  match A with
  | .draws n => ∃ (g c : Addr) (l t : Int) (gs cs : List Int), hc a = some (.dict false [(.str "great", .ref g), (.str "cells", .ref c), (.str "left", .int l), (.str "turn", .int t)]) ∧
      hc g = some (.list (gs.map .int)) ∧ hc c = some (.list (cs.map .int)) ∧ own g = a ∧ own c = a ∧ g ≠ a ∧ c ≠ a ∧ g ≠ c ∧
      0 ≤ l ∧ 0 ≤ t ∧ t ≤ n ∧ (∀ x ∈ gs, 0 ≤ x) ∧ ∀ x ∈ cs, 0 ≤ x
  | .other _ => False
def isAb : CO → Bool
  | .ab _ => true
  | _ => false
structure RepW (G : Gc) (h : CH) (H : Hp) (hc : Addr → Option CO) (own : Addr → Addr) : Prop where
  co : ∀ a o, hc a = some o → RelCO G H a o
  top : ∀ a o, h a = some o → own a = a ∧ (isAb o = false → hc a = some o)
  ab : ∀ a A, h a = some (.ab A) → AbsOk A a hc own
/-- what stays as it is, beside the clean heap -/
abbrev Frm := Addr → Option HO
def Rep0 (G : Gc) (F : Frm) (h : CH) (H : Hp) : Prop := ∃ hc own, RepW G h H hc own ∧ ∀ b u, F b = some u → H b = some u ∧ hc b = none ∧ MutO u
theorem AbsOk.imp {A : Ab} {a : Addr} {hc hc' : Addr → Option CO} {own own' : Addr → Addr} (h : AbsOk A a hc own)
    (k : ∀ b o, hc b = some o → (b = a ∨ own b = a) → hc' b = some o ∧ own' b = own b) : AbsOk A a hc' own' := by
  cases A with
  | draws n =>
    obtain ⟨g, c, l, t, gs, cs, e1, e2, e3, o1, o2, r⟩ := h
    refine ⟨g, c, l, t, gs, cs, (k _ _ e1 (.inl rfl)).1, (k _ _ e2 (.inr o1)).1, (k _ _ e3 (.inr o2)).1, ?_, ?_, r⟩
    · rw [(k _ _ e2 (.inr o1)).2]; exact o1
    · rw [(k _ _ e3 (.inr o2)).2]; exact o2
  | other n => exact h
theorem AbsOk.at_ {A : Ab} {a : Addr} {hc : Addr → Option CO} {own : Addr → Addr} (h : AbsOk A a hc own) : ∃ o, hc a = some o := by
  cases A with
  | draws => obtain ⟨g, c, l, t, gs, cs, e1, _⟩ := h; exact ⟨_, e1⟩
  | other n => exact h.elim
section
variable {G : Gc} {F : Frm} {h : CH} {H H' : Hp} {a p : Addr} {o o' : CO}
theorem Rep0.conc (r : Rep0 G F h H) (e : h a = some o) (c : isAb o = false) : RelCO G H a o := by
  obtain ⟨hc, own, r, f⟩ := r
  exact r.co _ _ ((r.top _ _ e).2 c)
theorem Rep0.in_some (r : Rep0 G F h H) (e : h a = some o) : ∃ u, H a = some u ∧ MutO u := by
  obtain ⟨hc, own, r, f⟩ := r
  cases q : isAb o with
  | false => exact (r.co _ _ ((r.top _ _ e).2 q)).some
  | true =>
    cases o with
    | ab A =>
      obtain ⟨u, e'⟩ := (r.ab a A e).at_
      exact (r.co _ _ e').some
    | _ => cases q
theorem Rep0.free (r : Rep0 G F h H) (e : H p = none) : h p = none := by
  cases q : h p with
  | none => rfl
  | some o =>
    obtain ⟨u, e', _⟩ := r.in_some q
    rw [e] at e'; cases e'
theorem Rep0.mono (r : Rep0 G F h H) (l : Le H H') (k : ∀ b u, H b = some u → MutO u → H' b = some u) : Rep0 G F h H' := by
  obtain ⟨hc, own, r, f⟩ := r
  refine ⟨hc, own, ⟨fun b o e => ?_, r.top, r.ab⟩, fun b u e => ⟨k b u (f b u e).1 (f b u e).2.2, (f b u e).2⟩⟩
  have q := r.co b o e
  obtain ⟨u, e', m⟩ := q.some
  exact q.mono l ((k b u e' m).trans e'.symm)
/-- something new that is no object of the clean heap -/
theorem Rep0.beside {u : HO} (r : Rep0 G F h H) (n : H p = none) : Rep0 G F h (upd H p u) :=
  r.mono (.new n) fun b v e _ => by rw [upd_ne (ne_of_none e n)]; exact e
theorem Rep0.alloc {u : HO} (r : Rep0 G F h H) (n : H p = none) (c : isAb o = false) (q : RelCO G (upd H p u) p o) : Rep0 G F (h.set p o) (upd H p u) := by
  have hp : h p = none := r.free n
  obtain ⟨hc, own, r, f⟩ := r
  have np : ∀ b x, hc b = some x → b ≠ p := fun b x e z => by
    subst z
    obtain ⟨v, e', _⟩ := (r.co _ _ e).some
    rw [n] at e'; cases e'
  have nf : ∀ b u, F b = some u → b ≠ p := fun b u e z => by
    subst z
    have := (f _ _ e).1
    rw [n] at this; cases this
  refine ⟨fun b => if b = p then some o else hc b, fun b => if b = p then p else own b, ⟨fun b x e => ?_, fun b x e => ?_, fun b A e => ?_⟩, fun b u e => ⟨by rw [upd_ne (nf b u e)]; exact (f b u e).1, by simp only [if_neg (nf b u e)]; exact (f b u e).2.1, (f b u e).2.2⟩⟩
  · by_cases z : b = p
    · subst z
      simp only [if_pos] at e
      cases e; exact q
    · simp only [if_neg z] at e
      exact (r.co _ _ e).mono (.new n) (upd_ne z)
  · by_cases z : b = p
    · subst z
      rw [CH.set_same] at e; cases e
      simp
    · rw [CH.set_ne z] at e
      obtain ⟨e1, e2⟩ := r.top b x e
      simp only [if_neg z]
      exact ⟨e1, e2⟩
  · have z : b ≠ p := fun z => by
      subst z
      rw [CH.set_same] at e; cases e; cases c
    rw [CH.set_ne z] at e
    refine (r.ab b A e).imp fun d x e1 _ => ?_
    have := np d x e1
    simp [this, e1]
theorem Rep0.write {u : HO} (r : Rep0 G F h H) (e : h a = some o) (c : isAb o = false) (c' : isAb o' = false) (q : RelCO G (upd H a u) a o') : Rep0 G F (h.set a o') (upd H a u) := by
  obtain ⟨w0, hw, mw⟩ := r.in_some e
  obtain ⟨hc, own, r, f⟩ := r
  obtain ⟨ea, eh⟩ := r.top a o e
  have nf : ∀ b u, F b = some u → b ≠ a := fun b u e0 z => by
    subst z
    have h1 := (f _ _ e0).2.1
    rw [eh c] at h1; cases h1
  refine ⟨fun b => if b = a then some o' else hc b, own, ⟨fun b x e => ?_, fun b x e => ?_, fun b A e2 => ?_⟩, fun b u e => ⟨by rw [upd_ne (nf b u e)]; exact (f b u e).1, by simp only [if_neg (nf b u e)]; exact (f b u e).2.1, (f b u e).2.2⟩⟩
  · by_cases z : b = a
    · subst z
      simp only [if_pos] at e
      cases e; exact q
    · simp only [if_neg z] at e
      exact (r.co _ _ e).mono (.set hw mw) (upd_ne z)
  · by_cases z : b = a
    · subst z
      rw [CH.set_same] at e; cases e
      simp [ea]
    · rw [CH.set_ne z] at e
      obtain ⟨e1, e2⟩ := r.top b x e
      simp only [if_neg z]
      exact ⟨e1, e2⟩
  · have z : b ≠ a := fun z => by
      subst z
      rw [CH.set_same] at e2; cases e2; cases c'
    rw [CH.set_ne z] at e2
    refine (r.ab b A e2).imp fun d x e1 w => ?_
    have nd : d ≠ a := by
      rintro rfl
      rcases w with rfl | w
      · exact z rfl
      · rw [ea] at w; exact z w.symm
    simp [nd, e1]
theorem Rep0.keep {g : CH} (r : Rep0 G F h H) : Rep0 G F (h.keep g) H := by
  obtain ⟨hc, own, r, f⟩ := r
  refine ⟨hc, own, ⟨r.co, fun b x e => r.top b x ?_, fun b A e => r.ab b A ?_⟩, f⟩
  all_goals
    rw [CH.keep_at] at e
    split at e
    · exact e
    · cases e
/-- something new is set aside -/
def Frm.set (F : Frm) (D : Addr) (u : HO) : Frm := fun b => if b = D then some u else F b
theorem Frm.set_same {D : Addr} {u : HO} : F.set D u D = some u := by simp [Frm.set]
theorem Frm.set_ne {D b : Addr} {u : HO} (e : b ≠ D) : F.set D u b = F b := by simp [Frm.set, e]
theorem Rep0.hide {D : Addr} {u : HO} (r : Rep0 G F h H) (n : H D = none) (m : MutO u) : Rep0 G (F.set D u) h (upd H D u) := by
  have nd : ∀ hc own, RepW G h H hc own → hc D = none := fun hc own r => by
    cases q : hc D with
    | none => rfl
    | some o =>
      obtain ⟨v, e', _⟩ := (r.co D o q).some
      rw [n] at e'; cases e'
  obtain ⟨hc, own, r, f⟩ := r
  have z := nd hc own r
  refine ⟨hc, own, ⟨fun b o e => ?_, r.top, r.ab⟩, fun b v e => ?_⟩
  · have nb : b ≠ D := fun q => by subst q; rw [z] at e; cases e
    exact (r.co b o e).mono (.new n) (upd_ne nb)
  · by_cases q : b = D
    · subst q
      rw [Frm.set_same] at e
      cases e
      exact ⟨upd_same, z, m⟩
    · rw [Frm.set_ne q] at e
      exact ⟨by rw [upd_ne q]; exact (f b v e).1, (f b v e).2⟩
theorem Rep0.hid {D : Addr} {u : HO} (r : Rep0 G (F.set D u) h H) : H D = some u := by
  obtain ⟨hc, own, r, f⟩ := r
  exact (f D u Frm.set_same).1
/-- what is set aside changes -/
theorem Rep0.rehide {D : Addr} {u v : HO} (r : Rep0 G (F.set D u) h H) (m : MutO v) : Rep0 G (F.set D v) h (upd H D v) := by
  obtain ⟨hc, own, r, f⟩ := r
  obtain ⟨h1, z, mu⟩ := f D u Frm.set_same
  refine ⟨hc, own, ⟨fun b o e => ?_, r.top, r.ab⟩, fun b w e => ?_⟩
  · have nb : b ≠ D := fun q => by subst q; rw [z] at e; cases e
    exact (r.co b o e).mono (.set h1 mu) (upd_ne nb)
  · by_cases q : b = D
    · subst q
      rw [Frm.set_same] at e
      cases e
      exact ⟨upd_same, z, m⟩
    · rw [Frm.set_ne q] at e
      have := f b w (by rw [Frm.set_ne q]; exact e)
      exact ⟨by rw [upd_ne q]; exact this.1, this.2⟩
/-- .. and comes in -/
theorem Rep0.adopt {D : Addr} {u : HO} (r : Rep0 G (F.set D u) h H) (fn : F D = none) (c : isAb o = false) (q : RelCO G H D o) : Rep0 G F (h.set D o) H := by
  obtain ⟨hc, own, r, f⟩ := r
  obtain ⟨h1, z, mu⟩ := f D u Frm.set_same
  have nt : ∀ b x, h b = some x → isAb x = false → b ≠ D := fun b x e cx w => by
    subst w
    rw [(r.top b x e).2 cx] at z; cases z
  have np : ∀ b x, hc b = some x → b ≠ D := fun b x e w => by
    subst w
    rw [z] at e; cases e
  refine ⟨fun b => if b = D then some o else hc b, fun b => if b = D then D else own b, ⟨fun b x e => ?_, fun b x e => ?_, fun b A e => ?_⟩, fun b w e => ?_⟩
  · by_cases w : b = D
    · subst w
      simp only [if_pos] at e
      cases e; exact q
    · simp only [if_neg w] at e
      exact r.co b x e
  · by_cases w : b = D
    · subst w
      rw [CH.set_same] at e; cases e
      simp
    · rw [CH.set_ne w] at e
      obtain ⟨e1, e2⟩ := r.top b x e
      simp only [if_neg w]
      exact ⟨e1, e2⟩
  · have w : b ≠ D := fun w => by
      subst w
      rw [CH.set_same] at e; cases e; cases c
    rw [CH.set_ne w] at e
    refine (r.ab b A e).imp fun d x e1 _ => ?_
    have := np d x e1
    simp [this, e1]
  · have w' : b ≠ D := fun w' => by subst w'; rw [fn] at e; cases e
    have := f b w (by rw [Frm.set_ne w']; exact e)
    exact ⟨this.1, by simp only [if_neg w']; exact this.2.1, this.2.2⟩
/-- .. or is forgotten -/
theorem Rep0.unhide {D : Addr} {u : HO} (r : Rep0 G (F.set D u) h H) (fn : F D = none) : Rep0 G F h H := by
  obtain ⟨hc, own, r, f⟩ := r
  refine ⟨hc, own, r, fun b w e => ?_⟩
  have w' : b ≠ D := fun w' => by subst w'; rw [fn] at e; cases e
  exact f b w (by rw [Frm.set_ne w']; exact e)
/-- .. or is known for ever -/
theorem Rep0.freeze {D : Addr} {u : HO} {ob : Obj} (r : Rep0 G (F.set D u) h H) (fn : F D = none) : Rep0 G F h (upd H D (.frz ob u)) := by
  obtain ⟨hc, own, r, f⟩ := r
  obtain ⟨h1, z, mu⟩ := f D u Frm.set_same
  refine ⟨hc, own, ⟨fun b o e => ?_, r.top, r.ab⟩, fun b w e => ?_⟩
  · have nb : b ≠ D := fun q => by subst q; rw [z] at e; cases e
    exact (r.co b o e).mono (.set h1 mu) (upd_ne nb)
  · have w' : b ≠ D := fun w' => by subst w'; rw [fn] at e; cases e
    have := f b w (by rw [Frm.set_ne w']; exact e)
    exact ⟨by rw [upd_ne w']; exact this.1, this.2⟩
theorem Rep0.fr_free {D : Addr} (r : Rep0 G F h H) (n : H D = none) : F D = none := by
  cases e : F D with
  | none => rfl
  | some u =>
    obtain ⟨hc, own, r, f⟩ := r
    rw [(f D u e).1] at n; cases n
/-- .. and the tables of code objects stand -/
structure Rep (G : Gc) (F : Frm) (h : CH) (H : Hp) : Prop where
  tabs : LamX.Tabs G.T H
  r0 : Rep0 G F h H
theorem tabs_new {u : HO} (t : LamX.Tabs G.T H) (n : H p = none) : LamX.Tabs G.T (upd H p u) := t.ext fun b o e => by rw [upd_ne (ne_of_none e n)]; exact e
theorem tabs_set {u v : HO} (t : LamX.Tabs G.T H) (e : H p = some u) (m : MutO u) : LamX.Tabs G.T (upd H p v) := fun q hq => by
  obtain ⟨ps, h1, h2, h3⟩ := t q hq
  refine ⟨ps, ?_, h2, fun pos cv hc => ?_⟩
  · rw [upd_ne]; exact h1
    rintro rfl; rw [e] at h1; cases h1; exact m.tbl _ rfl
  · obtain ⟨c, e1, e2⟩ := h3 pos cv hc
    refine ⟨c, e1, ?_⟩
    rw [upd_ne]; exact e2
    rintro rfl; rw [e] at e2
    exact m.code _ _ (Option.some.inj e2)
theorem Rep.conc (r : Rep G F h H) (e : h a = some o) (c : isAb o = false) : RelCO G H a o := r.r0.conc e c
theorem Rep.in_some (r : Rep G F h H) (e : h a = some o) : ∃ u, H a = some u ∧ MutO u := r.r0.in_some e
theorem Rep.free (r : Rep G F h H) (e : H p = none) : h p = none := r.r0.free e
theorem Rep.mono (r : Rep G F h H) (l : Le H H') (k : ∀ b u, H b = some u → MutO u → H' b = some u) (t : LamX.Tabs G.T H') : Rep G F h H' := ⟨t, r.r0.mono l k⟩
theorem Rep.beside {u : HO} (r : Rep G F h H) (n : H p = none) : Rep G F h (upd H p u) := ⟨tabs_new r.tabs n, r.r0.beside n⟩
theorem Rep.alloc {u : HO} (r : Rep G F h H) (n : H p = none) (c : isAb o = false) (q : RelCO G (upd H p u) p o) : Rep G F (h.set p o) (upd H p u) := ⟨tabs_new r.tabs n, r.r0.alloc n c q⟩
theorem Rep.write {u : HO} (r : Rep G F h H) (e : h a = some o) (c : isAb o = false) (c' : isAb o' = false) (q : RelCO G (upd H a u) a o') : Rep G F (h.set a o') (upd H a u) := by
  obtain ⟨w, hw, m⟩ := r.in_some e
  exact ⟨tabs_set r.tabs hw m, r.r0.write e c c' q⟩
theorem Rep.keep {g : CH} (r : Rep G F h H) : Rep G F (h.keep g) H := ⟨r.tabs, r.r0.keep⟩
theorem Rep.hide {D : Addr} {u : HO} (r : Rep G F h H) (n : H D = none) (m : MutO u) : Rep G (F.set D u) h (upd H D u) := ⟨tabs_new r.tabs n, r.r0.hide n m⟩
theorem Rep.hid {D : Addr} {u : HO} (r : Rep G (F.set D u) h H) : H D = some u := r.r0.hid
theorem Rep0.hidm {D : Addr} {u : HO} (r : Rep0 G (F.set D u) h H) : MutO u := by
  obtain ⟨hc, own, r, f⟩ := r
  exact (f D u Frm.set_same).2.2
theorem Rep.rehide {D : Addr} {u v : HO} (r : Rep G (F.set D u) h H) (m : MutO v) : Rep G (F.set D v) h (upd H D v) := ⟨tabs_set r.tabs r.hid r.r0.hidm, r.r0.rehide m⟩
theorem Rep.adopt {D : Addr} {u : HO} (r : Rep G (F.set D u) h H) (fn : F D = none) (c : isAb o = false) (q : RelCO G H D o) : Rep G F (h.set D o) H := ⟨r.tabs, r.r0.adopt fn c q⟩
theorem Rep.unhide {D : Addr} {u : HO} (r : Rep G (F.set D u) h H) (fn : F D = none) : Rep G F h H := ⟨r.tabs, r.r0.unhide fn⟩
theorem Rep.freeze {D : Addr} {u : HO} {ob : Obj} (r : Rep G (F.set D u) h H) (fn : F D = none) : Rep G F h (upd H D (.frz ob u)) := ⟨tabs_set r.tabs r.hid r.r0.hidm, r.r0.freeze fn⟩
theorem Rep.fr_free {D : Addr} (r : Rep G F h H) (n : H D = none) : F D = none := r.r0.fr_free n
end
end Mi

set_option Elab.async false
set_option linter.all false
set_option maxRecDepth 100000
set_option maxHeartbeats 4000000
namespace Mi
open PySem L2

inductive Sl where
  | v (v : Val)
  | c (k : Nat) (ws : List Val)
abbrev Loc := List (Option Sl)
/-! ### programs as predicate transformers: what is wanted of the answer, of an exception, the heap -/
def M (α : Type) : Type := (α → CH → Prop) → (Nat → CH → Prop) → CH → Prop
@[reducible] def ret {α : Type} (a : α) : M α := fun Q _ h => Q a h
@[reducible] def bnd {α β : Type} (m : M α) (k : α → M β) : M β := fun Q E h => m (fun a h' => k a Q E h') E h
def stuck {α : Type} : M α := fun _ _ _ => False
def raiseM {α : Type} (c : Nat) : M α := fun _ E h => E c h
def noexc {α : Type} (m : M α) : M α := fun Q _ h => m Q (fun _ _ => False) h
def newM (o : CO) : M Val := fun Q _ h => ∀ p, h p = none → Q (.ref p) (h.set p o)
/-- a new list: m, an object; else known for ever -/
def newL (m : Bool) (l : List Val) : M Val := if m then newM (.list l) else ret (.lst l)


/-! ### the text -/
inductive Op where
  | add | sub | mul | fdiv | mod | pow
  deriving DecidableEq
inductive Cm where
  | eq | ne | lt | le | gt | ge | is | isn | inn | nin
  deriving DecidableEq
inductive Ty where
  | int | bool | str | tup | lst | dict | own (c : Nat)
  deriving DecidableEq
inductive Bi where
  | maxD | sortSet (m : Bool) | len | all | any | abs | int | tuple | list (m : Bool) | sum | max | min | sorted (m : Bool)
  deriving DecidableEq
inductive Bm where
  | append | extend | pop | get | setdefault | index | values | count | remove
  deriving DecidableEq
inductive ItK where
  | seq | enum | zip | range
  deriving DecidableEq
inductive Clo where
  | var (i : Nat) | lam (k : Nat) (caps : List Nat)

inductive E where
  | skip
  | var (i : Nat)
  | con (v : Val)
  | gint (x : Str) (i : Int)
  | fn (x : Str) (f : Nat)
  | bin (op : Op) (m : Bool) (a b : E)
  | neg (a : E)
  | cmp (op : Cm) (a b : E)
  | chain (o1 o2 : Cm) (a b c : E)
  | band (es : List E)
  | bor (es : List E)
  | not (a : E)
  | ite (c a b : E)
  | tup (es : List E)
  | list (m : Bool) (es : List E)
  | dict (deep : Bool) (es : List E)
  | emp
  | ix (a i : E)
  | cut (m : Bool) (a lo hi : E)
  | rev (m : Bool) (a : E)
  | comp (m : Bool) (tg : List Nat) (k : ItK) (its : List E) (cond elt : E)
  | call (x : Str) (f : Nat) (es : List E)
  | callc (x : Str) (f : Nat) (es : List E) (c : Clo)
  | callk (x : Str) (f : Nat) (es : List E) (ks : List Str) (kes : List E) (ord : List Nat)
  | callv (i : Nat) (es : List E)
  | meth (m : Str) (o : E) (es : List E)
  | make (x : Str) (c : Nat) (es : List E)
  | bi (b : Bi) (es : List E)
  | rng1 (k : Option Bool) (a : E) | rng2 (k : Option Bool) (a b : E)
  | sset (m : Bool) (a : E)
  | lset (a : E)
  | bm (b : Bm) (o : E) (es : List E)
  | attr (o : E) (f : Str)
  | isi (a : E) (t : Ty)
  | reprEq (neg : Bool) (a b : E)

inductive Tg where
  | name (i : Nat) | tup (is : List Nat)

inductive S where
  | set (i : Nat) (e : E)
  | setT (is : List Nat) (e : E)
  | par (is : List Nat) (es : List E)
  | setI (o i e : E)
  | setA (o : E) (f : Str) (e : E)
  | ex (e : E)
  | ite (c : E) (a b : List S)
  | for (tg : List Nat) (k : ItK) (its : List E) (body : List S)
  | while (c : E) (body : List S)
  | ret (e : E) | retN
  | cont | pass
  | raise (x : Str) (c : Nat)
  | tryc (i : Nat) (x : Str) (c : Nat) (n j : Nat)
  | forlam (i : Nat) (ls : List (Nat × List Nat)) (x : Str) (f : Nat) (e r : E)

/-! ### data -/
mutual
def toD : Val → Option PyData
  | .non => some .none
  | .bl b => some (.bool b)
  | .int i => some (.int i)
  | .str s => some (.str s)
  | .tup l => (toDs l).map .tuple
  | .lst l => (toDs l).map .list
  | .ref _ => none
  | .fn _ => none
  | .exc _ => none
  | .emp => none
def toDs : List Val → Option (List PyData)
  | [] => some []
  | v :: l => match toD v, toDs l with
    | some d, some ds => some (d :: ds)
    | _, _ => none
end
/-- a list object is read -/
def deref (h : CH) : Val → Val
  | .ref a => match h a with
    | some (.list l) => .lst l
    | _ => .ref a
  | v => v
/-- the items of a list or tuple -/
def seqOf (h : CH) : Val → Option (List Val)
  | .tup l => some l
  | .lst l => some l
  | .ref a => match h a with
    | some (.list l) => some l
    | _ => none
  | _ => none
def lstOf (h : CH) : Val → Option (List Val)
  | .lst l => some l
  | .ref a => match h a with
    | some (.list l) => some l
    | _ => none
  | _ => none
def refOf : Val → Option Addr
  | .ref a => some a
  | _ => none
def intOf : Val → Option Int
  | .int a => some a
  | _ => none
def tupOf : Val → Option (List Val)
  | .tup l => some l
  | _ => none
/-- run on what an option gives -/
def opt {α β : Type} (o : Option α) (k : α → M β) : M β := match o with
  | some a => k a
  | none => stuck
def chk {α : Type} (b : Prop) (m : M α) : M α := fun Q E h => b ∧ m Q E h

def truthO (h : CH) : Val → Option Bool
  | .non => some false
  | .bl b => some b
  | .int i => some (i != 0)
  | .str s => some ((s.length : Int) != 0)
  | .tup l => some (!l.isEmpty)
  | .lst l => some (!l.isEmpty)
  | .ref a => match h a with
    | some (.list l) => some (!l.isEmpty)
    | some (.dict _ kvs) => some (!kvs.isEmpty)
    | _ => none
  | _ => none
def truthM (v : Val) : M Bool := fun Q _ h => match truthO h v with
  | some b => Q b h
  | none => False

def eqM (x y : Val) : M Bool := fun Q _ h => match toD (deref h x), toD (deref h y) with
  | some d, some e => min d.depth e.depth ≤ 64 ∧ Q (PyData.eqv d e) h
  | _, _ => False
def inM (x y : Val) : M Bool := fun Q _ h => match toD (deref h x), seqOf h y with
  | some d, some l => (match toDs l with
    | some ds => (∀ e ∈ ds, min d.depth e.depth ≤ 64) ∧ Q (ds.any fun e => PyData.eqv e d) h
    | none => False)
  | _, _ => False
/-- the value under a key -/
def valAt (kvs : List (Val × Val)) (k : Key) : Option Val := (kvs.find? fun p => decide (keyV p.1 = some k)).map (·.2)
def kyV : Key → Val
  | .inl i => .int i
  | .inr s => .str s
def putAt (kvs : List (Val × Val)) (k : Key) (v : Val) : List (Val × Val) :=
  if (kvs.any fun p => decide (keyV p.1 = some k)) = true then kvs.map (fun p => if keyV p.1 = some k then (p.1, v) else p) else kvs ++ [(kyV k, v)]

def binM (op : Op) (m : Bool) (x y : Val) : M Val := fun Q E h => match op, x, y with
  | .add, .int i, .int j => Q (.int (i + j)) h
  | .sub, .int i, .int j => Q (.int (i - j)) h
  | .mul, .int i, .int j => CMul i j ∧ Q (.int (i * j)) h
  | .fdiv, .int i, .int j => CDiv i j ∧ Q (.int (i / j)) h
  | .mod, .int i, .int j => 0 < j ∧ Q (.int (i % j)) h
  | .pow, .int i, .int j => CPow i j ∧ Q (.int (i ^ j.toNat)) h
  | .add, .tup l, .tup r => l.length + r.length ≤ sizeLine ∧ Q (.tup (l ++ r)) h
  | .add, x, y => (match lstOf h x, lstOf h y with
    | some l, some r => l.length + r.length ≤ sizeLine ∧ newL m (l ++ r) Q E h
    | _, _ => False)
  | .mul, .tup l, .int k => l ≠ [] ∧ 2 ≤ k ∧ k ≤ 1000 ∧ l.length ≤ 1000 ∧ Q (.tup (List.replicate k.toNat l).flatten) h
  | .mul, .ref a, .int k => (match h a with
    | some (.list l) => -(2 ^ 63) ≤ k ∧ k < 2 ^ 63 ∧ l.length * k.toNat ≤ sizeLine ∧ newL m (List.replicate k.toNat l).flatten Q E h
    | _ => False)
  | _, _, _ => False
def isNonV : Val → Bool
  | .non => true
  | _ => false
def cmpM (op : Cm) (x y : Val) : M Bool := fun Q E h => match op with
  | .eq => eqM x y Q E h
  | .ne => eqM x y (fun b h' => Q (!b) h') E h
  | .inn => inM x y Q E h
  | .nin => inM x y (fun b h' => Q (!b) h') E h
  | .is => (match x, y with
    | x, .non => Q (isNonV x) h
    | .bl a, .bl b => Q (a == b) h
    | _, _ => False)
  | .isn => (match x, y with
    | x, .non => Q (!isNonV x) h
    | .bl a, .bl b => Q (!(a == b)) h
    | _, _ => False)
  | op => (match x, y with
    | .int i, .int j => Q (match op with
      | .lt => decide (i < j)
      | .le => decide (i ≤ j)
      | .gt => decide (j < i)
      | _ => decide (j ≤ i)) h
    | _, _ => False)

def ixM (x y : Val) : M Val := fun Q _ h => match y with
  | .int i => (match seqOf h x with
    | some l => (match atI l i with
      | some v => Q v h
      | none => False)
    | none => (match x with
      | .ref a => (match h a with
        | some (.dict _ kvs) => (match valAt kvs (.inl i) with
          | some v => Q v h
          | none => False)
        | _ => False)
      | _ => False))
  | .str s => (match x with
    | .ref a => (match h a with
      | some (.dict _ kvs) => (match valAt kvs (.inr s) with
        | some v => Q v h
        | none => False)
      | _ => False)
    | _ => False)
  | _ => False
def cutL (xs : List Val) (lo hi : Option Int) : List Val := (xs.drop (HT.sIx xs.length 0 lo)).take (HT.sIx xs.length xs.length hi - HT.sIx xs.length 0 lo)
def partO : Val → Option (Option Int)
  | .int i => some (some i)
  | _ => none
def cutM (m : Bool) (x : Val) (lo hi : Option Int) : M Val := fun Q E h => match x with
  | .tup l => Q (.tup (cutL l lo hi)) h
  | x => (match lstOf h x with
    | some l => newL m (cutL l lo hi) Q E h
    | none => False)
def revM (m : Bool) (x : Val) : M Val := fun Q E h => match x with
  | .tup l => Q (.tup l.reverse) h
  | x => (match lstOf h x with
    | some l => newL m l.reverse Q E h
    | none => False)

/-- a value's kind -/
inductive Kd where
  | non | bool | int | str | tup | lst | dict | own (c : Nat)
  deriving DecidableEq
/-- what is known of the classes -/
structure CI where
  sub : Nat → Nat → Option Bool
  exm : Nat → Nat → Option Bool
  own : Nat → Bool
  ins : Nat → Bool
  exc : Nat → Bool
  ab : Ab → Option Nat
def kdOf (I : CI) (h : CH) : Val → Option Kd
  | .non => some .non
  | .bl _ => some .bool
  | .int _ => some .int
  | .str _ => some .str
  | .tup _ => some .tup
  | .lst _ => some .lst
  | .emp => some .dict
  | .exc c => if I.exc c = true then some (.own c) else none
  | .fn _ => none
  | .ref a => match h a with
    | some (.list _) => some .lst
    | some (.dict _ _) => some .dict
    | some (.inst c _) => if I.ins c = true then some (.own c) else none
    | some (.ab _) => none
    | none => none
def kdIs (I : CI) (k : Kd) (t : Ty) : Option Bool := match k, t with
  | .own c, .own d => I.sub c d
  | .own c, _ => if I.own c = true then some false else none
  | _, .own d => if I.own d = true then some false else none
  | .int, .int => some true
  | .bool, .int => some true
  | .bool, .bool => some true
  | .str, .str => some true
  | .tup, .tup => some true
  | .lst, .lst => some true
  | .dict, .dict => some true
  | _, _ => some false

def intsOf : List Val → Option (List Int)
  | [] => some []
  | .int i :: r => (intsOf r).map (i :: ·)
  | _ :: _ => none
def boolsOf : List Val → Option (List Bool)
  | [] => some []
  | .bl i :: r => (boolsOf r).map (i :: ·)
  | _ :: _ => none

def lenO (h : CH) : Val → Option Nat
  | .tup l => some l.length
  | .lst l => some l.length
  | .str s => some s.length
  | .emp => some 0
  | .ref a => match h a with
    | some (.list l) => some l.length
    | some (.dict _ kvs) => some kvs.length
    | _ => none
  | _ => none
def encV (v : Val) : PyData := (toD v).getD .none
def smallD : PyData → Prop
  | .int i => i.natAbs.log2 < 1920
  | .str z => (reprText z).length ≤ sizeLine
  | .list xs => PyProof.Rows.isDisplay (.list xs) = true ∧ (PyData.list xs).showable = true ∧ (PyData.list xs).hasDict = false ∧ (PyData.list xs).depth ≤ 64 ∧ (PyData.list xs).shown.length ≤ sizeLine
  | .tuple xs => (PyData.tuple xs).showable = true ∧ (PyData.tuple xs).hasDict = false ∧ (PyData.tuple xs).depth ≤ 64 ∧ (PyData.tuple xs).shown.length ≤ sizeLine
  | .none => True
  | .bool _ => True
  | .dict _ => False
def reprEqM (n : Bool) (ma mb : Loc → M Val) : Loc → M Val := fun ρ => bnd (ma ρ) fun x => fun Q E h => ∃ d, toD (deref h x) = some d ∧ smallD d ∧ (bnd (mb ρ) fun y => fun Q _ h => ∃ e, toD (deref h y) = some e ∧ smallD e ∧ Q (.bl (if n then !decide (d.shown = e.shown) else decide (d.shown = e.shown))) h) Q E h
def bi1 (b : Bi) (x : Val) : M Val := fun Q E h => match b with
  | .maxD => (match lstOf h x with
    | some l => (match toDs l with
      | some (d :: ds) => PySem.W.AlikeAll (d :: ds) ∧ PyData.depthAll (d :: ds) ≤ 64 ∧ ∀ v ∈ l, toD v = some (PySem.W.maxD d ds) → Q v h
      | _ => False)
    | none => False)
  | .sortSet m => (match (tupOf x).bind intsOf with
    | some ns => ns.length < 64 ∧ ∀ r : List Int, r.Pairwise (· < ·) → (∀ k, k ∈ r ↔ k ∈ ns) → newL m (r.map .int) Q E h
    | none => False)
  | .len => (match lenO h x with
    | some n => Q (.int n) h
    | none => False)
  | .all => (match (lstOf h x).bind boolsOf with
    | some bs => Q (.bl (bs.all id)) h
    | none => False)
  | .any => (match (lstOf h x).bind boolsOf with
    | some bs => Q (.bl (bs.any id)) h
    | none => False)
  | .abs => (match x with
    | .int i => Q (.int (if i < 0 then -i else i)) h
    | _ => False)
  | .int => (match x with
    | .int i => Q (.int i) h
    | _ => False)
  | .tuple => (match seqOf h x with
    | some l => Q (.tup l) h
    | none => False)
  | .list m => (match seqOf h x with
    | some l => newL m l Q E h
    | none => False)
  | .sum => (match (seqOf h x).bind intsOf with
    | some ns => Q (.int ns.sum) h
    | none => False)
  | .max => (match (lstOf h x).bind intsOf with
    | some ns => 0 < ns.length ∧ ∀ n, n ∈ ns → (∀ y, y ∈ ns → y ≤ n) → Q (.int n) h
    | none => False)
  | .min => (match (lstOf h x).bind intsOf with
    | some ns => 0 < ns.length ∧ ∀ n, n ∈ ns → (∀ y, y ∈ ns → n ≤ y) → Q (.int n) h
    | none => False)
  | .sorted m => (match lstOf h x with
    | some l => (match toDs l with
      | some ds => PySem.W.AllAlike ds ∧ PySem.W.Sortable ds ∧ (∀ d ∈ ds, d.depth ≤ 64) ∧ newL m (l.mergeSort (PySem.W.dataLe false encV)) Q E h
      | none => False)
    | none => False)
def bi2 (b : Bi) (x y : Val) : M Val := match b, x, y with
  | .max, .int i, .int j => ret (.int (if j > i then j else i))
  | .min, .int i, .int j => ret (.int (if j < i then j else i))
  | _, _, _ => stuck
def biM (b : Bi) (vs : List Val) : M Val := match vs with
  | [x] => bi1 b x
  | [x, y] => bi2 b x y
  | _ => stuck

/-- what may be asked -/
def recvOk (h : CH) (b : Bm) (x : Val) : Prop := match b with
  | .append | .extend | .pop => (match x with
    | .ref a => ∃ l, h a = some (.list l)
    | _ => False)
  | _ => False
def appendM (a : Addr) (v : Val) : M Val := fun Q _ h => match h a with
  | some (.list l) => l.length < sizeLine ∧ Q .non (h.set a (.list (l ++ [v])))
  | _ => False
def extendM (a b : Addr) : M Val := fun Q _ h => match h a, h b with
  | some (.list l), some (.list r) => l.length + r.length ≤ sizeLine ∧ Q .non (h.set a (.list (l ++ r)))
  | _, _ => False
def popM (a : Addr) : M Val := fun Q _ h => match h a with
  | some (.list l) => (match l[l.length - 1]? with
    | some v => Q v (h.set a (.list l.dropLast))
    | none => False)
  | _ => False
def smallI (i : Int) : Prop := -(2 ^ 63) ≤ i ∧ i < 2 ^ 63
def popAtM (a : Addr) (i : Int) : M Val := fun Q _ h => match h a with
  | some (.list l) => smallI i ∧ (match seqIndex? i l.length with
    | some k => (match l[k]? with
      | some v => Q v (h.set a (.list (l.eraseIdx k)))
      | none => False)
    | none => False)
  | _ => False
def bmM (b : Bm) (o : Val) (vs : List Val) : M Val := opt (refOf o) fun a => match b with
  | .append => (match vs with
    | [v] => appendM a v
    | _ => stuck)
  | .extend => (match vs with
    | [v] => opt (refOf v) fun b => extendM a b
    | _ => stuck)
  | .pop => (match vs with
    | [] => popM a
    | [v] => opt (intOf v) fun i => popAtM a i
    | _ => stuck)
  | _ => stuck

/-! ### names -/
def getV (ρ : Loc) (i : Nat) : Option Val := match ρ[i]? with
  | some (some (.v x)) => some x
  | _ => none
def setV (ρ : Loc) (i : Nat) (v : Val) : Loc := ρ.set i (some (.v v))
/-- several names at once from a sequence of just as many -/
def setVs (ρ : Loc) : List Nat → List Val → Option Loc
  | [], [] => some ρ
  | i :: is, v :: vs => setVs (setV ρ i v) is vs
  | _, _ => none
def bindTg (tg : List Nat) (v : Val) (ρ : Loc) : Option Loc := match tg with
  | [i] => some (setV ρ i v)
  | is => (tupOf v).bind (setVs ρ is)
def wipeL (ρ : Loc) : List Nat → Loc
  | [] => ρ
  | i :: is => (wipeL ρ is).set i none

/-! ### walks -/
inductive Src where
  | fixed
  | live (a : Addr) (l : List Val)
  | both (s t : Src)
def Src.ok (h : CH) : Src → Prop
  | .fixed => True
  | .live a l => h a = some (.list l)
  | .both s t => s.ok h ∧ t.ok h
def srcOf (h : CH) : Val → Option (Src × List Val)
  | .tup l => some (.fixed, l)
  | .lst l => some (.fixed, l)
  | .ref a => match h a with
    | some (.list l) => some (.live a l, l)
    | _ => none
  | _ => none
def rangeL (lo hi : Int) : List Val := (List.range (hi - lo).toNat).map fun i => .int (lo + (i : Nat))
def smallR (i : Int) : Prop := -(2 ^ 62) ≤ i ∧ i < 2 ^ 62
def enumL (l : List Val) : List Val := (List.range l.length).zipWith (fun i v => .tup [.int (i : Nat), v]) l
def zipL (l r : List Val) : List Val := l.zipWith (fun x y => .tup [x, y]) r
/-- what a for or a comprehension walks -/
def seqW (x : Val) : M (Src × List Val) := fun Q _ h => match srcOf h x with
  | some (s, l) => Q (s, l) h
  | none => False
def enumW (x : Val) : M (Src × List Val) := fun Q _ h => match lstOf h x, srcOf h x with
  | some _, some (s, l) => Q (s, enumL l) h
  | _, _ => False
def zipW (x y : Val) : M (Src × List Val) := fun Q _ h => match x, y with
  | .tup l, .tup r => Q (.fixed, zipL l r) h
  | x, y => match lstOf h x, srcOf h x, lstOf h y, srcOf h y with
    | some _, some (s, l), some _, some (t, r) => Q (.both s t, zipL l r) h
    | _, _, _, _ => False
def rangeW (lo hi : Int) : M (Src × List Val) := fun Q _ h => smallR lo ∧ smallR hi ∧ Q (.fixed, rangeL lo hi) h
def walkM (k : ItK) (vs : List Val) : M (Src × List Val) := match k, vs with
  | .seq, [x] => seqW x
  | .enum, [x] => enumW x
  | .zip, [x, y] => zipW x y
  | .range, [x] => opt (intOf x) fun j => rangeW 0 j
  | .range, [x, y] => opt (intOf x) fun i => opt (intOf y) fun j => rangeW i j
  | _, _ => stuck

def compGo (s : Src) (tg : List Nat) (cond : Loc → M Bool) (elt : Loc → M Val) (ρ : Loc) : List Val → M (List Val)
  | [] => fun Q _ h => s.ok h ∧ Q [] h
  | v :: vs => fun Q E h => s.ok h ∧ match bindTg tg v ρ with
    | none => False
    | some ρ' => cond ρ' (fun b h1 => if b = true then elt ρ' (fun x h2 => compGo s tg cond elt ρ vs (fun r h3 => Q (x :: r) h3) E h2) E h1
        else compGo s tg cond elt ρ vs Q E h1) E h

def compM (m : Bool) (tg : List Nat) (cond : Loc → M Bool) (elt : Loc → M Val) (ρ : Loc) (p : Src × List Val) : M Val := fun Q _ h =>
  p.2.length ≤ sizeLine ∧ compGo p.1 tg cond elt (wipeL ρ tg) p.2 (fun r h' => newL m r Q (fun _ _ => False) h') (fun _ _ => False) h
inductive Out where
  | nx (ρ : Loc) | rt (v : Val) | ct (ρ : Loc)

/-- a function: its parameters' count, its names' count, its body, whether what it makes is forgotten behind it -/
structure Fun where
  ps : Nat
  n : Nat
  body : List S
  drop : Bool

structure DG where
  call : Nat → List Sl → M Val
  ar : Nat → Option Nat
  meth : Nat → Str → Option Nat
  init : Nat → Option Nat
  ci : CI

def vals (vs : List Val) : List Sl := vs.map .v
def capsOf (ρ : Loc) : List Nat → Option (List Val)
  | [] => some []
  | i :: is => match getV ρ i, capsOf ρ is with
    | some v, some vs => some (v :: vs)
    | _, _ => none
def fnAt (ρ : Loc) (i : Nat) : Option Nat := match ρ[i]? with
  | some (some (.v (.fn f))) => some f
  | _ => none
def cloAt (ρ : Loc) (i : Nat) : Option (Nat × List Val) := match ρ[i]? with
  | some (some (.c k ws)) => some (k, ws)
  | _ => none
def callvM (call : Nat → List Sl → M Val) (ar : Nat → Option Nat) (i n : Nat) (mes : Loc → M (List Val)) : Loc → M Val := fun ρ => opt (fnAt ρ i) fun f => chk (ar f = some n) (bnd (mes ρ) fun vs => call f (vals vs))
def callcM (call : Nat → List Sl → M Val) (i : Nat) : Loc → M Val := fun ρ => opt (cloAt ρ i) fun p => call p.1 (vals p.2)
def pickL {α : Type} (ord : List Nat) (l : List α) : List α := ord.filterMap fun i => l[i]?
def cloOf (ρ : Loc) : Clo → Option Sl
  | .var i => (cloAt ρ i).map fun p => .c p.1 p.2
  | .lam k caps => (capsOf ρ caps).map (.c k)
def clsOf (G : DG) (h : CH) (a : Addr) : Option Nat := match h a with
  | some (.inst c _) => some c
  | some (.ab A) => G.ci.ab A
  | _ => none
def methM (G : DG) (m : Str) (o : Val) (vs : List Val) : M Val := fun Q E h => match o with
  | .ref a => (match clsOf G h a with
    | some c => (match G.meth c m with
      | some f => G.call f (vals (o :: vs)) Q E h
      | none => False)
    | none => False)
  | _ => False
def makeM (G : DG) (c : Nat) (vs : List Val) : M Val := fun Q E h => match G.init c with
  | some f => ∀ p, h p = none → G.call f (vals (.ref p :: vs)) (fun v h' => v = .non ∧ Q (.ref p) h') E (h.set p (.inst c []))
  | none => False
def attrM (o : Val) (f : Str) : M Val := fun Q _ h => match o with
  | .ref a => (match h a with
    | some (.inst _ fs) => (match fs.lookup f with
      | some v => Q v h
      | none => False)
    | _ => False)
  | _ => False
def putFV (f : Str) (v : Val) : List (Str × Val) → List (Str × Val)
  | [] => [(f, v)]
  | (g, x) :: r => if g = f then (g, v) :: r else (g, x) :: putFV f v r
def setAM (o : Val) (f : Str) (v : Val) : M Unit := fun Q _ h => match o with
  | .ref a => (match h a with
    | some (.inst c fs) => fs.length < 1000 ∧ Q () (h.set a (.inst c (putFV f v fs)))
    | _ => False)
  | _ => False
def setIM (o i v : Val) : M Unit := opt (refOf o) fun a => fun Q _ h => match h a with
  | some (.list l) => (match (intOf i).bind (ixN l.length) with
    | some j => Q () (h.set a (.list (l.set j v)))
    | none => False)
  | some (.dict false kvs) => (match keyV i with
    | some k => kvs.length < sizeLine ∧ Q () (h.set a (.dict false (putAt kvs k v)))
    | none => False)
  | _ => False
/-- key, value, key, value .. -/
def dictL : List Val → Option (List (Val × Val))
  | [] => some []
  | k :: v :: r => match keyV k, dictL r with
    | some _, some l => some ((k, v) :: l)
    | _, _ => none
  | _ => none
def dispM (p : Addr) (r : List Val) (Q : Val → CH → Prop) (h : CH) : Prop := match dictL r with
  | some kvs => (kvs.map fun q => keyV q.1).Nodup ∧ kvs.length ≤ 15 ∧ Q (.ref p) (h.set p (.dict false kvs))
  | none => False
def rg1M (k : Int → Int → M Val) (x : Val) : M Val := opt (intOf x) fun n => k 0 n
def rg2M (k : Int → Int → M Val) (x y : Val) : M Val := opt (intOf x) fun i => opt (intOf y) fun j => k i j
def tupRg (a b : Int) : M Val := fun Q _ h => L2.RgOk a b ∧ Q (.tup (rangeL a b)) h
def lstRg (m : Bool) (a b : Int) : M Val := fun Q E h => L2.RgOk a b ∧ newL m (rangeL a b) Q E h
def rkM : Option Bool → Int → Int → M Val
  | none => tupRg
  | some m => lstRg m
def isiM (I : CI) (t : Ty) (x : Val) : M Val := fun Q _ h => match (kdOf I h x).bind fun k => kdIs I k t with
  | some b => Q (.bl b) h
  | none => False
def isSkip : E → Bool
  | .skip => true
  | _ => false

mutual
def denE (G : DG) : E → Loc → M Val
  | .skip, _ => ret .non
  | .var i, ρ => opt (getV ρ i) ret
  | .con v, _ => ret v
  | .gint _ i, _ => ret (.int i)
  | .fn _ f, _ => ret (.fn f)
  | .bin op m a b, ρ => bnd (denE G a ρ) fun x => bnd (denE G b ρ) fun y => binM op m x y
  | .neg a, ρ => bnd (denE G a ρ) fun x => match x with
    | .int i => ret (.int (-i))
    | _ => stuck
  | .cmp op a b, ρ => bnd (denE G a ρ) fun x => bnd (denE G b ρ) fun y => bnd (cmpM op x y) fun c => ret (.bl c)
  | .chain o1 o2 a b c, ρ => bnd (denE G a ρ) fun x => bnd (denE G b ρ) fun y => bnd (cmpM o1 x y) fun k =>
      if k = true then bnd (denE G c ρ) fun z => bnd (cmpM o2 y z) fun l => ret (.bl l) else ret (.bl false)
  | .band es, ρ => denAnd G es ρ
  | .bor es, ρ => denOr G es ρ
  | .not a, ρ => bnd (denE G a ρ) fun x => bnd (truthM x) fun b => ret (.bl (!b))
  | .ite c a b, ρ => bnd (denE G c ρ) fun x => bnd (truthM x) fun k => if k = true then denE G a ρ else denE G b ρ
  | .tup es, ρ => bnd (denEs G es ρ) fun vs => ret (.tup vs)
  | .list m es, ρ => bnd (denEs G es ρ) fun vs => newL m vs
  | .dict deep es, ρ => fun Q E h => ∀ p, h p = none → deep = false ∧ denEs G es ρ (fun r h1 => h1 p = some (.dict false []) ∧ dispM p r Q h1) E (h.set p (.dict false []))
  | .emp, _ => ret .emp
  | .ix a i, ρ => bnd (denE G a ρ) fun x => bnd (denE G i ρ) fun y => ixM x y
  | .cut m a lo hi, ρ => bnd (denE G a ρ) fun x => bnd (if isSkip lo then ret none else bnd (denE G lo ρ) fun v => opt (partO v) ret) fun l => bnd (if isSkip hi then ret none else bnd (denE G hi ρ) fun v => opt (partO v) ret) fun u => cutM m x l u
  | .rev m a, ρ => bnd (denE G a ρ) fun x => revM m x
  | .comp m tg k its cond elt, ρ => bnd (bnd (denEs G its ρ) fun vs => walkM k vs) fun p =>
      compM m tg (fun ρ' => if isSkip cond then ret true else bnd (denE G cond ρ') truthM) (fun ρ' => denE G elt ρ') ρ p
  | .call _ f es, ρ => bnd (denEs G es ρ) fun vs => G.call f (vals vs)
  | .callk _ f es _ kes ord, ρ => bnd (denEs G es ρ) fun vs => bnd (denEs G kes ρ) fun ws => G.call f (vals (pickL ord (vs ++ ws)))
  | .callc _ f es c, ρ => bnd (denEs G es ρ) fun vs => opt (cloOf ρ c) fun k => G.call f (vals vs ++ [k])
  | .callv i [], ρ => callcM G.call i ρ
  | .callv i (e :: es), ρ => callvM G.call G.ar i (e :: es).length (denEs G (e :: es)) ρ
  | .meth m o es, ρ => bnd (denE G o ρ) fun x => bnd (denEs G es ρ) fun vs => methM G m x vs
  | .make _ c es, ρ => bnd (denEs G es ρ) fun vs => makeM G c vs
  | .bi b es, ρ => bnd (denEs G es ρ) fun vs => biM b vs
  | .rng1 k a, ρ => bnd (denE G a ρ) (rg1M (rkM k))
  | .rng2 k a b, ρ => bnd (denE G a ρ) fun x => bnd (denE G b ρ) fun y => rg2M (rkM k) x y
  | .sset _ _, _ => stuck
  | .lset _, _ => stuck
  | .bm b o es, ρ => bnd (denE G o ρ) fun x => fun Q E h => recvOk h b x ∧ bnd (denEs G es ρ) (fun vs => bmM b x vs) Q E h
  | .attr o f, ρ => bnd (denE G o ρ) fun x => attrM x f
  | .isi a t, ρ => bnd (denE G a ρ) fun x => isiM G.ci t x
  | .reprEq n a b, ρ => reprEqM n (denE G a) (denE G b) ρ
def denEs (G : DG) : List E → Loc → M (List Val)
  | [], _ => ret []
  | e :: es, ρ => bnd (denE G e ρ) fun v => bnd (denEs G es ρ) fun vs => ret (v :: vs)
def denAnd (G : DG) : List E → Loc → M Val
  | [], _ => stuck
  | [e], ρ => denE G e ρ
  | e :: es, ρ => bnd (denE G e ρ) fun x => bnd (truthM x) fun b => if b = true then denAnd G es ρ else ret x
def denOr (G : DG) : List E → Loc → M Val
  | [], _ => stuck
  | [e], ρ => denE G e ρ
  | e :: es, ρ => bnd (denE G e ρ) fun x => bnd (truthM x) fun b => if b = true then ret x else denOr G es ρ
end

/-- a clause's test -/
def denC (G : DG) (e : E) (ρ : Loc) : M Bool := if isSkip e then ret true else bnd (denE G e ρ) truthM

def forGo (s : Src) (tg : List Nat) (body : Loc → M Out) : List Val → Loc → M Out
  | [], ρ => fun Q _ h => s.ok h ∧ Q (.nx ρ) h
  | v :: vs, ρ => fun Q E h => s.ok h ∧ match bindTg tg v ρ with
    | none => False
    | some ρ' => body ρ' (fun o h1 => match o with
      | .nx ρ2 => forGo s tg body vs ρ2 Q E h1
      | .ct ρ2 => forGo s tg body vs ρ2 Q E h1
      | .rt v => Q (.rt v) h1) E h
def whileN (c : Loc → M Bool) (body : Loc → M Out) : Nat → Loc → M Out
  | 0, _ => stuck
  | n + 1, ρ => fun Q E h => c ρ (fun b h1 => if b = true then body ρ (fun o h2 => match o with
      | .nx ρ2 => whileN c body n ρ2 Q E h2
      | .ct ρ2 => whileN c body n ρ2 Q E h2
      | .rt v => Q (.rt v) h2) E h1 else Q (.nx ρ) h1) E h

def trycM (I : CI) (c n j : Nat) (m : Loc → M Val) : Loc → M Out := fun ρ => fun Q E h => m ρ (fun _ h' => Q (.nx (ρ.set n none)) h') (fun d h' => match I.exm d c with
  | some true => Q (.nx ((setV ρ j (.exc d)).set n none)) h'
  | some false => E d h'
  | none => False) h
/-- for x in [closures]: if not f(e, x): return r -/
def lamGo (call : Nat → List Sl → M Val) (f : Nat) (me mr : Loc → M Val) : List (Nat × List Nat) → Loc → M Out
  | [], ρ => ret (.nx ρ)
  | p :: ls, ρ => opt (capsOf ρ p.2) fun ws => bnd (me ρ) fun v => bnd (call f [.v v, .c p.1 ws]) fun v => match v with
    | .bl true => lamGo call f me mr ls ρ
    | .bl false => bnd (mr ρ) fun v => ret (.rt v)
    | _ => stuck
mutual
def denS (G : DG) : S → Loc → M Out
  | .set i e, ρ => bnd (denE G e ρ) fun v => ret (.nx (setV ρ i v))
  | .setT is e, ρ => bnd (denE G e ρ) fun v => opt ((tupOf v).bind (setVs ρ is)) fun ρ' => ret (.nx ρ')
  | .par is es, ρ => bnd (denEs G es ρ) fun vs => opt (setVs ρ is vs) fun ρ' => ret (.nx ρ')
  | .setI o i e, ρ => bnd (denE G e ρ) fun v => bnd (denE G o ρ) fun x => bnd (denE G i ρ) fun y => bnd (setIM x y v) fun _ => ret (.nx ρ)
  | .setA o f e, ρ => bnd (denE G e ρ) fun v => bnd (denE G o ρ) fun x => bnd (setAM x f v) fun _ => ret (.nx ρ)
  | .ex e, ρ => bnd (denE G e ρ) fun _ => ret (.nx ρ)
  | .ite c a b, ρ => bnd (denE G c ρ) fun x => bnd (truthM x) fun k => if k = true then denSs G a ρ else denSs G b ρ
  | .for tg k its body, ρ => bnd (denEs G its ρ) fun vs => bnd (walkM k vs) fun p => forGo p.1 tg (fun ρ' => denSs G body ρ') p.2 ρ
  | .while c body, ρ => fun Q E h => ∃ n, whileN (fun ρ' => denC G c ρ') (fun ρ' => denSs G body ρ') n ρ Q E h
  | .ret e, ρ => bnd (denE G e ρ) fun v => ret (.rt v)
  | .retN, _ => ret (.rt .non)
  | .cont, ρ => ret (.ct ρ)
  | .pass, ρ => ret (.nx ρ)
  | .raise _ c, _ => raiseM c
  | .tryc i _ c n j, ρ => trycM G.ci c n j (callcM G.call i) ρ
  | .forlam i ls _ f e r, ρ => lamGo G.call f (fun ρ' => denE G e ρ') (fun ρ' => denE G r ρ') ls (ρ.set i none)
def denSs (G : DG) : List S → Loc → M Out
  | [], ρ => ret (.nx ρ)
  | s :: ss, ρ => bnd (denS G s ρ) fun o => match o with
    | .nx ρ' => denSs G ss ρ'
    | o => ret o
end

def start (n : Nat) (args : List Sl) : Loc := args.map some ++ List.replicate (n - args.length) none
def dropM (d : Bool) (m : M Val) : M Val := fun Q E h => if d = true then m (fun v h' => Q v (h'.keep h)) (fun c h' => E c (h'.keep h)) h else m Q E h
def runFun (G : DG) (f : Fun) (args : List Sl) : M Val := if args.length = f.ps then
    dropM f.drop (bnd (denSs G f.body (start f.n args)) fun o => match o with
      | .nx _ => ret .non
      | .rt v => ret v
      | .ct _ => stuck) else stuck
/-- what a name of the table is: a text, or a given meaning -/
inductive Ent where
  | code (f : Fun)
  | prim (m : List Sl → M Val)
structure Tab where
  fs : List Ent
  ar : Nat → Option Nat
  meth : Nat → Str → Option Nat
  init : Nat → Option Nat
  ci : CI
def Tab.dg (T : Tab) (call : Nat → List Sl → M Val) : DG := ⟨call, T.ar, T.meth, T.init, T.ci⟩
def run (T : Tab) : Nat → Nat → List Sl → M Val
  | 0, _, _ => stuck
  | n + 1, f, args => match T.fs[f]? with
    | some (.code g) => runFun (T.dg (run T n)) g args
    | some (.prim m) => m args
    | none => stuck
end Mi

set_option Elab.async false
set_option linter.all false
set_option maxRecDepth 100000
set_option maxHeartbeats 4000000
namespace Mi
open PySem PySem.Spec PyProof.Rows L2

theorem opt_some {α β : Type} {o : Option α} {k : α → M β} {Q : β → CH → Prop} {E : Nat → CH → Prop} {h : CH} (w : opt o k Q E h) : ∃ a, o = some a ∧ k a Q E h := by
  cases o with
  | none => exact (show False from w).elim
  | some a => exact ⟨a, rfl, w⟩
theorem refOf_some {v : Val} {a : Addr} (e : refOf v = some a) : v = .ref a := by
  cases v with
  | ref b => cases e; rfl
  | _ => cases e
theorem intOf_some {v : Val} {a : Int} (e : intOf v = some a) : v = .int a := by
  cases v with
  | int b => cases e; rfl
  | _ => cases e
/-- a lambda of the text -/
structure LamI where
  params : Arguments
  body : Expr
  scope : Scope
  qual : Str
  fr : List Str
/-- what is fixed in a frame: the clean world, the lambdas, the state at the frame's entry -/
structure Gm where
  c : Gc
  lam : Nat → LamI
  h0 : Heap
  H0 : Hp
  fs0 : List Addr
/-- a lambda's parameters that have a default: at most one, an int -/
def dflOf (a : Arguments) : List (Str × Int) := match a.defaults, a.args with
  | [.Constant (.int i) _ _], [p] => [(p.arg, i)]
  | _, _ => []
abbrev lamF (l : LamI) (cl : List (Str × Addr)) (pm : Value) (c : Addr) (ctv dv doc : Value) : FuncData := PySem.W.kdv_fn "<lambda>" l.qual l.params (.expr l.body) l.scope cl dv doc pm (.ref c) ctv
abbrev lamO (l : LamI) (cl : List (Str × Addr)) (pm : Value) (c : Addr) (ctv dv doc : Value) : Obj := PySem.W.kdv_obj "<lambda>" l.qual l.params (.expr l.body) l.scope cl dv doc pm c ctv
/-- the tuple of its defaults -/
def DvAt (H : Hp) (a : Arguments) (dv : Value) : Prop := (dflOf a = [] ∧ dv = .none) ∨ ∃ y i T, dflOf a = [(y, i)] ∧ dv = .ref T ∧ H T = some (.tup [.int i])
theorem DvAt.mono {H H' : Hp} {a : Arguments} {dv : Value} (l : Le H H') (d : DvAt H a dv) : DvAt H' a dv := by
  rcases d with d | ⟨y, i, T, e1, e2, e3⟩
  · exact .inl d
  · exact .inr ⟨y, i, T, e1, e2, l.tup _ _ e3⟩
/-- the closure's object: it stands from the frame's entry on, or it is tracked -/
def ClObj (G : Gm) (H : Hp) (p : Addr) (o : Obj) : Prop := (G.h0.get? p = some o ∧ G.H0 p = none ∧ p ∉ G.fs0) ∨ H p = some (.frz o (.ext fun _ => True))
theorem ClObj.mono {G : Gm} {H H' : Hp} (l : Le H H') {p : Addr} {o : Obj} (a : ClObj G H p o) : ClObj G H' p o := by
  rcases a with a | a
  · exact .inl a
  · exact .inr (l.frz _ _ _ a)
/-- the closure at p: the lambda k, what its captured names hold -/
structure ClosAt (G : Gm) (H : Hp) (p : Addr) (k : Nat) (ws : List Val) : Prop where
  len : ws.length = (G.lam k).fr.length
  ex : ∃ (cl : List (Str × Addr)) (c : Addr) (pm ctv dv doc : Value) (vs : List V), ClObj G H p (lamO (G.lam k) cl pm c ctv dv doc) ∧ DvAt H (G.lam k).params dv ∧ H c = some (LamX.CodeO c (G.lam k).qual) ∧
    NdefX.CellsAt cl (G.lam k).fr (vs.map some) G.h0 G.H0 ∧ RelDs G.c H ws vs ∧ ∀ y d, cl.lookup y = some d → d ∉ G.fs0
theorem ClosAt.mono {G : Gm} {H H' : Hp} (l : Le H H') {p : Addr} {k : Nat} {ws : List Val} (a : ClosAt G H p k ws) : ClosAt G H' p k ws := by
  obtain ⟨n, cl, c, pm, ctv, dv, doc, vs, h1, h2, h4, h5, h6, h7⟩ := a
  exact ⟨n, cl, c, pm, ctv, dv, doc, vs, h1.mono l, h2.mono l, l.code _ _ h4, h5, h6.mono l, h7⟩
def RelS (G : Gm) (H : Hp) : Sl → V → Prop
  | .v a, x => RelD G.c H a x
  | .c k ws, x => ∃ p, x = .ref p ∧ ClosAt G H p k ws
theorem RelS.mono {G : Gm} {H H' : Hp} (l : Le H H') : ∀ {s : Sl} {x : V}, RelS G H s x → RelS G H' s x
  | .v _, _, h => RelD.mono l _ _ h
  | .c _ _, _, ⟨p, e, h⟩ => ⟨p, e, h.mono l⟩
/-- the names -/
structure RelL (G : Gm) (H : Hp) (ρ : Loc) (σ : L2.St) : Prop where
  len : ρ.length = σ.length
  at_ : ∀ (i : Nat) (s : Sl), ρ[i]? = some (some s) → ∃ x, σ[i]? = some (some x) ∧ RelS G H s x
theorem RelL.mono {G : Gm} {H H' : Hp} {ρ : Loc} {σ : L2.St} (l : Le H H') (r : RelL G H ρ σ) : RelL G H' ρ σ :=
  ⟨r.len, fun i s e => by obtain ⟨x, h1, h2⟩ := r.at_ i s e; exact ⟨x, h1, h2.mono l⟩⟩
theorem RelL.set {G : Gm} {H : Hp} {ρ : Loc} {σ : L2.St} {v : Val} {x : V} (r : RelL G H ρ σ) (q : RelD G.c H v x) (i : Nat) : RelL G H (setV ρ i v) (σ.set i (some x)) := by
  refine ⟨by simp [setV, r.len], fun j s e => ?_⟩
  unfold setV at e
  by_cases hj : i = j
  · subst hj
    have hl : i < ρ.length := by
      have := (List.getElem?_eq_some_iff.mp e).1
      simpa using this
    rw [List.getElem?_set_self hl] at e
    cases e
    exact ⟨x, by rw [List.getElem?_set_self (by rw [← r.len]; exact hl)], q⟩
  · rw [List.getElem?_set_ne hj] at e
    obtain ⟨y, h1, h2⟩ := r.at_ j s e
    exact ⟨y, by rw [List.getElem?_set_ne hj]; exact h1, h2⟩
theorem RelL.clear {G : Gm} {H : Hp} {ρ : Loc} {σ : L2.St} (r : RelL G H ρ σ) (i : Nat) (o : Option V) : RelL G H (ρ.set i none) (σ.set i o) := by
  refine ⟨by simp [r.len], fun j s e => ?_⟩
  by_cases hj : i = j
  · subst hj
    have hl : i < ρ.length := by
      have := (List.getElem?_eq_some_iff.mp e).1
      simpa using this
    rw [List.getElem?_set_self hl] at e
    cases e
  · rw [List.getElem?_set_ne hj] at e
    obtain ⟨y, h1, h2⟩ := r.at_ j s e
    exact ⟨y, by rw [List.getElem?_set_ne hj]; exact h1, h2⟩

/-- what is wanted, in the layer's words -/
def QD (G : Gm) (F : Frm) (ρ : Loc) (σ : L2.St) (H : Hp) (Q : Val → CH → Prop) : VK := fun x H' => ∃ v h', Le H H' ∧ RelD G.c H' v x ∧ RelL G H' ρ σ ∧ Rep G.c F h' H' ∧ Q v h'
/-- an exception that is allowed for is taken -/
def Acc (X : Cx) (G : Gm) (F : Frm) (ρ : Loc) (σ : L2.St) (H : Hp) (E : Nat → CH → Prop) : Prop :=
  ∃ W : WX, Takes X W ∧ ∀ c h' H', Le H H' → Rep G.c F h' H' → E c h' → W (.ref (G.c.ca c)) none σ H'
theorem Acc.mono {X : Cx} {G : Gm} {F : Frm} {ρ : Loc} {σ : L2.St} {H H' : Hp} {E : Nat → CH → Prop} (l : Le H H') (a : Acc X G F ρ σ H E) : Acc X G F ρ σ H' E := by
  obtain ⟨W, t, h⟩ := a
  exact ⟨W, t, fun c h' H2 l2 => h c h' H2 (l.trans l2)⟩
/-- the state in an expression -/
structure At (X : Cx) (G : Gm) (F : Frm) (pins : List (Addr × Obj)) (ρ : Loc) (h : CH) (σ : L2.St) (H : Hp) (E : Nat → CH → Prop) (s : Shared) : Prop where
  inv : Inv X pins σ H s
  loc : RelL G H ρ σ
  rep : Rep G.c F h H
  acc : Acc X G F ρ σ H E
/-- the judgement of an expression: m tells what it does -/
structure SE (X : Cx) (G : Gm) (e : Expr) (m : Loc → M Val) : Prop where
  run : ∀ {F : Frm} (pins : List (Addr × Obj)) (s : Shared) (σ : L2.St) (H : Hp) (ρ : Loc) (h : CH) (Q : Val → CH → Prop) (E : Nat → CH → Prop), At X G F pins ρ h σ H E s → m ρ Q E h →
    wpAny (model X.prog X.w) X.A (eval e X.env) (EP X pins σ (QD G F ρ σ H Q)) X.xe s
/-- a test's wish -/
def BD (G : Gm) (F : Frm) (ρ : Loc) (σ : L2.St) (H : Hp) (Q : Bool → CH → Prop) : Bool → Hp → Prop := fun b H' => ∃ h', Le H H' ∧ RelL G H' ρ σ ∧ Rep G.c F h' H' ∧ Q b h'
/-- .. of a test: m its value -/
structure ST (X : Cx) (G : Gm) (e : Expr) (m : Loc → M Val) : Prop where
  run : ∀ {F : Frm} (pins : List (Addr × Obj)) (s : Shared) (σ : L2.St) (H : Hp) (ρ : Loc) (h : CH) (Q1 : Val → CH → Prop) (Q : Bool → CH → Prop) (E : Nat → CH → Prop), At X G F pins ρ h σ H E s → m ρ Q1 E h →
    (∀ x h1, Q1 x h1 → ∃ b, truthO h1 x = some b ∧ Q b h1) →
    wpAny (model X.prog X.w) X.A (isTrue e X.env (eval e X.env)) (TP X pins σ (BD G F ρ σ H Q)) X.xe s
/-- .. whatever its 'whole' is -/
structure SW (X : Cx) (G : Gm) (e : Expr) (m : Loc → M Val) : Prop where
  run : ∀ (whole : Sem Value) (pins : List (Addr × Obj)) (s : Shared) (σ : L2.St) (H : Hp) (ρ : Loc) (h : CH) (Q1 : Val → CH → Prop) (Q : Bool → CH → Prop) (E : Nat → CH → Prop), At X G F pins ρ h σ H E s → m ρ Q1 E h →
    (∀ x h1, Q1 x h1 → ∃ b, truthO h1 x = some b ∧ Q b h1) →
    wpAny (model X.prog X.w) X.A (isTrue e X.env whole) (TP X pins σ (BD G F ρ σ H Q)) X.xe s
theorem SW.st {X : Cx} {G : Gm} {e : Expr} {m : Loc → M Val} (a : SW X G e m) : ST X G e m := ⟨a.run _⟩
/-- what the layer's rules take of an expression -/
def rdE (X : Cx) (G : Gm) (m : Loc → M Val) : TE := fun σ H Q => ∃ F ρ h Q' E', RelL G H ρ σ ∧ Rep G.c F h H ∧ Acc X G F ρ σ H E' ∧ m ρ Q' E' h ∧ ∀ v h' x H', Le H H' → RelD G.c H' v x → RelL G H' ρ σ → Rep G.c F h' H' → Q' v h' → Q x H'
def rdT (X : Cx) (G : Gm) (m : Loc → M Val) : TT := fun σ H Qv => ∃ (F : Frm) (ρ : Loc) (h : CH) (Q1 : Val → CH → Prop) (Q : Bool → CH → Prop) (E' : Nat → CH → Prop), RelL G H ρ σ ∧ Rep G.c F h H ∧ Acc X G F ρ σ H E' ∧ m ρ Q1 E' h ∧ (∀ x h1, Q1 x h1 → ∃ b, truthO h1 x = some b ∧ Q b h1) ∧
  ∀ b h' H', Le H H' → RelL G H' ρ σ → Rep G.c F h' H' → Q b h' → Qv b H'
theorem SE.pe {X : Cx} {G : Gm} {e : Expr} {m : Loc → M Val} (a : SE X G e m) : PE X e (rdE X G m) := by
  refine ⟨fun pins s σ H Q I ⟨_, ρ, h, Q', E', r, q, ac, hm, k⟩ => ?_⟩
  refine thn (a.run pins s σ H ρ h Q' E' ⟨I, r, q, ac⟩ hm) fun u s' ⟨x, H', I', rv, v, h', l, rd, rl, rp, w⟩ => ?_
  exact ⟨x, H', I', rv, k v h' x H' l rd rl rp w⟩
theorem ST.pt {X : Cx} {G : Gm} {e : Expr} {m : Loc → M Val} (a : ST X G e m) : PT X e (rdT X G m) := by
  refine ⟨fun pins s σ H Q I ⟨_, ρ, h, Q1, Q', E', r, q, ac, hm, hb, k⟩ => ?_⟩
  refine thn (a.run pins s σ H ρ h Q1 Q' E' ⟨I, r, q, ac⟩ hm hb) fun u s' ⟨H', I', h', l, rl, rp, w⟩ => ?_
  exact ⟨H', I', k u h' H' l rl rp w⟩
theorem SW.pw {X : Cx} {G : Gm} {e : Expr} {m : Loc → M Val} (a : SW X G e m) : PW X e (rdT X G m) := by
  refine ⟨fun whole pins s σ H Q I ⟨_, ρ, h, Q1, Q', E', r, q, ac, hm, hb, k⟩ => ?_⟩
  refine thn (a.run whole pins s σ H ρ h Q1 Q' E' ⟨I, r, q, ac⟩ hm hb) fun u s' ⟨H', I', h', l, rl, rp, w⟩ => ?_
  exact ⟨H', I', k u h' H' l rl rp w⟩
theorem se_of {X : Cx} {G : Gm} {e : Expr} {t : TE} {m : Loc → M Val} (a : PE X e t)
    (k : ∀ {F : Frm} (σ : L2.St) (H : Hp) (ρ : Loc) (h : CH) (Q : Val → CH → Prop) (E : Nat → CH → Prop), RelL G H ρ σ → Rep G.c F h H → Acc X G F ρ σ H E → m ρ Q E h → t σ H (QD G F ρ σ H Q)) : SE X G e m :=
  ⟨fun pins s σ H ρ h Q E A hm => a.run pins s σ H _ A.inv (k σ H ρ h Q E A.loc A.rep A.acc hm)⟩
theorem st_of {X : Cx} {G : Gm} {e : Expr} {t : TT} {m : Loc → M Val} (a : PT X e t)
    (k : ∀ {F : Frm} (σ : L2.St) (H : Hp) (ρ : Loc) (h : CH) (Q1 : Val → CH → Prop) (Q : Bool → CH → Prop) (E : Nat → CH → Prop), RelL G H ρ σ → Rep G.c F h H → Acc X G F ρ σ H E → m ρ Q1 E h → (∀ x h1, Q1 x h1 → ∃ b, truthO h1 x = some b ∧ Q b h1) → t σ H (BD G F ρ σ H Q)) : ST X G e m :=
  ⟨fun pins s σ H ρ h Q1 Q E A hm hb => a.run pins s σ H _ A.inv (k σ H ρ h Q1 Q E A.loc A.rep A.acc hm hb)⟩
theorem sw_of {X : Cx} {G : Gm} {e : Expr} {t : TT} {m : Loc → M Val} (a : PW X e t)
    (k : ∀ {F : Frm} (σ : L2.St) (H : Hp) (ρ : Loc) (h : CH) (Q1 : Val → CH → Prop) (Q : Bool → CH → Prop) (E : Nat → CH → Prop), RelL G H ρ σ → Rep G.c F h H → Acc X G F ρ σ H E → m ρ Q1 E h → (∀ x h1, Q1 x h1 → ∃ b, truthO h1 x = some b ∧ Q b h1) → t σ H (BD G F ρ σ H Q)) : SW X G e m :=
  ⟨fun whole pins s σ H ρ h Q1 Q E A hm hb => a.run whole pins s σ H _ A.inv (k σ H ρ h Q1 Q E A.loc A.rep A.acc hm hb)⟩
section
variable {X : Cx} {G : Gm} {F : Frm} {pins : List (Addr × Obj)} {ρ : Loc} {h : CH} {σ : L2.St} {H H' : Hp} {E : Nat → CH → Prop} {s : Shared} {Q : Val → CH → Prop} {x : V} {v : Val}
theorem QD.here (r : RelL G H ρ σ) (q : Rep G.c F h H) (d : RelD G.c H v x) (w : Q v h) : QD G F ρ σ H Q x H := ⟨v, h, .refl _, d, r, q, w⟩
theorem QD.up (l : Le H H') (d : QD G F ρ σ H' Q x H2) : QD G F ρ σ H Q x H2 := by
  obtain ⟨v, h', l', r⟩ := d
  exact ⟨v, h', l.trans l', r⟩
theorem EP.up {u : Value} {s' : Shared} (l : Le H H') (e : EP X pins σ (QD G F ρ σ H' Q) u s') : EP X pins σ (QD G F ρ σ H Q) u s' := by
  obtain ⟨x, H2, I, rv, d⟩ := e
  exact ⟨x, H2, I, rv, d.up l⟩
theorem At.next {s' : Shared} {h' : CH} (A : At X G F pins ρ h σ H E s) (l : Le H H') (I : Inv X pins σ H' s') (r : RelL G H' ρ σ) (q : Rep G.c F h' H') : At X G F pins ρ h' σ H' E s' := ⟨I, r, q, A.acc.mono l⟩
theorem At.same {s' : Shared} {h' : CH} (A : At X G F pins ρ h σ H E s) (l : Le H H') (I : Inv X pins σ H' s') (q : Rep G.c F h' H') : At X G F pins ρ h' σ H' E s' := ⟨I, A.loc.mono l, q, A.acc.mono l⟩
/-- a new tuple -/
theorem QD.tup {l : List Val} {xs : List V} {p : Addr} (r : RelL G H ρ σ) (q : Rep G.c F h H) (d : RelDs G.c H l xs) (n : H p = none) (w : Q (.tup l) h) : QD G F ρ σ H Q (.ref p) (upd H p (.tup xs)) :=
  ⟨.tup l, h, .new n, ⟨p, xs, rfl, SqT.of upd_same, d.mono (.new n)⟩, r.mono (.new n), q.beside n, w⟩
/-- a list is known for ever -/
theorem ep_freeze {Q : VK} {u : Value} {s : Shared} (e : EP X pins σ (fun z H1 => ∃ p xs, z = .ref p ∧ H1 p = some (.lst xs) ∧ ∀ o, Q z (upd H1 p (.frz o (.lst xs)))) u s) : EP X pins σ Q u s := by
  obtain ⟨z, H1, I, rv, p, xs, rfl, hp, k⟩ := e
  have ok := I.hok p _ hp
  obtain ⟨hz, its, n, vs, e⟩ := id ok
  refine ⟨.ref p, _, ?_, rv, k { cls := .type "list", data := .seq its.toArray n }⟩
  have := I.write (x := p) (e := p) (o := .frz { cls := .type "list", data := .seq its.toArray n } (.lst xs)) (h' := s.heap) (t' := s.toks) (by rw [hp]; trivial) (.inl rfl) (fun _ _ _ q => q) ⟨_, e⟩ ⟨e, hz, its, n, vs, e⟩
  exact this
theorem Le.frzList {p : Addr} {xs : List V} {o : Obj} (n : H p = none) : Le H (upd (upd H p (.lst xs)) p (.frz o (.lst xs))) := by rw [upd_upd]; exact .new n
/-- a new list, in either form -/
theorem ep_newL {m : Bool} {l : List Val} {xs : List V} {u : Value} {s' : Shared} (r : RelL G H ρ σ) (q : Rep G.c F h H) (d : RelDs G.c H l xs) (w : newL m l Q E h)
    (e : EP X pins σ (fun z H1 => ∃ p, z = .ref p ∧ H p = none ∧ H1 = upd H p (.lst xs)) u s') : EP X pins σ (QD G F ρ σ H Q) u s' := by
  cases m with
  | true =>
    obtain ⟨z, H1, I, rv, p, rfl, n, rfl⟩ := e
    refine ⟨.ref p, _, I, rv, .ref p, h.set p (.list l), .new n, rfl, r.mono (.new n), q.alloc n rfl ⟨xs, upd_same, d.mono (.new n)⟩, w p (q.free n)⟩
  | false =>
    refine ep_freeze ?_
    obtain ⟨z, H1, I, rv, p, rfl, n, rfl⟩ := e
    refine ⟨.ref p, _, I, rv, p, xs, rfl, upd_same, fun o => ?_⟩
    rw [upd_upd]
    exact ⟨.lst l, h, .new n, ⟨p, o, xs, rfl, upd_same, d.mono (.new n)⟩, r.mono (.new n), q.beside n, w⟩
/-- .. where a rule of the layer asks it -/
theorem newL_ask {m : Bool} {l : List Val} {xs : List V} (r : RelL G H ρ σ) (q : Rep G.c F h H) (d : RelDs G.c H l xs) {t : Sem Value}
    (e : ∀ Q1 : VK, (∀ p, H p = none → Q1 (.ref p) (upd H p (.lst xs))) → wpAny (model X.prog X.w) X.A t (EP X pins σ Q1) X.xe s) (w : newL m l Q E h) :
    wpAny (model X.prog X.w) X.A t (EP X pins σ (QD G F ρ σ H Q)) X.xe s := by
  refine thn (e (fun z H1 => ∃ p, z = .ref p ∧ H p = none ∧ H1 = upd H p (.lst xs)) fun p n => ⟨p, rfl, n, rfl⟩) fun u s' c => ?_
  exact ep_newL r q d w c
/-- a list that may be read -/
theorem Rep.lst {a : Addr} {l : List Val} (q : Rep G.c F h H) (e : h a = some (.list l)) : ∃ xs, H a = some (.lst xs) ∧ RelDs G.c H l xs := q.conc e rfl
theorem rd_lst {l : List Val} (q : Rep G.c F h H) (d : RelD G.c H v x) (e : lstOf h v = some l) : ∃ p xs, x = .ref p ∧ Rd H p (.lst xs) ∧ RelDs G.c H l xs := by
  cases v with
  | lst r =>
    cases e
    obtain ⟨p, o, xs, rfl, hp, k⟩ := d
    exact ⟨p, xs, rfl, .inr ⟨o, hp⟩, k⟩
  | ref a =>
    simp only [lstOf] at e
    split at e
    · rename_i l' e'
      cases e
      obtain ⟨xs, hp, k⟩ := q.lst e'
      cases d
      exact ⟨a, xs, rfl, .inl hp, k⟩
    · cases e
  | _ => cases e
theorem rd_seq {l : List Val} (q : Rep G.c F h H) (d : RelD G.c H v x) (e : seqOf h v = some l) : ∃ p xs, x = .ref p ∧ (Rd H p (.lst xs) ∨ SqT G.c.K H p xs) ∧ RelDs G.c H l xs := by
  cases v with
  | tup r =>
    cases e
    obtain ⟨p, xs, rfl, hp, k⟩ := d
    exact ⟨p, xs, rfl, .inr hp, k⟩
  | lst r =>
    obtain ⟨p, xs, rfl, hp, k⟩ := rd_lst (v := .lst r) q d e
    exact ⟨p, xs, rfl, .inl hp, k⟩
  | ref a =>
    obtain ⟨p, xs, rfl, hp, k⟩ := rd_lst (l := l) (v := .ref a) q d (by
      unfold seqOf at e
      unfold lstOf
      exact e)
    exact ⟨p, xs, rfl, .inl hp, k⟩
  | _ => cases e
theorem lstF {p : Addr} {xs : List V} (I : Inv X pins σ H s) (hH : Rd H p (.lst xs)) : xs.length ≤ sizeLine ∧ ∃ (its : List Value) (n : Nat), Vals xs its ∧ xs.length = its.length ∧ s.heap.get? p = some { cls := .type "list", data := .seq its.toArray n } := by
  obtain ⟨z, its, n, r, e⟩ := hH.ok I.hok
  exact ⟨z, its, n, r, r.length, e⟩
end

/-! ### names and constants -/
section
variable {X : Cx} {G : Gm} {F : Frm}
theorem se_var {i : Nat} {x : Str} {pos : Pos} (hN : X.N[i]? = some x) (hv : Vis X.env.scope x) (hd : (x == ("__debug__" : Str)) = false) (hcd : (x == ("__classdict__" : Str)) = false) : SE X G (.Name x pos) (fun ρ => opt (getV ρ i) ret) := by
  refine se_of (pe_var hN hv hd hcd) fun σ H ρ h Q E r q a hm => ?_
  unfold getV at hm
  split at hm
  · rename_i v e
    obtain ⟨x, h1, h2⟩ := r.at_ i _ e
    exact ⟨x, h1, .here r q h2 hm⟩
  · exact hm.elim
theorem se_non {j pos} : SE X G (.Constant .none j pos) (fun _ => ret .non) := se_of pe_non fun σ H ρ h Q E r q a hm => .here (v := .non) r q rfl hm
theorem se_bl {b j pos} : SE X G (.Constant (.bool b) j pos) (fun _ => ret (.bl b)) := se_of pe_bl fun σ H ρ h Q E r q a hm => .here (v := .bl b) r q rfl hm
theorem se_int {b j pos} : SE X G (.Constant (.int b) j pos) (fun _ => ret (.int b)) := se_of pe_int fun σ H ρ h Q E r q a hm => .here (v := .int b) r q rfl hm
theorem se_str {b j pos} (h1 : b.length ≤ sizeLine) (h2 : b.cps.all (· < 0x110000) = true) : SE X G (.Constant (.str b) j pos) (fun _ => ret (.str b)) := se_of pe_str fun σ H ρ h Q E r q a hm => .here (v := .str b) r q ⟨rfl, h1, h2⟩ hm
theorem se_gint {x : Str} {i : Int} {t : Tok} {pos : Pos} (hg : Gl X x) (hm : X.mg x = some (.int i t)) (hd : (x == ("__debug__" : Str)) = false) : SE X G (.Name x pos) (fun _ => ret (.int i)) :=
  se_of (pe_glob (v := .int i) hg hm ⟨t, rfl⟩ hd) fun σ H ρ h Q E r q a hm => .here (v := .int i) r q rfl hm
theorem se_fn {x : Str} {f : Nat} {pos : Pos} (hg : Gl X x) (hm : X.mg x = some (.ref (G.c.fa f))) (hd : (x == ("__debug__" : Str)) = false) : SE X G (.Name x pos) (fun _ => ret (.fn f)) :=
  se_of (pe_glob (v := .ref (G.c.fa f)) hg hm rfl hd) fun σ H ρ h Q E r q a hm => .here (v := .fn f) r q rfl hm
end

/-! ### operations on values -/
def VR2 (X : Cx) (G : Gm) (f : Value → Value → Sem Value) (g : Val → Val → M Val) : Prop :=
  ∀ {F : Frm} (pins : List (Addr × Obj)) (s : Shared) (σ : L2.St) (H : Hp) (ρ : Loc) (h : CH) (Q : Val → CH → Prop) (E : Nat → CH → Prop) (x y : V) (v u : Value) (a b : Val), At X G F pins ρ h σ H E s → RelV x v → RelV y u → RelD G.c H a x → RelD G.c H b y → g a b Q E h →
    wpAny (model X.prog X.w) X.A (f v u) (EP X pins σ (QD G F ρ σ H Q)) X.xe s
section
variable {X : Cx} {G : Gm} {F : Frm} {a b c : Expr} {ma mb mc : Loc → M Val} {pos : Pos}
/-- two expressions in a row, then an operation -/
theorem seq2 (ha : SE X G a ma) (hb : SE X G b mb) {pins : List (Addr × Obj)} {s : Shared} {σ : L2.St} {H : Hp} {ρ : Loc} {h : CH} {Q : Val → CH → Prop} {E : Nat → CH → Prop} {g : Val → Val → M Val} (A : At X G F pins ρ h σ H E s)
    (hm : bnd (ma ρ) (fun x => bnd (mb ρ) fun y => g x y) Q E h) {f : Value → Value → Sem Value} (hf : VR2 X G f g) :
    wpAny (model X.prog X.w) X.A (eval a X.env) (fun v s₁ => wpAny (model X.prog X.w) X.A (eval b X.env) (fun u s₂ => wpAny (model X.prog X.w) X.A (f v u) (EP X pins σ (QD G F ρ σ H Q)) X.xe s₂) X.xe s₁) X.xe s := by
  refine thn (ha.run pins s σ H ρ h _ E A hm) fun v s1 ⟨x, H1, I1, rx, va, h1, l1, d1, r1, q1, w1⟩ => ?_
  have A1 := A.next l1 I1 r1 q1
  refine thn (hb.run pins s1 σ H1 ρ h1 _ E A1 w1) fun u s2 ⟨y, H2, I2, ry, vb, h2, l2, d2, r2, q2, w2⟩ => ?_
  refine thn (hf pins s2 σ H2 ρ h2 Q E x y v u va vb (A1.next l2 I2 r2 q2) rx ry (RelD.mono l2 _ _ d1) d2 w2) fun z s3 e => ?_
  exact EP.up (l1.trans l2) e
theorem se_bin {op : Operator} {g : Val → Val → M Val} (hf : VR2 X G (binaryOp op) g) (ha : SE X G a ma) (hb : SE X G b mb) : SE X G (.BinOp a op b pos) (fun ρ => bnd (ma ρ) fun x => bnd (mb ρ) fun y => g x y) :=
  ⟨fun pins s σ H ρ h Q E A hm => wpAny_BinOp (seq2 ha hb A hm hf)⟩
theorem se_cmp {op : CmpOp} {g : Val → Val → M Val} (hf : VR2 X G (compareOp op) g) (ha : SE X G a ma) (hb : SE X G b mb) (hm : behindInMarks op b = false) : SE X G (.Compare a [op] [b] pos) (fun ρ => bnd (ma ρ) fun x => bnd (mb ρ) fun y => g x y) := by
  refine ⟨fun pins s σ H ρ h Q E A w => ?_⟩
  exact wpAny_Compare1 (seq2 ha hb A w hf) hm
end
end Mi

set_option Elab.async false
set_option linter.all false
set_option maxRecDepth 100000
set_option maxHeartbeats 4000000
namespace Mi
open PySem PySem.Spec PyProof.Rows L2

section
variable {X : Cx} {G : Gm} {F : Frm}
/-! ### arithmetic -/
theorem add_lists {pins : List (Addr × Obj)} {s : Shared} {σ : L2.St} {H : Hp} {ρ : Loc} {h : CH} {Q : Val → CH → Prop} {E : Nat → CH → Prop} {x y : V} {v u : Value} {a b : Val} {m : Bool} (A : At X G F pins ρ h σ H E s) (rx : RelV x v) (ry : RelV y u) (da : RelD G.c H a x) (db : RelD G.c H b y)
    (w : match lstOf h a, lstOf h b with
      | some l, some r => l.length + r.length ≤ sizeLine ∧ newL m (l ++ r) Q E h
      | _, _ => False) : wpAny (model X.prog X.w) X.A (binaryOp .Add v u) (EP X pins σ (QD G F ρ σ H Q)) X.xe s := by
  split at w
  · rename_i l r e1 e2
    obtain ⟨p, xs, rfl, hp, d1⟩ := rd_lst A.rep da e1
    obtain ⟨q, ys, rfl, hq, d2⟩ := rd_lst A.rep db e2
    cases rx; cases ry
    obtain ⟨z, its, n, r1, hl, e⟩ := lstF A.inv hp
    obtain ⟨z2, its2, n2, r2, hl2, e2⟩ := lstF A.inv hq
    have hs : xs.length + ys.length ≤ sizeLine := by rw [d1.length, d2.length]; exact w.1
    refine newL_ask A.loc A.rep (d1.append d2) (fun Q1 k => ?_) w.2
    refine PySem.P.add_list e e2 ?_ (by rw [List.size_toArray, List.size_toArray]; omega)
    have ea : its.toArray ++ its2.toArray = (its ++ its2).toArray := by simp
    rw [ea]
    exact ⟨.ref _, _, A.inv.lnew (t' := s.toks) (r1.append r2) (by rw [List.length_append]; omega), rfl, k _ A.inv.fresh⟩
  · exact w.elim
theorem vr_add (hK : X.K = G.c.K) {m : Bool} : VR2 X G (binaryOp .Add) (binM .add m) := by
  intro F pins s σ H ρ h Q E x y v u a b A rx ry da db w
  by_cases hI : ∃ i j, a = .int i ∧ b = .int j
  · obtain ⟨i, j, rfl, rfl⟩ := hI
    cases da; cases db
    exact op_add pins s σ H _ _ v u _ A.inv rx ry ⟨i, j, rfl, rfl, .here (v := .int (i + j)) A.loc A.rep rfl w⟩
  by_cases hT : ∃ l r, a = .tup l ∧ b = .tup r
  · obtain ⟨l, r, rfl, rfl⟩ := hT
    obtain ⟨p, xs, rfl, hp, d1⟩ := da
    obtain ⟨q, ys, rfl, hq, d2⟩ := db
    have w' : l.length + r.length ≤ sizeLine ∧ Q (.tup (l ++ r)) h := w
    refine op_catA pins s σ H _ _ v u _ A.inv rx ry ⟨p, q, xs, ys, rfl, rfl, by rw [hK]; exact hp, by rw [hK]; exact hq, by rw [d1.length, d2.length]; exact w'.1, fun e => ?_, fun _ e => ?_, fun _ _ p' n => ?_⟩
    · subst e
      have : l = [] := List.eq_nil_of_length_eq_zero (by rw [← d1.length]; rfl)
      subst this
      exact .here (v := .tup r) A.loc A.rep ⟨q, ys, rfl, hq, d2⟩ w'.2
    · subst e
      have : r = [] := List.eq_nil_of_length_eq_zero (by rw [← d2.length]; rfl)
      subst this
      exact .here (v := .tup l) A.loc A.rep ⟨p, xs, rfl, hp, d1⟩ (by simpa using w'.2)
    · exact .tup A.loc A.rep (d1.append d2) n w'.2
  refine add_lists (m := m) A rx ry da db ?_
  cases a <;> cases b <;> first | exact w | exact (hI ⟨_, _, rfl, rfl⟩).elim | exact (hT ⟨_, _, rfl, rfl⟩).elim
theorem vr_sub {m : Bool} : VR2 X G (binaryOp .Sub) (binM .sub m) := by
  intro F pins s σ H ρ h Q E x y v u a b A rx ry da db w
  cases a with
  | int i => cases b with
    | int j => cases da; cases db; exact op_sub pins s σ H _ _ v u _ A.inv rx ry ⟨i, j, rfl, rfl, .here (v := .int (i - j)) A.loc A.rep rfl w⟩
    | _ => exact w.elim
  | _ => exact w.elim
theorem vr_fdiv {m : Bool} : VR2 X G (binaryOp .FloorDiv) (binM .fdiv m) := by
  intro F pins s σ H ρ h Q E x y v u a b A rx ry da db w
  cases a with
  | int i => cases b with
    | int j =>
      cases da; cases db
      have w : CDiv i j ∧ Q (.int (i / j)) h := w
      exact op_fdiv pins s σ H _ _ v u _ A.inv rx ry ⟨i, j, rfl, rfl, w.1, .here (v := .int (i / j)) A.loc A.rep rfl w.2⟩
    | _ => exact w.elim
  | _ => exact w.elim
theorem vr_mod {m : Bool} : VR2 X G (binaryOp .Mod) (binM .mod m) := by
  intro F pins s σ H ρ h Q E x y v u a b A rx ry da db w
  cases a with
  | int i => cases b with
    | int j =>
      cases da; cases db
      have w : 0 < j ∧ Q (.int (i % j)) h := w
      exact op_mod pins s σ H _ _ v u _ A.inv rx ry ⟨i, j, rfl, rfl, w.1, .here (v := .int (i % j)) A.loc A.rep rfl w.2⟩
    | _ => exact w.elim
  | _ => exact w.elim
theorem vr_pow {m : Bool} : VR2 X G (binaryOp .Pow) (binM .pow m) := by
  intro F pins s σ H ρ h Q E x y v u a b A rx ry da db w
  cases a with
  | int i => cases b with
    | int j =>
      cases da; cases db
      have w : CPow i j ∧ Q (.int (i ^ j.toNat)) h := w
      exact op_pow pins s σ H _ _ v u _ A.inv rx ry ⟨i, j, rfl, rfl, w.1, .here (v := .int (i ^ j.toNat)) A.loc A.rep rfl w.2⟩
    | _ => exact w.elim
  | _ => exact w.elim
theorem RelDs.rep {H : Hp} {vs : List Val} {xs : List V} (d : RelDs G.c H vs xs) : ∀ k : Nat, RelDs G.c H (List.replicate k vs).flatten (List.replicate k xs).flatten
  | 0 => .nil
  | k + 1 => by
    rw [List.replicate_succ, List.replicate_succ, List.flatten_cons, List.flatten_cons]
    exact d.append (RelDs.rep d k)
end

/-! ### data -/
section
variable {G : Gm} {F : Frm} {H : Hp}
mutual
theorem dp_of : ∀ (v : Val) (x : V) (d : PyData), RelD G.c H v x → toD v = some d → Dp G.c.K H x d ∧ d.canLay0 = true
  | .non, x, d, r, e => by cases r; cases e; exact ⟨.non, by simp only [PyData.canLay0]⟩
  | .bl b, x, d, r, e => by cases r; cases e; exact ⟨.bl b, by simp only [PyData.canLay0]⟩
  | .int i, x, d, r, e => by cases r; cases e; exact ⟨.int i, by simp only [PyData.canLay0]⟩
  | .str z, x, d, r, e => by
    obtain ⟨rfl, h1, h2⟩ := r
    cases e
    exact ⟨.str z, by simpa only [PyData.canLay0, PyData.strOk] using h2⟩
  | .tup l, x, d, r, e => by
    obtain ⟨p, xs, rfl, hp, k⟩ := r
    simp only [toD, Option.map_eq_some_iff] at e
    obtain ⟨ds, e, rfl⟩ := e
    obtain ⟨h1, h2⟩ := dps_of l xs ds k e
    exact ⟨.tup hp h1, by simpa only [PyData.canLay0] using h2⟩
  | .lst l, x, d, r, e => by
    obtain ⟨p, o, xs, rfl, hp, k⟩ := r
    simp only [toD, Option.map_eq_some_iff] at e
    obtain ⟨ds, e, rfl⟩ := e
    obtain ⟨h1, h2⟩ := dps_of l xs ds k e
    exact ⟨.lst (.inl (.inr ⟨o, hp⟩)) h1, by simpa only [PyData.canLay0] using h2⟩
  | .ref _, _, _, _, e => by cases e
  | .fn _, _, _, _, e => by cases e
  | .exc _, _, _, _, e => by cases e
  | .emp, _, _, _, e => by cases e
theorem dps_of : ∀ (vs : List Val) (xs : List V) (ds : List PyData), RelDs G.c H vs xs → toDs vs = some ds → DpAll G.c.K H xs ds ∧ PyData.canLayAll0 ds = true
  | [], xs, ds, r, e => by cases r; cases e; exact ⟨.nil, by simp only [PyData.canLayAll0]⟩
  | v :: vs, xs, ds, r, e => by
    obtain ⟨x, r', rfl, h1, h2⟩ := r
    simp only [toDs] at e
    split at e
    · rename_i d ds' e1 e2
      cases e
      obtain ⟨a1, a2⟩ := dp_of v x d h1 e1
      obtain ⟨b1, b2⟩ := dps_of vs r' ds' h2 e2
      exact ⟨.cons a1 b1, by simp only [PyData.canLayAll0, a2, b2, Bool.and_self]⟩
    · cases e
end
theorem dp_deref {h : CH} {v : Val} {x : V} {d : PyData} (q : Rep G.c F h H) (r : RelD G.c H v x) (e : toD (deref h v) = some d) : Dp G.c.K H x d ∧ d.canLay0 = true := by
  cases v with
  | ref a =>
    simp only [deref] at e
    split at e
    · rename_i l e'
      obtain ⟨xs, hp, k⟩ := q.lst e'
      cases r
      simp only [toD, Option.map_eq_some_iff] at e
      obtain ⟨ds, e, rfl⟩ := e
      obtain ⟨h1, h2⟩ := dps_of l xs ds k e
      exact ⟨.lst (.inl (.inl hp)) h1, by simpa only [PyData.canLay0] using h2⟩
    · cases e
  | _ => exact dp_of _ x d r (by simpa only [deref] using e)
end
section
variable {X : Cx} {G : Gm} {F : Frm} {pins : List (Addr × Obj)} {s : Shared} {σ : L2.St} {H : Hp} {ρ : Loc} {h : CH} {Q : Val → CH → Prop} {E : Nat → CH → Prop} {x y : V} {v u : Value} {a b : Val}
abbrev blM (m : M Bool) : M Val := bnd m fun c => ret (.bl c)
theorem vr_eq (hK : X.K = G.c.K) (hu : X.A.units + 64 < cLine) : VR2 X G (compareOp .Eq) (fun a b => blM (cmpM .eq a b)) := by
  intro F pins s σ H ρ h Q E x y v u a b A rx ry da db w
  simp only [bnd, cmpM, eqM] at w
  split at w
  · rename_i d e e1 e2
    obtain ⟨p1, c1⟩ := dp_deref A.rep da e1
    obtain ⟨p2, c2⟩ := dp_deref A.rep db e2
    rw [← hK] at p1 p2
    obtain ⟨as, r1⟩ := Dp.reads A.inv d x v p1 rx
    obtain ⟨bs, r2⟩ := Dp.reads A.inv e y u p2 ry
    refine SeqAt.compareEq_reads r1 r2 c1 c2 ?_ ⟨.bl _, H, A.inv, rfl, .here (v := .bl _) A.loc A.rep rfl w.2⟩
    have := w.1
    omega
  · exact w.elim
theorem vr_ne (hK : X.K = G.c.K) (hu : X.A.units + 64 < cLine) : VR2 X G (compareOp .NotEq) (fun a b => blM (cmpM .ne a b)) := by
  intro F pins s σ H ρ h Q E x y v u a b A rx ry da db w
  simp only [bnd, cmpM, eqM] at w
  split at w
  · rename_i d e e1 e2
    obtain ⟨p1, c1⟩ := dp_deref A.rep da e1
    obtain ⟨p2, c2⟩ := dp_deref A.rep db e2
    rw [← hK] at p1 p2
    obtain ⟨as, r1⟩ := Dp.reads A.inv d x v p1 rx
    obtain ⟨bs, r2⟩ := Dp.reads A.inv e y u p2 ry
    refine SeqAt.compareNe_reads r1 r2 c1 c2 ?_ ⟨.bl _, H, A.inv, rfl, .here (v := .bl _) A.loc A.rep rfl w.2⟩
    have := w.1
    omega
  · exact w.elim
theorem vr_int {op : CmpOp} {c : Cm} {f : Int → Int → Bool} (hf : OpR X (compareOp op) (rI0 fun i j => .bl (f i j)))
    (e : ∀ a b Q E h, cmpM c a b Q E h → ∃ i j, a = .int i ∧ b = .int j ∧ Q (f i j) h) : VR2 X G (compareOp op) (fun a b => blM (cmpM c a b)) := by
  intro F pins s σ H ρ h Q E x y v u a b A rx ry da db w
  obtain ⟨i, j, rfl, rfl, w'⟩ := e a b (fun c h' => Q (.bl c) h') E h w
  cases da; cases db
  exact hf pins s σ H _ _ v u _ A.inv rx ry ⟨i, j, rfl, rfl, .here (v := .bl _) A.loc A.rep rfl w'⟩
theorem cm_int {c : Cm} {f : Int → Int → Bool} (hc : ∀ i j Q E h, cmpM c (.int i) (.int j) Q E h → Q (f i j) h) (h1 : c ≠ .eq) (h2 : c ≠ .ne) (h3 : c ≠ .inn) (h4 : c ≠ .nin) (h5 : c ≠ .is) (h6 : c ≠ .isn) :
    ∀ a b Q E h, cmpM c a b Q E h → ∃ i j, a = .int i ∧ b = .int j ∧ Q (f i j) h := by
  intro a b Q E h w
  cases c <;> first | exact (h1 rfl).elim | exact (h2 rfl).elim | exact (h3 rfl).elim | exact (h4 rfl).elim | exact (h5 rfl).elim | exact (h6 rfl).elim | skip
  all_goals
    cases a with
    | int i => cases b with
      | int j => exact ⟨i, j, rfl, rfl, hc i j Q E h w⟩
      | _ => exact w.elim
    | _ => exact w.elim
theorem vr_lt : VR2 X G (compareOp .Lt) (fun a b => blM (cmpM .lt a b)) := vr_int (f := fun i j => decide (i < j)) op_lt (cm_int (c := .lt) (fun _ _ _ _ _ w => w) (by decide) (by decide) (by decide) (by decide) (by decide) (by decide))
theorem vr_le : VR2 X G (compareOp .LtE) (fun a b => blM (cmpM .le a b)) := vr_int (f := fun i j => decide (i ≤ j)) op_le (cm_int (c := .le) (fun _ _ _ _ _ w => w) (by decide) (by decide) (by decide) (by decide) (by decide) (by decide))
theorem vr_gt : VR2 X G (compareOp .Gt) (fun a b => blM (cmpM .gt a b)) := vr_int (f := fun i j => decide (j < i)) op_gt (cm_int (c := .gt) (fun _ _ _ _ _ w => w) (by decide) (by decide) (by decide) (by decide) (by decide) (by decide))
theorem vr_ge : VR2 X G (compareOp .GtE) (fun a b => blM (cmpM .ge a b)) := vr_int (f := fun i j => decide (j ≤ i)) op_ge (cm_int (c := .ge) (fun _ _ _ _ _ w => w) (by decide) (by decide) (by decide) (by decide) (by decide) (by decide))
theorem vr_is : VR2 X G (compareOp .Is) (fun a b => blM (cmpM .is a b)) := by
  intro F pins s σ H ρ h Q E x y v u a b A rx ry da db w
  cases b with
  | non =>
    cases db
    refine op_isN pins s σ H x _ v u _ A.inv rx ry ⟨rfl, ?_⟩
    have w : Q (.bl (isNonV a)) h := by cases a <;> exact w
    have e : decide (x = V.non) = isNonV a := by
      cases a with
      | non => cases da; rfl
      | bl _ => cases da; rfl
      | int _ => cases da; rfl
      | str _ => obtain ⟨rfl, _⟩ := da; rfl
      | tup _ => obtain ⟨p, xs, rfl, _⟩ := da; rfl
      | lst _ => obtain ⟨p, o, xs, rfl, _⟩ := da; rfl
      | ref _ => cases da; rfl
      | fn _ => cases da; rfl
      | exc _ => obtain ⟨p, o, rfl, _⟩ := da; rfl
      | emp => obtain ⟨p, o, rfl, _⟩ := da; rfl
    rw [e]
    exact .here (v := .bl _) A.loc A.rep rfl w
  | bl j =>
    cases a with
    | bl i =>
      cases da; cases db
      refine op_isBl pins s σ H _ _ v u _ A.inv rx ry ⟨i, j, rfl, rfl, .here (v := .bl (i == j)) A.loc A.rep ?_ w⟩
      show V.bl _ = V.bl _
      cases i <;> cases j <;> rfl
    | _ => exact w.elim
  | _ => cases a <;> exact w.elim
theorem vr_isn : VR2 X G (compareOp .IsNot) (fun a b => blM (cmpM .isn a b)) := by
  intro F pins s σ H ρ h Q E x y v u a b A rx ry da db w
  cases b with
  | non =>
    cases db
    refine op_notN pins s σ H x _ v u _ A.inv rx ry ⟨rfl, ?_⟩
    have w : Q (.bl (!isNonV a)) h := by cases a <;> exact w
    have e : (!decide (x = V.non)) = !isNonV a := by
      cases a with
      | non => cases da; rfl
      | bl _ => cases da; rfl
      | int _ => cases da; rfl
      | str _ => obtain ⟨rfl, _⟩ := da; rfl
      | tup _ => obtain ⟨p, xs, rfl, _⟩ := da; rfl
      | lst _ => obtain ⟨p, o, xs, rfl, _⟩ := da; rfl
      | ref _ => cases da; rfl
      | fn _ => cases da; rfl
      | exc _ => obtain ⟨p, o, rfl, _⟩ := da; rfl
      | emp => obtain ⟨p, o, rfl, _⟩ := da; rfl
    rw [e]
    exact .here (v := .bl _) A.loc A.rep rfl w
  | bl j =>
    cases a with
    | bl i =>
      cases da; cases db
      refine op_notBl pins s σ H _ _ v u _ A.inv rx ry ⟨i, j, rfl, rfl, .here (v := .bl (!(i == j))) A.loc A.rep ?_ w⟩
      show V.bl _ = V.bl _
      cases i <;> cases j <;> rfl
    | _ => exact w.elim
  | _ => cases a <;> exact w.elim
/-! ### truth -/
theorem tr_of (hK : X.K = G.c.K) {k : Bool} (A : At X G F pins ρ h σ H E s) (da : RelD G.c H a x) (e : truthO h a = some k) : TruV X.K x H k := by
  cases a with
  | non => cases da; cases e; rfl
  | bl b => cases da; cases e; rfl
  | int i => cases da; cases e; rfl
  | str z => obtain ⟨rfl, h1, h2⟩ := da; cases e; exact ⟨h1, rfl⟩
  | tup l =>
    obtain ⟨p, xs, rfl, hp, d⟩ := da
    cases e
    rw [hK]
    refine .inr (.inl ⟨xs, hp, ?_⟩)
    cases l <;> cases xs <;> first | rfl | (have := d.length; simp at this)
  | lst l =>
    obtain ⟨p, o, xs, rfl, hp, d⟩ := da
    cases e
    refine .inl ⟨xs, .inl (.inr ⟨o, hp⟩), ?_⟩
    cases l <;> cases xs <;> first | rfl | (have := d.length; simp at this)
  | ref c =>
    simp only [truthO] at e
    split at e
    · rename_i l e'
      cases e
      obtain ⟨xs, hp, d⟩ := A.rep.lst e'
      cases da
      refine .inl ⟨xs, .inl (.inl hp), ?_⟩
      cases l <;> cases xs <;> first | rfl | (have := d.length; simp at this)
    · rename_i dp kvs e'
      cases e
      obtain ⟨rfl, ks, hp, d⟩ := A.rep.conc e' rfl
      cases da
      refine .inr (.inr ⟨ks, hp, ?_⟩)
      cases d <;> rfl
    · cases e
  | fn _ => cases e
  | exc _ => cases e
  | emp => cases e
end
end Mi

set_option Elab.async false
set_option linter.all false
set_option maxRecDepth 100000
set_option maxHeartbeats 4000000
namespace Mi
open PySem PySem.Spec PyProof.Rows L2

def AD (G : Gm) (F : Frm) (ρ : Loc) (σ : L2.St) (H : Hp) (n : Nat) (Q : List Val → CH → Prop) : List V → Hp → Prop := fun xs H' => ∃ vs h', xs.length = n ∧ Le H H' ∧ RelDs G.c H' vs xs ∧ RelL G H' ρ σ ∧ Rep G.c F h' H' ∧ Q vs h'
/-- .. of an argument list -/
structure SA (X : Cx) (G : Gm) (es : List Expr) (m : Loc → M (List Val)) : Prop where
  run : ∀ {F : Frm} (pos : Pos) (pins : List (Addr × Obj)) (s : Shared) (σ : L2.St) (H : Hp) (ρ : Loc) (h : CH) (Q : List Val → CH → Prop) (E : Nat → CH → Prop), At X G F pins ρ h σ H E s → m ρ Q E h →
    wpAny (model X.prog X.w) X.A (spliced (backTo pos (starEach es X.env))) (AP X pins σ (AD G F ρ σ H es.length Q)) X.xe s
section
variable {X : Cx} {G : Gm} {F : Frm} {e a b c : Expr} {es : List Expr} {ma mb mc : Loc → M Val} {mes : Loc → M (List Val)} {pos : Pos}
theorem sa_nil : SA X G [] (fun _ => ret []) := ⟨fun pos pins s σ H ρ h Q E A w => (pa_nil (X := X)).run pos pins s σ H _ A.inv ⟨[], h, rfl, .refl _, .nil, A.loc, A.rep, w⟩⟩
theorem sa_cons (ha : SE X G e ma) (hr : SA X G es mes) (hs : starEach (e :: es) X.env = (false, eval e X.env) :: starEach es X.env) : SA X G (e :: es) (fun ρ => bnd (ma ρ) fun v => bnd (mes ρ) fun vs => ret (v :: vs)) := by
  refine ⟨fun pos pins s σ H ρ h Q E A w => ?_⟩
  rw [hs]
  show wpAny _ _ (spliced ((false, eval e X.env) :: backTo pos (starEach es X.env))) _ _ s
  refine Calls.spliced_cons (thn (ha.run pins s σ H ρ h _ E A w) fun u s1 ⟨x, H1, I1, rx, va, h1, l1, d1, r1, q1, w1⟩ => ?_)
  refine thn (hr.run pos pins s1 σ H1 ρ h1 _ E (A.next l1 I1 r1 q1) w1) fun us s2 ⟨xs, H2, I2, rv, vs, h2, n2, l2, d2, r2, q2, w2⟩ => ?_
  exact ⟨x :: xs, H2, I2, .cons rx rv, va :: vs, h2, by simp [n2], l1.trans l2, .cons (RelD.mono l2 _ _ d1) d2, r2, q2, w2⟩
theorem se_tup {k} (hs : SA X G es mes) (hl : es.length ≤ sizeLine) : SE X G (.Tuple es k pos) (fun ρ => bnd (mes ρ) fun vs => ret (.tup vs)) := by
  refine ⟨fun pins s σ H ρ h Q E A w => ?_⟩
  refine wpAny_Tuple_spliced (thn (hs.run pos pins s σ H ρ h _ E A w) fun us s1 ⟨xs, H1, I1, r, vs, h1, n1, l1, d1, r1, q1, w1⟩ => ⟨by rw [← r.length, n1]; exact hl, ?_⟩)
  have hf : H1 s1.heap.objs.size = none := I1.hok.fresh (Nat.le_refl _)
  refine ⟨.ref s1.heap.objs.size, upd H1 s1.heap.objs.size (.tup xs), I1.laid (t' := s1.toks) (fun b u e => Heap.get?_push_of_some _ e) (Nat.le_refl _) ?_, rfl, (QD.tup r1 q1 d1 hf w1).up l1⟩
  exact ⟨by rw [n1]; exact hl, us, r, ⟨_, Heap.get?_push_size _ rfl, rfl, _, rfl⟩⟩
theorem se_list {m : Bool} (hs : SA X G es mes) (hl : es.length ≤ sizeLine) : SE X G (.List es pos) (fun ρ => bnd (mes ρ) fun vs => newL m vs) := by
  refine ⟨fun pins s σ H ρ h Q E A w => ?_⟩
  refine wpAny_List_spliced (thn (hs.run pos pins s σ H ρ h _ E A w) fun us s1 ⟨xs, H1, I1, r, vs, h1, n1, l1, d1, r1, q1, w1⟩ => ⟨by rw [← r.length, n1]; exact hl, ?_⟩)
  have hf : H1 s1.heap.objs.size = none := I1.hok.fresh (Nat.le_refl _)
  refine EP.up l1 (ep_newL r1 q1 d1 w1 ⟨.ref s1.heap.objs.size, upd H1 s1.heap.objs.size (.lst xs), I1.lnew (t' := s1.toks) r (by rw [n1]; exact hl), rfl, _, rfl, hf, rfl⟩)

/-! ### tests, and, or, not -/
theorem TP.up {F : Frm} {pins : List (Addr × Obj)} {σ : L2.St} {ρ : Loc} {H H' : Hp} {Q : Bool → CH → Prop} {k : Bool} {s' : Shared} (l : Le H H') (e : TP X pins σ (BD G F ρ σ H' Q) k s') : TP X pins σ (BD G F ρ σ H Q) k s' := by
  obtain ⟨H2, I, h', l', r⟩ := e
  exact ⟨H2, I, h', l.trans l', r⟩
/-- a value's truth -/
theorem tru (hK : X.K = G.c.K) {pins : List (Addr × Obj)} {s : Shared} {σ : L2.St} {H : Hp} {ρ : Loc} {h : CH} {Q : Bool → CH → Prop} {E : Nat → CH → Prop} {x : V} {u : Value} {v : Val} {k : Bool} (A : At X G F pins ρ h σ H E s) (rx : RelV x u) (d : RelD G.c H v x) (e : truthO h v = some k) (w : Q k h) :
    wpAny (model X.prog X.w) X.A (truthy u) (TP X pins σ (BD G F ρ σ H Q)) X.xe s :=
  tru_ok pins s σ H x u _ A.inv rx ⟨k, tr_of hK A d e, h, .refl _, A.loc, A.rep, w⟩
theorem st_val (hK : X.K = G.c.K) (ha : SE X G a ma) (he : ∀ whole, isTrue a X.env whole = (do let v ← whole; standAt a.pos; holding [v] (truthy v))) : ST X G a ma := by
  refine ⟨fun pins s σ H ρ h Q1 Q E A w hb => ?_⟩
  rw [he]
  refine wpAny_bind (thn (ha.run pins s σ H ρ h Q1 E A w) fun u s1 ⟨x, H1, I1, rx, va, h1, l1, d1, r1, q1, w1⟩ => ?_)
  obtain ⟨k, e, w2⟩ := hb _ _ w1
  refine wpAny_bind (wpAny_standAt (wpAny_holding ?_))
  exact thn (tru hK (A.next l1 I1 r1 q1) rx d1 e w2) fun k s2 e => TP.up l1 e
theorem truthM_some {v : Val} {Q : Bool → CH → Prop} {E : Nat → CH → Prop} {h : CH} (w : truthM v Q E h) : ∃ b, truthO h v = some b ∧ Q b h := by
  unfold truthM at w
  split at w
  · rename_i b e; exact ⟨b, e, w⟩
  · exact w.elim
theorem truthM_of {v : Val} {Q : Bool → CH → Prop} {E : Nat → CH → Prop} {h : CH} {b : Bool} (e : truthO h v = some b) (w : Q b h) : truthM v Q E h := by
  unfold truthM; rw [e]; exact w
theorem st_not (ha : ST X G a ma) : ST X G (.UnaryOp .Not a pos) (fun ρ => bnd (ma ρ) fun x => bnd (truthM x) fun b => ret (.bl (!b))) :=
  st_of (pt_not ha.pt) fun σ H ρ h Q1 Q E r q ac w hb => ⟨_, ρ, h, _, fun b h' => Q (!b) h', E, r, q, ac, w, fun x h1 w1 => by
    obtain ⟨b, e, w2⟩ := truthM_some w1
    obtain ⟨b', e', w3⟩ := hb _ _ w2
    cases e'
    exact ⟨b, e, w3⟩, fun b h' H' l r' q' w' => ⟨h', l, r', q', w'⟩⟩
theorem se_not (hK : X.K = G.c.K) (hx : SE X G a ma) : SE X G (.UnaryOp .Not a pos) (fun ρ => bnd (ma ρ) fun x => bnd (truthM x) fun b => ret (.bl (!b))) := by
  refine ⟨fun pins s σ H ρ h Q E A w => ?_⟩
  refine UnaryOp_ (thn (hx.run pins s σ H ρ h _ E A w) fun u s1 ⟨x, H1, I1, rx, va, h1, l1, d1, r1, q1, w1⟩ => ?_)
  obtain ⟨k, e, w2⟩ := truthM_some w1
  refine not_of (thn (tru (Q := fun b h' => Q (.bl (!b)) h') hK (A.next l1 I1 r1 q1) rx d1 e w2) fun c s2 ⟨H2, I2, h2, l2, r2, q2, w3⟩ => ?_)
  exact ⟨.bl (!c), H2, I2, rfl, .bl (!c), h2, l1.trans l2, rfl, r2, q2, w3⟩
/-- and, or as tests -/
theorem sw_and1 (ha : ST X G a ma) : SW X G (.BoolOp .And [a] pos) ma := sw_of (pw_and1 ha.pt) fun σ H ρ h Q1 Q E r q ac w hb => ⟨_, ρ, h, Q1, Q, E, r, q, ac, w, hb, fun b h' H' l r' q' w' => ⟨h', l, r', q', w'⟩⟩
theorem sw_or1 (ha : ST X G a ma) : SW X G (.BoolOp .Or [a] pos) ma := sw_of (pw_or1 ha.pt) fun σ H ρ h Q1 Q E r q ac w hb => ⟨_, ρ, h, Q1, Q, E, r, q, ac, w, hb, fun b h' H' l r' q' w' => ⟨h', l, r', q', w'⟩⟩
theorem sw_and (ha : ST X G a ma) (hb : SW X G (.BoolOp .And (b :: es) pos) mb) : SW X G (.BoolOp .And (a :: b :: es) pos) (fun ρ => bnd (ma ρ) fun x => bnd (truthM x) fun k => if k = true then mb ρ else ret x) := by
  refine sw_of (pw_and ha.pt hb.pw) fun σ H ρ h Q1 Q E r q ac w hb => ?_
  refine ⟨_, ρ, h, _, fun k h1 => if k = true then mb ρ Q1 E h1 else Q false h1, E, r, q, ac, w, fun x h1 w1 => ?_, fun k h' H' l r' q' w' => ?_⟩
  · obtain ⟨k, e, w2⟩ := truthM_some w1
    refine ⟨k, e, ?_⟩
    cases k with
    | true => exact w2
    | false =>
      obtain ⟨k', e', w3⟩ := hb x h1 w2
      rw [e] at e'; cases e'
      exact w3
  · cases k with
    | true => exact ⟨_, ρ, h', Q1, Q, E, r', q', ac.mono l, w', hb, fun b h2 H2 l2 r2 q2 w2 => ⟨h2, l.trans l2, r2, q2, w2⟩⟩
    | false => exact ⟨h', l, r', q', w'⟩
theorem sw_or (ha : ST X G a ma) (hb : SW X G (.BoolOp .Or (b :: es) pos) mb) : SW X G (.BoolOp .Or (a :: b :: es) pos) (fun ρ => bnd (ma ρ) fun x => bnd (truthM x) fun k => if k = true then ret x else mb ρ) := by
  refine sw_of (pw_or ha.pt hb.pw) fun σ H ρ h Q1 Q E r q ac w hb => ?_
  refine ⟨_, ρ, h, _, fun k h1 => if k = true then Q true h1 else mb ρ Q1 E h1, E, r, q, ac, w, fun x h1 w1 => ?_, fun k h' H' l r' q' w' => ?_⟩
  · obtain ⟨k, e, w2⟩ := truthM_some w1
    refine ⟨k, e, ?_⟩
    cases k with
    | false => exact w2
    | true =>
      obtain ⟨k', e', w3⟩ := hb x h1 w2
      rw [e] at e'; cases e'
      exact w3
  · cases k with
    | false => exact ⟨_, ρ, h', Q1, Q, E, r', q', ac.mono l, w', hb, fun b h2 H2 l2 r2 q2 w2 => ⟨h2, l.trans l2, r2, q2, w2⟩⟩
    | true => exact ⟨h', l, r', q', w'⟩
/-- .. as values -/
theorem se_one {op} (ha : SE X G a ma) : SE X G (.BoolOp op [a] pos) ma := se_of (pe_one ha.pe) fun σ H ρ h Q E r q ac w => ⟨_, ρ, h, Q, E, r, q, ac, w, fun v h' x H' l d r' q' w' => ⟨v, h', l, d, r', q', w'⟩⟩
theorem se_and (hK : X.K = G.c.K) (ha : SE X G a ma) (hb : SE X G (.BoolOp .And (b :: es) pos) mb) : SE X G (.BoolOp .And (a :: b :: es) pos) (fun ρ => bnd (ma ρ) fun x => bnd (truthM x) fun k => if k = true then mb ρ else ret x) := by
  refine ⟨fun pins s σ H ρ h Q E A w => ?_⟩
  refine BoolOp_and (thn (ha.run pins s σ H ρ h _ E A w) fun v s1 ⟨x, H1, I1, rx, va, h1, l1, d1, r1, q1, w1⟩ => ?_)
  obtain ⟨k, e, w2⟩ := truthM_some w1
  have A1 := A.next l1 I1 r1 q1
  refine thn (tru_ok pins s1 σ H1 x v (fun c H2 => c = k ∧ H2 = H1) I1 rx ⟨k, tr_of hK A1 d1 e, rfl, rfl⟩) fun c s2 ⟨H2, I2, e1, e2⟩ => ?_
  subst e1 e2
  cases c with
  | true => exact thn (hb.run pins s2 σ H2 ρ h1 Q E (A1.next (.refl _) I2 r1 q1) w2) fun u s3 e => EP.up l1 e
  | false => exact ⟨x, H2, I2, rx, va, h1, l1, d1, r1, q1, w2⟩
theorem se_or (hK : X.K = G.c.K) (ha : SE X G a ma) (hb : SE X G (.BoolOp .Or (b :: es) pos) mb) : SE X G (.BoolOp .Or (a :: b :: es) pos) (fun ρ => bnd (ma ρ) fun x => bnd (truthM x) fun k => if k = true then ret x else mb ρ) := by
  refine ⟨fun pins s σ H ρ h Q E A w => ?_⟩
  refine BoolOp_or (thn (ha.run pins s σ H ρ h _ E A w) fun v s1 ⟨x, H1, I1, rx, va, h1, l1, d1, r1, q1, w1⟩ => ?_)
  obtain ⟨k, e, w2⟩ := truthM_some w1
  have A1 := A.next l1 I1 r1 q1
  refine thn (tru_ok pins s1 σ H1 x v (fun c H2 => c = k ∧ H2 = H1) I1 rx ⟨k, tr_of hK A1 d1 e, rfl, rfl⟩) fun c s2 ⟨H2, I2, e1, e2⟩ => ?_
  subst e1 e2
  cases c with
  | false => exact thn (hb.run pins s2 σ H2 ρ h1 Q E (A1.next (.refl _) I2 r1 q1) w2) fun u s3 e => EP.up l1 e
  | true => exact ⟨x, H2, I2, rx, va, h1, l1, d1, r1, q1, w2⟩
theorem se_ite (hc : ST X G c mc) (ha : SE X G a ma) (hb : SE X G b mb) : SE X G (.IfExp c a b pos) (fun ρ => bnd (mc ρ) fun x => bnd (truthM x) fun k => if k = true then ma ρ else mb ρ) := by
  refine se_of (pe_ifExp hc.pt ha.pe hb.pe) fun σ H ρ h Q E r q ac w => ?_
  refine ⟨_, ρ, h, _, fun k h1 => (if k = true then ma ρ else mb ρ) Q E h1, E, r, q, ac, w, fun x h1 w1 => truthM_some w1, fun k h' H' l r' q' w' => ?_⟩
  cases k with
  | true => exact ⟨_, ρ, h', Q, E, r', q', ac.mono l, w', fun v h2 x H2 l2 d2 r2 q2 w2 => ⟨v, h2, l.trans l2, d2, r2, q2, w2⟩⟩
  | false => exact ⟨_, ρ, h', Q, E, r', q', ac.mono l, w', fun v h2 x H2 l2 d2 r2 q2 w2 => ⟨v, h2, l.trans l2, d2, r2, q2, w2⟩⟩
/-- an ite as a test -/
theorem st_ite (hK : X.K = G.c.K) (hc : ST X G c mc) (ha : ST X G a ma) (hb : ST X G b mb) : ST X G (.IfExp c a b pos) (fun ρ => bnd (mc ρ) fun x => bnd (truthM x) fun k => if k = true then ma ρ else mb ρ) := by
  refine ⟨fun pins s σ H ρ h Q1 Q E A w hq => ?_⟩
  rw [PySem.isTrue]
  refine wpAny_bind (thn (hc.run pins s σ H ρ h _ (fun k h1 => (if k = true then ma ρ else mb ρ) Q1 E h1) E A w fun x h1 w1 => truthM_some w1) fun k s1 ⟨H1, I1, h1, l1, r1, q1, w1⟩ => ?_)
  have A1 := A.next l1 I1 r1 q1
  cases k with
  | true => exact thn (ha.run pins s1 σ H1 ρ h1 Q1 Q E A1 w1 hq) fun k s2 e => TP.up l1 e
  | false => exact thn (hb.run pins s1 σ H1 ρ h1 Q1 Q E A1 w1 hq) fun k s2 e => TP.up l1 e
theorem eqM_mono {x y : Val} {Q Q' : Bool → CH → Prop} {E : Nat → CH → Prop} {h : CH} (k : ∀ b h, Q b h → Q' b h) (w : eqM x y Q E h) : eqM x y Q' E h := by
  unfold eqM at *
  split at w
  · exact ⟨w.1, k _ _ w.2⟩
  · exact w.elim
theorem inM_mono {x y : Val} {Q Q' : Bool → CH → Prop} {E : Nat → CH → Prop} {h : CH} (k : ∀ b h, Q b h → Q' b h) (w : inM x y Q E h) : inM x y Q' E h := by
  unfold inM at *
  split at w
  · split at w
    · exact ⟨w.1, k _ _ w.2⟩
    · exact w.elim
  · exact w.elim
theorem cmpM_mono {op : Cm} {x y : Val} {Q Q' : Bool → CH → Prop} {E : Nat → CH → Prop} {h : CH} (k : ∀ b h, Q b h → Q' b h) (w : cmpM op x y Q E h) : cmpM op x y Q' E h := by
  cases op with
  | eq => exact eqM_mono (E := E) k w
  | ne => exact eqM_mono (E := E) (fun b h => k (!b) h) w
  | inn => exact inM_mono (E := E) k w
  | nin => exact inM_mono (E := E) (fun b h => k (!b) h) w
  | is => cases y <;> first | exact k _ _ w | (cases x <;> first | exact k _ _ w | exact w.elim)
  | isn => cases y <;> first | exact k _ _ w | (cases x <;> first | exact k _ _ w | exact w.elim)
  | _ => cases x <;> first | exact w.elim | (cases y <;> first | exact k _ _ w | exact w.elim)
/-- a comparison as a test -/
theorem st_cmp {op : CmpOp} {o : Cm} (hf : VR2 X G (compareOp op) (fun x y => blM (cmpM o x y))) (ha : SE X G a ma) (hb : SE X G b mb) (hm : behindInMarks op b = false) :
    ST X G (.Compare a [op] [b] pos) (fun ρ => bnd (ma ρ) fun x => bnd (mb ρ) fun y => bnd (cmpM o x y) fun c => ret (.bl c)) := by
  refine ⟨fun pins s σ H ρ h Q1 Q E A w hq => ?_⟩
  have P := pt_cmp (X := X) (a := a) (b := b) (op := op) (pos := pos) (t := fun σ H Qv => ∃ (F : Frm) (ρ : Loc) (h : CH) (Q' : Val → CH → Prop) (E' : Nat → CH → Prop), RelL G H ρ σ ∧ Rep G.c F h H ∧ Acc X G F ρ σ H E' ∧ (bnd (ma ρ) fun x => bnd (mb ρ) fun y => blM (cmpM o x y)) Q' E' h ∧ ∀ c h' H', Le H H' → RelL G H' ρ σ → Rep G.c F h' H' → Q' (.bl c) h' → Qv (.bl c) H')
    ⟨fun pins s σ H Qv I ⟨_, ρ, h, Q', E', r, q, ac, w, k⟩ => by
      refine thn (ha.run pins s σ H ρ h _ E' ⟨I, r, q, ac⟩ w) fun u s1 ⟨x, H1, I1, rx, va, h1, l1, d1, r1, q1, w1⟩ => ?_
      have A1 : At X G _ pins ρ h1 σ H1 E' s1 := ⟨I1, r1, q1, ac.mono l1⟩
      refine thn (hb.run pins s1 σ H1 ρ h1 _ E' A1 w1) fun u2 s2 ⟨y, H2, I2, ry, vb, h2, l2, d2, r2, q2, w2⟩ => ?_
      have w2' : blM (cmpM o va vb) (fun v h' => ∃ c, v = .bl c ∧ Q' v h') E' h2 := cmpM_mono (fun c h' q => ⟨c, rfl, q⟩) w2
      refine thn (hf pins s2 σ H2 ρ h2 _ E' x y u u2 va vb (A1.next l2 I2 r2 q2) rx ry (RelD.mono l2 _ _ d1) d2 w2') fun z s3 ⟨z', H3, I3, rz, v, h3, l3, d3, r3, q3, c, e, w3⟩ => ?_
      subst e
      cases d3
      exact ⟨.bl c, H3, I3, rz, k c h3 H3 ((l1.trans l2).trans l3) r3 q3 w3⟩⟩ hm
  refine P.run pins s σ H (BD G _ ρ σ H Q) A.inv ⟨_, ρ, h, Q1, E, A.loc, A.rep, A.acc, w, fun c h' H' l r q w' => ?_⟩
  obtain ⟨k, e, w2⟩ := hq _ h' w'
  cases e
  exact ⟨c, rfl, h', l, r, q, w2⟩
end
end Mi

set_option Elab.async false
set_option linter.all false
set_option maxRecDepth 100000
set_option maxHeartbeats 400000
namespace Mi
open PySem PySem.Spec PyProof.Rows L2
section
variable {X : Cx} {G : Gm} {F : Frm} {e a b c : Expr} {es : List Expr} {ma mb mc : Loc → M Val} {mes : Loc → M (List Val)} {pos : Pos}

/-! ### a op b op c -/
def chainM (o1 o2 : Cm) (ma mb mc : Loc → M Val) : Loc → M Val := fun ρ => bnd (ma ρ) fun x => bnd (mb ρ) fun y => bnd (cmpM o1 x y) fun k =>
  if k = true then bnd (mc ρ) fun z => bnd (cmpM o2 y z) fun l => ret (.bl l) else ret (.bl false)
theorem se_chain {op op' : CmpOp} {o1 o2 : Cm} (h1 : VR2 X G (compareOp op) (fun x y => blM (cmpM o1 x y))) (h2 : VR2 X G (compareOp op') (fun x y => blM (cmpM o2 x y))) (ha : SE X G a ma) (hb : SE X G b mb) (hc : SE X G c mc)
    (hm : lastMarks [op, op'] [b, c] = false) : SE X G (.Compare a [op, op'] [b, c] pos) (chainM o1 o2 ma mb mc) := by
  refine ⟨fun pins s σ H ρ h Q E A w => ?_⟩
  refine Compare_chain (thn (ha.run pins s σ H ρ h _ E A w) fun v s1 ⟨x, H1, I1, rx, va, h1', l1, d1, r1, q1, w1⟩ => chain_link ?_) hm
  have A1 := A.next l1 I1 r1 q1
  refine thn (hb.run pins s1 σ H1 ρ h1' _ E A1 w1) fun u s2 ⟨y, H2, I2, ry, vb, h2', l2, d2, r2, q2, w2⟩ => ?_
  have A2 := A1.next l2 I2 r2 q2
  have w2' : blM (cmpM o1 va vb) (fun v h' => ∃ k, v = .bl k ∧ (if k = true then bnd (mc ρ) (fun z => bnd (cmpM o2 vb z) fun l => ret (.bl l)) else ret (.bl false)) Q E h') E h2' := cmpM_mono (fun k h' q => ⟨k, rfl, q⟩) w2
  refine thn (h1 pins s2 σ H2 ρ h2' _ E x y v u va vb A2 rx ry (RelD.mono l2 _ _ d1) d2 w2') fun z s3 ⟨z', H3, I3, rz, v3, h3, l3, d3, r3, q3, k, e, w3⟩ => ?_
  subst e
  cases d3
  cases rz
  refine wpAny_truthy_bool ?_
  have A3 := A2.next l3 I3 r3 q3
  cases k with
  | false => exact ite_ff ⟨.bl false, H3, I3, rfl, .bl false, h3, (l1.trans l2).trans l3, rfl, r3, q3, w3⟩
  | true =>
    refine ite_tt (chain_last ?_)
    refine thn (hc.run pins s3 σ H3 ρ h3 _ E A3 w3) fun w' s4 ⟨z4, H4, I4, r4, vc, h4, l4, d4, rr4, q4, w4⟩ => ?_
    refine thn (h2 pins s4 σ H4 ρ h4 _ E y z4 u w' vb vc (A3.next l4 I4 rr4 q4) ry r4 (RelD.mono (l3.trans l4) _ _ d2) d4 w4) fun z s5 e => EP.up (((l1.trans l2).trans l3).trans l4) e
theorem st_chain {op op' : CmpOp} {o1 o2 : Cm} (h1 : VR2 X G (compareOp op) (fun x y => blM (cmpM o1 x y))) (h2 : VR2 X G (compareOp op') (fun x y => blM (cmpM o2 x y))) (ha : SE X G a ma) (hb : SE X G b mb) (hc : SE X G c mc)
    (hm : lastMarks [op, op'] [b, c] = false) : ST X G (.Compare a [op, op'] [b, c] pos) (chainM o1 o2 ma mb mc) := by
  refine ⟨fun pins s σ H ρ h Q1 Q E A w hq => ?_⟩
  have bl : ∀ (k : Bool) (h' : CH), Q1 (.bl k) h' → Q k h' := fun k h' q => by
    obtain ⟨b, e, z⟩ := hq _ _ q
    cases e; exact z
  refine isTrue_chain (thn (ha.run pins s σ H ρ h _ E A w) fun v s1 ⟨x, H1, I1, rx, va, h1', l1, d1, r1, q1, w1⟩ => test_link ?_) hm
  have A1 := A.next l1 I1 r1 q1
  refine thn (hb.run pins s1 σ H1 ρ h1' _ E A1 w1) fun u s2 ⟨y, H2, I2, ry, vb, h2', l2, d2, r2, q2, w2⟩ => ?_
  have A2 := A1.next l2 I2 r2 q2
  have w2' : blM (cmpM o1 va vb) (fun v h' => ∃ k, v = .bl k ∧ (if k = true then bnd (mc ρ) (fun z => bnd (cmpM o2 vb z) fun l => ret (.bl l)) else ret (.bl false)) Q1 E h') E h2' := cmpM_mono (fun k h' q => ⟨k, rfl, q⟩) w2
  refine thn (h1 pins s2 σ H2 ρ h2' _ E x y v u va vb A2 rx ry (RelD.mono l2 _ _ d1) d2 w2') fun z s3 ⟨z', H3, I3, rz, v3, h3, l3, d3, r3, q3, k, e, w3⟩ => ?_
  subst e
  cases d3
  cases rz
  refine wpAny_truthy_bool ?_
  have A3 := A2.next l3 I3 r3 q3
  cases k with
  | false => exact ite_ff ⟨H3, I3, h3, (l1.trans l2).trans l3, r3, q3, bl _ _ w3⟩
  | true =>
    refine ite_tt (test_last ?_)
    refine thn (hc.run pins s3 σ H3 ρ h3 _ E A3 w3) fun w' s4 ⟨z4, H4, I4, r4, vc, h4, l4, d4, rr4, q4, w4⟩ => ?_
    have w4' : blM (cmpM o2 vb vc) (fun v h' => ∃ k, v = .bl k ∧ Q k h') E h4 := cmpM_mono (fun k h' q => ⟨k, rfl, bl _ _ q⟩) w4
    refine thn (h2 pins s4 σ H4 ρ h4 _ E y z4 u w' vb vc (A3.next l4 I4 rr4 q4) ry r4 (RelD.mono (l3.trans l4) _ _ d2) d4 w4') fun z s5 ⟨z', H5, I5, rz, v5, h5, l5, d5, r5, q5, k, e, w5⟩ => ?_
    subst e
    cases d5
    cases rz
    exact wpAny_truthy_bool ⟨H5, I5, h5, (((l1.trans l2).trans l3).trans l4).trans l5, r5, q5, w5⟩

/-! ### in, not in -/
theorem depthAll_le : ∀ (ds : List PyData) (n : Nat), (∀ e ∈ ds, min n e.depth ≤ 64) → min (PyData.depthAll ds) n ≤ 64
  | [], n, _ => by simp [PyData.depthAll]
  | d :: ds, n, h => by
    have h1 := h d (by simp)
    have h2 := depthAll_le ds n fun e he => h e (by simp [he])
    simp only [PyData.depthAll]
    omega
theorem in_gen (hK : X.K = G.c.K) (hu : X.A.units + 128 < cLine) {pins : List (Addr × Obj)} {s : Shared} {σ : L2.St} {H : Hp} {ρ : Loc} {h : CH} {Q : Bool → CH → Prop} {E : Nat → CH → Prop} {x y : V} {v u : Value} {a b : Val} (A : At X G F pins ρ h σ H E s) (rx : RelV x v) (ry : RelV y u) (da : RelD G.c H a x) (db : RelD G.c H b y) (w : inM a b Q E h) :
    ∃ k, Q k h ∧ (∀ R : Value → Shared → Prop, R (.bool k) s → wpAny (model X.prog X.w) X.A (compareOp .In v u) R X.xe s) ∧ (∀ R : Value → Shared → Prop, R (.bool !k) s → wpAny (model X.prog X.w) X.A (compareOp .NotIn v u) R X.xe s) := by
  unfold inM at w
  split at w
  · rename_i d l e1 e2
    split at w
    · rename_i ds e3
      obtain ⟨p1, c1⟩ := dp_deref A.rep da e1
      obtain ⟨p, xs, rfl, hp, dl⟩ := rd_seq A.rep db e2
      obtain ⟨p2, c2⟩ := dps_of l xs ds dl e3
      rw [← hK] at p1 p2
      obtain ⟨as, r1⟩ := Dp.reads A.inv d x v p1 rx
      have hd : X.A.units + 1 + min (PyData.depthAll ds) d.depth < cLine := by
        have := depthAll_le ds d.depth w.1
        omega
      refine ⟨_, w.2, ?_⟩
      rcases hp with hp | hp
      · obtain ⟨bs, r2⟩ := Dp.reads A.inv (.list ds) (.ref p) u (.lst (.inl hp) p2) ry
        exact ⟨fun R k => SeqAt.in_list_reads r2 r1 c2 c1 hd k, fun R k => SeqAt.notIn_list_reads r2 r1 c2 c1 hd k⟩
      · rw [← hK] at hp
        obtain ⟨bs, r2⟩ := Dp.reads A.inv (.tuple ds) (.ref p) u (.tup hp p2) ry
        exact ⟨fun R k => SeqAt.in_tuple_reads r2 r1 c2 c1 hd k, fun R k => SeqAt.notIn_tuple_reads r2 r1 c2 c1 hd k⟩
    · exact w.elim
  · exact w.elim
theorem vr_in (hK : X.K = G.c.K) (hu : X.A.units + 128 < cLine) : VR2 X G (compareOp .In) (fun a b => blM (cmpM .inn a b)) := by
  intro F pins s σ H ρ h Q E x y v u a b A rx ry da db w
  obtain ⟨k, q, h1, h2⟩ := in_gen (Q := fun k h => Q (.bl k) h) hK hu A rx ry da db w
  exact h1 _ ⟨.bl k, H, A.inv, rfl, .here (v := .bl k) A.loc A.rep rfl q⟩
theorem vr_nin (hK : X.K = G.c.K) (hu : X.A.units + 128 < cLine) : VR2 X G (compareOp .NotIn) (fun a b => blM (cmpM .nin a b)) := by
  intro F pins s σ H ρ h Q E x y v u a b A rx ry da db w
  obtain ⟨k, q, h1, h2⟩ := in_gen (Q := fun k h => Q (.bl !k) h) hK hu A rx ry da db w
  exact h2 _ ⟨.bl !k, H, A.inv, rfl, .here (v := .bl !k) A.loc A.rep rfl q⟩
/-! ### -a -/
def negM (x : Val) : M Val := match x with
  | .int i => ret (.int (-i))
  | _ => stuck
theorem se_neg (ha : SE X G a ma) : SE X G (.UnaryOp .USub a pos) (fun ρ => bnd (ma ρ) negM) := by
  refine se_of (pe_un un_neg ha.pe) fun σ H ρ h Q E r q ac hm => ⟨_, ρ, h, _, E, r, q, ac, hm, fun v h' x H' l d r' q' w => ?_⟩
  cases v with
  | int i => cases d; exact ⟨i, rfl, .int (-i), h', l, rfl, r', q', w⟩
  | _ => exact w.elim
/-! ### * -/
theorem vr_mulI {m : Bool} : ∀ (i j : Int), True := fun _ _ => trivial
end
end Mi

set_option Elab.async false
set_option linter.all false
set_option maxRecDepth 100000
set_option maxHeartbeats 400000
namespace Mi
open PySem PySem.Spec PyProof.Rows L2
section
variable {X : Cx} {G : Gm} {F : Frm} {e a b c : Expr} {es : List Expr} {ma mb mc : Loc → M Val} {mes : Loc → M (List Val)} {pos : Pos}
theorem vr_mul (hK : X.K = G.c.K) {m : Bool} : VR2 X G (binaryOp .Mult) (binM .mul m) := by
  intro F pins s σ H ρ h Q E x y v u a b A rx ry da db w
  cases b with
  | int j =>
    cases db
    cases a with
    | int i =>
      cases da
      have w : CMul i j ∧ Q (.int (i * j)) h := w
      exact op_mul pins s σ H _ _ v u _ A.inv rx ry ⟨i, j, rfl, rfl, w.1, .here (v := .int (i * j)) A.loc A.rep rfl w.2⟩
    | tup l =>
      obtain ⟨p, xs, rfl, hp, d⟩ := da
      obtain ⟨w1, w2, w3, w4, w5⟩ : l ≠ [] ∧ 2 ≤ j ∧ j ≤ 1000 ∧ l.length ≤ 1000 ∧ Q (.tup (List.replicate j.toNat l).flatten) h := w
      refine op_repT pins s σ H _ _ v u _ A.inv rx ry ⟨p, j, xs, rfl, rfl, by rw [hK]; exact hp, fun e => w1 ?_, w2, w3, by rw [d.length]; exact w4, fun p' n => .tup A.loc A.rep (d.rep j.toNat) n w5⟩
      subst e
      exact List.eq_nil_of_length_eq_zero (by rw [← d.length]; rfl)
    | ref c =>
      cases da
      simp only [binM] at w
      split at w
      · rename_i l e'
        obtain ⟨xs, hp, d⟩ := A.rep.lst e'
        obtain ⟨w1, w2, w3, w4⟩ := w
        exact newL_ask A.loc A.rep (d.rep j.toNat) (fun Q1 k => op_rep pins s σ H _ _ v u _ A.inv rx ry ⟨c, j, xs, rfl, rfl, hp, w1, w2, by rw [d.length]; exact w3, k⟩) w4
      · exact w.elim
    | _ => exact w.elim
  | _ => cases a <;> exact w.elim

/-! ### a[i] -/
def rDG : R2 := fun x y H Q => ∃ a v, x = .ref a ∧ DGet H a y (some v) ∧ Q v H
theorem ix_dict (hu : X.A.units + 1 < cLine) : IxR X rDG := by
  intro value slice pins s σ H x y v u Q I rx ry h hs
  obtain ⟨a, r, rfl, g, q⟩ := h
  obtain rfl : v = Value.ref a := rx
  exact tail_any (dict_typeIs I g) slot_dict_getitem.lookup (d_getItem hu I g ry fun w' s3 I3 rw' => ⟨r, H, I3, rw', q⟩) hs
theorem keyV_rel {G : Gm} {H : Hp} {v : Val} {x : V} {k : Key} (d : RelD G.c H v x) (e : keyV v = some k) : x = kV k := by
  cases v with
  | int i => cases e; exact d
  | str z => cases e; exact d.1
  | _ => cases e
theorem RelKV.val {G : Gm} {H : Hp} {kvs : List (Val × Val)} {ks : List (Key × V)} (r : RelKV G.c H kvs ks) (k : Key) {v : Val} (e : valAt kvs k = some v) : ∃ x, valV ks k = some x ∧ RelD G.c H v x := by
  induction r with
  | nil => simp [valAt] at e
  | @cons p q l m hpq t ih =>
    unfold valAt at e
    unfold valV
    rw [List.find?_cons] at e ⊢
    rw [hpq.1] at e
    by_cases z : q.1 = k
    · simp only [Option.some.injEq, z, decide_true, Option.map_some] at e ⊢
      exact ⟨q.2, rfl, e ▸ hpq.2⟩
    · simp only [Option.some.injEq, z, decide_false] at e ⊢
      exact ih e
theorem atI_of {G : Gm} {H : Hp} {l : List Val} {xs : List V} {i : Int} {v : Val} (d : RelDs G.c H l xs) (e : atI l i = some v) : ∃ x, atI xs i = some x ∧ RelD G.c H v x := by
  unfold atI at e ⊢
  rw [d.length]
  cases q : ixN l.length i with
  | none => rw [q] at e; cases e
  | some j =>
    rw [q] at e
    exact d.get e
theorem se_ix (hK : X.K = G.c.K) (hu : X.A.units + 1 < cLine) (ha : SE X G a ma) (hb : SE X G b mb) (hs : PlainIx b) : SE X G (.Subscript a b pos) (fun ρ => bnd (ma ρ) fun x => bnd (mb ρ) fun y => ixM x y) := by
  refine se_of (pe_ix (ix_list.or (ix_tup.or (ix_dict hu))) ha.pe hb.pe hs) fun σ H ρ h Q E r q ac hm => ?_
  rename_i F
  refine ⟨_, ρ, h, _, E, r, q, ac, hm, fun va h1 x H1 l1 d1 r1 q1 w1 => ⟨_, ρ, h1, _, E, r1, q1, ac.mono l1, w1, fun vb h2 y H2 l2 d2 r2 q2 w2 => ?_⟩⟩
  have d1 := RelD.mono l2 _ _ d1
  have fin : ∀ (v : Val) (x : V), RelD G.c H2 v x → Q v h2 → QD G F ρ σ H Q x H2 := fun v x d w => ⟨v, h2, l1.trans l2, d, r2, q2, w⟩
  have dct : ∀ (p : Addr) (kvs : List (Val × Val)) (k : Key) (v : Val) (dp : Bool), va = .ref p → h2 p = some (.dict dp kvs) → valAt kvs k = some v → y = kV k → Q v h2 → rDG x y H2 (QD G F ρ σ H Q) := by
    intro p kvs k v dp ea eh ev ey w
    subst ea ey
    cases d1
    obtain ⟨rfl, ks, hp, rk⟩ := q2.conc eh rfl
    obtain ⟨z, e3, d3⟩ := RelKV.val rk k ev
    exact ⟨p, z, rfl, .inl ⟨ks, k, .inl hp, rfl, e3.symm⟩, fin v z d3 w⟩
  cases vb with
  | int i =>
    cases d2
    simp only [ixM] at w2
    split at w2
    · rename_i l e
      split at w2
      · rename_i v e2
        obtain ⟨p, xs, rfl, hp, dl⟩ := rd_seq q2 d1 e
        obtain ⟨z, e3, d3⟩ := atI_of dl e2
        rcases hp with hp | hp
        · exact .inl ⟨p, xs, i, z, rfl, rfl, .inl hp, e3, fin v z d3 w2⟩
        · exact .inr (.inl ⟨p, xs, i, z, rfl, rfl, by rw [hK]; exact hp, e3, fin v z d3 w2⟩)
      · exact w2.elim
    · cases va with
      | ref p =>
        simp only at w2
        split at w2
        · rename_i dp kvs eh
          split at w2
          · rename_i v ev
            exact .inr (.inr (dct p kvs (.inl i) v dp rfl eh ev rfl w2))
          · exact w2.elim
        · exact w2.elim
      | _ => exact w2.elim
  | str z =>
    obtain ⟨rfl, _⟩ := d2
    cases va with
    | ref p =>
      simp only [ixM] at w2
      split at w2
      · rename_i dp kvs eh
        split at w2
        · rename_i v ev
          exact .inr (.inr (dct p kvs (.inr z) v dp rfl eh ev rfl w2))
        · exact w2.elim
      · exact w2.elim
    | _ => exact w2.elim
  | _ => exact w2.elim

/-! ### slices -/
theorem cut_of {G : Gm} {H : Hp} {l : List Val} {xs : List V} (d : RelDs G.c H l xs) (lo hi : Option Int) : RelDs G.c H (cutL l lo hi) (cutV xs lo hi) := by
  unfold cutL cutV
  rw [d.length]
  exact (d.drop _).take _
/-- a slice of a tuple or list -/
structure SO (X : Cx) (G : Gm) (e : Option Expr) (m : Loc → M (Option Int)) : Prop where
  run : ∀ {F : Frm} (pins : List (Addr × Obj)) (s : Shared) (σ : L2.St) (H : Hp) (ρ : Loc) (h : CH) (Q : Option Int → CH → Prop) (E : Nat → CH → Prop), At X G F pins ρ h σ H E s → m ρ Q E h →
    wpAny (model X.prog X.w) X.A (evalPart e X.env) (fun u s' => ∃ o H' h', Inv X pins σ H' s' ∧ IsPart u o ∧ Le H H' ∧ RelL G H' ρ σ ∧ Rep G.c F h' H' ∧ Q o h') X.xe s
theorem so_none : SO X G none (fun _ => ret none) :=
  ⟨fun pins s σ H ρ h Q E A w => thn ((po_none (X := X)).run pins s σ H (fun o H1 => o = none ∧ H1 = H) A.inv ⟨rfl, rfl⟩) fun u s1 ⟨o, H1, I, p, e1, e2⟩ => by
    subst e1 e2
    exact ⟨_, _, h, I, p, .refl _, A.loc, A.rep, w⟩⟩
theorem so_some (ha : SE X G a ma) : SO X G (some a) (fun ρ => bnd (ma ρ) fun v => opt (partO v) ret) := by
  refine ⟨fun pins s σ H ρ h Q E A w => ?_⟩
  rename_i F
  refine thn ((po_some ha.pe).run pins s σ H (fun o H1 => ∃ h', Le H H1 ∧ RelL G H1 ρ σ ∧ Rep G.c F h' H1 ∧ Q o h') A.inv ⟨_, ρ, h, _, E, A.loc, A.rep, A.acc, w, fun v h' x H' l d r q w' => ?_⟩) fun u s1 ⟨o, H1, I, p, h', l, r, q, w'⟩ => ⟨o, H1, h', I, p, l, r, q, w'⟩
  cases v with
  | int i => cases d; exact ⟨i, rfl, h', l, r, q, w'⟩
  | _ => exact w'.elim
theorem sl_any (hK : X.K = G.c.K) : SlR X (fun x lo hi H Q => rSlA X.K x lo hi H Q ∨ rSlL X.K x lo hi H Q) := SlR.or sl_tupA sl_list
theorem se_cut (hK : X.K = G.c.K) {m : Bool} {lo hi : Option Expr} {ml mh : Loc → M (Option Int)} {p2 : Pos} (ha : SE X G a ma) (hl : SO X G lo ml) (hh : SO X G hi mh) :
    SE X G (.Subscript a (.Slice lo hi none p2) pos) (fun ρ => bnd (ma ρ) fun x => bnd (ml ρ) fun l => bnd (mh ρ) fun u => cutM m x l u) := by
  refine ⟨fun pins s σ H ρ h Q E A w => ?_⟩
  rename_i F
  refine Subscript_ (thn (ha.run pins s σ H ρ h _ E A w) fun v s1 ⟨x, H1, I1, rx, va, h1, l1, d1, r1, q1, w1⟩ => ?_)
  have A1 := A.next l1 I1 r1 q1
  refine wpAny_Slice (thn (hl.run pins s1 σ H1 ρ h1 _ E A1 w1) fun vl s2 ⟨l, H2, h2, I2, pl, l2, r2, q2, w2⟩ => ?_)
  have A2 := A1.next l2 I2 r2 q2
  refine thn (hh.run pins s2 σ H2 ρ h2 _ E A2 w2) fun vu s3 ⟨u, H3, h3, I3, pu, l3, r3, q3, w3⟩ => ?_
  rw [evalPart_none]
  refine wpAny_pure ?_
  have I4 : Inv X pins σ H3 { s3 with heap := s3.heap.push { cls := .type "slice", data := .fields #[vl, vu, .none] } } := I3.kept (t' := s3.toks) fun b ob q => Heap.get?_push_of_some _ q
  have d3 := RelD.mono (l2.trans l3) _ _ d1
  have key : ∃ T id, typeLookup (.type T) "__getitem__" = pure (some (.builtin id)) ∧ ({ s3 with heap := s3.heap.push { cls := .type "slice", data := .fields #[vl, vu, .none] } } : Shared).TypeIs v T ∧ wpAny (model X.prog X.w) X.A (getItem v (.ref s3.heap.objs.size)) (EP X pins σ (QD G F ρ σ H3 Q)) X.xe { s3 with heap := s3.heap.push { cls := .type "slice", data := .fields #[vl, vu, .none] } } := by
    have go := fun Q1 => sl_any hK pins { s3 with heap := s3.heap.push { cls := .type "slice", data := .fields #[vl, vu, .none] } } σ H3 x v vl vu l u s3.heap.objs.size Q1 I4 rx (Heap.IsSliceOf.new ..) pl pu
    have lst : ∀ (r : List Val), lstOf h3 va = some r → newL m (cutL r l u) Q E h3 → ∃ T id, typeLookup (.type T) "__getitem__" = pure (some (.builtin id)) ∧ ({ s3 with heap := s3.heap.push { cls := .type "slice", data := .fields #[vl, vu, .none] } } : Shared).TypeIs v T ∧ wpAny (model X.prog X.w) X.A (getItem v (.ref s3.heap.objs.size)) (EP X pins σ (QD G F ρ σ H3 Q)) X.xe { s3 with heap := s3.heap.push { cls := .type "slice", data := .fields #[vl, vu, .none] } } := by
      intro r e w
      obtain ⟨p, xs, rfl, hp, dl⟩ := rd_lst q3 d3 e
      obtain ⟨T, id, hT, ht, _⟩ := go (fun _ _ => True) (.inr ⟨p, xs, rfl, .inl hp, fun _ _ => trivial⟩)
      refine ⟨T, id, hT, ht, newL_ask r3 q3 (cut_of dl l u) (fun Q1 k => ?_) w⟩
      obtain ⟨_, _, _, _, z⟩ := go Q1 (.inr ⟨p, xs, rfl, .inl hp, k⟩)
      exact z
    cases va with
    | tup r =>
      obtain ⟨p, xs, rfl, hp, dl⟩ := d3
      refine go _ (.inl ⟨p, xs, rfl, by rw [hK]; exact hp, fun e => ?_, fun e p' n => .tup r3 q3 (cut_of dl l u) n w3⟩)
      have ec : cutL r l u = r := by
        have e1 : HT.sIx r.length 0 l = 0 := by rw [← dl.length]; exact e.1
        have e2 : HT.sIx r.length r.length u = r.length := by rw [← dl.length]; exact e.2
        unfold cutL
        rw [e1, e2]
        simp
      have w3 : Q (.tup (cutL r l u)) h3 := w3
      rw [ec] at w3
      exact .here (v := .tup r) r3 q3 ⟨p, xs, rfl, hp, dl⟩ w3
    | lst r => exact lst r rfl w3
    | ref p =>
      simp only [cutM] at w3
      split at w3
      · rename_i r e; exact lst r e w3
      · exact w3.elim
    | _ => exact w3.elim
  obtain ⟨T, id, hT, ht, hg⟩ := key
  show wpAny (model X.prog X.w) X.A (subscriptTail a (.Slice lo hi none p2) v (.ref s3.heap.objs.size)) (EP X pins σ (QD G F ρ σ H Q)) X.xe { s3 with heap := s3.heap.push { cls := .type "slice", data := .fields #[vl, vu, .none] } }
  exact tail_any (ops := [.ref s3.heap.objs.size, v]) ht hT (thn hg fun z s4 e => EP.up ((l1.trans l2).trans l3) e) (by with_unfolding_all rfl)
end
end Mi

set_option Elab.async false
set_option linter.all false
set_option maxRecDepth 100000
set_option maxHeartbeats 400000
namespace HT
open PySem PySem.Spec PyProof.Rows
section
variable {prog : Program} {w : World} {A : Around} {E : Value → Shared → Prop} {s : Shared}
theorem sliceApplied_rev {sl : Addr} {vk : Value} {n : Nat} {Q : Int × Int × Nat → Shared → Prop} (hs : s.heap.IsSliceOf sl .none .none vk) (pk : IsPart vk (some (-1)))
    (h : Q ((n : Int) - 1, -1, n) s) : wpAny (model prog w) A (Builtin.Slice.sliceApplied (.ref sl) (pure (n : Int))) Q E s := by
  obtain ⟨os, hos, hcs, hds⟩ := id hs
  unfold Builtin.Slice.sliceApplied Builtin.Slice.sliceFields
  refine wpAny_bind (wpAny_bind (wpAny_field hos hds (x := .none) rfl (wpAny_bind (wpAny_field hos hds (x := .none) rfl (wpAny_bind (wpAny_field hos hds (x := vk) rfl (wpAny_pure ?_)))))))
  refine wpAny_bind (slicePart_ pk ?_)
  show wpAny _ _ (if ((-1 : Int) == 0) = true then _ else _) _ _ s
  rw [if_neg (by decide)]
  refine wpAny_bind (slicePart_none (wpAny_bind (slicePart_none (wpAny_bind (wpAny_pure ?_)))))
  show wpAny _ _ (match Builtin.Slice.sliceAdjust none none (-1) (n : Int) with | (lo, hi) => pure (lo, (-1 : Int), Builtin.Slice.slicePlaces lo hi (-1))) _ _ s
  have e : Builtin.Slice.sliceAdjust none none (-1) (n : Int) = ((n : Int) - 1, -1) := by
    unfold Builtin.Slice.sliceAdjust
    simp
  rw [e]
  show wpAny _ _ (pure ((n : Int) - 1, (-1 : Int), Builtin.Slice.slicePlaces ((n : Int) - 1) (-1) (-1))) _ _ s
  have e2 : Builtin.Slice.slicePlaces ((n : Int) - 1) (-1) (-1) = n := by
    unfold Builtin.Slice.slicePlaces
    rw [if_neg (by decide)]
    split
    · have : ((n : Int) - 1 - -1 - 1) / (- -1) + 1 = n := by
        rw [show (- -1 : Int) = 1 from rfl, Int.ediv_one]; omega
      rw [this]; simp
    · omega
  rw [e2]
  exact wpAny_pure h
theorem pick_rev (xs : Array Value) : ((List.range xs.size).filterMap fun (m : Nat) => xs[((xs.size : Int) - 1 + (m : Int) * -1).toNat]?).toArray = xs.toList.reverse.toArray := by
  have e : (List.range xs.size).filterMap (fun (m : Nat) => xs[((xs.size : Int) - 1 + (m : Int) * -1).toNat]?) = ((List.range xs.size).map fun k => xs.size - 1 - k).filterMap (xs[·]?) := by
    rw [List.filterMap_map]
    refine congrArg (fun f => List.filterMap f (List.range xs.size)) (funext fun m => ?_)
    have : ((xs.size : Int) - 1 + (m : Int) * -1).toNat = xs.size - 1 - m := by omega
    rw [this]; rfl
  rw [e, PySem.W.krv_range, List.filterMap_reverse, PySem.W.krv_all]
theorem getItem_tuple_rev {t sl : Addr} {items : Array Value} {vk : Value} {Q : Value → Shared → Prop} (ht : IsTup s.heap t items) (hs : s.heap.IsSliceOf sl .none .none vk) (pk : IsPart vk (some (-1)))
    (h : Q (.ref s.heap.objs.size) { s with heap := s.heap.push { cls := .type "tuple", data := .seq items.toList.reverse.toArray } })
    (hsz : items.size ≤ sizeLine) : wpAny (model prog w) A (getItem (.ref t) (.ref sl)) Q E s := by
  have htake : sizeOk (.seq items.toList.reverse.toArray) := by
    show items.toList.reverse.toArray.size ≤ sizeLine
    simpa using hsz
  obtain ⟨os, hos, hcs, hds⟩ := id hs
  have hTs : s.TypeIs (.ref sl) "slice" := ⟨os, hos, hcs⟩
  unfold getItem
  try with_reducible refine wpAny_holding ?_
  first | refine wpAny_bind (wpAny_pure ?_) | skip
  refine wpAny_bind (wpAny_sequenceKey ht.typeIs (by decide) ?_)
  refine wpAny_bind (wpAny_callSpecial?_slot (name := Str.ofString "__getitem__") ht.typeIs PyProof.Rows.slot_tuple_getitem
    (wpAny_call_entry PyProof.Rows.slot_tuple_getitem ht.typeIs entry_tuple_getitem ?_ (args_tuple_getitem _ _)))
  show wpAny _ _ (Builtin.Tuple.tupleItemsOf (.ref t) >>= _) _ _ s
  refine wpAny_bind (tupleItemsOf_ ht ?_)
  refine wpAny_bind (wpAny_typeOf hTs ?_)
  rw [if_pos (by decide)]
  refine wpAny_bind (sliceApplied_rev hs pk ?_)
  have hno : ¬ ((((items.size : Int) - 1) == 0 && (-1 : Int) == 1 && items.size == items.size) = true) := by
    intro q
    rw [Bool.and_eq_true, Bool.and_eq_true] at q
    exact absurd q.1.2 (by decide)
  show wpAny _ _ (if (((items.size : Int) - 1) == 0 && (-1 : Int) == 1 && items.size == items.size) = true then _ else _) _ _ s
  rw [if_neg hno, pick_rev]
  first
    | exact wpAny_bind (m := Builtin.Tuple.tupleExact _) (wpAny_newObj_type (wpAny_pure ⟨_, rfl, wpAny_pure h⟩) htake)
    | exact wpAny_bind (m := Builtin.Tuple.tupleExact _) (wpAny_newObj_type (wpAny_bind (wpAny_pure (wpAny_pure ⟨_, rfl, wpAny_pure h⟩))) htake)
    | exact wpAny_bind (wpAny_bind (m := Builtin.Tuple.tupleExact _) (wpAny_newObj_type (wpAny_pure (wpAny_pure ⟨_, rfl, wpAny_pure h⟩)) htake))
    | exact wpAny_bind (wpAny_bind (m := Builtin.Tuple.tupleExact _) (wpAny_newObj_type (wpAny_pure ⟨_, rfl, wpAny_pure h⟩) htake))
end
end HT
namespace Mi
open PySem PySem.Spec PyProof.Rows L2
section
variable {X : Cx} {G : Gm} {F : Frm} {e a b c : Expr} {es : List Expr} {ma mb mc : Loc → M Val} {mes : Loc → M (List Val)} {pos : Pos}
theorem se_rev (hK : X.K = G.c.K) {m : Bool} {k : Nat} {p1 p2 p3 : Pos} (ha : SE X G a ma) :
    SE X G (.Subscript a (.Slice none none (some (.UnaryOp .USub (.Constant (.int 1) k p1) p2)) p3) pos) (fun ρ => bnd (ma ρ) fun x => revM m x) := by
  refine ⟨fun pins s σ H ρ h Q E A w => ?_⟩
  rename_i F
  refine Subscript_ (thn (ha.run pins s σ H ρ h _ E A w) fun v s1 ⟨x, H1, I1, rx, va, h1, l1, d1, r1, q1, w1⟩ => ?_)
  have hst : PO X (some (.UnaryOp .USub (.Constant (.int 1) k p1) p2)) (tPart (tUn (rU fun i => .int (-i)) (tC (.int 1)))) := po_some (pe_un un_neg pe_int)
  refine wpAny_Slice (thn (po_none.run pins s1 σ H1 (fun o H2 => o = none ∧ H2 = H1) I1 ⟨rfl, rfl⟩) fun vl s2 ⟨l, H2, I2, pl, el, e2⟩ => ?_)
  subst el e2
  refine thn (po_none.run pins s2 σ H2 (fun o H3 => o = none ∧ H3 = H2) I2 ⟨rfl, rfl⟩) fun vu s3 ⟨u, H3, I3, pu, eu, e3⟩ => ?_
  subst eu e3
  refine thn (hst.run pins s3 σ H3 (fun o H4 => o = some (-1) ∧ H4 = H3) I3 ⟨1, rfl, -1, rfl, rfl, rfl⟩) fun vs s4 ⟨o, H4, I4, ps, eo, e4⟩ => ?_
  subst eo e4
  have I5 : Inv X pins σ H4 { s4 with heap := s4.heap.push { cls := .type "slice", data := .fields #[vl, vu, vs] } } := I4.kept (t' := s4.toks) fun b ob q => Heap.get?_push_of_some _ q
  show wpAny (model X.prog X.w) X.A (subscriptTail a (.Slice none none (some (.UnaryOp .USub (.Constant (.int 1) k p1) p2)) p3) v (.ref s4.heap.objs.size)) (EP X pins σ (QD G F ρ σ H Q)) X.xe { s4 with heap := s4.heap.push { cls := .type "slice", data := .fields #[vl, vu, vs] } }
  have lst : ∀ r : List Val, lstOf h1 va = some r → newL m r.reverse Q E h1 → wpAny (model X.prog X.w) X.A (subscriptTail a (.Slice none none (some (.UnaryOp .USub (.Constant (.int 1) k p1) p2)) p3) v (.ref s4.heap.objs.size)) (EP X pins σ (QD G F ρ σ H Q)) X.xe { s4 with heap := s4.heap.push { cls := .type "slice", data := .fields #[vl, vu, vs] } } := by
    intro r e w
    obtain ⟨p, xs, rfl, hp, dl⟩ := rd_lst q1 d1 e
    cases rx
    obtain ⟨its, rr, ht, hz⟩ := I5.list (.inl hp)
    have hlen := rr.length
    refine tail_any (ops := [.ref p, .ref s4.heap.objs.size]) ht.isList.typeIs (PySem.slot_list_getitem.lookup) ?_ (by with_unfolding_all rfl)
    refine wpAny_getItem_list_slice ht.isList (Heap.IsSliceOf.new _ vl vu vs) pl pu ps (by decide) ?_ (by rw [List.size_toArray]; omega)
    rw [PySem.W.krv_pick]
    refine EP.up l1 (ep_newL r1 q1 dl.reverse w ⟨.ref _, _, I5.laid (t' := s4.toks) (o := .lst xs.reverse) (fun b ob q => Heap.get?_push_of_some _ q) (Nat.le_refl _) ?_, rfl, _, rfl, I5.hok.fresh (Nat.le_refl _), rfl⟩)
    exact ⟨by rw [List.length_reverse]; exact hz, _, 0, rr.reverse, Heap.get?_push_size _ rfl⟩
  cases va with
  | tup r =>
    obtain ⟨p, xs, rfl, hp, dl⟩ := d1
    cases rx
    rw [← hK] at hp
    obtain ⟨its, rr, ht, hz⟩ := I5.tuple hp
    have hlen := rr.length
    have el : vl = .none := by
      cases pl; rfl
    have eu : vu = .none := by
      cases pu; rfl
    subst el eu
    refine tail_any (ops := [.ref p, .ref s4.heap.objs.size]) ht.typeIs slot_tuple_getitem.lookup ?_ (by with_unfolding_all rfl)
    refine HT.getItem_tuple_rev ht (Heap.IsSliceOf.new _ .none .none vs) ps ?_ (by rw [List.size_toArray]; omega)
    refine EP.up l1 ⟨.ref _, _, I5.laid (t' := s4.toks) (o := .tup xs.reverse) (fun b ob q => Heap.get?_push_of_some _ q) (Nat.le_refl _) ?_, rfl, .tup r1 q1 dl.reverse (I5.hok.fresh (Nat.le_refl _)) w1⟩
    exact ⟨by rw [List.length_reverse]; exact hz, _, rr.reverse, IsTup.new _ _⟩
  | lst r => exact lst r rfl w1
  | ref p =>
    simp only [revM] at w1
    split at w1
    · rename_i r e; exact lst r e w1
    · exact w1.elim
  | _ => exact w1.elim
end
end Mi

set_option Elab.async false
set_option linter.all false
set_option maxRecDepth 100000
set_option maxHeartbeats 400000
namespace Mi
open PySem PySem.Spec PyProof.Rows L2
/-- a known value called with clean values -/
def CV (X : Cx) (G : Gm) (f : Value) (g : List Val → M Val) : Prop :=
  ∀ {F : Frm} (pins : List (Addr × Obj)) (s : Shared) (σ : L2.St) (H : Hp) (ρ : Loc) (h : CH) (Q : Val → CH → Prop) (E : Nat → CH → Prop) (xs : List V) (us : List Value) (vs : List Val), At X G F pins ρ h σ H E s → Vals xs us → RelDs G.c H vs xs → g vs Q E h →
    wpAny (model X.prog X.w) X.A (call f us) (EP X pins σ (QD G F ρ σ H Q)) X.xe s
section
variable {X : Cx} {G : Gm} {F : Frm} {e a b c : Expr} {es : List Expr} {ma mb mc : Loc → M Val} {mes : Loc → M (List Val)} {pos p : Pos} {x : Str}
theorem se_callB {id : String} {g : List Val → M Val} (hc : CV X G (.builtin id) g) (hg : Gl X x) (hm : X.mg x = none) (hv : bootBuiltins x = some (.builtin id)) (ha : SA X G (e :: es) mes) (hn : x ≠ "__name__") (hdb : (x == ("__debug__" : Str)) = false)
    (he : starEach (e :: es) X.env = (false, eval e X.env) :: starEach es X.env) (hpl : (backTo pos (starEach es X.env)).any (·.1) = false) : SE X G (.Call (.Name x p) (e :: es) [] pos) (fun ρ => bnd (mes ρ) g) := by
  refine ⟨fun pins s σ H ρ h Q E A w => ?_⟩
  refine wpAny_Call_Name_kw (ld_blt A.inv hg hm hv ?_ hn hdb)
  refine PyProof.Rows.callWith_builtin1 (thn (ha.run pos pins s σ H ρ h _ E A w) fun us s1 ⟨xs, H1, I1, rv, vs, h1, n1, l1, d1, r1, q1, w1⟩ => ?_) he hpl
  exact thn (hc pins s1 σ H1 ρ h1 Q E xs us vs (A.next l1 I1 r1 q1) rv d1 w1) fun u s2 e => EP.up l1 e
theorem se_callTy {T : String} {g : List Val → M Val} (hc : CV X G (.type T) g) (hg : Gl X x) (hm : X.mg x = none) (hv : bootBuiltins x = some (.type T)) (ha : SA X G (e :: es) mes) (hn : x ≠ "__name__") (hdb : (x == ("__debug__" : Str)) = false)
    (he : starEach (e :: es) X.env = (false, eval e X.env) :: starEach es X.env) (hpl : (backTo pos (starEach es X.env)).any (·.1) = false) : SE X G (.Call (.Name x p) (e :: es) [] pos) (fun ρ => bnd (mes ρ) g) := by
  refine ⟨fun pins s σ H ρ h Q E A w => ?_⟩
  refine wpAny_Call_Name_kw (ld_blt A.inv hg hm hv ?_ hn hdb)
  refine PyProof.Rows.callWith_type1 (thn (ha.run pos pins s σ H ρ h _ E A w) fun us s1 ⟨xs, H1, I1, rv, vs, h1, n1, l1, d1, r1, q1, w1⟩ => ?_) he hpl
  exact thn (hc pins s1 σ H1 ρ h1 Q E xs us vs (A.next l1 I1 r1 q1) rv d1 w1) fun u s2 e => EP.up l1 e
theorem RelDs.one {G : Gm} {H : Hp} {v : Val} {xs : List V} (d : RelDs G.c H [v] xs) : ∃ x, xs = [x] ∧ RelD G.c H v x := by
  obtain ⟨x, r, rfl, h, hr⟩ := d
  cases hr
  exact ⟨x, rfl, h⟩
theorem RelDs.two {G : Gm} {H : Hp} {v w : Val} {xs : List V} (d : RelDs G.c H [v, w] xs) : ∃ x y, xs = [x, y] ∧ RelD G.c H v x ∧ RelD G.c H w y := by
  obtain ⟨x, r, rfl, h, hr⟩ := d
  obtain ⟨y, rfl, h2⟩ := hr.one
  exact ⟨x, y, rfl, h, h2⟩
theorem ints_rel {G : Gm} {H : Hp} : ∀ {l : List Val} {xs : List V} {ns : List Int}, RelDs G.c H l xs → intsOf l = some ns → xs = ns.map V.int
  | [], xs, ns, d, e => by cases d; cases e; rfl
  | v :: l, xs, ns, d, e => by
    obtain ⟨x, r, rfl, h, hr⟩ := d
    cases v with
    | int i =>
      simp only [intsOf, Option.map_eq_some_iff] at e
      obtain ⟨ms, e, rfl⟩ := e
      cases h
      rw [ints_rel hr e]; rfl
    | _ => cases e
theorem bools_rel {G : Gm} {H : Hp} : ∀ {l : List Val} {xs : List V} {ns : List Bool}, RelDs G.c H l xs → boolsOf l = some ns → xs = ns.map V.bl
  | [], xs, ns, d, e => by cases d; cases e; rfl
  | v :: l, xs, ns, d, e => by
    obtain ⟨x, r, rfl, h, hr⟩ := d
    cases v with
    | bl i =>
      simp only [boolsOf, Option.map_eq_some_iff] at e
      obtain ⟨ms, e, rfl⟩ := e
      cases h
      rw [bools_rel hr e]; rfl
    | _ => cases e

def CV1 (X : Cx) (G : Gm) (f : Value) (g : Val → M Val) : Prop :=
  ∀ {F : Frm} (pins : List (Addr × Obj)) (s : Shared) (σ : L2.St) (H : Hp) (ρ : Loc) (h : CH) (Q : Val → CH → Prop) (E : Nat → CH → Prop) (x : V) (us : List Value) (v : Val), At X G F pins ρ h σ H E s → Vals [x] us → RelD G.c H v x → g v Q E h →
    wpAny (model X.prog X.w) X.A (call f us) (EP X pins σ (QD G F ρ σ H Q)) X.xe s
def CV2 (X : Cx) (G : Gm) (f : Value) (g : Val → Val → M Val) : Prop :=
  ∀ {F : Frm} (pins : List (Addr × Obj)) (s : Shared) (σ : L2.St) (H : Hp) (ρ : Loc) (h : CH) (Q : Val → CH → Prop) (E : Nat → CH → Prop) (x y : V) (us : List Value) (v w : Val), At X G F pins ρ h σ H E s → Vals [x, y] us → RelD G.c H v x → RelD G.c H w y → g v w Q E h →
    wpAny (model X.prog X.w) X.A (call f us) (EP X pins σ (QD G F ρ σ H Q)) X.xe s
theorem cv_of {f : Value} {b : Bi} (h1 : CV1 X G f (bi1 b)) (h2 : CV2 X G f (bi2 b)) : CV X G f (biM b) := by
  intro F pins s σ H ρ h Q E xs us vs A rv d w
  match vs, d, w with
  | [], _, w => exact w.elim
  | [v], d, w =>
    obtain ⟨x, rfl, dv⟩ := d.one
    exact h1 pins s σ H ρ h Q E x us v A rv dv w
  | [v, v'], d, w =>
    obtain ⟨x, y, rfl, dv, dw⟩ := d.two
    exact h2 pins s σ H ρ h Q E x y us v v' A rv dv dw w
  | _ :: _ :: _ :: _, _, w => exact w.elim
theorem cv2_no {f : Value} {b : Bi} (h : ∀ x y Q E h, ¬ bi2 b x y Q E h) : CV2 X G f (bi2 b) := fun pins s σ H ρ h' Q E x y us v w A rv dv dw q => (h _ _ _ _ _ q).elim
theorem kv_len {G : Gm} {H : Hp} {kvs : List (Val × Val)} {ks : List (Key × V)} (r : RelKV G.c H kvs ks) : ks.length = kvs.length := by
  induction r with
  | nil => rfl
  | cons _ _ ih => simp [ih]
theorem cv_len (hK : X.K = G.c.K) : CV X G (.builtin "len") (biM .len) := by
  refine cv_of (b := .len) (fun pins s σ H ρ h Q E x us v A rv d w => ?_) (cv2_no (b := .len) fun _ _ _ _ _ q => q)
  rename_i F
  simp only [bi1] at w
  split at w
  · rename_i n e
    have fin : ∀ k : Int, k = n → QD G F ρ σ H Q (.int k) H := fun k ek => .here (v := .int k) A.loc A.rep rfl (by rw [ek]; exact w)
    have dct : ∀ (a : Addr) (ks : List (Key × V)), x = .ref a → Rd H a (.dK ks) → (ks.length : Int) = n → wpAny (model X.prog X.w) X.A (call (.builtin "len") us) (EP X pins σ (QD G F ρ σ H Q)) X.xe s := by
      intro a ks ex hd en
      subst ex
      rw [Vals.ref1 rv]
      exact d_len A.inv hd fun t s' I' => ⟨.int ks.length, H, I', ⟨t, rfl⟩, fin _ en⟩
    cases v with
    | tup l =>
      obtain ⟨p, ys, rfl, hp, dl⟩ := d
      cases e
      exact call_len_seq pins s σ H _ us _ A.inv rv ⟨p, ys, rfl, .inr (by rw [hK]; exact hp), fin _ (by rw [dl.length])⟩
    | lst l =>
      obtain ⟨p, o, ys, rfl, hp, dl⟩ := d
      cases e
      exact call_len_seq pins s σ H _ us _ A.inv rv ⟨p, ys, rfl, .inl (.inl (.inr ⟨o, hp⟩)), fin _ (by rw [dl.length])⟩
    | str z =>
      obtain ⟨rfl, h1, h2⟩ := d
      cases e
      exact call_len_str pins s σ H _ us _ A.inv rv ⟨z, rfl, h1, fin _ rfl⟩
    | emp =>
      obtain ⟨p, o, rfl, hp⟩ := d
      cases e
      exact dct p [] rfl (.inr ⟨o, hp⟩) rfl
    | ref a =>
      cases d
      simp only [lenO] at e
      split at e
      · rename_i l e'
        cases e
        obtain ⟨ys, hp, dl⟩ := A.rep.lst e'
        exact call_len_seq pins s σ H _ us _ A.inv rv ⟨a, ys, rfl, .inl (.inl (.inl hp)), fin _ (by rw [dl.length])⟩
      · rename_i dp kvs e'
        cases e
        obtain ⟨rfl, ks, hp, rk⟩ := A.rep.conc e' rfl
        exact dct a ks rfl (.inl hp) (by rw [kv_len rk])
      · cases e
    | _ => cases e
  · exact w.elim
theorem lst_bools (hK : X.K = G.c.K) {H : Hp} {h : CH} {v : Val} {x : V} {bs : List Bool} (q : Rep G.c F h H) (d : RelD G.c H v x) (e : (lstOf h v).bind boolsOf = some bs) : ∃ p, x = .ref p ∧ SqL X.K H p (bs.map V.bl) := by
  cases e' : lstOf h v with
  | none => rw [e'] at e; cases e
  | some l =>
    rw [e'] at e
    obtain ⟨p, ys, rfl, hp, dl⟩ := rd_lst q d e'
    have := bools_rel dl e
    subst this
    exact ⟨p, rfl, .inl hp⟩
theorem lst_ints (hK : X.K = G.c.K) {H : Hp} {h : CH} {v : Val} {x : V} {bs : List Int} (q : Rep G.c F h H) (d : RelD G.c H v x) (e : (lstOf h v).bind intsOf = some bs) : ∃ p, x = .ref p ∧ SqL X.K H p (bs.map V.int) := by
  cases e' : lstOf h v with
  | none => rw [e'] at e; cases e
  | some l =>
    rw [e'] at e
    obtain ⟨p, ys, rfl, hp, dl⟩ := rd_lst q d e'
    have := ints_rel dl e
    subst this
    exact ⟨p, rfl, .inl hp⟩
theorem cv_all (hK : X.K = G.c.K) (hc : X.calm = true) : CV X G (.builtin "all") (biM .all) := by
  refine cv_of (b := .all) (fun pins s σ H ρ h Q E x us v A rv d w => ?_) (cv2_no (b := .all) fun _ _ _ _ _ q => q)
  rename_i F
  simp only [bi1] at w
  split at w
  · rename_i bs e
    obtain ⟨p, rfl, hp⟩ := lst_bools hK A.rep d e
    exact cr_all hc pins s σ H _ us _ A.inv rv ⟨p, bs, rfl, hp, .here (v := .bl _) A.loc A.rep rfl w⟩
  · exact w.elim
theorem cv_any (hK : X.K = G.c.K) (hc : X.calm = true) : CV X G (.builtin "any") (biM .any) := by
  refine cv_of (b := .any) (fun pins s σ H ρ h Q E x us v A rv d w => ?_) (cv2_no (b := .any) fun _ _ _ _ _ q => q)
  rename_i F
  simp only [bi1] at w
  split at w
  · rename_i bs e
    obtain ⟨p, rfl, hp⟩ := lst_bools hK A.rep d e
    exact cr_any hc pins s σ H _ us _ A.inv rv ⟨p, bs, rfl, hp, .here (v := .bl _) A.loc A.rep rfl w⟩
  · exact w.elim
/-- sum of a tuple -/
theorem sum_tup {prog : Program} {w : World} {A : Around} {E : Value → Shared → Prop} {s : Shared} {l : Addr} {its : List Value} {ns : List Int} {Q : Value → Shared → Prop} (hh : A.handled = none) (hl : IsTup s.heap l its.toArray) (hi : IntsAre its ns)
    (h : ∀ h' tk t', (∀ b o, s.heap.get? b = some o → h'.get? b = some o) → Q (.int ns.sum t') { s with heap := h', toks := tk }) : wpAny (model prog w) A (call (.builtin "sum") [.ref l]) Q E s := by
  obtain ⟨xs, e⟩ := hi.allInts.items
  have hn : numsOf (intItems xs).toList = ns := by rw [← e]; exact hi.numsOf
  rw [nums_intItems] at hn
  rw [e] at hl
  have hlt : l < s.heap.objs.size := by obtain ⟨_, e, _⟩ := hl; exact Heap.lt_size e
  refine call_sum_walkG (wpAny_pyIter_tuple (show s.heap.IsTuple l (intItems xs) from hl) ⟨_, _, _, _, _, _, numAt xs, rfl, Walks.tuple (A := A.in1) hh s.heap.objs.size l (Nat.ne_of_lt hlt) (intItems xs), ⟨⟨_, Heap.get?_push_size _ rfl, rfl, rfl⟩, Heap.IsTuple.push hl _⟩, fun b hb => ?_, (fun _ _ => intItems_at), fun h' tk t' hk => ?_⟩)
  · show b < (s.heap.push _).objs.size
    rw [Heap.size_push]
    simp only [List.mem_cons, List.not_mem_nil, or_false] at hb
    rcases hb with rfl | rfl
    · exact Nat.lt_succ_self _
    · exact Nat.lt_succ_of_lt hlt
  · have := h h' tk t' fun b o e => hk b o (by
      intro z
      rw [List.mem_singleton] at z
      rw [z] at e
      exact absurd (Heap.lt_size e) (Nat.lt_irrefl _)) (Heap.get?_push_of_some _ e)
    rw [preSum_eq, List.take_of_length_le (by simp [intItems]), hn]
    exact this
theorem cv_sum (hK : X.K = G.c.K) (hc : X.calm = true) : CV X G (.builtin "sum") (biM .sum) := by
  refine cv_of (b := .sum) (fun pins s σ H ρ h Q E x us v A rv d w => ?_) (cv2_no (b := .sum) fun _ _ _ _ _ q => q)
  rename_i F
  simp only [bi1] at w
  split at w
  · rename_i bs e
    cases e' : seqOf h v with
    | none => rw [e'] at e; cases e
    | some l =>
      rw [e'] at e
      obtain ⟨p, ys, rfl, hp, dl⟩ := rd_seq A.rep d e'
      have := ints_rel dl e
      subst this
      rcases hp with hp | hp
      · exact cr_sum hc pins s σ H _ us _ A.inv rv ⟨p, bs, rfl, .inl hp, .here (v := .int _) A.loc A.rep rfl w⟩
      · rw [← hK] at hp
        obtain ⟨its, r1, p1, _⟩ := A.inv.tuple hp
        rw [Vals.ref1 rv]
        exact sum_tup (A.inv.ok.hd hc) p1 r1.ints fun h' tk t' hk => ⟨.int _, H, A.inv.kept hk, ⟨_, rfl⟩, .here (v := .int _) A.loc A.rep rfl w⟩
  · exact w.elim
theorem cv_max (hK : X.K = G.c.K) (hc : X.calm = true) : CV X G (.builtin "max") (biM .max) := by
  refine cv_of (b := .max) (fun pins s σ H ρ h Q E x us v A rv d w => ?_) (fun pins s σ H ρ h Q E x y us v v' A rv d d' w => ?_)
  · simp only [bi1] at w
    split at w
    · rename_i bs e
      obtain ⟨p, rfl, hp⟩ := lst_ints hK A.rep d e
      exact cr_max hc pins s σ H _ us _ A.inv rv ⟨p, bs, rfl, hp, w.1, fun n h1 h2 => .here (v := .int _) A.loc A.rep rfl (w.2 n h1 h2)⟩
    · exact w.elim
  · cases v with
    | int i => cases v' with
      | int j =>
        cases d; cases d'
        exact call_max2 hc pins s σ H _ us _ A.inv rv ⟨i, j, rfl, .here (v := .int _) A.loc A.rep rfl w⟩
      | _ => exact w.elim
    | _ => exact w.elim
theorem cv_min (hK : X.K = G.c.K) (hc : X.calm = true) : CV X G (.builtin "min") (biM .min) := by
  refine cv_of (b := .min) (fun pins s σ H ρ h Q E x us v A rv d w => ?_) (fun pins s σ H ρ h Q E x y us v v' A rv d d' w => ?_)
  · simp only [bi1] at w
    split at w
    · rename_i bs e
      obtain ⟨p, rfl, hp⟩ := lst_ints hK A.rep d e
      exact cr_min hc pins s σ H _ us _ A.inv rv ⟨p, bs, rfl, hp, w.1, fun n h1 h2 => .here (v := .int _) A.loc A.rep rfl (w.2 n h1 h2)⟩
    · exact w.elim
  · cases v with
    | int i => cases v' with
      | int j =>
        cases d; cases d'
        exact call_min2 hc pins s σ H _ us _ A.inv rv ⟨i, j, rfl, .here (v := .int _) A.loc A.rep rfl w⟩
      | _ => exact w.elim
    | _ => exact w.elim
theorem cv_abs : CV X G (.builtin "abs") (biM .abs) := by
  refine cv_of (b := .abs) (fun pins s σ H ρ h Q E x us v A rv d w => ?_) (cv2_no (b := .abs) fun _ _ _ _ _ q => q)
  rename_i F
  cases v with
  | int i => cases d; exact call_abs pins s σ H _ us _ A.inv rv ⟨i, rfl, .here (v := .int _) A.loc A.rep rfl w⟩
  | _ => exact w.elim
theorem cv_int : CV X G (.type "int") (biM .int) := by
  refine cv_of (b := .int) (fun pins s σ H ρ h Q E x us v A rv d w => ?_) (cv2_no (b := .int) fun _ _ _ _ _ q => q)
  rename_i F
  cases v with
  | int i => cases d; exact call_int1 pins s σ H _ us _ A.inv rv (.inl ⟨i, rfl, .here (v := .int _) A.loc A.rep rfl w⟩)
  | _ => exact w.elim
theorem cv_tuple (hK : X.K = G.c.K) : CV X G (.type "tuple") (biM .tuple) := by
  refine cv_of (b := .tuple) (fun pins s σ H ρ h Q E x us v A rv d w => ?_) (cv2_no (b := .tuple) fun _ _ _ _ _ q => q)
  rename_i F
  simp only [bi1] at w
  split at w
  · rename_i l e
    obtain ⟨p, ys, rfl, hp, dl⟩ := rd_seq A.rep d e
    refine call_tuple_of pins s σ H _ us _ A.inv rv ⟨p, ys, rfl, ?_⟩
    rcases hp with hp | hp
    · exact .inl ⟨.inl hp, fun q n => .tup A.loc A.rep dl n w⟩
    · exact .inr ⟨by rw [hK]; exact hp, .here (v := .tup l) A.loc A.rep ⟨p, ys, rfl, hp, dl⟩ w⟩
  · exact w.elim
theorem cv_list (hK : X.K = G.c.K) {m : Bool} : CV X G (.type "list") (biM (.list m)) := by
  refine cv_of (b := .list m) (fun pins s σ H ρ h Q E x us v A rv d w => ?_) (cv2_no (b := .list m) fun _ _ _ _ _ q => q)
  rename_i F
  simp only [bi1] at w
  split at w
  · rename_i l e
    obtain ⟨p, ys, rfl, hp, dl⟩ := rd_seq A.rep d e
    refine newL_ask A.loc A.rep dl (fun Q1 k => call_list_of pins s σ H _ us _ A.inv rv ⟨p, ys, rfl, ?_, k⟩) w
    rcases hp with hp | hp
    · exact .inl (.inl hp)
    · exact .inr (by rw [hK]; exact hp)
  · exact w.elim
end
end Mi

set_option Elab.async false
set_option linter.all false
set_option maxRecDepth 100000
set_option maxHeartbeats 400000
namespace Mi
open PySem PySem.Spec PyProof.Rows L2
/-- a builtin's method called with clean values -/
def MV (X : Cx) (G : Gm) (id : String) (g : Val → List Val → M Val) : Prop :=
  ∀ {F : Frm} (pins : List (Addr × Obj)) (s : Shared) (σ : L2.St) (H : Hp) (ρ : Loc) (h : CH) (Q : Val → CH → Prop) (E : Nat → CH → Prop) (x : V) (u : Value) (v : Val) (xs : List V) (us : List Value) (vs : List Val), At X G F pins ρ h σ H E s → RelV x u → RelD G.c H v x → Vals xs us → RelDs G.c H vs xs → g v vs Q E h →
    wpAny (model X.prog X.w) X.A (call (.builtin id) (u :: us)) (EP X pins σ (QD G F ρ σ H Q)) X.xe s
section
variable {X : Cx} {G : Gm} {F : Frm} {e o a b c : Expr} {es : List Expr} {mo ma mb mc : Loc → M Val} {mes : Loc → M (List Val)} {pos p apos cpos : Pos} {x name : Str} {T id : String}
/-- what a call of a builtin's method asks of the text -/
structure BmT (X : Cx) (o : Expr) (name : Str) (apos : Pos) (es : List Expr) (cpos : Pos) : Prop where
  base : attributeBase o name X.env (eval o X.env) = eval o X.env
  few : ((backTo cpos (starEach es X.env)).all (fun x => !x.1) && (backToKw cpos (keywordEach [] X.env)).all (fun x => x.1.isSome)
      && decide (es.length + ([] : List Keyword).length + (if ([] : List Keyword).isEmpty then 0 else 1) < 30)) = true
  line : (apos.endLine == cpos.line) = true
  plain : (backTo cpos (starEach es X.env)).any (·.1) = false
theorem evalArgs_any {M : Model} {A : Around} {E : Value → Shared → Prop} {s : Shared} {f : Value} {ts : List (Bool × Sem Value)} {Q : Args → Shared → Prop} (hp : ts.any (·.1) = false)
    (h : wpAny M A (spliced ts) (fun vs s1 => Q ⟨vs, []⟩ s1) E s) : wpAny M A (evalArgs f true ts []) Q E s := by
  cases ts with
  | nil =>
    unfold evalArgs
    show wpAny M A (spliced [] >>= _) Q E s
    refine wpAny_bind (wpAny_bind (wpAny_mono h (fun vs s' h' => ?_) fun _ _ x => x))
    refine wpAny_pure (wpAny_holding ?_)
    exact wpAny_bind (wpAny_pure (wpAny_bind (wpAny_pure (wpAny_pure h'))))
  | cons t ts =>
    obtain ⟨b, m⟩ := t
    cases b with
    | true => simp at hp
    | false => exact Calls.evalArgs_plain h
theorem se_bm {g : Val → List Val → M Val} {ok : CH → Val → Prop} (pa : PlainAttrs T) (slot : Slot T name id) (hty : typeOf (.builtin id) = pure (.type "method_descriptor")) (hm : MV X G id g)
    (hok : ∀ (F : Frm) H h v x, Rep G.c F h H → RelD G.c H v x → ok h v → tyV X.K T x H) (ho : SE X G o mo) (ha : SA X G es mes) (t : BmT X o name apos es cpos) :
    SE X G (.Call (.Attribute o name apos) es [] cpos) (fun ρ => bnd (mo ρ) fun x => fun Q E h => ok h x ∧ bnd (mes ρ) (fun vs => g x vs) Q E h) := by
  refine ⟨fun pins s σ H ρ h Q E A w => ?_⟩
  refine wpAny_Call_method_late t.base t.few t.line rfl (thn (ho.run pins s σ H ρ h _ E A w) fun v s1 ⟨x, H1, I1, rx, va, h1, l1, d1, r1, q1, ty, w1⟩ => ?_)
  have A1 := A.next l1 I1 r1 q1
  obtain ⟨t1, t2⟩ := tyV_is I1 rx (hok _ H1 h1 va x q1 d1 ty)
  refine ⟨T, id, pa, slot, hty, t1, t2, ?_⟩
  refine Calls.callWith_builtin t.plain (evalArgs_any t.plain ?_)
  refine thn (ha.run cpos pins s1 σ H1 ρ h1 _ E A1 w1) fun us s2 ⟨vs, H2, I2, rv, ws, h2, n2, l2, d2, r2, q2, w2⟩ => ?_
  exact thn (hm pins s2 σ H2 ρ h2 Q E x v va vs us ws (A1.next l2 I2 r2 q2) rx (RelD.mono l2 _ _ d1) rv d2 w2) fun u s3 e => EP.up (l1.trans l2) e
theorem ok_list {H : Hp} {h : CH} {v : Val} {x : V} {b : Bm} (hb : b = .append ∨ b = .extend ∨ b = .pop) (q : Rep G.c F h H) (d : RelD G.c H v x) (k : recvOk h b v) : tyV X.K "list" x H := by
  cases v with
  | ref a =>
    have k : ∃ l, h a = some (.list l) := by rcases hb with rfl | rfl | rfl <;> exact k
    obtain ⟨l, e⟩ := k
    cases d
    obtain ⟨xs, hp, _⟩ := q.lst e
    exact .inl ⟨rfl, xs, .inl (.inl hp)⟩
  | _ => exact (by rcases hb with rfl | rfl | rfl <;> exact k : False).elim
theorem Rep.lstW {H : Hp} {h : CH} {a : Addr} {l l' : List Val} {xs : List V} (q : Rep G.c F h H) (e : h a = some (.list l)) (d : RelDs G.c H l' xs) (m : ∀ o, H a = some o → MutO o) : Rep G.c F (h.set a (.list l')) (upd H a (.lst xs)) ∧ Le H (upd H a (.lst xs)) := by
  obtain ⟨ys, hp, _⟩ := q.lst e
  have le : Le H (upd H a (.lst xs)) := .set hp (m _ hp)
  exact ⟨q.write e rfl rfl ⟨xs, upd_same, d.mono le⟩, le⟩
theorem lst_written2 {pins : List (Addr × Obj)} {s : Shared} {σ : L2.St} {H : Hp} {ρ : Loc} {h : CH} {Q : Val → CH → Prop} {E : Nat → CH → Prop} {a : Addr} {l l' : List Val} {ys xs : List V} {v : Val} {y : V} (A : At X G F pins ρ h σ H E s)
    (hp : H a = some (.lst ys)) (e : h a = some (.list l)) (d : RelDs G.c H l' xs) (dy : RelD G.c H v y) (w : Q v (h.set a (.list l'))) : QD G F ρ σ H Q y (upd H a (.lst xs)) := by
  have le : Le H (upd H a (.lst xs)) := .set hp mutL
  have q : RelCO G.c (upd H a (.lst xs)) a (.list l') := ⟨xs, upd_same, d.mono le⟩
  exact ⟨v, h.set a (.list l'), le, RelD.mono le _ _ dy, A.loc.mono le, A.rep.write e rfl rfl q, w⟩
theorem lst_written {pins : List (Addr × Obj)} {s : Shared} {σ : L2.St} {H : Hp} {ρ : Loc} {h : CH} {Q : Val → CH → Prop} {E : Nat → CH → Prop} {a : Addr} {l l' : List Val} {ys xs : List V} (A : At X G F pins ρ h σ H E s)
    (hp : H a = some (.lst ys)) (e : h a = some (.list l)) (d : RelDs G.c H l' xs) (w : Q .non (h.set a (.list l'))) : QD G F ρ σ H Q .non (upd H a (.lst xs)) :=
  lst_written2 (v := .non) A hp e d rfl w

theorem mv_append : MV X G "list.append" (bmM .append) := by
  intro F pins s σ H ρ h Q E x u v xs us vs A rx dv rxs dvs w
  obtain ⟨a, ea, w⟩ := opt_some w
  cases refOf_some ea
  cases dv
  match vs, dvs, w with
  | [v], dvs, w =>
    obtain ⟨y, rfl, dy⟩ := dvs.one
    have w : appendM a v Q E h := w
    unfold appendM at w
    split at w
    · rename_i l e
      obtain ⟨ys, hp, dl⟩ := A.rep.lst e
      refine mt_append pins s σ H _ _ u us _ A.inv rx rxs ⟨a, ys, y, rfl, rfl, hp, by rw [dl.length]; exact w.1, ?_⟩
      have dn : RelDs G.c H (l ++ [v]) (ys ++ [y]) := dl.append (.cons dy .nil)
      exact lst_written A hp e dn w.2
    · exact w.elim
  | [], _, w => exact (show False from w).elim
  | _ :: _ :: _, _, w => exact (show False from w).elim
theorem mv_extend : MV X G "list.extend" (bmM .extend) := by
  intro F pins s σ H ρ h Q E x u v xs us vs A rx dv rxs dvs w
  obtain ⟨a, ea, w⟩ := opt_some w
  cases refOf_some ea
  cases dv
  match vs, dvs, w with
  | [v], dvs, w =>
    obtain ⟨y, rfl, dy⟩ := dvs.one
    have wo : opt (refOf v) (fun b => extendM a b) Q E h := w
    clear w
    obtain ⟨b, eb, w⟩ := opt_some wo
    clear wo
    have ev := refOf_some eb
    subst ev
    cases dy
    unfold extendM at w
    split at w
    · rename_i l r e e2
      obtain ⟨ys, hp, dl⟩ := A.rep.lst e
      obtain ⟨zs, hp2, dl2⟩ := A.rep.lst e2
      refine mt_extend pins s σ H _ _ u us _ A.inv rx rxs ⟨a, b, ys, zs, rfl, rfl, hp, hp2, by rw [dl.length, dl2.length]; exact w.1, ?_⟩
      exact lst_written A hp e (dl.append dl2) w.2
    · exact w.elim
  | [], _, w => exact (show False from w).elim
  | _ :: _ :: _, _, w => exact (show False from w).elim
theorem mv_pop : MV X G "list.pop" (bmM .pop) := by
  intro F pins s σ H ρ h Q E x u v xs us vs A rx dv rxs dvs w
  obtain ⟨a, ea, w⟩ := opt_some w
  cases refOf_some ea
  cases dv
  match vs, dvs, w with
  | [], dvs, w =>
    cases dvs
    have w : popM a Q E h := w
    unfold popM at w
    split at w
    · rename_i l e
      obtain ⟨ys, hp, dl⟩ := A.rep.lst e
      split at w
      · rename_i v ev
        obtain ⟨y, ey, dy⟩ := dl.get ev
        refine mt_pop pins s σ H _ _ u us _ A.inv rx rxs ⟨a, ys, y, rfl, rfl, hp, by rw [dl.length]; exact ey, ?_⟩
        exact lst_written2 A hp e dl.dropLast dy w
      · exact w.elim
    · exact w.elim
  | [v], dvs, w =>
    obtain ⟨y, rfl, dy⟩ := dvs.one
    have wo : opt (intOf v) (fun i => popAtM a i) Q E h := w
    clear w
    obtain ⟨i, eb, w⟩ := opt_some wo
    clear wo
    have ev := intOf_some eb
    subst ev
    cases dy
    unfold popAtM at w
    split at w
    · rename_i l e
      obtain ⟨ys, hp, dl⟩ := A.rep.lst e
      obtain ⟨⟨w1, w2⟩, w3⟩ := w
      split at w3
      · rename_i k ek
        split at w3
        · rename_i v ev
          obtain ⟨y, ey, dy⟩ := dl.get ev
          refine mt_popAt pins s σ H _ _ u us _ A.inv rx rxs ⟨a, ys, i, k, y, rfl, rfl, hp, w1, w2, by rw [dl.length]; exact ek, ey, ?_⟩
          exact lst_written2 A hp e (dl.eraseIdx k) dy w3
        · exact w3.elim
      · exact w3.elim
    · exact w.elim
  | _ :: _ :: _, _, w => exact (show False from w).elim
end
end Mi

set_option Elab.async false
set_option linter.all false
set_option maxRecDepth 100000
set_option maxHeartbeats 400000
namespace Mi
open PySem PySem.Spec PyProof.Rows L2
def kdV (G : Gm) : Kd → Value
  | .non => .type "NoneType"
  | .bool => .type "bool"
  | .int => .type "int"
  | .str => .type "str"
  | .tup => .type "tuple"
  | .lst => .type "list"
  | .dict => .type "dict"
  | .own c => .ref (G.c.ca c)
def tyW (G : Gm) : Ty → Value
  | .int => .type "int"
  | .bool => .type "bool"
  | .str => .type "str"
  | .tup => .type "tuple"
  | .lst => .type "list"
  | .dict => .type "dict"
  | .own c => .ref (G.c.ca c)
/-- what an own class must have so that isinstance asks its instances rightly -/
structure InsK (K : PySem.W.Frag) (C : Addr) : Prop where
  cl : Cls K C
  ha : PySem.W.findIn K (.ref C) "__class__" = some (some (.builtin "object.__class__"))
  hn : PySem.W.specialIn K (.builtin "object.__class__") "__get__" = some (some (.builtin "getset_descriptor.__get__"))
  htk : PySem.W.takesIn K (.builtin "object.__class__") = some true
  hm : PySem.W.mroIn K C (.type "object") = some true
/-- the classes are as is told -/
structure CIok (G : Gm) (I : CI) : Prop where
  sub : ∀ c d b, I.sub c d = some b → PySem.W.kitOne G.c.K (.ref (G.c.ca c)) (.ref (G.c.ca d)) = some b
  exm : ∀ c d b, I.exm c d = some b → PySem.W.exmOne G.c.K (.ref (G.c.ca c)) (.ref (G.c.ca d)) = some b
  own : ∀ c, I.own c = true → ∀ T : String, T ∈ ["int", "bool", "str", "tuple", "list", "dict"] → PySem.W.kitOne G.c.K (.ref (G.c.ca c)) (.type T) = some false
  own' : ∀ c, I.own c = true → ∀ T : String, T ∈ ["NoneType", "int", "bool", "str", "tuple", "list", "dict"] → PySem.W.kitOne G.c.K (.type T) (.ref (G.c.ca c)) = some false
  ins : ∀ c, I.ins c = true → InsK G.c.K (G.c.ca c)
  exc : ∀ c, I.exc c = true → ExcC G.c.K (G.c.ca c)
theorem kit_is {G : Gm} {I : CI} (ok : CIok G I) {k : Kd} {t : Ty} {b : Bool} (e : kdIs I k t = some b) : PySem.W.kitOne G.c.K (kdV G k) (tyW G t) = some b := by
  have bb : ∀ (S T : String) (b : Bool), kitB S T = some b → PySem.W.kitOne G.c.K (.type S) (.type T) = some b := fun S T b h => kit_ty h
  cases k with
  | own c =>
    cases t with
    | own d => exact ok.sub c d b e
    | _ =>
      simp only [kdIs] at e
      split at e
      · cases e
        rename_i h
        refine ok.own c h _ (by decide)
      · cases e
  | _ =>
    cases t with
    | own d =>
      simp only [kdIs] at e
      split at e
      · cases e
        rename_i h
        refine ok.own' d h _ (by decide)
      · cases e
    | _ =>
      first
        | (cases (show some true = some b from e); exact bb _ _ _ (by decide +kernel))
        | (cases (show some false = some b from e); exact bb _ _ _ (by decide +kernel))
section
variable {X : Cx} {G : Gm} {F : Frm} {I : CI} {e a b c : Expr} {es : List Expr} {ma mb mc : Loc → M Val} {mes : Loc → M (List Val)} {pos p p1 p2 : Pos} {x name : Str}
theorem kit_val (hK : X.K = G.c.K) (ok : CIok G I) {pins : List (Addr × Obj)} {s : Shared} {σ : L2.St} {H : Hp} {h : CH} {x : V} {u : Value} {v : Val} {k : Kd} (inv : Inv X pins σ H s) (rep : Rep G.c F h H) (rx : L2.RelV x u) (d : RelD G.c H v x) (e : kdOf I h v = some k) :
    ∃ P : Heap → Prop, PySem.W.KitX X.K u (kdV G k) P ∧ P s.heap ∧ u ≠ .builtin "__main__.__loader__#opaque" := by
  cases v with
  | non => cases d; cases e; exact kit_of inv rx (.base .non)
  | bl b => cases d; cases e; exact kit_of inv rx (.base (.bl b))
  | int i => cases d; cases e; exact kit_of inv rx (.base (.int i))
  | str z => obtain ⟨rfl, _⟩ := d; cases e; exact kit_of inv rx (.base (.str z))
  | tup l =>
    obtain ⟨p, xs, rfl, hp, _⟩ := d
    cases e
    rcases hp with (hp | ⟨o, hp⟩) | ⟨o, its, n, h1, h2, _⟩
    · exact kit_of inv rx (.base (.tup hp))
    · exact kit_of inv rx (.fTuple hp)
    · exact kit_of inv rx (.kTuple (by rw [hK]; exact h1) h2)
  | lst l =>
    obtain ⟨p, o, xs, rfl, hp, _⟩ := d
    cases e
    exact kit_of inv rx (.base (.frz hp))
  | emp =>
    obtain ⟨p, o, rfl, hp⟩ := d
    cases e
    exact kit_of inv rx (.fDict hp)
  | exc c =>
    obtain ⟨p, o, rfl, hp, h1, h2, vs, h3⟩ := d
    simp only [kdOf] at e
    split at e
    · rename_i hc
      cases e
      cases rx
      have C := ok.exc c hc
      obtain ⟨hget, _⟩ := inv.hok p _ hp
      have J : PySem.W.InstAt s.heap p o (G.c.ca c) none := by
        obtain ⟨oc, od, oda, osl⟩ := o
        dsimp only at h1 h2 h3
        subst h1 h2 h3
        exact ⟨hget, rfl, rfl, trivial⟩
      rw [hK]
      exact ⟨_, PySem.W.handS_kitx_exc C.hg C.hk C.hs C.hd C.ha C.hn C.ht C.hm, J, fun z => nomatch z⟩
    · cases e
  | fn f => cases e
  | ref r =>
    cases d
    simp only [kdOf] at e
    split at e
    · rename_i l el
      cases e
      obtain ⟨xs, hp, _⟩ := rep.lst el
      exact kit_of inv rx (.base (.lst hp))
    · rename_i dp kvs el
      cases e
      obtain ⟨rfl, ks, hp, _⟩ := rep.conc el rfl
      exact kit_of inv rx (.base (.dK hp))
    · rename_i c fs el
      split at e
      · rename_i hc
        cases e
        obtain ⟨dx, fs', hp, _⟩ := rep.conc el rfl
        have C := ok.ins c hc
        rw [← hK] at C
        exact kit_of inv rx (.base (.ins hp C.cl C.ha C.hn C.htk C.hm))
      · cases e
    · cases e
    · cases e
/-- a class's name -/
def ClsN (X : Cx) (G : Gm) (t : Ty) (x : Str) : Prop := Gl X x ∧ (x == ("__debug__" : Str)) = false ∧ ((X.mg x = some (tyW G t) ∧ ∃ c, t = .own c) ∨ (X.mg x = none ∧ bootBuiltins x = some (tyW G t) ∧ x ≠ "__name__"))
theorem se_isi (hK : X.K = G.c.K) (ok : CIok G I) {t : Ty} (hg : Gl X "isinstance") (hm : X.mg "isinstance" = none) (ha : SE X G a ma) (hc : ClsN X G t x)
    (he : starEach [a, .Name x p1] X.env = [(false, eval a X.env), (false, eval (.Name x p1) X.env)]) :
    SE X G (.Call (.Name "isinstance" p) [a, .Name x p1] [] pos) (fun ρ => bnd (ma ρ) fun v => isiM I t v) := by
  refine ⟨fun pins s σ H ρ h Q E A w => ?_⟩
  rename_i F
  refine wpAny_Call_Name_kw (ld_blt A.inv hg hm boot_isinstance ?_ (by decide) (by decide))
  have he2 : starEach [.Name x p1] X.env = [(false, eval (.Name x p1) X.env)] := rfl
  refine PyProof.Rows.callWith_builtin1 ?_ (by rw [he, he2]) (by rw [he2]; rfl)
  rw [he]
  show wpAny _ _ (spliced [(false, eval a X.env), (false, eval (.Name x p1) X.env)]) _ _ s
  refine Calls.spliced_cons (thn (ha.run pins s σ H ρ h _ E A w) fun u s1 ⟨y, H1, I1, rx, va, h1, l1, d1, r1, q1, w1⟩ => Calls.spliced_cons ?_)
  have go : ∀ s2, Inv X pins σ H1 s2 → wpAny (model X.prog X.w) X.A (call (.builtin "isinstance") [u, tyW G t]) (EP X pins σ (QD G F ρ σ H Q)) X.xe s2 := by
    intro s2 I2
    have w1 : isiM I t va Q E h1 := w1
    unfold isiM at w1
    split at w1
    · rename_i b e
      obtain ⟨k, e1, e2⟩ := Option.bind_eq_some_iff.mp e
      obtain ⟨P, Z, p, hx⟩ := kit_val hK ok I2 q1 rx d1 e1
      have e2 := kit_is ok e2
      rw [← hK] at e2
      exact PySem.W.kia_one Z I2.kIn p e2 hx fun tk => ⟨.bl b, H1, I2.tok tk, rfl, .bl b, h1, l1, rfl, r1, q1, w1⟩
    · exact w1.elim
  obtain ⟨g1, g2, hc⟩ := hc
  rcases hc with ⟨hc, _⟩ | ⟨hc, hc2, hc3⟩
  · exact ld_glob I1 g1 hc (Calls.spliced_nil (go s1 I1)) g2
  · exact ld_blt I1 g1 hc hc2 (Calls.spliced_nil (go s1 I1)) hc3 g2
end
end Mi

set_option Elab.async false
set_option linter.all false
set_option maxRecDepth 100000
set_option maxHeartbeats 400000
namespace Mi
open PySem PySem.Spec PyProof.Rows L2
section
variable {X : Cx} {G : Gm} {F : Frm} {I : CI} {e a b c : Expr} {es : List Expr} {ma mb mc : Loc → M Val} {mes : Loc → M (List Val)} {pos p p1 p2 : Pos} {x name : Str}
/-! ### {} that is never written -/
theorem se_emp : SE X G (.Dict [] [] pos) (fun _ => ret .emp) := by
  refine ⟨fun pins s σ H ρ h Q E A w => wpAny_Dict_empty ?_⟩
  have n := A.inv.hok.fresh (Nat.le_refl s.heap.objs.size)
  have o : ∃ ob, (s.heap.push { cls := .type "dict", data := .dict #[] }).get? s.heap.objs.size = some ob := ⟨_, Heap.get?_push_size _ rfl⟩
  obtain ⟨ob, ho⟩ := o
  refine ⟨.ref s.heap.objs.size, _, A.inv.laid (a := s.heap.objs.size) (o := .frz ob (.dK [])) (t' := s.toks) (fun _ _ q => Heap.get?_push_of_some _ q) (Nat.le_refl _) ⟨ho, dk_empty s.heap A.inv.big⟩, rfl, ?_⟩
  exact ⟨.emp, h, .new n, ⟨_, ob, rfl, upd_same⟩, A.loc.mono (.new n), A.rep.beside n, w⟩
/-! ### {k: v, ..} -/
/-- pairs, flat -/
def flatP : List (V × V) → List V
  | [] => []
  | p :: r => p.1 :: p.2 :: flatP r
structure SPr (X : Cx) (G : Gm) (pos : Pos) (keys : List (Option Expr)) (values : List Expr) (m : Loc → M (List Val)) : Prop where
  run : ∀ {F : Frm} (pins : List (Addr × Obj)) (s : Shared) (σ : L2.St) (H : Hp) (ρ : Loc) (h : CH) (Q : List Val → CH → Prop) (E : Nat → CH → Prop), At X G F pins ρ h σ H E s → m ρ Q E h →
    wpAny (model X.prog X.w) X.A (evalPairs (pairTrees keys values X.env pos)) (fun us s' => ∃ ps H' vs h', Inv X pins σ H' s' ∧ VV ps us ∧ ps.length = keys.length ∧ Le H H' ∧ RelDs G.c H' vs (flatP ps) ∧ RelL G H' ρ σ ∧ Rep G.c F h' H' ∧ Q vs h') X.xe s
theorem spr_nil : SPr X G pos [] [] (fun _ => ret []) := ⟨fun pins s σ H ρ h Q E A w => pairTrees_nil_walk ⟨[], H, [], h, A.inv, .nil, rfl, .refl _, .nil, A.loc, A.rep, w⟩⟩
theorem spr_cons {ks : List (Option Expr)} {vs : List Expr} {mr : Loc → M (List Val)} (ha : SE X G a ma) (hb : SE X G b mb) (hr : SPr X G pos ks vs mr) :
    SPr X G pos (some a :: ks) (b :: vs) (fun ρ => bnd (ma ρ) fun v => bnd (bnd (mb ρ) fun u => bnd (mr ρ) fun r => ret (u :: r)) fun r => ret (v :: r)) := by
  refine ⟨fun pins s σ H ρ h Q E A w => pairTrees_cons_walk ?_⟩
  refine thn (ha.run pins s σ H ρ h _ E A w) fun u s1 ⟨x, H1, I1, rx, va, h1, l1, d1, r1, q1, w1⟩ => ?_
  have A1 := A.next l1 I1 r1 q1
  refine thn (hb.run pins s1 σ H1 ρ h1 _ E A1 w1) fun u2 s2 ⟨y, H2, I2, ry, vb, h2, l2, d2, r2, q2, w2⟩ => ?_
  have A2 := A1.next l2 I2 r2 q2
  refine thn (hr.run pins s2 σ H2 ρ h2 _ E A2 w2) fun us s3 ⟨ps, H3, ws, h3, I3, rv, n3, l3, d3, r3, q3, w3⟩ => ?_
  exact ⟨(x, y) :: ps, H3, va :: vb :: ws, h3, I3, .cons ⟨rx, ry⟩ rv, by simp [n3], (l1.trans l2).trans l3, .cons (RelD.mono (l2.trans l3) _ _ d1) (.cons (RelD.mono l3 _ _ d2) d3), r3, q3, w3⟩
theorem dict_flat {H : Hp} : ∀ {ps : List (V × V)} {vs : List Val} {kvs : List (Val × Val)}, RelDs G.c H vs (flatP ps) → dictL vs = some kvs → ∃ ks : List (Key × V), ps = ks.map (fun kv => (kV kv.1, kv.2)) ∧ RelKV G.c H kvs ks
  | [], vs, kvs, d, e => by
    have : vs = [] := List.eq_nil_of_length_eq_zero (by rw [← d.length]; rfl)
    subst this
    cases e
    exact ⟨[], rfl, .nil⟩
  | p :: ps, vs, kvs, d, e => by
    match vs, d, e with
    | v :: u :: vs, d, e =>
      obtain ⟨x, r, e1, h1, y, r2, e2, h2, h3⟩ := d
      simp only [dictL] at e
      split at e
      · rename_i k l ek el
        cases e
        subst e2
        simp only [flatP, List.cons.injEq] at e1
        obtain ⟨rfl, rfl, rfl⟩ := e1
        obtain ⟨ks, e3, rk⟩ := dict_flat h3 el
        have := keyV_rel h1 ek
        refine ⟨(k, p.2) :: ks, ?_, .cons ⟨ek, h2⟩ rk⟩
        rw [List.map_cons, ← e3, ← this]
      · cases e
    | [], d, _ => exact (by have := d.length; simp [flatP] at this)
    | [_], d, _ => exact (by have := d.length; simp [flatP] at this)
theorem keys_of {H : Hp} {kvs : List (Val × Val)} {ks : List (Key × V)} (r : RelKV G.c H kvs ks) : kvs.map (fun q => keyV q.1) = (ks.map (·.1)).map some := by
  induction r with
  | nil => rfl
  | cons h _ ih => simp only [List.map_cons, ih, h.1]
theorem mergeK_new : ∀ (ks acc : List (Key × V)), ((acc ++ ks).map (·.1)).Nodup → mergeK acc ks = acc ++ ks
  | [], acc, _ => by simp [mergeK]
  | p :: ks, acc, h => by
    have e : putK acc p.1 p.2 = acc ++ [p] := by
      refine putK_new _ ?_
      cases q : valV acc p.1 with
      | none => rfl
      | some v =>
        exfalso
        unfold valV at q
        rw [Option.map_eq_some_iff] at q
        obtain ⟨z, hz, _⟩ := q
        have m := List.mem_of_find?_eq_some hz
        have z1 := List.find?_some hz
        simp only [decide_eq_true_eq] at z1
        rw [List.map_append, List.nodup_append] at h
        exact h.2.2 _ (List.mem_map.mpr ⟨z, m, rfl⟩) p.1 (by simp) z1
    have := mergeK_new ks (acc ++ [p]) (by simpa using h)
    unfold mergeK at this ⊢
    rw [List.foldl_cons, e, this]
    simp
theorem se_disp {deep : Bool} {keys : List (Option Expr)} {values : List Expr} (hs : SPr X G pos keys values mes) (hall : keys.all (·.isSome) = true) (hl : keys.length = values.length) (h0 : keys ≠ []) (h15 : keys.length ≤ 15) :
    SE X G (.Dict keys values pos) (fun ρ => fun Q E h => ∀ p, h p = none → deep = false ∧ mes ρ (fun r h1 => h1 p = some (.dict false []) ∧ dispM p r Q h1) E (h.set p (.dict false []))) := by
  refine ⟨fun pins s σ H ρ h Q E A w => ?_⟩
  rename_i F
  have n := A.inv.hok.fresh (Nat.le_refl s.heap.objs.size)
  have I1 := A.inv.laid (a := s.heap.objs.size) (o := .dK []) (h' := s.heap.push { cls := .type "dict", data := .dict #[] }) (t' := s.toks) (fun _ _ q => Heap.get?_push_of_some _ q) (Nat.le_refl _) (dk_empty s.heap A.inv.big)
  have w1 := (w s.heap.objs.size (A.rep.free n)).2
  have q1 : Rep G.c F (h.set s.heap.objs.size (.dict false [])) (upd H s.heap.objs.size (.dK [])) := A.rep.alloc n rfl ⟨rfl, [], upd_same, .nil⟩
  have A1 := A.next (.new n) I1 (A.loc.mono (.new n)) q1
  refine wpAny_Dict_walk (knd := mixKind X.prog X.w) hall hl h0 h15 (thn (hs.run pins _ σ _ ρ _ _ E A1 w1) fun us s2 ⟨ps, H2, vs, h2, I2, rv, np, l2, d2, r2, q2, e2, w2⟩ => ?_)
  unfold dispM at w2
  split at w2
  · rename_i kvs ek
    obtain ⟨ks, ep, rk⟩ := dict_flat d2 ek
    subst ep
    obtain ⟨rs, c, rk'⟩ := carries_of (P := X.prog) (w := X.w) rv
    obtain ⟨_, ks0, hp, r0⟩ := q2.conc e2 rfl
    cases r0
    obtain ⟨z, hd, vs0, r0, dd⟩ := dk_of I2.hok hp
    cases r0
    have nd : (ks.map (·.1)).Nodup := by
      have := w2.1
      rw [keys_of rk] at this
      exact (List.pairwise_map.mp this).imp fun h e => h (congrArg some e)
    have em : mergeK [] ks = ks := mergeK_new ks [] (by simpa using nd)
    have hz : ks.length ≤ sizeLine := by
      have := w2.2.1
      rw [← kv_len rk] at this
      rw [sizeLine_eq]; omega
    refine ⟨rs, c, dd, fun h' dd' hs' => ?_⟩
    have he : ∃ q, h'.get? s.heap.objs.size = some q := let ⟨q, _, _, hq, _⟩ := dd'; ⟨q, hq⟩
    have dn := dk_new (P := X.prog) (w := X.w) (H' := upd H2 s.heap.objs.size (.dK ks)) (kvs := mergeK [] ks) (by rw [em]; exact hz) hd (rk'.merge .nil) dd'
    rw [em] at dn
    have I3 := d_write (t' := s2.toks + us.length) I2 (by rw [hp]; exact True.intro) hs' he dn
    have le : Le H2 (upd H2 s.heap.objs.size (.dK ks)) := .set hp (by first | exact mutL | exact mutD)
    have rc : RelCO G.c (upd H2 s.heap.objs.size (.dK ks)) s.heap.objs.size (.dict false kvs) := ⟨rfl, ks, upd_same, Paired.imp (fun _ _ q => ⟨q.1, RelD.mono le _ _ q.2⟩) rk⟩
    exact ⟨.ref s.heap.objs.size, _, I3, rfl, .ref s.heap.objs.size, h2.set s.heap.objs.size (.dict false kvs), (Le.new n |>.trans l2).trans le, rfl, r2.mono le, q2.write e2 rfl rfl rc, w2.2.2⟩
  · exact w2.elim

/-! ### tuple(range(..)), list(range(..)) -/
theorem rg_rel {H : Hp} (a b : Int) : RelDs G.c H (rangeL a b) (rgV a b) := by
  unfold rangeL rgV
  induction (List.range (b - a).toNat) with
  | nil => exact .nil
  | cons i l ih => exact .cons (v := .int (a + (i : Nat))) rfl ih
/-- an expression that makes a range -/
structure SR (X : Cx) (G : Gm) (e : Expr) (m : (Int → Int → M Val) → Loc → M Val) : Prop where
  run : ∀ {F : Frm} (pins : List (Addr × Obj)) (s : Shared) (σ : L2.St) (H : Hp) (ρ : Loc) (h : CH) (Q : Val → CH → Prop) (E : Nat → CH → Prop) (k : Int → Int → M Val), At X G F pins ρ h σ H E s → m k ρ Q E h →
    wpAny (model X.prog X.w) X.A (eval e X.env) (fun u s' => ∃ r a b t v w H' h', u = .ref r ∧ IsRange s'.heap r a b 1 t v w ∧ Inv X pins σ H' s' ∧ Le H H' ∧ RelL G H' ρ σ ∧ Rep G.c F h' H' ∧ k a b Q E h') X.xe s
theorem sr_1 (hg : Gl X "range") (hm : X.mg "range" = none) (ha : SE X G a ma) (na : starEach [a] X.env = [(false, eval a X.env)]) : SR X G (.Call (.Name "range" p) [a] [] pos) (fun k ρ => bnd (ma ρ) (rg1M k)) := by
  refine ⟨fun pins s σ H ρ h Q E k A w => ?_⟩
  rename_i F
  refine thn (prg_1 (pos := pos) (p := p) hg hm ha.pe (by rw [na]; rfl) pins s σ H (fun a b H1 => ∃ h', Le H H1 ∧ RelL G H1 ρ σ ∧ Rep G.c F h' H1 ∧ k a b Q E h') A.inv ⟨_, ρ, h, _, E, A.loc, A.rep, A.acc, w, fun v h' x H' l d r q w' => ?_⟩) fun u s1 ⟨r, a, b, t, v, w', H1, e, hr, I1, h', l, rl, q, w2⟩ => ⟨r, a, b, t, v, w', H1, h', e, hr, I1, l, rl, q, w2⟩
  obtain ⟨n, en, w2⟩ := opt_some w'
  have := intOf_some en
  subst this
  cases d
  exact ⟨n, rfl, h', l, r, q, w2⟩
theorem sr_2 (hg : Gl X "range") (hm : X.mg "range" = none) (ha : SE X G a ma) (hb : SE X G b mb) (na : starEach [a, b] X.env = (false, eval a X.env) :: starEach [b] X.env)
    (nb : starEach [b] X.env = [(false, eval b X.env)]) : SR X G (.Call (.Name "range" p) [a, b] [] pos) (fun k ρ => bnd (ma ρ) fun x => bnd (mb ρ) fun y => rg2M k x y) := by
  refine ⟨fun pins s σ H ρ h Q E k A w => ?_⟩
  rename_i F
  refine thn (prg_2 (pos := pos) (p := p) hg hm ha.pe hb.pe na (by rw [nb]; rfl) (by rw [nb]; rfl) pins s σ H (fun a b H1 => ∃ h', Le H H1 ∧ RelL G H1 ρ σ ∧ Rep G.c F h' H1 ∧ k a b Q E h') A.inv ⟨_, ρ, h, _, E, A.loc, A.rep, A.acc, w, fun v h' x H' l d r q w' => ⟨_, ρ, h', _, E, r, q, A.acc.mono l, w', fun v2 h2 x2 H2 l2 d2 r2 q2 w2 => ?_⟩⟩) fun u s1 ⟨r, a, b, t, v, w', H1, e, hr, I1, h', l, rl, q, w2⟩ => ⟨r, a, b, t, v, w', H1, h', e, hr, I1, l, rl, q, w2⟩
  obtain ⟨n, en, w2⟩ := opt_some w2
  obtain ⟨n2, en2, w2⟩ := opt_some w2
  have e1 := intOf_some en
  have e2 := intOf_some en2
  subst e1 e2
  cases d; cases d2
  exact ⟨n, n2, rfl, rfl, h2, l.trans l2, r2, q2, w2⟩
theorem se_tupRg {m : (Int → Int → M Val) → Loc → M Val} (hc : X.calm = true) (hg : Gl X "tuple") (hm : X.mg "tuple" = none) (he : SR X G e m) (na : starEach [e] X.env = [(false, eval e X.env)]) : SE X G (.Call (.Name "tuple" p) [e] [] pos) (m tupRg) := by
  refine ⟨fun pins s σ H ρ h Q E A w => ?_⟩
  rename_i F
  have P := pe_tupRg (X := X) (e := e) (p := p) (pos := pos) (te := fun σ' H' K => σ' = σ ∧ H' = H ∧ ∀ a b H1 h', Le H H1 → RelL G H1 ρ σ → Rep G.c F h' H1 → tupRg a b Q E h' → K a b H1) hc hg hm (fun pins s' σ' H' K I ⟨e1, e2, k⟩ => by
    subst e1 e2
    exact thn (he.run pins s' σ' H' ρ h Q E tupRg ⟨I, A.loc, A.rep, A.acc⟩ w) fun u s1 ⟨r, a, b, t, v, w', H1, h', e, hr, I1, l, rl, q, w2⟩ => ⟨r, a, b, t, v, w', H1, e, hr, I1, k a b H1 h' l rl q w2⟩) (by rw [na]; rfl)
  exact P.run pins s σ H _ A.inv ⟨rfl, rfl, fun a b H1 h' l rl q w2 => ⟨w2.1, fun q' n => QD.up l (.tup rl q (rg_rel a b) n w2.2)⟩⟩
theorem se_lstRg {mu : Bool} {m : (Int → Int → M Val) → Loc → M Val} (hc : X.calm = true) (hg : Gl X "list") (hm : X.mg "list" = none) (he : SR X G e m) (na : starEach [e] X.env = [(false, eval e X.env)]) : SE X G (.Call (.Name "list" p) [e] [] pos) (m (lstRg mu)) := by
  refine ⟨fun pins s σ H ρ h Q E A w => ?_⟩
  rename_i F
  have P := pe_listRg (X := X) (e := e) (p := p) (pos := pos) (te := fun σ' H' K => σ' = σ ∧ H' = H ∧ ∀ a b H1 h', Le H H1 → RelL G H1 ρ σ → Rep G.c F h' H1 → lstRg mu a b Q E h' → K a b H1) hc hg hm (fun pins s' σ' H' K I ⟨e1, e2, k⟩ => by
    subst e1 e2
    exact thn (he.run pins s' σ' H' ρ h Q E (lstRg mu) ⟨I, A.loc, A.rep, A.acc⟩ w) fun u s1 ⟨r, a, b, t, v, w', H1, h', e, hr, I1, l, rl, q, w2⟩ => ⟨r, a, b, t, v, w', H1, e, hr, I1, k a b H1 h' l rl q w2⟩) (by rw [na]; rfl)
  refine thn (P.run pins s σ H (fun z H2 => ∃ H1 h' a b, Le H H1 ∧ RelL G H1 ρ σ ∧ Rep G.c F h' H1 ∧ newL mu (rangeL a b) Q E h' ∧ ∃ q', z = .ref q' ∧ H1 q' = none ∧ H2 = upd H1 q' (.lst (rgV a b))) A.inv ⟨rfl, rfl, fun a b H1 h' l rl q w2 => ⟨w2.1, fun q' n => ⟨H1, h', a, b, l, rl, q, w2.2, q', rfl, n, rfl⟩⟩⟩) fun u s1 ⟨z, H2, I2, rz, H1, h', a, b, l, rl, q, w2, q', e1, n, e2⟩ => ?_
  exact EP.up l (ep_newL rl q (rg_rel a b) w2 ⟨z, H2, I2, rz, q', e1, n, e2⟩)
end
end Mi

set_option Elab.async false
set_option linter.all false
set_option maxRecDepth 100000
set_option maxHeartbeats 400000
namespace Mi
open PySem PySem.Spec PyProof.Rows L2
section
variable {X : Cx} {G : Gm} {F : Frm} {I : CI} {e a b c : Expr} {es : List Expr} {ma mb mc : Loc → M Val} {mes : Loc → M (List Val)} {pos p p1 p2 : Pos} {x name : Str}
/-! ### sorted(xs) of data -/
theorem toDs_enc : ∀ {l : List Val} {ds : List PyData}, toDs l = some ds → ds = l.map encV
  | [], ds, e => by cases e; rfl
  | v :: l, ds, e => by
    simp only [toDs] at e
    split at e
    · rename_i d ds' e1 e2
      cases e
      rw [List.map_cons, ← toDs_enc e2]
      simp [encV, e1]
    · cases e
theorem toDs_all : ∀ {l : List Val} {ds : List PyData}, toDs l = some ds → ∀ v ∈ l, toD v = some (encV v)
  | [], ds, e, v, hv => by cases hv
  | u :: l, ds, e, v, hv => by
    simp only [toDs] at e
    split at e
    · rename_i d ds' e1 e2
      rcases List.mem_cons.mp hv with rfl | hv
      · simp [encV, e1]
      · exact toDs_all e2 v hv
    · cases e
theorem each_rel {H : Hp} : ∀ {l : List Val} {xs : List V} {us : List Value}, RelDs G.c H l xs → Vals xs us → PySem.W.EachIs (fun u v => v ∈ l ∧ ∃ x, L2.RelV x u ∧ RelD G.c H v x) us l := by
  have gen : ∀ (l0 l : List Val) (xs : List V) (us : List Value), (∀ v ∈ l, v ∈ l0) → RelDs G.c H l xs → Vals xs us → PySem.W.EachIs (fun u v => v ∈ l0 ∧ ∃ x, L2.RelV x u ∧ RelD G.c H v x) us l := by
    intro l0 l
    induction l with
    | nil =>
      intro xs us _ d r
      cases d
      cases r
      exact .nil
    | cons v l ih =>
      intro xs us hm d r
      obtain ⟨x, r', rfl, h1, h2⟩ := d
      cases r with
      | cons rx rr => exact .cons ⟨hm v (by simp), x, rx, h1⟩ (ih _ _ (fun u hu => hm u (by simp [hu])) h2 rr)
  exact fun {l xs us} d r => gen l l xs us (fun _ h => h) d r
theorem rel_each {H : Hp} {P : Val → Prop} : ∀ {l : List Val} {us : List Value}, PySem.W.EachIs (fun u v => P v ∧ ∃ x, L2.RelV x u ∧ RelD G.c H v x) us l → ∃ xs, RelDs G.c H l xs ∧ Vals xs us
  | _, _, .nil => ⟨[], .nil, .nil⟩
  | _, _, .cons ⟨_, x, rx, d⟩ t => by
    obtain ⟨xs, d2, r2⟩ := rel_each t
    exact ⟨x :: xs, .cons d d2, .cons rx r2⟩
theorem cv_sorted (hK : X.K = G.c.K) (hu : X.A.units + 128 < cLine) {m : Bool} : CV X G (.builtin "sorted") (biM (.sorted m)) := by
  refine cv_of (b := .sorted m) (fun pins s σ H ρ h Q E x us v A rv d w => ?_) (cv2_no (b := .sorted m) fun _ _ _ _ _ q => q)
  rename_i F
  simp only [bi1] at w
  split at w
  · rename_i l e
    split at w
    · rename_i ds ed
      obtain ⟨w1, w2, w3, w4⟩ := w
      obtain ⟨p, ys, rfl, hp, dl⟩ := rd_lst A.rep d e
      obtain ⟨z, its, n, r1, hl, eg⟩ := lstF A.inv hp
      rw [Vals.ref1 rv]
      have ee := toDs_enc ed
      subst ee
      have each := each_rel dl r1
      have er : PySem.W.EachIs (fun u b => ∃ as, Reads s.heap u (encV b) as) its l := each.mono fun u b ⟨hm, x, rx, dx⟩ => by
        have := (dp_of b x (encV b) dx (toDs_all ed b hm)).1
        rw [← hK] at this
        exact Dp.reads A.inv (encV b) x u this rx
      refine PySem.W.sorted_data (s := s) (l := p) ⟨_, eg, rfl, n, rfl⟩ each er w1 w2 (by rw [← dl.length]; exact z) (fun b hb => ?_) fun out ho eo => ?_
      · have := w3 (encV b) (List.mem_map.mpr ⟨b, hb, rfl⟩)
        omega
      · obtain ⟨xs, d2, r2⟩ := rel_each eo
        obtain ⟨ep, he'⟩ := PyProof.Rows.sortedAll_at s.heap its (List.toArray out)
        have hlen : xs.length ≤ sizeLine := by rw [r2.length, ho, ← dl.length]; exact z
        have n2 : H (s.heap.objs.size + 1) = none := A.inv.hok.fresh (Nat.le_succ _)
        refine ep_newL A.loc A.rep d2 w4 ⟨.ref _, upd H (s.heap.objs.size + 1) (.lst xs), A.inv.laid (t' := s.toks) (fun _ _ => PyProof.Rows.sortedAll_old) (Nat.le_succ _) ⟨hlen, out, ep, r2, he'⟩, rfl, _, rfl, n2, rfl⟩
    · exact w.elim
  · exact w.elim
theorem reads_all {h : Heap} : ∀ {us : List Value} {l : List Val}, PySem.W.EachIs (fun u b => ∃ as, Reads h u (encV b) as) us l → ∃ as, ReadsAll h us (l.map encV) as
  | _, _, .nil => ⟨[], .nil⟩
  | _, _, .cons ⟨as, r⟩ t => by
    obtain ⟨bs, q⟩ := reads_all t
    exact ⟨_, .cons r q⟩
/-! ### max(xs) of data -/
theorem cv_maxD (hK : X.K = G.c.K) (hc : X.calm = true) (hu : X.A.units + 128 < cLine) : CV X G (.builtin "max") (biM .maxD) := by
  refine cv_of (b := .maxD) (fun pins s σ H ρ h Q E x us v A rv d w => ?_) (cv2_no (b := .maxD) fun _ _ _ _ _ q => q)
  rename_i F
  simp only [bi1] at w
  split at w
  · rename_i l e
    split at w
    · rename_i d0 ds ed
      obtain ⟨w1, w2, w3⟩ := w
      obtain ⟨p, ys, rfl, hp, dl⟩ := rd_lst A.rep d e
      obtain ⟨z, its, n, r1, hl, eg⟩ := lstF A.inv hp
      rw [Vals.ref1 rv]
      have ee := toDs_enc ed
      have each := each_rel dl r1
      have er : PySem.W.EachIs (fun u b => ∃ as, Reads s.heap u (encV b) as) its l := each.mono fun u b ⟨hm, x, rx, dx⟩ => by
        have := (dp_of b x (encV b) dx (toDs_all ed b hm)).1
        rw [← hK] at this
        exact Dp.reads A.inv (encV b) x u this rx
      obtain ⟨as, ra⟩ := reads_all er
      rw [← ee] at ra
      refine PySem.W.max_list_data (s := s) (l := p) (A.inv.ok.hd hc) ⟨_, eg, rfl, n, rfl⟩ (by simpa using ra) w1 (by omega) fun i u h' tk bs hi hr hk => ?_
      have hi : its[i]? = some u := by simpa using hi
      have hlt : i < ys.length := by
        rw [hl]
        exact (List.getElem?_eq_some_iff.mp hi).1
      obtain ⟨u', hu', ru⟩ := r1.get (List.getElem?_eq_getElem hlt)
      rw [hi] at hu'
      cases hu'
      obtain ⟨b, hb, db⟩ := dl.get' (List.getElem?_eq_getElem hlt)
      have bm := List.mem_of_getElem? hb
      have r0 : ∃ as, Reads s.heap u (encV b) as := by
        have := (dp_of b _ (encV b) db (toDs_all ed b bm)).1
        rw [← hK] at this
        exact Dp.reads A.inv (encV b) _ u this ru
      obtain ⟨as0, r0⟩ := r0
      have de := (PyProof.Rows.reads_det (fun b o e _ => hk b o e) r0 hr).1
      exact ⟨_, H, A.inv.kept hk, ru, .here A.loc A.rep db (w3 b bm (by rw [toDs_all ed b bm, de]))⟩
    · exact w.elim
  · exact w.elim
/-! ### sorted(set(t)) of ints -/
theorem se_sortSet (hK : X.K = G.c.K) (hc : X.calm = true) {m : Bool} (g1 : Gl X "sorted") (m1 : X.mg "sorted" = none) (g2 : Gl X "set") (m2 : X.mg "set" = none) (ha : SE X G a ma) (na : starEach [a] X.env = [(false, eval a X.env)]) :
    SE X G (.Call (.Name "sorted" p) [.Call (.Name "set" p1) [a] [] p2] [] pos) (fun ρ => bnd (ma ρ) (bi1 (.sortSet m))) := by
  refine ⟨fun pins s σ H ρ h Q E A w => ?_⟩
  rename_i F
  refine wpAny_Call_Name_kw (ld_blt (u := .builtin "sorted") A.inv g1 m1 (by decide +kernel) ?_ (by decide) (by decide))
  refine PyProof.Rows.callWith_builtin1 ?_ rfl rfl
  refine Calls.spliced_cons ?_
  refine Call_ (ld_blt A.inv g2 m2 PyProof.Rows.boot_set (PyProof.Rows.callWith_type1 ?_ (by rw [na]; rfl) rfl) (by decide) (by decide))
  rw [na]
  refine Calls.spliced_cons (thn (ha.run pins s σ H ρ h _ E A w) fun u s1 ⟨x, H1, I1, rx, va, h1, l1, d1, r1, q1, w1⟩ => Calls.spliced_nil ?_)
  have w1 : bi1 (.sortSet m) va Q E h1 := w1
  simp only [bi1] at w1
  split at w1
  · rename_i ns e
    obtain ⟨l, e1, e2⟩ := Option.bind_eq_some_iff.mp e
    obtain ⟨wl, w1⟩ := w1
    have fin : ∀ (h' : Heap) (tk c : Nat), SetR X.w h' s1.heap.objs.size (fun j => decide (j ∈ ns)) c → c ≤ ns.length → (∀ b o, s1.heap.get? b = some o → h'.get? b = some o) →
        wpAny (model X.prog X.w) X.A (spliced []) (fun vs s' => wpAny (model X.prog X.w) X.A (call (.builtin "sorted") (.ref s1.heap.objs.size :: vs)) (EP X pins σ (QD G F ρ σ H Q)) X.xe s') X.xe { s1 with heap := h', toks := tk } := by
      intro h' tk c R hcn k
      have n1 := I1.hok.fresh (Nat.le_refl s1.heap.objs.size)
      have I2 : Inv X pins σ (upd H1 s1.heap.objs.size (SetO X.w s1.heap.objs.size (fun j => decide (j ∈ ns)) c)) { s1 with heap := h', toks := tk } := I1.laid (t' := tk) k (Nat.le_refl _) (setO_new R)
      have q2 := q1.beside (u := SetO X.w s1.heap.objs.size (fun j => decide (j ∈ ns)) c) n1
      have r2 := r1.mono (Le.new (o := SetO X.w s1.heap.objs.size (fun j => decide (j ∈ ns)) c) n1)
      refine Calls.spliced_nil ?_
      refine thn (cr_sortedSet hc pins _ σ _ [.ref s1.heap.objs.size] _ (fun z H3 => ∃ (r : List Int) (q : Addr), r.Pairwise (· < ·) ∧ (∀ k, k ∈ r ↔ k ∈ ns) ∧ z = .ref q ∧ upd H1 s1.heap.objs.size (SetO X.w s1.heap.objs.size (fun j => decide (j ∈ ns)) c) q = none ∧ H3 = upd (upd H1 s1.heap.objs.size (SetO X.w s1.heap.objs.size (fun j => decide (j ∈ ns)) c)) q (.lst (r.map V.int))) I2 (.cons rfl .nil) ⟨s1.heap.objs.size, _, c, rfl, upd_same, by omega, fun r q hr hm hl hn => ⟨r, q, hr, fun k => by rw [hm k, decide_eq_true_eq], rfl, hn, rfl⟩⟩) fun u s3 ⟨z, H3, I3, rz, r, q, hr, hm, e3, hn, e4⟩ => ?_
      have dr : RelDs G.c (upd H1 s1.heap.objs.size (SetO X.w s1.heap.objs.size (fun j => decide (j ∈ ns)) c)) (r.map .int) (r.map V.int) := by
        clear hr hm e4 I3
        induction r with
        | nil => exact .nil
        | cons i r ih => exact .cons (v := .int i) rfl ih
      exact EP.up (l1.trans (.new n1)) (ep_newL r2 q2 dr (w1 r hr hm) ⟨z, H3, I3, rz, q, e3, hn, e4⟩)
    cases va with
    | tup l' =>
      cases e1
      obtain ⟨p0, xs, rfl, hp, dl⟩ := d1
      have := ints_rel dl e2
      subst this
      cases rx
      rw [← hK] at hp
      obtain ⟨its, rv, pt, hz⟩ := I1.tuple hp
      have hi : IntsAre its.toArray.toList ns := ints_of_vals rv
      exact call_set_tupI ns (I1.ok.hd hc) (show s1.heap.IsTuple p0 its.toArray from pt) hi (by unfold scanBound; omega) fun h' tk c R hcn k => fin h' tk c R hcn k
    | _ => cases e1
  · exact w1.elim
end
end Mi

set_option Elab.async false
set_option linter.all false
set_option maxRecDepth 100000
set_option maxHeartbeats 400000
namespace Mi
open PySem PySem.Spec PyProof.Rows L2
section
variable {X : Cx} {G : Gm} {F : Frm} {I : CI} {e a b c : Expr} {es : List Expr} {ma mb mc : Loc → M Val} {mes : Loc → M (List Val)} {pos p p1 p2 p3 p4 : Pos} {x name : Str}
theorem repr_val (hK : X.K = G.c.K) (hu : X.A.units + 128 < cLine) (hg : X.A.guards = some []) {pins : List (Addr × Obj)} {s : Shared} {σ : L2.St} {H : Hp} {ρ : Loc} {h : CH} {E : Nat → CH → Prop} {x : V} {u : Value} {v : Val} {d : PyData} (A : At X G F pins ρ h σ H E s) (rx : L2.RelV x u) (dv : RelD G.c H v x) (e : toD (deref h v) = some d) (sm : smallD d)
    {Q : Value → Shared → Prop} (k : ∀ t s', Inv X pins σ H s' → Q (.str d.shown t) s') : wpAny (model X.prog X.w) X.A (call (.builtin "repr") [u]) Q X.xe s := by
  obtain ⟨p1, c1⟩ := dp_deref A.rep dv e
  rw [← hK] at p1
  obtain ⟨as, r1⟩ := Dp.reads A.inv d x u p1 rx
  have disp : PyProof.Rows.isDisplay d = true → d.showable = true → d.hasDict = false → d.depth ≤ 64 → d.shown.length ≤ sizeLine → wpAny (model X.prog X.w) X.A (call (.builtin "repr") [u]) Q X.xe s := by
    intro h1 h2 h3 h4 h5
    obtain ⟨a, rfl⟩ := PyProof.Rows.isRef_of_reads r1 h1
    exact repr_of_reads' r1 h2 (PyData.noDict_hsm h3) hg (by omega) (fun _ _ e => e) (fun h' t tk hk => k t _ (A.inv.kept (t' := tk) hk)) h5
  cases d with
  | none => cases r1; exact P.repr_of_none (k _ _ (A.inv.tok _))
  | bool b => cases r1; exact P.repr_of_bool (k _ _ (A.inv.tok _))
  | int i => cases r1; exact P.repr_of_int sm (k _ _ (A.inv.tok _))
  | str z => cases r1; exact P.repr_of_str (k _ _ (A.inv.tok _)) sm
  | list xs => exact disp rfl sm.2.1 sm.2.2.1 sm.2.2.2.1 sm.2.2.2.2
  | tuple xs => exact disp rfl sm.1 sm.2.1 sm.2.2.1 sm.2.2.2
  | dict kvs => exact sm.elim
theorem ev_repr (hK : X.K = G.c.K) (hu : X.A.units + 128 < cLine) (hg : X.A.guards = some []) (g1 : Gl X "repr") (m1 : X.mg "repr" = none) (ha : SE X G a ma) (na : starEach [a] X.env = [(false, eval a X.env)])
    {pins : List (Addr × Obj)} {s : Shared} {σ : L2.St} {H : Hp} {ρ : Loc} {h : CH} {E : Nat → CH → Prop} (A : At X G F pins ρ h σ H E s) {K : Val → CH → Prop} (w : ma ρ K E h) {Q : Value → Shared → Prop}
    (k : ∀ (v : Val) (h1 : CH) (H1 : Hp) (x : V), K v h1 → Le H H1 → RelD G.c H1 v x → RelL G H1 ρ σ → Rep G.c F h1 H1 → ∃ d, toD (deref h1 v) = some d ∧ smallD d ∧ ∀ t s', At X G F pins ρ h1 σ H1 E s' → Q (.str d.shown t) s') :
    wpAny (model X.prog X.w) X.A (eval (.Call (.Name "repr" p) [a] [] pos) X.env) Q X.xe s := by
  refine wpAny_Call_Name_kw (ld_blt (u := .builtin "repr") A.inv g1 m1 PyProof.Rows.boot_repr ?_ (by decide) (by decide))
  refine PyProof.Rows.callWith_builtin1 ?_ (by rw [na]; rfl) rfl
  rw [na]
  refine Calls.spliced_cons (thn (ha.run pins s σ H ρ h _ E A w) fun u s1 ⟨x, H1, I1, rx, va, h1, l1, d1, r1, q1, w1⟩ => Calls.spliced_nil ?_)
  obtain ⟨d, e, sm, k⟩ := k va h1 H1 x w1 l1 d1 r1 q1
  exact repr_val hK hu hg (A.next l1 I1 r1 q1) rx d1 e sm fun t s' I' => k t s' (A.next l1 I' r1 q1)
theorem deref_lst {h : CH} {v : Val} : True := trivial
/-- repr(a) == repr(b) -/
theorem repr_two (hK : X.K = G.c.K) (hu : X.A.units + 128 < cLine) (hg : X.A.guards = some []) (g1 : Gl X "repr") (m1 : X.mg "repr" = none) (ha : SE X G a ma) (na : starEach [a] X.env = [(false, eval a X.env)]) (hb : SE X G b mb) (nb : starEach [b] X.env = [(false, eval b X.env)])
    {n : Bool} {f : Value → Value → Sem Value} (hf : ∀ (pins : List (Addr × Obj)) (s : Shared) (σ : L2.St) (H : Hp) (x y : V) (v u : Value) (Q : VK), Inv X pins σ H s → L2.RelV x v → L2.RelV y u → (∃ z w, x = .str z ∧ y = .str w ∧ Q (.bl (if n then !decide (z = w) else decide (z = w))) H) → wpAny (model X.prog X.w) X.A (f v u) (EP X pins σ Q) X.xe s)
    {pins : List (Addr × Obj)} {s : Shared} {σ : L2.St} {H : Hp} {ρ : Loc} {h : CH} {E : Nat → CH → Prop} {Q : Val → CH → Prop} (A : At X G F pins ρ h σ H E s) (w : (bnd (ma ρ) fun x => fun Q E h => ∃ d, toD (deref h x) = some d ∧ smallD d ∧ (bnd (mb ρ) fun y => fun Q _ h => ∃ e, toD (deref h y) = some e ∧ smallD e ∧ Q (.bl (if n then !decide (d.shown = e.shown) else decide (d.shown = e.shown))) h) Q E h) Q E h) :
    wpAny (model X.prog X.w) X.A (eval (.Call (.Name "repr" p) [a] [] p1) X.env) (fun v s₁ => wpAny (model X.prog X.w) X.A (eval (.Call (.Name "repr" p2) [b] [] p3) X.env) (fun u s₂ => wpAny (model X.prog X.w) X.A (f v u) (EP X pins σ (QD G F ρ σ H Q)) X.xe s₂) X.xe s₁) X.xe s := by
  refine ev_repr hK hu hg g1 m1 ha na A w fun v h1 H1 x w1 l1 d1 r1 q1 => ?_
  obtain ⟨d, e, sm, w1⟩ := w1
  refine ⟨d, e, sm, fun t s1 A1 => ?_⟩
  refine ev_repr hK hu hg g1 m1 hb nb A1 w1 fun v2 h2 H2 x2 w2 l2 d2 r2 q2 => ?_
  obtain ⟨d', e', sm', w2⟩ := w2
  refine ⟨d', e', sm', fun t2 s2 A2 => ?_⟩
  exact hf pins s2 σ H2 (.str d.shown) (.str d'.shown) _ _ _ A2.inv ⟨t, rfl⟩ ⟨t2, rfl⟩ ⟨_, _, rfl, rfl, .bl _, h2, l1.trans l2, rfl, r2, q2, w2⟩
theorem str_eq_ok : ∀ (pins : List (Addr × Obj)) (s : Shared) (σ : L2.St) (H : Hp) (x y : V) (v u : Value) (Q : VK), Inv X pins σ H s → L2.RelV x v → L2.RelV y u → (∃ z w, x = .str z ∧ y = .str w ∧ Q (.bl (if false then !decide (z = w) else decide (z = w))) H) → wpAny (model X.prog X.w) X.A (compareOp .Eq v u) (EP X pins σ Q) X.xe s := by
  intro pins s σ H x y v u Q I rx ry ⟨z, w, e1, e2, q⟩
  subst e1 e2
  refine op_eq pins s σ H _ _ v u _ I rx ry ⟨rfl, ?_⟩
  have : decide (V.str z = V.str w) = decide (z = w) := by simp
  rw [this]; exact q
theorem str_ne_ok : ∀ (pins : List (Addr × Obj)) (s : Shared) (σ : L2.St) (H : Hp) (x y : V) (v u : Value) (Q : VK), Inv X pins σ H s → L2.RelV x v → L2.RelV y u → (∃ z w, x = .str z ∧ y = .str w ∧ Q (.bl (if true then !decide (z = w) else decide (z = w))) H) → wpAny (model X.prog X.w) X.A (compareOp .NotEq v u) (EP X pins σ Q) X.xe s := by
  intro pins s σ H x y v u Q I rx ry ⟨z, w, e1, e2, q⟩
  subst e1 e2
  refine op_ne pins s σ H _ _ v u _ I rx ry ⟨rfl, ?_⟩
  have : decide (V.str z = V.str w) = decide (z = w) := by simp
  rw [this]; exact q
theorem se_reprEq (hK : X.K = G.c.K) (hu : X.A.units + 128 < cLine) (hg : X.A.guards = some []) (g1 : Gl X "repr") (m1 : X.mg "repr" = none) (ha : SE X G a ma) (na : starEach [a] X.env = [(false, eval a X.env)]) (hb : SE X G b mb) (nb : starEach [b] X.env = [(false, eval b X.env)]) :
    SE X G (.Compare (.Call (.Name "repr" p) [a] [] p1) [.Eq] [.Call (.Name "repr" p2) [b] [] p3] pos) (reprEqM false ma mb) :=
  ⟨fun pins s σ H ρ h Q E A w => wpAny_Compare1 (repr_two hK hu hg g1 m1 ha na hb nb str_eq_ok A w) (nomark _)⟩
theorem se_reprNe (hK : X.K = G.c.K) (hu : X.A.units + 128 < cLine) (hg : X.A.guards = some []) (g1 : Gl X "repr") (m1 : X.mg "repr" = none) (ha : SE X G a ma) (na : starEach [a] X.env = [(false, eval a X.env)]) (hb : SE X G b mb) (nb : starEach [b] X.env = [(false, eval b X.env)]) :
    SE X G (.Compare (.Call (.Name "repr" p) [a] [] p1) [.NotEq] [.Call (.Name "repr" p2) [b] [] p3] pos) (reprEqM true ma mb) :=
  ⟨fun pins s σ H ρ h Q E A w => wpAny_Compare1 (repr_two hK hu hg g1 m1 ha na hb nb str_ne_ok A w) (nomark _)⟩
/-- a comparison as a test, from it as a value: the value is a bool -/
theorem st_cmpV {op : CmpOp} {m : Loc → M Val} (hm : behindInMarks op b = false) (hv : SE X G (.Compare a [op] [b] pos) m)
    (hv2 : ∀ {F : Frm} (pins : List (Addr × Obj)) (s : Shared) (σ : L2.St) (H : Hp) (ρ : Loc) (h : CH) (Q : Val → CH → Prop) (E : Nat → CH → Prop), At X G F pins ρ h σ H E s → m ρ Q E h →
      wpAny (model X.prog X.w) X.A (eval a X.env) (fun v s₁ => wpAny (model X.prog X.w) X.A (eval b X.env) (fun u s₂ => wpAny (model X.prog X.w) X.A (compareOp op v u) (EP X pins σ (QD G F ρ σ H Q)) X.xe s₂) X.xe s₁) X.xe s)
    (hbl : ∀ ρ Q E h, m ρ Q E h → m ρ (fun v h' => (∃ k, v = .bl k) ∧ Q v h') E h) : ST X G (.Compare a [op] [b] pos) m := by
  refine ⟨fun pins s σ H ρ h Q1 Q E A w hq => ?_⟩
  rename_i F
  have P := pt_cmp (X := X) (a := a) (b := b) (op := op) (pos := pos) (t := fun σ' H' Qv => σ' = σ ∧ H' = H ∧ ∀ c h' H', Le H H' → RelL G H' ρ σ → Rep G.c F h' H' → Q1 (.bl c) h' → Qv (.bl c) H')
    ⟨fun pins s' σ' H' Qv I ⟨e1, e2, k⟩ => by
      subst e1 e2
      refine thn (hv2 pins s' σ' H' ρ h _ E ⟨I, A.loc, A.rep, A.acc⟩ (hbl _ _ _ _ w)) fun v s1 h1 => thn h1 fun u s2 h2 => thn h2 fun z s3 ⟨z', H3, I3, rz, v3, h3, l3, d3, r3, q3, ⟨c, e⟩, w3⟩ => ?_
      subst e
      cases d3
      exact ⟨.bl c, H3, I3, rz, k c h3 H3 l3 r3 q3 w3⟩⟩ hm
  refine P.run pins s σ H (BD G F ρ σ H Q) A.inv ⟨rfl, rfl, fun c h' H' l r q w' => ?_⟩
  obtain ⟨k, e, w2⟩ := hq _ h' w'
  cases e
  exact ⟨c, rfl, h', l, r, q, w2⟩
end
end Mi

set_option Elab.async false
set_option linter.all false
set_option maxRecDepth 100000
set_option maxHeartbeats 400000
namespace Mi
open PySem PySem.Spec PyProof.Rows L2
/-- what an iterator yields, in clean words -/
structure WalkOk (G : Gm) (J : It) (s : Src) (l : List Val) (H0 : Hp) : Prop where
  go : ∀ (F : Frm) (i : Nat) (h : CH) (H : Hp), Le H0 H → Rep G.c F h H → s.ok h → i < l.length → J.go i H
  yld : ∀ (F : Frm) (i : Nat) (h : CH) (H : Hp) (x : V) (H' : Hp), Le H0 H → Rep G.c F h H → s.ok h → J.yld i H x H' → i < l.length → Le H H' ∧ Rep G.c F h H' ∧ ∃ v, l[i]? = some v ∧ RelD G.c H' v x
  stop : ∀ (F : Frm) (i : Nat) (h : CH) (H : Hp), Le H0 H → Rep G.c F h H → s.ok h → l.length ≤ i → J.stop i H
def WD (G : Gm) (F : Frm) (ρ : Loc) (σ : L2.St) (H : Hp) (Q : Src × List Val → CH → Prop) : It → Hp → Prop := fun J H' => ∃ s l h', WalkOk G J s l H' ∧ Le H H' ∧ RelL G H' ρ σ ∧ Rep G.c F h' H' ∧ Q (s, l) h'
structure SI (X : Cx) (G : Gm) (tg e : Expr) (m : Loc → M (Src × List Val)) : Prop where
  run : ∀ {F : Frm} (pins : List (Addr × Obj)) (s : Shared) (σ : L2.St) (H : Hp) (ρ : Loc) (h : CH) (Q : Src × List Val → CH → Prop) (E : Nat → CH → Prop), At X G F pins ρ h σ H E s → m ρ Q E h →
    wpAny (model X.prog X.w) X.A (eval e X.env) (fun v s1 => wpAny (model X.prog X.w) X.A (pyIter v) (PIE X pins σ tg (WD G F ρ σ H Q)) X.xe s1) X.xe s
section
variable {X : Cx} {G : Gm} {F : Frm} {e e2 tg a b : Expr} {es : List Expr} {m ma mb : Loc → M Val} {mes : Loc → M (List Val)} {pos p tpos : Pos} {elts : List Expr} {kk : Nat}
/-- by a rule of the layer -/
theorem si_of {wi : TI} {m : Loc → M (Src × List Val)} (P : PI X tg e wi) (k : ∀ {F : Frm} (σ : L2.St) (H : Hp) (ρ : Loc) (h : CH) (Q : Src × List Val → CH → Prop) (E : Nat → CH → Prop), RelL G H ρ σ → Rep G.c F h H → Acc X G F ρ σ H E → m ρ Q E h → wi σ H (WD G F ρ σ H Q)) : SI X G tg e m :=
  ⟨fun pins s σ H ρ h Q E A w => P.run pins s σ H _ A.inv (k σ H ρ h Q E A.loc A.rep A.acc w)⟩
theorem SqL.fun_ {K : PySem.W.Frag} {H : Hp} {a : Addr} {xs ys : List V} (h1 : SqL K H a xs) (h2 : Rd H a (.lst ys)) (hk : True) : H a = some (.lst ys) ∨ (∃ o, H a = some (.frz o (.lst ys))) := h2
/-- a list's places -/
theorem src_lst {H : Hp} {h : CH} {v : Val} {x : V} {s : Src} {l : List Val} (q : Rep G.c F h H) (d : RelD G.c H v x) (el : ∃ l', lstOf h v = some l') (e : srcOf h v = some (s, l)) :
    ∃ p, x = .ref p ∧ (∃ xs, SqL X.K H p xs) ∧ ∀ (F : Frm) (h' : CH) (H' : Hp), Le H H' → Rep G.c F h' H' → s.ok h' → ∃ xs, Rd H' p (.lst xs) ∧ RelDs G.c H' l xs := by
  cases v with
  | lst l' =>
    cases e
    obtain ⟨p, o, xs, rfl, hp, dl⟩ := d
    exact ⟨p, rfl, ⟨xs, .inl (.inr ⟨o, hp⟩)⟩, fun F h' H' le q' _ => ⟨xs, .inr ⟨o, le.frz _ _ _ hp⟩, dl.mono le⟩⟩
  | ref r =>
    cases d
    simp only [srcOf] at e
    split at e
    · rename_i l' el'
      cases e
      obtain ⟨xs, hp, dl⟩ := q.lst el'
      refine ⟨r, rfl, ⟨xs, .inl (.inl hp)⟩, fun F h' H' le q' ok => ?_⟩
      obtain ⟨ys, hp', dl'⟩ := q'.lst (show h' r = some (.list l) from ok)
      exact ⟨ys, .inl hp', dl'⟩
    · cases e
  | tup l' => obtain ⟨_, e'⟩ := el; cases e'
  | _ => cases e
/-- the items by place -/
theorem sql_inj {pins : List (Addr × Obj)} {σ : L2.St} {H : Hp} {s : Shared} {p : Addr} {xs ys : List V} (I : Inv X pins σ H s) (h1 : SqL X.K H p xs) (h2 : SqL X.K H p ys) : xs = ys := I.list_inj h1 h2
theorem walk_list {H : Hp} {s : Src} {l : List Val} {p : Addr} (k : ∀ (F : Frm) (h' : CH) (H' : Hp), Le H H' → Rep G.c F h' H' → s.ok h' → ∃ xs, Rd H' p (.lst xs) ∧ RelDs G.c H' l xs) : WalkOk G (Itl X.K p) s l H where
  go := fun F i h H' le q ok hi => by
    obtain ⟨xs, hp, dl⟩  := k _ h H' le q ok
    obtain ⟨v, ev⟩ : ∃ v, l[i]? = some v := ⟨_, List.getElem?_eq_getElem hi⟩
    obtain ⟨x, ex, _⟩ := dl.get ev
    exact ⟨xs, x, .inl hp, ex⟩
  yld := fun F i h H' x H2 le q ok hy hi => by
    obtain ⟨rfl, hy⟩ := hy
    obtain ⟨xs, hp, dl⟩  := k _ h H2 le q ok
    obtain ⟨v, ev, dv⟩ := dl.get' (hy xs (.inl hp))
    exact ⟨.refl _, q, v, ev, dv⟩
  stop := fun F i h H' le q ok hi => by
    obtain ⟨xs, hp, dl⟩  := k _ h H' le q ok
    exact ⟨xs, .inl hp, by rw [dl.length]; exact hi⟩
theorem walk_tup (hK : X.K = G.c.K) {H : Hp} {l : List Val} {p : Addr} {xs : List V} (hp : SqT G.c.K H p xs) (dl : RelDs G.c H l xs) : WalkOk G (Itt X.K p) .fixed l H where
  go := fun F i h H' le q ok hi => by
    obtain ⟨v, ev⟩ : ∃ v, l[i]? = some v := ⟨_, List.getElem?_eq_getElem hi⟩
    obtain ⟨x, ex, _⟩ := dl.get ev
    exact ⟨xs, x, by rw [hK]; exact le.sqT hp, ex⟩
  yld := fun F i h H' x H2 le q ok hy hi => by
    obtain ⟨rfl, hy⟩ := hy
    obtain ⟨v, ev, dv⟩ := dl.get' (hy xs (by rw [hK]; exact le.sqT hp))
    exact ⟨.refl _, q, v, ev, RelD.mono le _ _ dv⟩
  stop := fun F i h H' le q ok hi => ⟨xs, by rw [hK]; exact le.sqT hp, by rw [dl.length]; exact hi⟩
/-- a list or a tuple -/
theorem si_seq (hK : X.K = G.c.K) (ha : SE X G a ma) : SI X G tg a (fun ρ => bnd (bnd (ma ρ) fun v => ret [v]) fun vs => walkM .seq vs) := by
  refine ⟨fun pins s σ H ρ h Q E A w => ?_⟩
  rename_i F
  refine thn (ha.run pins s σ H ρ h _ E A w) fun u s1 ⟨x, H1, I1, rx, va, h1, l1, d1, r1, q1, w1⟩ => ?_
  have w1 : seqW va Q E h1 := w1
  unfold seqW at w1
  split at w1
  · rename_i src l e
    have fin : ∀ J, WalkOk G J src l H1 → WD G F ρ σ H Q J H1 := fun J k => ⟨src, l, h1, k, l1, r1, q1, w1⟩
    have lst : (∃ l', lstOf h1 va = some l') → wpAny (model X.prog X.w) X.A (pyIter u) (PIE X pins σ tg (WD G F ρ σ H Q)) X.xe s1 := by
      intro el
      obtain ⟨p, rfl, ⟨xs, hq⟩, k⟩ := src_lst (X := X) q1 d1 el e
      cases rx
      obtain ⟨its, rv, pl, hz⟩ := I1.list hq
      refine wpAny_pyIter_list pl.isList ?_
      refine ⟨s1.heap.objs.size, [s1.heap.objs.size], _, _, H1, rfl, I1.kept (t' := s1.toks) fun b o e => Heap.get?_push_of_some _ e, turn_list p _, ⟨_, Heap.get?_push_size _ rfl, rfl, rfl⟩, fun b hb => ?_, fin _ (walk_list k)⟩
      have e : b = s1.heap.objs.size := by simpa using hb
      subst e
      exact I1.fpOk (Nat.le_refl _) (I1.hok.fresh (Nat.le_refl _))
    cases va with
    | tup l' =>
      cases e
      obtain ⟨p, xs, rfl, hp, dl⟩ := d1
      cases rx
      obtain ⟨its, rv, pl, hz⟩ := I1.tuple (show SqT X.K H1 p xs by rw [hK]; exact hp)
      refine wpAny_pyIter_tuple (show s1.heap.IsTuple p its.toArray from pl) ?_
      refine ⟨s1.heap.objs.size, [s1.heap.objs.size], _, _, H1, rfl, I1.kept (t' := s1.toks) fun b o e => Heap.get?_push_of_some _ e, turn_tuple p _, ⟨_, Heap.get?_push_size _ rfl, rfl, rfl⟩, fun b hb => ?_, fin _ (walk_tup hK hp dl)⟩
      have e : b = s1.heap.objs.size := by simpa using hb
      subst e
      exact I1.fpOk (Nat.le_refl _) (I1.hok.fresh (Nat.le_refl _))
    | lst l' => exact lst ⟨_, rfl⟩
    | ref r =>
      refine lst ?_
      simp only [srcOf] at e
      split at e
      · rename_i l' el
        exact ⟨l', by simp only [lstOf, el]⟩
      · cases e
    | _ => cases e
  · exact w1.elim
theorem rangeL_get {lo hi : Int} {i : Nat} (h : i < (rangeL lo hi).length) : (rangeL lo hi)[i]? = some (.int (lo + (i : Nat))) := by
  unfold rangeL at *
  simp only [List.length_map, List.length_range] at h
  simp [h]
theorem rangeL_length {lo hi : Int} : (rangeL lo hi).length = (hi - lo).toNat := by simp [rangeL]
theorem walk_range {lo hi : Int} {H : Hp} : WalkOk G (Itr lo (hi - lo).toNat) .fixed (rangeL lo hi) H where
  go := fun F i h H' le q ok hi => by rw [rangeL_length] at hi; exact hi
  yld := fun F i h H' x H2 le q ok hy hi => by
    obtain ⟨rfl, rfl⟩ := hy
    exact ⟨.refl _, q, _, rangeL_get hi, rfl⟩
  stop := fun F i h H' le q ok hi => by rw [rangeL_length] at hi; exact hi
theorem AD.rd {n : Nat} {σ : L2.St} {H : Hp} {ρ : Loc} {Q : List Val → CH → Prop} {xs : List V} {H' : Hp} (d : AD G F ρ σ H n Q xs H') : ∃ vs h', xs.length = n ∧ Le H H' ∧ RelDs G.c H' vs xs ∧ RelL G H' ρ σ ∧ Rep G.c F h' H' ∧ Q vs h' := d
def rdA (X : Cx) (G : Gm) (n : Nat) (m : Loc → M (List Val)) : TA := fun σ H Q => ∃ F ρ h Q' E', RelL G H ρ σ ∧ Rep G.c F h H ∧ Acc X G F ρ σ H E' ∧ m ρ Q' E' h ∧ ∀ vs h' xs H', xs.length = n → Le H H' → RelDs G.c H' vs xs → RelL G H' ρ σ → Rep G.c F h' H' → Q' vs h' → Q xs H'
theorem SA.pa (a : SA X G es mes) : PA X es (rdA X G es.length mes) := by
  refine ⟨fun pos pins s σ H Q I ⟨_, ρ, h, Q', E', r, q, ac, hm, k⟩ => ?_⟩
  refine thn (a.run pos pins s σ H ρ h Q' E' ⟨I, r, q, ac⟩ hm) fun u s' ⟨xs, H', I', rv, vs, h', n, l, rd, rl, rp, w⟩ => ?_
  exact ⟨xs, H', I', rv, k vs h' xs H' n l rd rl rp w⟩
theorem si_range1 (hg : Gl X "range") (hm : X.mg "range" = none) (ha : SA X G [a] mes) (hs : starEach [a] X.env = [(false, eval a X.env)]) : SI X G tg (.Call (.Name "range" p) [a] [] pos) (fun ρ => bnd (mes ρ) fun vs => walkM .range vs) := by
  refine si_of (pi_range1 hg hm ha.pa hs) fun σ H ρ h Q E r q ac w => ⟨_, ρ, h, _, E, r, q, ac, w, fun vs h' xs H' n l d r' q' w' => ?_⟩
  match vs, d, w' with
  | [v], d, w' =>
    obtain ⟨x, rfl, dv⟩ := d.one
    have w' : opt (intOf v) (fun j => rangeW 0 j) Q E h' := w'
    obtain ⟨j, ej, w2⟩ := opt_some w'
    have := intOf_some ej
    subst this
    cases dv
    obtain ⟨_, ⟨w2, w3⟩, w4⟩ := w2
    refine ⟨j, rfl, w2, w3, .fixed, rangeL 0 j, h', ?_, l, r', q', w4⟩
    have : (j - 0).toNat = j.toNat := by rw [Int.sub_zero]
    rw [← this]
    exact walk_range
  | [], d, _ => exact (by have := d.length; rw [n] at this; simp at this)
  | [_, _], d, _ => exact (by have := d.length; rw [n] at this; simp at this)
  | _ :: _ :: _ :: _, d, _ => exact (by have := d.length; rw [n] at this; simp at this)
theorem si_range2 (hg : Gl X "range") (hm : X.mg "range" = none) (ha : SA X G [a, b] mes) (hs : starEach [a, b] X.env = [(false, eval a X.env), (false, eval b X.env)]) (hs2 : starEach [b] X.env = [(false, eval b X.env)]) :
    SI X G tg (.Call (.Name "range" p) [a, b] [] pos) (fun ρ => bnd (mes ρ) fun vs => walkM .range vs) := by
  refine si_of (pi_range2 hg hm ha.pa hs hs2) fun σ H ρ h Q E r q ac w => ⟨_, ρ, h, _, E, r, q, ac, w, fun vs h' xs H' n l d r' q' w' => ?_⟩
  match vs, d, w' with
  | [v, v2], d, w' =>
    obtain ⟨x, y, rfl, dv, dw⟩ := d.two
    have w' : opt (intOf v) (fun i => opt (intOf v2) fun j => rangeW i j) Q E h' := w'
    obtain ⟨i, ei, w2⟩ := opt_some w'
    obtain ⟨j, ej, w3⟩ := opt_some w2
    have e1 := intOf_some ei
    have e2 := intOf_some ej
    subst e1 e2
    cases dv; cases dw
    obtain ⟨⟨a1, a2⟩, ⟨a3, a4⟩, w4⟩ := w3
    exact ⟨i, j, rfl, ⟨a1, a2, a3, a4⟩, .fixed, rangeL i j, h', walk_range, l, r', q', w4⟩
  | [], d, _ => exact (by have := d.length; rw [n] at this; simp at this)
  | [_], d, _ => exact (by have := d.length; rw [n] at this; simp at this)
  | _ :: _ :: _ :: _, d, _ => exact (by have := d.length; rw [n] at this; simp at this)
end
end Mi

set_option Elab.async false
set_option linter.all false
set_option maxRecDepth 100000
set_option maxHeartbeats 400000
namespace Mi
open PySem PySem.Spec PyProof.Rows L2
section
variable {X : Cx} {G : Gm} {F : Frm} {e e2 tg a b : Expr} {es : List Expr} {m ma mb : Loc → M Val} {mes : Loc → M (List Val)} {pos p tpos : Pos} {elts : List Expr} {kk : Nat}
theorem zipL_get {l r : List Val} {i : Nat} {v u : Val} (h1 : l[i]? = some v) (h2 : r[i]? = some u) : (zipL l r)[i]? = some (.tup [v, u]) := by
  unfold zipL
  rw [List.getElem?_zipWith, h1, h2]
theorem zipL_length (l r : List Val) : (zipL l r).length = min l.length r.length := by simp [zipL]
theorem enumL_length (l : List Val) : (enumL l).length = l.length := by simp [enumL]
theorem enumL_get {l : List Val} {i : Nat} {v : Val} (h1 : l[i]? = some v) : (enumL l)[i]? = some (.tup [.int (i : Nat), v]) := by
  unfold enumL
  have h : i < l.length := (List.getElem?_eq_some_iff.mp h1).1
  rw [List.getElem?_zipWith, h1, List.getElem?_range h]
theorem RelD.pair {H : Hp} {T : Addr} {v u : Val} {x y : V} (n : H T = none) (d1 : RelD G.c H v x) (d2 : RelD G.c H u y) : RelD G.c (upd H T (.tup [x, y])) (.tup [v, u]) (.ref T) :=
  ⟨T, [x, y], rfl, SqT.of upd_same, .cons (RelD.mono (.new n) _ _ d1) (.cons (RelD.mono (.new n) _ _ d2) .nil)⟩
theorem get_of_lt {α : Type} {l : List α} {i : Nat} (h : i < l.length) : ∃ v, l[i]? = some v := ⟨_, List.getElem?_eq_getElem h⟩
theorem walk_enum {H : Hp} {s : Src} {l : List Val} {p : Addr} (k : ∀ (F : Frm) (h' : CH) (H' : Hp), Le H H' → Rep G.c F h' H' → s.ok h' → ∃ xs, Rd H' p (.lst xs) ∧ RelDs G.c H' l xs) : WalkOk G (Ite X.K p) s (enumL l) H where
  go := fun F i h H' le q ok hi => by
    rw [enumL_length] at hi
    obtain ⟨xs, hp, dl⟩  := k _ h H' le q ok
    obtain ⟨v, ev⟩ := get_of_lt hi
    obtain ⟨x, ex, _⟩ := dl.get ev
    exact ⟨xs, x, .inl hp, ex⟩
  yld := fun F i h H' x H2 le q ok hy hi => by
    obtain ⟨T, y, rfl, n, rfl, hy⟩ := hy
    obtain ⟨xs, hp, dl⟩  := k _ h H' le q ok
    obtain ⟨v, ev, dv⟩ := dl.get' (hy xs (.inl hp))
    exact ⟨.new n, q.beside n, _, enumL_get ev, RelD.pair (v := .int (i : Nat)) n rfl dv⟩
  stop := fun F i h H' le q ok hi => by
    rw [enumL_length] at hi
    obtain ⟨xs, hp, dl⟩  := k _ h H' le q ok
    exact ⟨xs, .inl hp, by rw [dl.length]; exact hi⟩
theorem walk_zipL {H : Hp} {s t : Src} {l r : List Val} {p p2 : Addr} (k : ∀ (F : Frm) (h' : CH) (H' : Hp), Le H H' → Rep G.c F h' H' → s.ok h' → ∃ xs, Rd H' p (.lst xs) ∧ RelDs G.c H' l xs)
    (k2 : ∀ (F : Frm) (h' : CH) (H' : Hp), Le H H' → Rep G.c F h' H' → t.ok h' → ∃ xs, Rd H' p2 (.lst xs) ∧ RelDs G.c H' r xs) : WalkOk G (Itz X.K p p2) (.both s t) (zipL l r) H where
  go := fun F i h H' le q ok hi => by
    rw [zipL_length] at hi
    obtain ⟨xs, hp, dl⟩  := k _ h H' le q ok.1
    obtain ⟨ys, hp2, dl2⟩  := k2 _ h H' le q ok.2
    obtain ⟨v, ev⟩ := get_of_lt (show i < l.length by omega)
    obtain ⟨u, eu⟩ := get_of_lt (show i < r.length by omega)
    obtain ⟨x, ex, _⟩ := dl.get ev
    obtain ⟨y, ey, _⟩ := dl2.get eu
    exact ⟨xs, ys, x, y, .inl hp, .inl hp2, ex, ey⟩
  yld := fun F i h H' x H2 le q ok hy hi => by
    obtain ⟨T, x, y, rfl, n, rfl, hx, hy⟩ := hy
    obtain ⟨xs, hp, dl⟩  := k _ h H' le q ok.1
    obtain ⟨ys, hp2, dl2⟩  := k2 _ h H' le q ok.2
    obtain ⟨v, ev, dv⟩ := dl.get' (hx xs (.inl hp))
    obtain ⟨u, eu, du⟩ := dl2.get' (hy ys (.inl hp2))
    exact ⟨.new n, q.beside n, _, zipL_get ev eu, RelD.pair n dv du⟩
  stop := fun F i h H' le q ok hi => by
    rw [zipL_length] at hi
    obtain ⟨xs, hp, dl⟩  := k _ h H' le q ok.1
    obtain ⟨ys, hp2, dl2⟩  := k2 _ h H' le q ok.2
    exact ⟨xs, ys, .inl hp, .inl hp2, by rw [dl.length, dl2.length]; omega⟩
theorem walk_zipT (hK : X.K = G.c.K) {H : Hp} {l r : List Val} {p p2 : Addr} {xs ys : List V} (hp : SqT G.c.K H p xs) (dl : RelDs G.c H l xs) (hp2 : SqT G.c.K H p2 ys) (dl2 : RelDs G.c H r ys) : WalkOk G (RZ.ItzT X.K p p2) .fixed (zipL l r) H where
  go := fun F i h H' le q ok hi => by
    rw [zipL_length] at hi
    obtain ⟨v, ev⟩ := get_of_lt (show i < l.length by omega)
    obtain ⟨u, eu⟩ := get_of_lt (show i < r.length by omega)
    obtain ⟨x, ex, _⟩ := dl.get ev
    obtain ⟨y, ey, _⟩ := dl2.get eu
    exact ⟨xs, ys, x, y, by rw [hK]; exact le.sqT hp, by rw [hK]; exact le.sqT hp2, ex, ey⟩
  yld := fun F i h H' x H2 le q ok hy hi => by
    obtain ⟨T, x, y, rfl, n, rfl, hx, hy⟩ := hy
    obtain ⟨v, ev, dv⟩ := dl.get' (hx xs (by rw [hK]; exact le.sqT hp))
    obtain ⟨u, eu, du⟩ := dl2.get' (hy ys (by rw [hK]; exact le.sqT hp2))
    exact ⟨.new n, q.beside n, _, zipL_get ev eu, RelD.pair n (RelD.mono le _ _ dv) (RelD.mono le _ _ du)⟩
  stop := fun F i h H' le q ok hi => by
    rw [zipL_length] at hi
    exact ⟨xs, ys, by rw [hK]; exact le.sqT hp, by rw [hK]; exact le.sqT hp2, by rw [dl.length, dl2.length]; omega⟩
theorem si_enum (hg : Gl X "enumerate") (hm : X.mg "enumerate" = none) (ha : SA X G [a] mes) (hs : starEach [a] X.env = [(false, eval a X.env)]) :
    SI X G (.Tuple elts kk tpos) (.Call (.Name "enumerate" p) [a] [] pos) (fun ρ => bnd (mes ρ) fun vs => walkM .enum vs) := by
  refine si_of (pi_enum hg hm ha.pa hs) fun σ H ρ h Q E r q ac w => ⟨_, ρ, h, _, E, r, q, ac, w, fun vs h' xs H' n l d r' q' w' => ?_⟩
  match vs, d, w' with
  | [v], d, w' =>
    obtain ⟨x, rfl, dv⟩ := d.one
    have w' : enumW v Q E h' := w'
    unfold enumW at w'
    split at w'
    · rename_i l0 s l1 e1 e2
      obtain ⟨p, rfl, ⟨xs, hq⟩, k⟩ := src_lst (X := X) q' dv ⟨_, e1⟩ e2
      exact ⟨p, xs, rfl, hq, s, _, h', walk_enum k, l, r', q', w'⟩
    · exact w'.elim
  | [], d, _ => exact (by have := d.length; rw [n] at this; simp at this)
  | [_, _], d, _ => exact (by have := d.length; rw [n] at this; simp at this)
  | _ :: _ :: _ :: _, d, _ => exact (by have := d.length; rw [n] at this; simp at this)
theorem si_zip (hK : X.K = G.c.K) (hg : Gl X "zip") (hm : X.mg "zip" = none) (ha : SA X G [a, b] mes) (hs : starEach [a, b] X.env = (false, eval a X.env) :: starEach [b] X.env) (hpl : (backTo pos (starEach [b] X.env)).any (·.1) = false) :
    SI X G (.Tuple elts kk tpos) (.Call (.Name "zip" p) [a, b] [] pos) (fun ρ => bnd (mes ρ) fun vs => walkM .zip vs) := by
  refine si_of (RZ.pi_zipA hg hm ha.pa hs hpl) fun σ H ρ h Q E r q ac w => ⟨_, ρ, h, _, E, r, q, ac, w, fun vs h' xs H' n l d r' q' w' => ?_⟩
  match vs, d, w' with
  | [v, u], d, w' =>
    obtain ⟨x, y, rfl, dv, du⟩ := d.two
    have w' : zipW v u Q E h' := w'
    unfold zipW at w'
    split at w'
    · obtain ⟨p1, xs, rfl, hp, dl⟩ := dv
      obtain ⟨p2, ys, rfl, hp2, dl2⟩ := du
      exact ⟨p1, p2, xs, ys, rfl, .inr ⟨by rw [hK]; exact hp, by rw [hK]; exact hp2, .fixed, _, h', walk_zipT hK hp dl hp2 dl2, l, r', q', w'⟩⟩
    · split at w'
      · rename_i l0 s l1 l2 t l3 e1 e2 e3 e4
        obtain ⟨p1, rfl, ⟨xs, hq⟩, k⟩ := src_lst (X := X) q' dv ⟨_, e1⟩ e2
        obtain ⟨p2, rfl, ⟨ys, hq2⟩, k2⟩ := src_lst (X := X) q' du ⟨_, e3⟩ e4
        exact ⟨p1, p2, xs, ys, rfl, .inl ⟨hq, hq2, .both s t, _, h', walk_zipL k k2, l, r', q', w'⟩⟩
      · exact w'.elim
  | [], d, _ => exact (by have := d.length; rw [n] at this; simp at this)
  | [_], d, _ => exact (by have := d.length; rw [n] at this; simp at this)
  | _ :: _ :: _ :: _, d, _ => exact (by have := d.length; rw [n] at this; simp at this)

/-! ### targets -/
def gNs : List Nat → TGs
  | [] => gNil
  | i :: is => gCons (gName i) (gNs is)
def tgG (K : PySem.W.Frag) (tg : List Nat) : TG := match tg with
  | [i] => gName i
  | is => gTup K is.length (gNs is)
theorem gNs_ok {H : Hp} {Q : L2.St → Hp → Prop} : ∀ {is : List Nat} {vs : List Val} {xs : List V} {ρ ρ' : Loc} {σ : L2.St}, RelDs G.c H vs xs → RelL G H ρ σ → setVs ρ is vs = some ρ' → (∀ σ', RelL G H ρ' σ' → σ'.length = σ.length → (∀ j, j ∉ is → σ'[j]? = σ[j]?) → Q σ' H) → gNs is xs σ H Q
  | [], vs, xs, ρ, ρ', σ, d, r, e, k => by
    match vs, d, e with
    | [], d, e =>
      cases d; cases e
      exact ⟨rfl, k σ r rfl fun _ _ => rfl⟩
    | _ :: _, _, e => cases e
  | i :: is, vs, xs, ρ, ρ', σ, d, r, e, k => by
    match vs, d, e with
    | v :: vs, d, e =>
      obtain ⟨x, r', rfl, h1, h2⟩ := d
      refine ⟨x, r', rfl, gNs_ok h2 (r.set h1 i) e fun σ' rl hl hj => k σ' rl (by rw [hl]; simp) fun j hn => ?_⟩
      rw [List.mem_cons, not_or] at hn
      rw [hj j hn.2, List.getElem?_set_ne (fun e => hn.1 e.symm)]
    | [], _, e => cases e
theorem setVs_len : ∀ {is : List Nat} {vs : List Val} {ρ ρ' : Loc}, setVs ρ is vs = some ρ' → vs.length = is.length
  | [], [], _, _, _ => rfl
  | i :: is, v :: vs, ρ, ρ', e => by
    have := setVs_len (is := is) (vs := vs) (ρ := setV ρ i v) e
    simp [this]
  | [], _ :: _, _, _, e => by cases e
  | _ :: _, [], _, _, e => by cases e
theorem tgG_many (hK : X.K = G.c.K) {H : Hp} {Q : L2.St → Hp → Prop} {is : List Nat} {v : Val} {x : V} {ρ ρ' : Loc} {σ : L2.St} (d : RelD G.c H v x) (r : RelL G H ρ σ) (e : (tupOf v).bind (setVs ρ is) = some ρ') (k : ∀ σ', RelL G H ρ' σ' → σ'.length = σ.length → (∀ j, j ∉ is → σ'[j]? = σ[j]?) → Q σ' H) :
    gTup X.K is.length (gNs is) x σ H Q := by
  obtain ⟨l, e1, e2⟩ := Option.bind_eq_some_iff.mp e
  cases v with
  | tup l' =>
    cases e1
    obtain ⟨p, xs, rfl, hp, dl⟩ := d
    exact ⟨p, xs, rfl, by rw [hK]; exact hp, by rw [dl.length]; exact setVs_len e2, gNs_ok dl r e2 k⟩
  | _ => cases e1
/-- a value is bound to a target -/
theorem tgG_ok (hK : X.K = G.c.K) {H : Hp} {Q : L2.St → Hp → Prop} {tg : List Nat} {v : Val} {x : V} {ρ ρ' : Loc} {σ : L2.St} (d : RelD G.c H v x) (r : RelL G H ρ σ) (e : bindTg tg v ρ = some ρ') (k : ∀ σ', RelL G H ρ' σ' → σ'.length = σ.length → (∀ j, j ∉ tg → σ'[j]? = σ[j]?) → Q σ' H) :
    tgG X.K tg x σ H Q := by
  match tg, e, k with
  | [i], e, k =>
    cases e
    exact k _ (r.set d i) (by simp) fun j hn => by rw [List.getElem?_set_ne]; exact fun e => hn (by simp [e])
  | [], e, k => exact tgG_many hK d r e k
  | i :: j :: is, e, k => exact tgG_many hK d r e k
end
end Mi

set_option Elab.async false
set_option linter.all false
set_option maxRecDepth 100000
set_option maxHeartbeats 400000
namespace Mi
open PySem PySem.Spec PyProof.Rows L2
def rdE0 (G : Gm) (m : Loc → M Val) : TE := fun σ H Q => ∃ F ρ h Q', RelL G H ρ σ ∧ Rep G.c F h H ∧ m ρ Q' (fun _ _ => False) h ∧ ∀ v h' x H', Le H H' → RelD G.c H' v x → RelL G H' ρ σ → Rep G.c F h' H' → Q' v h' → Q x H'
def rdT0 (G : Gm) (m : Loc → M Bool) : TT := fun σ H Qv => ∃ (F : Frm) (ρ : Loc) (h : CH) (Q : Bool → CH → Prop), RelL G H ρ σ ∧ Rep G.c F h H ∧ m ρ Q (fun _ _ => False) h ∧ ∀ b h' H', Le H H' → RelL G H' ρ σ → Rep G.c F h' H' → Q b h' → Qv b H'
theorem acc0 {X : Cx} {G : Gm} {F : Frm} {ρ : Loc} {σ : L2.St} {H : Hp} : Acc X G F ρ σ H (fun _ _ => False) :=
  ⟨fun _ _ _ _ => False, fun u s' ⟨_, _, _, _, _, _, _, _, _, _, _, _, _, _, _, _, w⟩ => w.elim, fun _ _ _ _ _ w => w⟩
theorem SE.pe0 {X : Cx} {G : Gm} {e : Expr} {m : Loc → M Val} (a : SE X G e m) : PE X e (rdE0 G m) := by
  refine ⟨fun pins s σ H Q I ⟨F, ρ, h, Q', r, q, hm, k⟩ => ?_⟩
  refine thn (a.run pins s σ H ρ h Q' _ ⟨I, r, q, acc0⟩ hm) fun u s' ⟨x, H', I', rv, v, h', l, rd, rl, rp, w⟩ => ?_
  exact ⟨x, H', I', rv, k v h' x H' l rd rl rp w⟩
theorem ST.pt0 {X : Cx} {G : Gm} {e : Expr} {m : Loc → M Val} (a : ST X G e m) : PT X e (rdT0 G fun ρ => bnd (m ρ) truthM) := by
  refine ⟨fun pins s σ H Q I ⟨F, ρ, h, Q', r, q, hm, k⟩ => ?_⟩
  refine thn (a.run pins s σ H ρ h _ Q' _ ⟨I, r, q, acc0⟩ hm fun x h1 w => truthM_some w) fun u s' ⟨H', I', h', l, rl, rp, w⟩ => ?_
  exact ⟨H', I', k u h' H' l rl rp w⟩
theorem wipe_in {σ : L2.St} {i : Nat} : ∀ {vs : List Nat}, i ∈ vs → (wipe σ vs)[i]? = if i < σ.length then some none else none
  | v :: vs, h => by
    show ((wipe σ vs).set v none)[i]? = _
    by_cases e : v = i
    · subst e
      rw [List.getElem?_set]
      simp [wipe_length]
    · rw [List.getElem?_set_ne e]
      exact wipe_in (by rcases List.mem_cons.mp h with h | h
                        · exact (e h.symm).elim
                        · exact h)
theorem wipe_same {σ σ' : L2.St} {vs : List Nat} (hl : σ'.length = σ.length) (h : ∀ j, j ∉ vs → σ'[j]? = σ[j]?) : wipe σ' vs = wipe σ vs := by
  apply List.ext_getElem?
  intro i
  by_cases hi : i ∈ vs
  · rw [wipe_in hi, wipe_in hi, hl]
  · rw [wipe_out hi, wipe_out hi, h i hi]
theorem RelL.wipe {G : Gm} {H : Hp} {ρ : Loc} {σ : L2.St} (r : RelL G H ρ σ) : ∀ vs : List Nat, RelL G H (wipeL ρ vs) (L2.wipe σ vs)
  | [] => r
  | v :: vs => (RelL.wipe r vs).clear v none
theorem Rep.hid_free {G : Gm} {F : Frm} {h : CH} {H : Hp} {D : Addr} {u : HO} (r : Rep G.c (F.set D u) h H) : h D = none := by
  obtain ⟨_, hc, own, r, f⟩ := r
  have z := (f D u Frm.set_same).2.1
  cases e : h D with
  | none => rfl
  | some o =>
    cases c : isAb o with
    | false => rw [(r.top D o e).2 c] at z; cases z
    | true =>
      cases o with
      | ab A =>
        obtain ⟨o', e'⟩ := (r.ab D A e).at_
        rw [z] at e'; cases e'
      | _ => cases c
section
variable {X : Cx} {G : Gm} {elt tg iter : Expr} {ifs : List Expr} {scope : Scope} {own : List (Str × Nat)} {pos : Pos} {mi : Loc → M (Src × List Val)} {mt : Loc → M Bool} {me : Loc → M Val} {tgI : List Nat}
theorem lc_read (hK : X.K = G.c.K) {m : Bool} {F : Frm} {ρ : Loc} {σ : L2.St} {H0 H1 : Hp} {h1 : CH} {J : It} {src : Src} {l : List Val} {Q : Val → CH → Prop} {D : Addr} (k : WalkOk G J src l H1) (l1 : Le H0 H1) (r1 : RelL G H1 ρ σ) (q1 : Rep G.c F h1 H1)
    (w : compM m tgI mt me ρ (src, l) Q (fun _ _ => False) h1) (n : H1 D = none) {Q1 : Hp → Prop}
    (fin : ∀ (h : CH) (H : Hp) (acc : List Val) (xs : List V), Le H1 H → Rep G.c (F.set D (.lst xs)) h H → RelDs G.c H acc xs → newL m acc Q (fun _ _ => False) h → Q1 H) :
    ∃ W : Nat → Nat → Hp → Prop, (∃ m, W 0 m (upd H1 D (.lst []))) ∧ ∀ i m H, W i m H →
      (J.stop i H ∧ Q1 H) ∨ (J.go i H ∧ ∃ Nx : Hp → Prop, (∀ H', Nx H' → ∃ m', m' < m ∧ W (i + 1) m' H') ∧ ∀ x H', J.yld i H x H' → tgG X.K tgI x (wipe σ tgI) H' fun σ2 H2 => wipe σ2 tgI = wipe σ tgI ∧ rdT0 G mt σ2 H2 fun b H3 =>
        if b = true then rdE0 G me σ2 H3 fun y H4 => ∃ acc, H4 D = some (.lst acc) ∧ acc.length < sizeLine ∧ Nx (upd H4 D (.lst (acc ++ [y]))) else Nx H3) := by
  obtain ⟨hl0, w⟩ := w
  have hl : l.length ≤ sizeLine := hl0
  refine ⟨fun i mm H => ∃ (h : CH) (acc : List Val) (xs : List V), mm = l.length - i ∧ i ≤ l.length ∧ xs.length ≤ i ∧ Le H1 H ∧ Rep G.c (F.set D (.lst xs)) h H ∧ RelDs G.c H acc xs ∧
      compGo src tgI mt me (wipeL ρ tgI) (l.drop i) (fun r h' => newL m (acc ++ r) Q (fun _ _ => False) h') (fun _ _ => False) h, ⟨l.length, h1, [], [], rfl, Nat.zero_le _, Nat.zero_le _, .new n, q1.hide n (by first | exact mutL | exact mutD), .nil, w⟩, ?_⟩
  rintro i mm H ⟨h, acc, xs, em, hi, hx, le, q, da, w⟩
  by_cases e : i < l.length
  · obtain ⟨v, ev⟩ := get_of_lt e
    have ed : l.drop i = v :: l.drop (i + 1) := by
      rw [List.drop_eq_getElem_cons e]
      rw [List.getElem?_eq_getElem e] at ev
      cases ev; rfl
    rw [ed] at w
    obtain ⟨ok, w⟩ := w
    refine .inr ⟨k.go _ i h H le q ok e, fun H' => ∃ m', m' < mm ∧ ∃ (h : CH) (acc : List Val) (xs : List V), m' = l.length - (i + 1) ∧ i + 1 ≤ l.length ∧ xs.length ≤ i + 1 ∧ Le H1 H' ∧ Rep G.c (F.set D (.lst xs)) h H' ∧ RelDs G.c H' acc xs ∧
      compGo src tgI mt me (wipeL ρ tgI) (l.drop (i + 1)) (fun r h' => newL m (acc ++ r) Q (fun _ _ => False) h') (fun _ _ => False) h, fun H' q => q, fun x H2 hy => ?_⟩
    obtain ⟨l2, q2, v', ev', dv⟩ := k.yld _ i h H x H2 le q ok hy e
    rw [ev] at ev'
    cases ev'
    split at w
    · exact w.elim
    · rename_i ρ' eb
      have r2 : RelL G H2 (wipeL ρ tgI) (wipe σ tgI) := (r1.wipe tgI).mono (le.trans l2)
      refine tgG_ok hK dv r2 eb fun σ' rl hlen hj => ⟨?_, ?_⟩
      · have e1 := wipe_same (σ := wipe σ tgI) (σ' := σ') (vs := tgI) hlen hj
        rw [e1]
        exact wipe_same (wipe_length _ _) fun j hj => wipe_out hj
      · refine ⟨_, ρ', h, _, rl, q2, w, fun b h3 H3 l3 r3 q3 w3 => ?_⟩
        cases b with
        | false =>
          rw [if_neg (by decide)] at w3
          rw [if_neg (by decide)]
          exact ⟨l.length - (i + 1), by omega, h3, acc, xs, rfl, e, by omega, (le.trans l2).trans l3, q3, da.mono (l2.trans l3), w3⟩
        | true =>
          rw [if_pos rfl] at w3
          rw [if_pos rfl]
          refine ⟨_, ρ', h3, _, r3, q3, w3, fun v4 h4 x4 H4 l4 d4 r4 q4 w4 => ?_⟩
          have ml : MutO (.lst (xs ++ [x4])) := (by first | exact mutL | exact mutD)
          have mx : MutO (.lst xs) := (by first | exact mutL | exact mutD)
          have le5 : Le H4 (upd H4 D (.lst (xs ++ [x4]))) := .set q4.hid mx
          refine ⟨xs, q4.hid, by omega, l.length - (i + 1), by omega, h4, acc ++ [v4], xs ++ [x4], rfl, e, by simp; omega, (((le.trans l2).trans l3).trans l4).trans le5, q4.rehide ml, (((da.mono ((l2.trans l3).trans l4)).append (.cons d4 .nil)).mono le5), ?_⟩
          have ea : (fun r h' => newL m (acc ++ [v4] ++ r) Q (fun _ _ => False) h') = fun r h' => newL m (acc ++ v4 :: r) Q (fun _ _ => False) h' := by
            funext r h'; simp
          rw [ea]
          exact w4
  · have ed : l.drop i = [] := List.drop_eq_nil_of_le (by omega)
    rw [ed] at w
    obtain ⟨ok, w⟩ := w
    rw [List.append_nil] at w
    exact .inl ⟨k.stop _ i h H le q ok (by omega), fin h H acc xs le q da w⟩
theorem se_lc (hK : X.K = G.c.K) (hc : X.calm = true) (hN : X.N.Nodup) {m : Bool} (hi : SI X G tg iter mi) (ok : BlkOk X.N X.env.scope scope own) (hown : own.map (·.2) = tgI)
    (hg : ∀ (s : Shared) (H : Hp) (C : Addr) (cl : List (Str × Addr)) (fp : List Addr), PG (X.blk s H scope (compEnvC scope cl C X.env) fp) tg (tgG X.K tgI))
    (ht : ∀ (s : Shared) (H : Hp) (C : Addr) (cl : List (Str × Addr)) (fp : List Addr), PTs (X.blk s H scope (compEnvC scope cl C X.env) fp) ifs (rdT0 G mt))
    (he : ∀ (s : Shared) (H : Hp) (C : Addr) (cl : List (Str × Addr)) (fp : List Addr), SE (X.blk s H scope (compEnvC scope cl C X.env) fp) G elt me) (hs : ∀ x, foldedSetIterable iter X.env x = pure x) :
    SE X G (.ListComp elt [⟨tg, iter, ifs, 0⟩] scope pos) (fun ρ => bnd (mi ρ) fun p => compM m tgI mt me ρ p) := by
  subst hown
  refine ⟨fun pins s σ H ρ h Q E A w => ?_⟩
  rename_i F
  have PIx : PI X tg iter (fun σ' H' R => ∃ F ρ h Q' E', RelL G H' ρ σ' ∧ Rep G.c F h H' ∧ Acc X G F ρ σ' H' E' ∧ mi ρ Q' E' h ∧ ∀ J H2, WD G F ρ σ' H' Q' J H2 → R J H2) :=
    ⟨fun pins s σ' H' R I ⟨F, ρ, h, Q', E', r, q, a, hm, k⟩ => thn (hi.run pins s σ' H' ρ h Q' E' ⟨I, r, q, a⟩ hm) fun u s1 z => thn z fun v s2 ⟨it, fp, tn, J, H2, e, I2, t, t0, hf, wd⟩ => ⟨it, fp, tn, J, H2, e, I2, t, t0, hf, k J H2 wd⟩⟩
  have P := pe_lc (pos := pos) hc hN PIx ok hg ht (fun s H C cl fp => (he s H C cl fp).pe0) hs
  cases m with
  | true =>
    refine P.run pins s σ H _ A.inv ⟨F, ρ, h, _, E, A.loc, A.rep, A.acc, w, ?_⟩
    rintro J H1 ⟨src, l, h1, k, l1, r1, q1, w1⟩ D n
    have fn := q1.fr_free n
    refine lc_read (m := true) hK k l1 r1 q1 w1 n fun h' H' acc xs le q da wn => ?_
    have q' : Rep G.c F (h'.set D (.list acc)) H' := q.adopt fn rfl ⟨xs, q.hid, da⟩
    exact ⟨.ref D, h'.set D (.list acc), l1.trans le, rfl, r1.mono le, q', wn D q.hid_free⟩
  | false =>
    refine thn (P.run pins s σ H (fun z H1 => ∃ p xs, z = .ref p ∧ H1 p = some (.lst xs) ∧ ∀ o, QD G F ρ σ H Q z (upd H1 p (.frz o (.lst xs)))) A.inv ⟨F, ρ, h, _, E, A.loc, A.rep, A.acc, w, ?_⟩) fun u s' e => ep_freeze e
    rintro J H1 ⟨src, l, h1, k, l1, r1, q1, w1⟩ D n
    have fn := q1.fr_free n
    refine lc_read (m := false) hK k l1 r1 q1 w1 n fun h' H' acc xs le q da wn => ⟨D, xs, rfl, q.hid, fun o => ?_⟩
    have mx : MutO (.lst xs) := (by first | exact mutL | exact mutD)
    have le2 : Le H' (upd H' D (.frz o (.lst xs))) := .set q.hid mx
    exact ⟨.lst acc, h', (l1.trans le).trans le2, ⟨D, o, xs, rfl, upd_same, da.mono le2⟩, r1.mono (le.trans le2), q.freeze fn, wn⟩
/-- a clause's tests -/
theorem pts_no : PTs X [] (rdT0 G fun _ => ret true) := ⟨fun pins s σ H Q I ⟨F, ρ, h, Q', r, q, w, k⟩ => (pts_nil (X := X)).run pins s σ H Q I (k true h H (.refl _) r q w)⟩
theorem pts_yes {c : Expr} {mc : Loc → M Val} (h : ST X G c mc) : PTs X [c] (rdT0 G fun ρ => bnd (mc ρ) truthM) := pts_one h.pt0
end
end Mi

set_option Elab.async false
set_option linter.all false
set_option maxRecDepth 100000
set_option maxHeartbeats 400000
namespace Mi
open PySem PySem.Spec PyProof.Rows L2
def EndsOf (G : Gm) (F : Frm) (H : Hp) (Q : Out → CH → Prop) : Ends where
  nx := fun σ' H' => ∃ ρ' h', Le H H' ∧ RelL G H' ρ' σ' ∧ Rep G.c F h' H' ∧ Q (.nx ρ') h'
  rt := fun x H' => ∃ v h', Le H H' ∧ RelD G.c H' v x ∧ Rep G.c F h' H' ∧ Q (.rt v) h'
  ct := fun σ' H' => ∃ ρ' h', Le H H' ∧ RelL G H' ρ' σ' ∧ Rep G.c F h' H' ∧ Q (.ct ρ') h'
def AccS (X : Cx) (G : Gm) (F : Frm) (H : Hp) (E : Nat → CH → Prop) : Prop :=
  ∃ W : WX, Takes X W ∧ ∀ c h' H' σ', Le H H' → Rep G.c F h' H' → E c h' → W (.ref (G.c.ca c)) none σ' H'
theorem AccS.at {X : Cx} {G : Gm} {F : Frm} {ρ : Loc} {σ : L2.St} {H : Hp} {E : Nat → CH → Prop} (a : AccS X G F H E) : Acc X G F ρ σ H E := by
  obtain ⟨W, t, h⟩ := a
  exact ⟨W, t, fun c h' H' l r e => h c h' H' σ l r e⟩
theorem AccS.mono {X : Cx} {G : Gm} {F : Frm} {H H' : Hp} {E : Nat → CH → Prop} (l : Le H H') (a : AccS X G F H E) : AccS X G F H' E := by
  obtain ⟨W, t, h⟩ := a
  exact ⟨W, t, fun c h' H2 σ' l2 => h c h' H2 σ' (l.trans l2)⟩
/-- the state at a statement -/
structure AtS (X : Cx) (G : Gm) (F : Frm) (pins : List (Addr × Obj)) (ρ : Loc) (h : CH) (σ : L2.St) (H : Hp) (E : Nat → CH → Prop) (s : Shared) : Prop where
  inv : Inv X pins σ H s
  loc : RelL G H ρ σ
  rep : Rep G.c F h H
  acc : AccS X G F H E
theorem AtS.at {X : Cx} {G : Gm} {F : Frm} {pins : List (Addr × Obj)} {ρ : Loc} {h : CH} {σ : L2.St} {H : Hp} {E : Nat → CH → Prop} {s : Shared} (A : AtS X G F pins ρ h σ H E s) : At X G F pins ρ h σ H E s := ⟨A.inv, A.loc, A.rep, A.acc.at⟩
structure SS (X : Cx) (G : Gm) (st : Stmt) (m : Loc → M Out) : Prop where
  run : ∀ {F : Frm} (pins : List (Addr × Obj)) (s : Shared) (σ : L2.St) (H : Hp) (ρ : Loc) (h : CH) (Q : Out → CH → Prop) (E : Nat → CH → Prop), AtS X G F pins ρ h σ H E s → m ρ Q E h →
    wpAny (model X.prog X.w) X.A (exec st X.env) (SP X pins (EndsOf G F H Q)) X.xe s
structure SSs (X : Cx) (G : Gm) (st : List Stmt) (m : Loc → M Out) : Prop where
  run : ∀ {F : Frm} (pins : List (Addr × Obj)) (s : Shared) (σ : L2.St) (H : Hp) (ρ : Loc) (h : CH) (Q : Out → CH → Prop) (E : Nat → CH → Prop), AtS X G F pins ρ h σ H E s → m ρ Q E h →
    wpAny (model X.prog X.w) X.A (execs st X.env) (SP X pins (EndsOf G F H Q)) X.xe s
/-- D is reached -/
structure Hits (G : Gm) (F : Frm) (H : Hp) (Q : Out → CH → Prop) (D : Ends) : Prop where
  nx : ∀ σ' H', (EndsOf G F H Q).nx σ' H' → D.nx σ' H'
  rt : ∀ x H', (EndsOf G F H Q).rt x H' → D.rt x H'
  ct : ∀ σ' H', (EndsOf G F H Q).ct σ' H' → D.ct σ' H'
theorem SP.hits {X : Cx} {G : Gm} {F : Frm} {H : Hp} {Q : Out → CH → Prop} {D : Ends} {pins : List (Addr × Obj)} {f : Flow} {s' : Shared} (k : Hits G F H Q D) (e : SP X pins (EndsOf G F H Q) f s') : SP X pins D f s' := by
  cases f with
  | next => obtain ⟨σ', H', I, q⟩ := e; exact ⟨σ', H', I, k.nx _ _ q⟩
  | brk => obtain ⟨σ', H', I, q⟩ := e; exact q.elim
  | cont => obtain ⟨σ', H', I, q⟩ := e; exact ⟨σ', H', I, k.ct _ _ q⟩
  | ret u => obtain ⟨v, σ', H', I, rv, q⟩ := e; exact ⟨v, σ', H', I, rv, k.rt _ _ q⟩
def rdS (X : Cx) (G : Gm) (m : Loc → M Out) : TS := fun D σ H => ∃ (F : Frm) (ρ : Loc) (h : CH) (Q : Out → CH → Prop) (E : Nat → CH → Prop), RelL G H ρ σ ∧ Rep G.c F h H ∧ AccS X G F H E ∧ m ρ Q E h ∧ Hits G F H Q D
theorem SS.ps {X : Cx} {G : Gm} {st : Stmt} {m : Loc → M Out} (a : SS X G st m) : PS X st (rdS X G m) :=
  ⟨fun pins s σ H D I ⟨F, ρ, h, Q, E, r, q, ac, w, k⟩ => thn (a.run pins s σ H ρ h Q E ⟨I, r, q, ac⟩ w) fun f s' e => SP.hits k e⟩
theorem SSs.pss {X : Cx} {G : Gm} {st : List Stmt} {m : Loc → M Out} (a : SSs X G st m) : PSs X st (rdS X G m) :=
  ⟨fun pins s σ H D I ⟨F, ρ, h, Q, E, r, q, ac, w, k⟩ => thn (a.run pins s σ H ρ h Q E ⟨I, r, q, ac⟩ w) fun f s' e => SP.hits k e⟩
theorem ss_of {X : Cx} {G : Gm} {st : Stmt} {m : Loc → M Out} {t : TS} (P : PS X st t) (k : ∀ (F : Frm) (σ : L2.St) (H : Hp) (ρ : Loc) (h : CH) (Q : Out → CH → Prop) (E : Nat → CH → Prop), RelL G H ρ σ → Rep G.c F h H → AccS X G F H E → m ρ Q E h → t (EndsOf G F H Q) σ H) : SS X G st m :=
  ⟨fun {F} pins s σ H ρ h Q E A w => P.run pins s σ H _ A.inv (k F σ H ρ h Q E A.loc A.rep A.acc w)⟩
theorem sss_of {X : Cx} {G : Gm} {st : List Stmt} {m : Loc → M Out} {t : TS} (P : PSs X st t) (k : ∀ (F : Frm) (σ : L2.St) (H : Hp) (ρ : Loc) (h : CH) (Q : Out → CH → Prop) (E : Nat → CH → Prop), RelL G H ρ σ → Rep G.c F h H → AccS X G F H E → m ρ Q E h → t (EndsOf G F H Q) σ H) : SSs X G st m :=
  ⟨fun {F} pins s σ H ρ h Q E A w => P.run pins s σ H _ A.inv (k F σ H ρ h Q E A.loc A.rep A.acc w)⟩
theorem Hits.refl {G : Gm} {F : Frm} {H : Hp} {Q : Out → CH → Prop} : Hits G F H Q (EndsOf G F H Q) := ⟨fun _ _ h => h, fun _ _ h => h, fun _ _ h => h⟩
theorem Hits.up {G : Gm} {F : Frm} {H H' : Hp} {Q : Out → CH → Prop} {D : Ends} (l : Le H H') (k : Hits G F H Q D) : Hits G F H' Q D :=
  ⟨fun σ' H2 ⟨ρ', h', l', r⟩ => k.nx σ' H2 ⟨ρ', h', l.trans l', r⟩, fun x H2 ⟨v, h', l', r⟩ => k.rt x H2 ⟨v, h', l.trans l', r⟩, fun σ' H2 ⟨ρ', h', l', r⟩ => k.ct σ' H2 ⟨ρ', h', l.trans l', r⟩⟩
section
variable {X : Cx} {G : Gm} {e o i : Expr} {st : Stmt} {rest a b : List Stmt} {me mo mi : Loc → M Val} {m mr ma mb : Loc → M Out} {pos pos' : Pos}
/-- an expression's end, from a statement's -/
theorem qd_of {F : Frm} {ρ : Loc} {σ : L2.St} {H : Hp} {h : CH} {Q' : Val → CH → Prop} {E : Nat → CH → Prop} {K : VK} (r : RelL G H ρ σ) (q : Rep G.c F h H) (ac : AccS X G F H E) (w : me ρ Q' E h)
    (k : ∀ v h' x H', Le H H' → RelD G.c H' v x → RelL G H' ρ σ → Rep G.c F h' H' → Q' v h' → K x H') : rdE X G me σ H K := ⟨F, ρ, h, Q', E, r, q, ac.at, w, k⟩
theorem sss_nil : SSs X G [] (fun ρ => ret (.nx ρ)) := sss_of pss_nil fun F σ H ρ h Q E r q ac w => ⟨ρ, h, .refl _, r, q, w⟩
def seqM (m mr : Loc → M Out) : Loc → M Out := fun ρ => bnd (m ρ) fun o => match o with
  | .nx ρ' => mr ρ'
  | o => ret o
theorem sss_cons (hs : SS X G st m) (hr : SSs X G rest mr) : SSs X G (st :: rest) (seqM m mr) := by
  refine sss_of (pss_cons hs.ps hr.pss) fun F σ H ρ h Q E r q ac w => ⟨F, ρ, h, _, E, r, q, ac, w, ?_, ?_, ?_⟩
  · rintro σ' H' ⟨ρ', h', l, r', q', w'⟩
    exact ⟨F, ρ', h', Q, E, r', q', ac.mono l, w', Hits.up l .refl⟩
  · rintro x H' ⟨v, h', l, d, q', w'⟩
    exact ⟨v, h', l, d, q', w'⟩
  · rintro σ' H' ⟨ρ', h', l, r', q', w'⟩
    exact ⟨ρ', h', l, r', q', w'⟩
theorem ss_set {j : Nat} {x : Str} (hN : X.N.Nodup) (hi : X.N[j]? = some x) (hx : L2.Loc X.env.scope x) (he : SE X G e me) (hs : swapsWith e (some (.Name x pos')) pos.line X.env = pure false) (hf : X.fn x = true ∨ X.env.scope.names.lookup x = some .local) :
    SS X G (.Assign [.Name x pos'] e pos) (fun ρ => bnd (me ρ) fun v => ret (.nx (setV ρ j v))) :=
  ss_of (ps_set hN hi hx he.pe hs hf) fun F σ H ρ h Q E r q ac w => qd_of r q ac w fun v h' x H' l d r' q' w' => ⟨setV ρ j v, h', l, r'.set d j, q', w'⟩
/-- .. of a comprehension's list on the same line -/
theorem ss_setT {tg : Expr} {is : List Nat} (hK : X.K = G.c.K) (he : SE X G e me) (hg : PG X tg (gTup X.K is.length (gNs is))) (hs : swapsWithSole [tg] e pos.line X.env = pure false) (hw : swappedStores [tg] e X.env = pure none)
    (h1 : (assignEach [tg] X.env).map (·.2) = [assign tg X.env]) : SS X G (.Assign [tg] e pos) (fun ρ => bnd (me ρ) fun v => opt ((tupOf v).bind (setVs ρ is)) fun ρ' => ret (.nx ρ')) := by
  refine ss_of (ps_asg he.pe hg hs hw h1) fun F σ H ρ h Q E r q ac w => qd_of r q ac w fun v h' x H' l d r' q' w' => ?_
  obtain ⟨ρ', e, w2⟩ := opt_some w'
  exact tgG_many hK d r' e fun σ' rl _ _ => ⟨ρ', h', l, rl, q', w2⟩
theorem ss_par2 {j k : Nat} {x y : Str} {e1 e2 : Expr} {mes : Loc → M (List Val)} {px py pt : Pos} {kt k2 pt2} (hc : X.calm = true) (hN : X.N.Nodup) (hi : X.N[j]? = some x) (hj : X.N[k]? = some y) (hij : j ≠ k)
    (hx : X.env.scope.names.lookup x = some .local) (hy : X.env.scope.names.lookup y = some .local) (ha : SA X G [e1, e2] mes)
    (hw : swappedStores [.Tuple [.Name x px, .Name y py] kt pt] (.Tuple [e1, e2] k2 pt2) X.env = pure (some [x, y]))
    (hs : swapsWithSole [.Tuple [.Name x px, .Name y py] kt pt] (.Tuple [e1, e2] k2 pt2) pos.line X.env = pure false) :
    SS X G (.Assign [.Tuple [.Name x px, .Name y py] kt pt] (.Tuple [e1, e2] k2 pt2) pos) (fun ρ => bnd (bnd (mes ρ) fun vs => ret (.tup vs)) fun v => opt ((tupOf v).bind (setVs ρ [j, k])) fun ρ' => ret (.nx ρ')) := by
  refine ss_of (ps_par hc hN hi hj hij hx hy ha.pa hw hs) fun F σ H ρ h Q E r q ac w => ⟨F, ρ, h, _, E, r, q, ac.at, w, fun vs h' xs H' n l d r' q' w' => ?_⟩
  obtain ⟨ρ', e, w2⟩ := opt_some w'
  have e : setVs ρ [j, k] vs = some ρ' := e
  match vs, d, e with
  | [v, u], d, e =>
    obtain ⟨a, b, rfl, da, db⟩ := d.two
    cases e
    exact ⟨a, b, rfl, _, h', l, (r'.set da j).set db k, q', w2⟩
  | [], d, e => cases e
  | [_], d, e => cases e
  | _ :: _ :: _ :: _, d, e => cases e
theorem ss_par3 {j k n : Nat} {x y z : Str} {e1 e2 e3 : Expr} {mes : Loc → M (List Val)} {px py pz pt : Pos} {kt k2 pt2} (hc : X.calm = true) (hN : X.N.Nodup) (hi : X.N[j]? = some x) (hj : X.N[k]? = some y) (hl : X.N[n]? = some z) (hij : j ≠ k) (hil : j ≠ n) (hjl : k ≠ n)
    (hx : X.env.scope.names.lookup x = some .local) (hy : X.env.scope.names.lookup y = some .local) (hz : X.env.scope.names.lookup z = some .local) (ha : SA X G [e1, e2, e3] mes)
    (hw : swappedStores [.Tuple [.Name x px, .Name y py, .Name z pz] kt pt] (.Tuple [e1, e2, e3] k2 pt2) X.env = pure (some [x, y, z]))
    (hs : swapsWithSole [.Tuple [.Name x px, .Name y py, .Name z pz] kt pt] (.Tuple [e1, e2, e3] k2 pt2) pos.line X.env = pure false) :
    SS X G (.Assign [.Tuple [.Name x px, .Name y py, .Name z pz] kt pt] (.Tuple [e1, e2, e3] k2 pt2) pos) (fun ρ => bnd (bnd (mes ρ) fun vs => ret (.tup vs)) fun v => opt ((tupOf v).bind (setVs ρ [j, k, n])) fun ρ' => ret (.nx ρ')) := by
  refine ss_of (ps_par3 hc hN hi hj hl hij hil hjl hx hy hz ha.pa hw hs) fun F σ H ρ h Q E r q ac w => ⟨F, ρ, h, _, E, r, q, ac.at, w, fun vs h' xs H' _ l d r' q' w' => ?_⟩
  obtain ⟨ρ', e, w2⟩ := opt_some w'
  have e : setVs ρ [j, k, n] vs = some ρ' := e
  match vs, d, e with
  | [v, u, t], d, e =>
    obtain ⟨a, r1, rfl, da, d2⟩ := d
    obtain ⟨b, c, rfl, db, dc⟩ := d2.two
    cases e
    exact ⟨a, b, c, rfl, _, h', l, ((r'.set da j).set db k).set dc n, q', w2⟩
  | [], d, e => cases e
  | [_], d, e => cases e
  | [_, _], d, e => cases e
  | _ :: _ :: _ :: _ :: _, d, e => cases e
theorem ss_ex (he : SE X G e me) (hs : swapsWith e none pos.line X.env = pure false) : SS X G (.Expr e pos) (fun ρ => bnd (me ρ) fun _ => ret (.nx ρ)) :=
  ss_of (ps_expr he.pe hs) fun F σ H ρ h Q E r q ac w => qd_of r q ac w fun v h' x H' l d r' q' w' => ⟨ρ, h', l, r', q', w'⟩
theorem ss_doc {x j pos pos'} : SS X G (.Expr (.Constant (.str x) j pos) pos') (fun ρ => ret (.nx ρ)) := ss_of ps_doc fun F σ H ρ h Q E r q ac w => ⟨ρ, h, .refl _, r, q, w⟩
theorem ss_pass : SS X G (.Pass pos) (fun ρ => ret (.nx ρ)) := ss_of ps_pass fun F σ H ρ h Q E r q ac w => ⟨ρ, h, .refl _, r, q, w⟩
theorem ss_cont : SS X G (.Continue pos) (fun ρ => ret (.ct ρ)) := ss_of ps_continue fun F σ H ρ h Q E r q ac w => ⟨ρ, h, .refl _, r, q, w⟩
theorem ss_ret (he : SE X G e me) : SS X G (.Return (some e) pos) (fun ρ => bnd (me ρ) fun v => ret (.rt v)) :=
  ss_of (ps_ret he.pe) fun F σ H ρ h Q E r q ac w => qd_of r q ac w fun v h' x H' l d r' q' w' => ⟨v, h', l, d, q', w'⟩
theorem ss_retN : SS X G (.Return none pos) (fun _ => ret (.rt .non)) := ss_of ps_retN fun F σ H ρ h Q E r q ac w => ⟨.non, h, .refl _, rfl, q, w⟩
theorem ss_if (hc : ST X G e me) (ha : SSs X G a ma) (hb : SSs X G b mb) : SS X G (.If e a b pos) (fun ρ => bnd (me ρ) fun x => bnd (truthM x) fun k => if k = true then ma ρ else mb ρ) := by
  refine ss_of (ps_if hc.pt ha.pss hb.pss) fun F σ H ρ h Q E r q ac w => ⟨F, ρ, h, _, fun k h1 => (if k = true then ma ρ else mb ρ) Q E h1, E, r, q, ac.at, w, fun x h1 w1 => truthM_some w1, fun k h' H' l r' q' w' => ?_⟩
  cases k with
  | true => exact ⟨F, ρ, h', Q, E, r', q', ac.mono l, w', Hits.up l .refl⟩
  | false => exact ⟨F, ρ, h', Q, E, r', q', ac.mono l, w', Hits.up l .refl⟩
/-- o[i] = e -/
theorem valV_any' {kvs : List (Key × V)} {k : Key} : (kvs.any fun kv => decide (kv.1 = k)) = true ↔ ∃ kv ∈ kvs, kv.1 = k := by simp
end
end Mi

set_option Elab.async false
set_option linter.all false
set_option maxRecDepth 100000
set_option maxHeartbeats 400000
namespace Mi
open PySem PySem.Spec PyProof.Rows L2
section
variable {X : Cx} {G : Gm} {e o i tg c : Expr} {st : Stmt} {rest body : List Stmt} {me mo mi mc : Loc → M Val} {m mr mb : Loc → M Out} {pos pos' : Pos}
/-! ### for -/
theorem ss_for {tgI : List Nat} {mw : Loc → M (Src × List Val)} (hK : X.K = G.c.K) (hp : PassesOwn (model X.prog X.w) X.A X.env X.xe) (hc : X.calm = true) (hi : SI X G tg e mw) (hg : PG X tg (tgG X.K tgI)) (hb : SSs X G body mb) (hs : ∀ x, foldedSetIterable e X.env x = pure x) :
    SS X G (.For tg e body [] pos) (fun ρ => bnd (mw ρ) fun p => forGo p.1 tgI mb p.2 ρ) := by
  have PIx : PI X tg e (fun σ' H' R => ∃ F ρ h Q' E', RelL G H' ρ σ' ∧ Rep G.c F h H' ∧ Acc X G F ρ σ' H' E' ∧ mw ρ Q' E' h ∧ ∀ J H2, WD G F ρ σ' H' Q' J H2 → R J H2) :=
    ⟨fun pins s σ' H' R I ⟨F, ρ, h, Q', E', r, q, a, hm, k⟩ => thn (hi.run pins s σ' H' ρ h Q' E' ⟨I, r, q, a⟩ hm) fun u s1 z => thn z fun v s2 ⟨it, fp, tn, J, H2, e, I2, t, t0, hf, wd⟩ => ⟨it, fp, tn, J, H2, e, I2, t, t0, hf, k J H2 wd⟩⟩
  refine ss_of (ps_for (pos := pos) hp hc PIx hg hb.pss hs) fun F σ0 H0 ρ0 h0 Q E r q ac w => ⟨F, ρ0, h0, _, E, r, q, ac.at, w, ?_⟩
  rintro J H1 ⟨src, l, h1, k, l1, r1, q1, w1⟩
  have w1 : forGo src tgI mb l ρ0 Q E h1 := w1
  refine ⟨fun i mm σ H => ∃ (h : CH) (ρ : Loc), mm = l.length - i ∧ i ≤ l.length ∧ Le H1 H ∧ RelL G H ρ σ ∧ Rep G.c F h H ∧ forGo src tgI mb (l.drop i) ρ Q E h, ⟨l.length, h1, ρ0, rfl, Nat.zero_le _, .refl _, r1, q1, w1⟩, ?_⟩
  rintro i mm σ H ⟨h, ρ, em, hi, le, r, q, w⟩
  by_cases e : i < l.length
  · obtain ⟨v, ev⟩ := get_of_lt e
    have ed : l.drop i = v :: l.drop (i + 1) := by
      rw [List.drop_eq_getElem_cons e]
      rw [List.getElem?_eq_getElem e] at ev
      cases ev; rfl
    rw [ed] at w
    obtain ⟨ok, w⟩ := w
    refine .inr ⟨k.go _ i h H le q ok e, fun σ' H' => ∃ m', m' < mm ∧ ∃ (h : CH) (ρ : Loc), m' = l.length - (i + 1) ∧ i + 1 ≤ l.length ∧ Le H1 H' ∧ RelL G H' ρ σ' ∧ Rep G.c F h H' ∧ forGo src tgI mb (l.drop (i + 1)) ρ Q E h, fun σ' H' q => q, fun x H2 hy => ?_⟩
    obtain ⟨l2, q2, v', ev', dv⟩ := k.yld _ i h H x H2 le q ok hy e
    rw [ev] at ev'
    cases ev'
    split at w
    · exact w.elim
    · rename_i ρ' eb
      refine tgG_ok hK dv (r.mono l2) eb fun σ' rl hlen hj => ?_
      refine ⟨F, ρ', h, _, E, rl, q2, ac.mono ((l1.trans le).trans l2), w, ?_, ?_, ?_⟩
      · rintro σ3 H3 ⟨ρ3, h3, l3, r3, q3, w3⟩
        exact ⟨l.length - (i + 1), by omega, h3, ρ3, rfl, e, (le.trans l2).trans l3, r3, q3, w3⟩
      · rintro x3 H3 ⟨v3, h3, l3, d3, q3, w3⟩
        exact ⟨v3, h3, ((l1.trans le).trans l2).trans l3, d3, q3, w3⟩
      · rintro σ3 H3 ⟨ρ3, h3, l3, r3, q3, w3⟩
        exact ⟨l.length - (i + 1), by omega, h3, ρ3, rfl, e, (le.trans l2).trans l3, r3, q3, w3⟩
  · have ed : l.drop i = [] := List.drop_eq_nil_of_le (by omega)
    rw [ed] at w
    obtain ⟨ok, w⟩ := w
    exact .inl ⟨k.stop _ i h H le q ok (by omega), ρ, h, l1.trans le, r, q, w⟩
/-! ### while -/
theorem ss_while (hp : PassesOwn (model X.prog X.w) X.A X.env X.xe) (hc : ST X G c mc) (hb : SSs X G body mb) :
    SS X G (.While c body [] pos) (fun ρ => fun Q E h => ∃ n, whileN (fun ρ' => bnd (mc ρ') truthM) mb n ρ Q E h) := by
  refine ss_of (ps_while (pos := pos) hp hc.pt hb.pss) fun F σ0 H0 ρ0 h0 Q E r q ac w => ?_
  obtain ⟨n, w⟩ := w
  refine ⟨fun n σ H => ∃ (h : CH) (ρ : Loc), Le H0 H ∧ RelL G H ρ σ ∧ Rep G.c F h H ∧ whileN (fun ρ' => bnd (mc ρ') truthM) mb n ρ Q E h, ⟨n, h0, ρ0, .refl _, r, q, w⟩, ?_⟩
  rintro n σ H ⟨h, ρ, le, r, q, w⟩
  cases n with
  | zero => exact (show False from w).elim
  | succ n =>
    have w : (bnd (mc ρ) truthM) (fun b h1 => if b = true then mb ρ (fun o h2 => match o with
      | .nx ρ2 => whileN (fun ρ' => bnd (mc ρ') truthM) mb n ρ2 Q E h2
      | .ct ρ2 => whileN (fun ρ' => bnd (mc ρ') truthM) mb n ρ2 Q E h2
      | .rt v => Q (.rt v) h2) E h1 else Q (.nx ρ) h1) E h := w
    refine ⟨F, ρ, h, _, _, E, r, q, (ac.mono le).at, w, fun x h1 w1 => truthM_some w1, fun b h1 H1 l1 r1 q1 w1 => ?_⟩
    cases b with
    | false =>
      rw [if_neg (by decide)] at w1
      rw [if_neg (by decide)]
      exact ⟨ρ, h1, le.trans l1, r1, q1, w1⟩
    | true =>
      rw [if_pos rfl] at w1
      rw [if_pos rfl]
      refine ⟨fun σ' H' => ∃ m', m' < n + 1 ∧ ∃ (h : CH) (ρ : Loc), Le H0 H' ∧ RelL G H' ρ σ' ∧ Rep G.c F h H' ∧ whileN (fun ρ' => bnd (mc ρ') truthM) mb m' ρ Q E h, fun σ' H' q => q, F, ρ, h1, _, E, r1, q1, ac.mono (le.trans l1), w1, ?_, ?_, ?_⟩
      · rintro σ3 H3 ⟨ρ3, h3, l3, r3, q3, w3⟩
        exact ⟨n, Nat.lt_succ_self n, h3, ρ3, (le.trans l1).trans l3, r3, q3, w3⟩
      · rintro x3 H3 ⟨v3, h3, l3, d3, q3, w3⟩
        exact ⟨v3, h3, (le.trans l1).trans l3, d3, q3, w3⟩
      · rintro σ3 H3 ⟨ρ3, h3, l3, r3, q3, w3⟩
        exact ⟨n, Nat.lt_succ_self n, h3, ρ3, (le.trans l1).trans l3, r3, q3, w3⟩
/-! ### o[i] = e -/
theorem pset_or {t u : TSet} (h : PSet X t) (h' : PSet X u) : PSet X (fun o i v H Q => t o i v H Q ∨ u o i v H Q) := by
  intro pins s σ H o i v ov iv w Q I ro ri rv q
  rcases q with q | q
  · exact h pins s σ H o i v ov iv w Q I ro ri rv q
  · exact h' pins s σ H o i v ov iv w Q I ro ri rv q
theorem kyV_rel {H : Hp} {k : Key} {v : Val} {x : V} (d : RelD G.c H v x) (e : keyV v = some k) : RelD G.c H (kyV k) (kV k) ∧ keyV (kyV k) = some k := by
  cases v with
  | int i => cases e; exact ⟨rfl, rfl⟩
  | str z => cases e; exact ⟨⟨rfl, d.2⟩, rfl⟩
  | _ => cases e
theorem put_rel {H : Hp} {kvs : List (Val × Val)} {ks : List (Key × V)} {k : Key} {v : Val} {x : V} (r : RelKV G.c H kvs ks) (d : RelD G.c H v x) (hk : keyV (kyV k) = some k) : RelKV G.c H (putAt kvs k v) (putK ks k x) := by
  have e : (kvs.any fun p => decide (keyV p.1 = some k)) = ks.any fun kv => decide (kv.1 = k) := by
    induction r with
    | nil => rfl
    | cons h _ ih =>
      rw [List.any_cons, List.any_cons, ih, h.1]
      simp only [Option.some.injEq]
  unfold putAt putK
  rw [e]
  split
  · rename_i hh
    clear e hh
    induction r with
    | nil => exact .nil
    | @cons p q l m h _ ih =>
      rw [List.map_cons, List.map_cons]
      refine .cons ?_ ih
      rw [h.1]
      simp only [Option.some.injEq]
      split
      · exact ⟨h.1, d⟩
      · exact h
  · rename_i hh
    clear e hh
    induction r with
    | nil => exact .cons ⟨hk, d⟩ .nil
    | cons h _ ih => exact .cons h ih
theorem ss_setI (hu : X.A.units + 1 < cLine) (he : SE X G e me) (ho : SE X G o mo) (hi : SE X G i mi) (hs : swapsWithSole [.Subscript o i pos'] e pos.line X.env = pure false)
    (ha : ∀ v, assign (.Subscript o i pos') X.env v = (do
      let ov ← holding [v] (eval o X.env)
      let iv ← holding [v, ov] (eval i X.env)
      standAt pos'
      holding [v, ov, iv] (setItem ov iv v)
      release [v, ov, iv] [])) : SS X G (.Assign [.Subscript o i pos'] e pos) (fun ρ => bnd (me ρ) fun v => bnd (mo ρ) fun x => bnd (mi ρ) fun y => bnd (setIM x y v) fun _ => ret (.nx ρ)) := by
  refine ss_of (ps_asg he.pe (pg_sub ho.pe hi.pe (pset_or set_list (set_dict hu)) ha) hs rfl rfl) fun F σ H ρ h Q E r q ac w => qd_of r q ac w fun v h1 x H1 l1 d1 r1 q1 w1 => ?_
  refine qd_of r1 q1 (ac.mono l1) w1 fun a h2 z H2 l2 d2 r2 q2 w2 => ?_
  refine qd_of r2 q2 (ac.mono (l1.trans l2)) w2 fun b h3 y H3 l3 d3 r3 q3 w3 => ?_
  have d1 := RelD.mono (l2.trans l3) _ _ d1
  have d2 := RelD.mono l3 _ _ d2
  have w5 : setIM a b v (fun _ h' => Q (.nx ρ) h') E h3 := w3
  unfold setIM at w5
  obtain ⟨p, ep, w4⟩ := opt_some w5
  clear w3 w5
  have := refOf_some ep
  subst this
  cases d2
  have fin : ∀ (u : HO) (oo co : CO), h3 p = some oo → isAb oo = false → isAb co = false → (∃ w, H3 p = some w ∧ MutO w) → RelCO G.c (upd H3 p u) p co → Q (.nx ρ) (h3.set p co) → (EndsOf G F H Q).nx σ (upd H3 p u) := by
    intro u oo co e1 c1 c2 ⟨w, e2, m⟩ rc wq
    have le : Le H3 (upd H3 p u) := .set e2 m
    exact ⟨ρ, h3.set p co, ((l1.trans l2).trans l3).trans le, r3.mono le, q3.write e1 c1 c2 rc, wq⟩
  split at w4
  · rename_i l el
    obtain ⟨xs, hp, dl⟩ := q3.lst el
    split at w4
    · rename_i j ej
      obtain ⟨k, ek, ej⟩ := Option.bind_eq_some_iff.mp ej
      have := intOf_some ek
      subst this
      cases d3
      have mx : MutO (.lst xs) := (by first | exact mutL | exact mutD)
      have le : Le H3 (upd H3 p (.lst (xs.set j x))) := .set hp mx
      exact .inl ⟨p, xs, k, j, rfl, rfl, hp, by rw [dl.length]; exact ej, fin (.lst (xs.set j x)) _ (.list (l.set j v)) el rfl rfl ⟨_, hp, mx⟩ ⟨_, upd_same, (dl.set d1 j).mono le⟩ w4⟩
    · exact w4.elim
  · rename_i kvs el
    obtain ⟨_, ks, hp, rk⟩ := q3.conc el rfl
    split at w4
    · rename_i k ek
      have ey := keyV_rel d3 ek
      subst ey
      have mx : MutO (.dK ks) := (by first | exact mutL | exact mutD)
      have le : Le H3 (upd H3 p (.dK (putK ks k x))) := .set hp mx
      have rk2 := put_rel rk d1 (kyV_rel d3 ek).2
      exact .inr ⟨p, _, rfl, .inl ⟨ks, k, hp, rfl, by rw [kv_len rk]; exact w4.1, rfl⟩, fin (.dK (putK ks k x)) _ (.dict false (putAt kvs k v)) el rfl rfl ⟨_, hp, mx⟩ ⟨rfl, _, upd_same, Paired.imp (fun _ _ q => ⟨q.1, RelD.mono le _ _ q.2⟩) rk2⟩ w4.2⟩
    · exact w4.elim
  · exact w4.elim
end
end Mi

set_option Elab.async false
set_option linter.all false
set_option maxRecDepth 100000
set_option maxHeartbeats 400000
namespace Mi
open PySem PySem.Spec PyProof.Rows L2
section
variable {X : Cx} {G : Gm} {elt tg iter : Expr} {ifs : List Expr} {scope : Scope} {own : List (Str × Nat)} {pos spos py : Pos} {mi : Loc → M (Src × List Val)} {mt : Loc → M Bool} {me : Loc → M Val} {tgI : List Nat}
theorem inv_freeze {pins : List (Addr × Obj)} {σ : L2.St} {H : Hp} {s : Shared} {p : Addr} {xs : List V} (I : Inv X pins σ H s) (hp : H p = some (.lst xs)) : ∃ o, Inv X pins σ (upd H p (.frz o (.lst xs))) s := by
  have ok := I.hok p _ hp
  obtain ⟨hz, its, n, vs, e⟩ := id ok
  refine ⟨{ cls := .type "list", data := .seq its.toArray n }, ?_⟩
  have := I.write (x := p) (e := p) (o := .frz { cls := .type "list", data := .seq its.toArray n } (.lst xs)) (h' := s.heap) (t' := s.toks) (by rw [hp]; trivial) (.inl rfl) (fun _ _ _ q => q) ⟨_, e⟩ ⟨e, hz, its, n, vs, e⟩
  exact this
def frD (D : Ends) : Ends where
  nx := fun σ' H' => ∃ p xs, H' p = some (.lst xs) ∧ ∀ o, D.nx σ' (upd H' p (.frz o (.lst xs)))
  rt := fun _ _ => False
theorem sp_freeze {pins : List (Addr × Obj)} {D : Ends} {f : Flow} {s' : Shared} (e : SP X pins (frD D) f s') : SP X pins D f s' := by
  cases f with
  | next =>
    obtain ⟨σ', H', I, p, xs, hp, k⟩ := e
    obtain ⟨o, I2⟩ := inv_freeze I hp
    exact ⟨σ', _, I2, k o⟩
  | brk => obtain ⟨σ', H', I, q⟩ := e; exact q.elim
  | cont => obtain ⟨σ', H', I, q⟩ := e; exact q.elim
  | ret u => obtain ⟨v, σ', H', I, rv, q⟩ := e; exact q.elim
/-- name = [..] on one line -/
theorem ss_setLc {j : Nat} {y : Str} (hK : X.K = G.c.K) (hc : X.calm = true) (hN : X.N.Nodup) {m : Bool} (hy : X.N[j]? = some y) (hyl : X.env.scope.names.lookup y = some .local) (hi : SI X G tg iter mi) (ok : BlkOk X.N X.env.scope scope own) (hown : own.map (·.2) = tgI)
    (hsw : swapsWith (.ListComp elt [⟨tg, iter, ifs, 0⟩] scope pos) (some (.Name y py)) spos.line X.env = pure true)
    (hg : ∀ (s : Shared) (H : Hp) (C : Addr) (cl : List (Str × Addr)) (fp : List Addr), PG (X.blk s H scope (compEnvC scope cl C X.env) fp) tg (tgG X.K tgI))
    (ht : ∀ (s : Shared) (H : Hp) (C : Addr) (cl : List (Str × Addr)) (fp : List Addr), PTs (X.blk s H scope (compEnvC scope cl C X.env) fp) ifs (rdT0 G mt))
    (he : ∀ (s : Shared) (H : Hp) (C : Addr) (cl : List (Str × Addr)) (fp : List Addr), SE (X.blk s H scope (compEnvC scope cl C X.env) fp) G elt me) (hs : ∀ x, foldedSetIterable iter X.env x = pure x) :
    SS X G (.Assign [.Name y py] (.ListComp elt [⟨tg, iter, ifs, 0⟩] scope pos) spos) (fun ρ => bnd (bnd (mi ρ) fun p => compM m tgI mt me ρ p) fun v => ret (.nx (setV ρ j v))) := by
  subst hown
  refine ⟨fun pins s σ H ρ h Q E A w => ?_⟩
  rename_i F
  have PIx : PI X tg iter (fun σ' H' R => ∃ F ρ h Q' E', RelL G H' ρ σ' ∧ Rep G.c F h H' ∧ Acc X G F ρ σ' H' E' ∧ mi ρ Q' E' h ∧ ∀ J H2, WD G F ρ σ' H' Q' J H2 → R J H2) :=
    ⟨fun pins s σ' H' R I ⟨F, ρ, h, Q', E', r, q, a, hm, k⟩ => thn (hi.run pins s σ' H' ρ h Q' E' ⟨I, r, q, a⟩ hm) fun u s1 z => thn z fun v s2 ⟨it, fp, tn, J, H2, e, I2, t, t0, hf, wd⟩ => ⟨it, fp, tn, J, H2, e, I2, t, t0, hf, k J H2 wd⟩⟩
  have P := ps_setLc (pos := pos) (spos := spos) hc hN hy hyl hsw PIx ok hg ht (fun s H C cl fp => (he s H C cl fp).pe0) hs
  cases m with
  | true =>
    refine P.run pins s σ H _ A.inv ⟨F, ρ, h, _, E, A.loc, A.rep, A.acc.at, w, ?_⟩
    rintro J H1 ⟨src, l, h1, k, l1, r1, q1, w1⟩ D n
    have fn := q1.fr_free n
    have w1 : compM true (own.map (·.2)) mt me ρ (src, l) (fun v h' => Q (.nx (setV ρ j v)) h') (fun _ _ => False) h1 := w1
    refine lc_read (m := true) hK k l1 r1 q1 w1 n fun h' H' acc xs le q da wn => ?_
    have q' : Rep G.c F (h'.set D (.list acc)) H' := q.adopt fn rfl ⟨xs, q.hid, da⟩
    exact ⟨setV ρ j (.ref D), h'.set D (.list acc), l1.trans le, (r1.mono le).set (v := .ref D) rfl j, q', wn D q.hid_free⟩
  | false =>
    refine thn (P.run pins s σ H (frD (EndsOf G F H Q)) A.inv ⟨F, ρ, h, _, E, A.loc, A.rep, A.acc.at, w, ?_⟩) fun f s' e => sp_freeze e
    rintro J H1 ⟨src, l, h1, k, l1, r1, q1, w1⟩ D n
    have fn := q1.fr_free n
    have w1 : compM false (own.map (·.2)) mt me ρ (src, l) (fun v h' => Q (.nx (setV ρ j v)) h') (fun _ _ => False) h1 := w1
    refine lc_read (m := false) hK k l1 r1 q1 w1 n fun h' H' acc xs le q da wn => ⟨D, xs, q.hid, fun o => ?_⟩
    have mx : MutO (.lst xs) := (by first | exact mutL | exact mutD)
    have le2 : Le H' (upd H' D (.frz o (.lst xs))) := .set q.hid mx
    have dv : RelD G.c (upd H' D (.frz o (.lst xs))) (.lst acc) (.ref D) := ⟨D, o, xs, rfl, upd_same, da.mono le2⟩
    exact ⟨setV ρ j (.lst acc), h', (l1.trans le).trans le2, (r1.mono (le.trans le2)).set dv j, q.freeze fn, wn⟩
/-- what the raising of a class asks -/
structure RaiseOk (X : Cx) (G : Gm) (c : Nat) (x : Str) : Prop where
  g : Gl X x
  d : (x == ("__debug__" : Str)) = false
  m : X.mg x = some (.ref (G.c.ca c))
  q : PySem.W.excIn X.K (G.c.ca c) [.type "ValueError", .type "Exception", .type "BaseException", .type "object"] "ValueError.__new__" = true
  k : PySem.W.keepIn X.K (.ref (G.c.ca c)) = true
  s : PySem.W.subIn X.K (.ref (G.c.ca c)) (.type "BaseException") = some true
  t : PySem.W.typeIn X.K (.ref (G.c.ca c)) = some (.type "type")
theorem ss_raise {c : Nat} {x : Str} {m : Str} {j : Nat} {p p2 p3 : Pos} (hc : X.calm = true) (r : RaiseOk X G c x) : SS X G (.Raise (some (.Call (.Name x p) [.Constant (.str m) j p2] [] p3)) none pos) (fun _ => raiseM c) := by
  refine ⟨fun pins s σ H ρ h Q E A w => ?_⟩
  obtain ⟨W, tk, k⟩ := A.acc
  have P := ps_raise (pos := pos) hc tk (pmk_own (m := m) (j := j) (p := p) (p2 := p2) (pos := p3) PySem.F.excBase_ValueError r.q r.m r.k (raises_own r.s r.t) r.g r.d)
  exact P.run pins s σ H _ A.inv (k c h H σ (.refl _) A.rep w)
end
end Mi

set_option Elab.async false
set_option linter.all false
set_option maxRecDepth 100000
set_option maxHeartbeats 400000
namespace Mi
open PySem PySem.Spec PyProof.Rows L2
/-- a def's promise, told of the frames and the heap at the entry -/
abbrev SpG := List Env → Heap → List V → Hp → VK → XK → Prop
structure FG (P : Program) (w : World) (K : PySem.W.Frag) (mg : Str → Option Value) (base : Heap) (k : Nat) (f : Addr) (fd : FuncData) (ps : List Str) (sp : SpG) : Prop where
  len : ∀ o h vs H Q E, sp o h vs H Q E → vs.length = ps.length
  run : ∀ (A : Around) (outer : List Env) (s : Shared) (H : Hp) (args : Args) (us : List Value) (vs : List V) (Q : VK) (E : XK), A.guards = some [] → Room k A → Env0 P w K mg base A outer s H → BindsTo s fd args (ps.zip us) → Vals vs us → sp outer s.heap vs H Q E →
    codeAny (model P w) A (.call (.ref f) args) (CR (L2.CX P w) outer P w H s Q E) s
theorem FG.mono {P : Program} {w : World} {K : PySem.W.Frag} {mg : Str → Option Value} {base : Heap} {j k : Nat} {f : Addr} {fd : FuncData} {ps : List Str} {sp : SpG} (F : FG P w K mg base j f fd ps sp) (h : j ≤ k) : FG P w K mg base k f fd ps sp :=
  ⟨F.len, fun A outer s H args us vs Q E hg hr => F.run A outer s H args us vs Q E hg (hr.mono h)⟩
theorem FG.imp {P : Program} {w : World} {K : PySem.W.Frag} {mg : Str → Option Value} {base : Heap} {k : Nat} {f : Addr} {fd : FuncData} {ps : List Str} {sp sp' : SpG} (F : FG P w K mg base k f fd ps sp) (h : ∀ o h vs H Q E, sp' o h vs H Q E → sp o h vs H Q E) : FG P w K mg base k f fd ps sp' :=
  ⟨fun o b vs H Q E q => F.len o b vs H Q E (h _ _ _ _ _ _ q), fun A outer s H args us vs Q E hg hr he hb hv hs => F.run A outer s H args us vs Q E hg hr he hb hv (h _ _ _ _ _ _ hs)⟩
theorem deeper_guards {A : Around} {env : Env} (h : A.guards = some []) : (A.deeper env).guards = some [] := by
  obtain ⟨_, _, _, _, _⟩ := A
  simpa [Around.deeper] using h
/-- the context of a def's body -/
abbrev dcx (P : Program) (w : World) (K : PySem.W.Frag) (mg : Str → Option Value) (base : Heap) (N : List Str) (qual : Str) (scope : Scope) (f : Addr) (cd : Value) (A : Around) (outer : List Env) (s : Shared) (H : Hp) (E : XK) : Cx := cxOf (L2.CX P w) P w K mg base N qual scope f cd A outer s H E
theorem fg_of {P : Program} {w : World} {K : PySem.W.Frag} {mg : Str → Option Value} {base : Heap} {k : Nat} {f : Addr} {fd : FuncData} {name qual : Str} {params : Arguments} {body : List Stmt} {scope : Scope} {dvs : List V} {kws : List (Str × V)} {N ps : List Str} {sp : SpG}
    (F : FunD K name qual params body scope dvs kws f fd) (S : FnScope N ps scope) (len : ∀ o h vs H Q E, sp o h vs H Q E → vs.length = ps.length)
    (hbody : ∀ (cdv : Value) (A : Around) (outer : List Env) (s : Shared) (H : Hp) (vs : List V) (Q : VK) (E : XK), fd.code = cdv → K.lookup f ≠ none → A.guards = some [] → Room k (A.deeper (envOfC qual scope s.heap.objs.size f cdv)) → sp outer s.heap vs H Q E →
      ∃ t, PSs (dcx P w K mg base N qual scope f cdv A outer s H E) body t ∧ t { nx := fun _ H' => Q .non H', rt := Q } (L2.start N vs) H) : FG P w K mg base (k + 1) f fd ps sp := by
  obtain ⟨oc, od, dV, kV, doc, pm, an, cdv, ct, osl, rfl, lk, hcd, _, _⟩ := F.ex
  refine ⟨len, fun A outer s H args us vs Q E hg hr e0 hb r hsp => ?_⟩
  have hl := len _ _ _ _ _ _ hsp
  have KX : K.In s.heap := e0.mod.kin.keeps fun b o e => (e0.bs b o e).1
  have lim : s.heap.NoLimit := e0.mod.nolimit.keeps fun b o e => (e0.bs b o e).1
  have hkind : ∀ y ∈ ps.zip us, scope.names.lookup y.1 = some .local ∨ (scope.names.lookup y.1 = some .cell ∧ ((cellsFrom (s.heap.objs.size + 1) scope.names []).lookup y.1).isSome = true) := fun ⟨n, v⟩ hy => by
    rcases S.par n (List.of_mem_zip hy).1 with q | q
    · exact .inl q
    · exact .inr ⟨q, PySem.W.cellsFrom_some _ _ _ (.inl q)⟩
  refine codeAny_call_function hr.depth (KX _ _ lk) rfl S.co S.gen rfl (PySem.W.codeRec_of KX hcd) (hb _ _ _ _ ?_)
  refine wpAny_newFunctionEnv_cells S.kind hkind fun env he s1 x => ?_
  subst he
  refine ⟨lim.keeps x.toInCall.keep, codeAny_func ?_⟩
  obtain ⟨t, ht, hq⟩ := hbody cdv A outer s H vs Q E rfl (by rw [lk]; nofun) hg (hr.deeper _) hsp
  have I : Inv (dcx P w K mg base N qual scope f cdv A outer s H E) [] (L2.start N vs) H s1 := inv_start S hr.hd e0 hl r x
  refine wpAny_mono (ht.run [] s1 (L2.start N vs) H _ I hq) (fun fl s' hs => ?_) fun e s' hs => hs
  have fin : ∀ {σ' : L2.St} {H' : Hp} {v : V} {u : Value}, Inv (dcx P w K mg base N qual scope f cdv A outer s H E) [] σ' H' s' → L2.RelV v u → Q v H' → CE outer P w H s Q u s' :=
    fun {σ' H' v u} J rv q => ⟨v, H', J.os, J.bare, J.base, J.hok, rv, q⟩
  cases fl with
  | ret u =>
    obtain ⟨v, σ', H', J, rv, q⟩ := hs
    exact fin J rv q
  | next =>
    obtain ⟨σ', H', J, q⟩ := hs
    exact fin (v := V.non) (u := Value.none) J rfl q
  | brk =>
    obtain ⟨_, _, _, q⟩ := hs
    exact False.elim q
  | cont =>
    obtain ⟨_, _, _, q⟩ := hs
    exact False.elim q
/-! ### what the clean world promises -/
inductive RelSs (G : Gm) (H : Hp) : List Sl → List V → Prop where
  | nil : RelSs G H [] []
  | cons {s : Sl} {x : V} {ss : List Sl} {xs : List V} : RelS G H s x → RelSs G H ss xs → RelSs G H (s :: ss) (x :: xs)
theorem RelSs.length {G : Gm} {H : Hp} : ∀ {ss : List Sl} {xs : List V}, RelSs G H ss xs → xs.length = ss.length
  | _, _, .nil => rfl
  | _, _, .cons _ t => by simp [RelSs.length t]
theorem RelSs.get {G : Gm} {H : Hp} : ∀ {ss : List Sl} {xs : List V} {i : Nat} {s : Sl}, RelSs G H ss xs → ss[i]? = some s → ∃ x, xs[i]? = some x ∧ RelS G H s x
  | _, _, i, s, .nil, e => by simp at e
  | _, _, 0, s, .cons h t, e => by simp at e; subst e; exact ⟨_, rfl, h⟩
  | _, _, i + 1, s, .cons h t, e => by
    obtain ⟨x, h1, h2⟩ := RelSs.get (i := i) t (by simpa using e)
    exact ⟨x, by simpa using h1, h2⟩
theorem RelSs.of {G : Gm} {H : Hp} : ∀ {vs : List Val} {xs : List V}, RelDs G.c H vs xs → RelSs G H (vals vs) xs
  | [], _, h => by cases h; exact .nil
  | v :: vs, _, h => by
    obtain ⟨x, r, rfl, h1, h2⟩ := h
    exact .cons h1 (RelSs.of h2)
theorem RelSs.append {G : Gm} {H : Hp} {s : Sl} {x : V} : ∀ {ss : List Sl} {xs : List V}, RelSs G H ss xs → RelS G H s x → RelSs G H (ss ++ [s]) (xs ++ [x])
  | _, _, .nil, h => .cons h .nil
  | _, _, .cons a t, h => .cons a (RelSs.append t h)
def Gm.at (G : Gm) (o : List Env) (h : Heap) (H : Hp) : Gm := { G with h0 := h, H0 := H, fs0 := frs o }
def spD (G : Gm) (n : Nat) (m : List Sl → M Val) : SpG := fun o h0 vs H Q E => vs.length = n ∧ ∃ (F : Frm) (h : CH) (ss : List Sl) (Q' : Val → CH → Prop) (E' : Nat → CH → Prop), RelSs (G.at o h0 H) H ss vs ∧ Rep G.c F h H ∧ m ss Q' E' h ∧
  (∀ v h' x H', Le H H' → RelD G.c H' v x → Rep G.c F h' H' → Q' v h' → Q x H') ∧ ∀ c h' H', Le H H' → Rep G.c F h' H' → E' c h' → E (.ref (G.c.ca c)) none H'
theorem loc_start {G : Gm} {H : Hp} {N : List Str} {ss : List Sl} {vs : List V} (r : RelSs G H ss vs) (hl : vs.length ≤ N.length) : RelL G H (Mi.start N.length ss) (L2.start N vs) := by
  have e := r.length
  refine ⟨?_, fun i s h => ?_⟩
  · simp only [Mi.start, L2.start, List.length_append, List.length_map, List.length_replicate]; omega
  · unfold Mi.start at h
    unfold L2.start
    by_cases hi : i < ss.length
    · rw [List.getElem?_append_left (by simpa using hi), List.getElem?_map] at h
      rw [List.getElem?_append_left (by rw [List.length_map, e]; exact hi), List.getElem?_map]
      cases q : ss[i]? with
      | none => rw [q] at h; cases h
      | some s' =>
        rw [q] at h
        cases h
        obtain ⟨x, h1, h2⟩ := r.get q
        exact ⟨x, by rw [h1]; rfl, h2⟩
    · rw [List.getElem?_append_right (by simpa using hi), List.getElem?_replicate] at h
      split at h <;> cases h
/-- a def of the text -/
theorem fg_code {P : Program} {w : World} {K : PySem.W.Frag} {mg : Str → Option Value} {base : Heap} {k : Nat} {f : Addr} {fd : FuncData} {name qual : Str} {params : Arguments} {body : List Stmt} {scope : Scope} {dvs : List V} {kws : List (Str × V)} {N ps : List Str} {G : Gm} {D : DG} {g : Fun}
    (F : FunD K name qual params body scope dvs kws f fd) (S : FnScope N ps scope) (hp : g.ps = ps.length) (hn : g.n = N.length)
    (hb : ∀ (cdv : Value) (A : Around) (outer : List Env) (s : Shared) (H : Hp) (E : XK), fd.code = cdv → A.guards = some [] → Room k (A.deeper (envOfC qual scope s.heap.objs.size f cdv)) →
      SSs (dcx P w K mg base N qual scope f cdv A outer s H E) (G.at outer s.heap H) body (denSs D g.body)) : FG P w K mg base (k + 1) f fd ps (spD G ps.length (runFun D g)) := by
  refine fg_of F S (fun o h vs H Q E q => q.1) fun cdv A outer s H vs Q E hcd _ hg hr ⟨hl, Fr, h, ss, Q', E', rs, q, w, kQ, kE⟩ => ?_
  refine ⟨_, (hb cdv A outer s H E hcd hg hr).pss, ?_⟩
  have hN : ps.length ≤ N.length := by have := congrArg List.length S.pre; rw [List.length_take] at this; omega
  have rl := loc_start (N := N) rs (by omega)
  have hs : ss.length = g.ps := by rw [hp, ← hl, rs.length]
  unfold runFun at w
  rw [if_pos hs, hn] at w
  have w2 : ∃ (Q2 : Out → CH → Prop) (E2 : Nat → CH → Prop), denSs D g.body (Mi.start N.length ss) Q2 E2 h ∧ (∀ ρ h', Q2 (.nx ρ) h' → ∃ h2, (∀ H', Rep G.c Fr h' H' → Rep G.c Fr h2 H') ∧ Q' .non h2) ∧ (∀ v h', Q2 (.rt v) h' → ∃ h2, (∀ H', Rep G.c Fr h' H' → Rep G.c Fr h2 H') ∧ Q' v h2) ∧ (∀ ρ h', ¬ Q2 (.ct ρ) h') ∧
      ∀ c h', E2 c h' → ∃ h2, (∀ H', Rep G.c Fr h' H' → Rep G.c Fr h2 H') ∧ E' c h2 := by
    unfold dropM at w
    split at w
    · exact ⟨_, _, w, fun ρ h' z => ⟨_, fun H' r => r.keep, z⟩, fun v h' z => ⟨_, fun H' r => r.keep, z⟩, fun ρ h' z => z, fun c h' z => ⟨_, fun H' r => r.keep, z⟩⟩
    · exact ⟨_, _, w, fun ρ h' z => ⟨h', fun H' r => r, z⟩, fun v h' z => ⟨h', fun H' r => r, z⟩, fun ρ h' z => z, fun c h' z => ⟨h', fun H' r => r, z⟩⟩
  obtain ⟨Q2, E2, w2, k1, k2, k3, k4⟩ := w2
  refine ⟨Fr, _, h, Q2, E2, rl, q, ⟨fun cls d _ H' => E cls d H', takes_of rfl rfl rfl rfl, fun c h' H' σ' l r z => ?_⟩, w2, ?_, ?_, ?_⟩
  · obtain ⟨h2, r2, z2⟩ := k4 c h' z
    exact kE c h2 H' l (r2 H' r) z2
  · rintro σ' H' ⟨ρ', h', l, r', q', w'⟩
    obtain ⟨h2, r2, z2⟩ := k1 ρ' h' w'
    exact kQ .non h2 .non H' l rfl (r2 H' q') z2
  · rintro x H' ⟨v, h', l, d, q', w'⟩
    obtain ⟨h2, r2, z2⟩ := k2 v h' w'
    exact kQ v h2 x H' l d (r2 H' q') z2
  · rintro σ' H' ⟨ρ', h', l, r', q', w'⟩
    exact (k3 ρ' h' w').elim
/-! ### calls -/
/-- the frame's ground is the clean world's -/
structure GX (X : Cx) (G : Gm) : Prop where
  h : G.h0 = X.s_0.heap
  H : G.H0 = X.H_0
  fs : G.fs0 = X.fs
/-- a def of the table -/
structure FnT (X : Cx) (G : Gm) (call : Nat → List Sl → M Val) (k : Nat) (f n : Nat) : Prop where
  ex : ∃ (fd : FuncData) (ps : List Str), FG X.prog X.w X.K X.mg X.base k (G.c.fa f) fd ps (spD G n (call f)) ∧ Binds X.K fd ps [] ∧ ps.length = n
  kp : PySem.W.keepIn X.K (.ref (G.c.fa f)) = true
section
variable {X : Cx} {G : Gm} {e a b : Expr} {es : List Expr} {call : Nat → List Sl → M Val} {k f n : Nat} {mes : Loc → M (List Val)} {pos p : Pos} {x : Str}
theorem RelS.ground {o : List Env} {h : Heap} {H0 H : Hp} {v : Val} {y : V} (d : RelD G.c H v y) : RelS (G.at o h H0) H (.v v) y := d
theorem RelSs.ground {o : List Env} {h : Heap} {H0 H : Hp} {vs : List Val} {ys : List V} (d : RelDs G.c H vs ys) : RelSs (G.at o h H0) H (vals vs) ys := RelSs.of (G := G.at o h H0) d
/-- the callee runs: args are slots -/
theorem run_fg {F : Frm} {pins : List (Addr × Obj)} {s : Shared} {σ : L2.St} {H : Hp} {ρ : Loc} {h : CH} {Q : Val → CH → Prop} {E : Nat → CH → Prop} {us : List Value} {vs : List V} {ss : List Sl} (A : At X G F pins ρ h σ H E s) (T : FnT X G call k f n) (hg : X.A.guards = some []) (hr : Room k X.A)
    (r : Vals vs us) (rs : RelSs (G.at X.stack s.heap H) H ss vs) (hn : vs.length = n) (w : call f ss Q E h) : wpAny (model X.prog X.w) X.A (PySem.call (.ref (G.c.fa f)) us) (EP X pins σ (QD G F ρ σ H Q)) X.xe s := by
  obtain ⟨fd, ps, FF, hb, hl⟩ := T.ex
  obtain ⟨W, tk, kE⟩ := A.acc
  have b := hb s us A.inv.kIn (by rw [List.append_nil, ← r.length, hn, hl])
  rw [List.append_nil] at b
  have sp : spD G n (call f) X.stack s.heap vs H (QD G F ρ σ H Q) (WE W σ) :=
    ⟨hn, F, h, ss, Q, E, rs, A.rep, w, fun v h' x H' l d q z => ⟨v, h', l, d, A.loc.mono l, q, z⟩, fun c h' H' l q z => kE c h' H' l q z⟩
  refine wpAny_call (codeAny_mono (FF.run X.A X.stack s H ⟨us, []⟩ us vs _ (WE W σ) hg hr A.inv.env0 b r sp) fun r s' hq => ?_)
  cases r with
  | error e => exact passAt tk σ pins H s e s' A.inv hq
  | ok fl =>
    cases fl with
    | ret u => exact A.inv.after hq
    | next => exact False.elim hq
    | brk => exact False.elim hq
    | cont => exact False.elim hq
theorem se_call (T : FnT X G call k f (e :: es).length) (hg : X.A.guards = some []) (hr : Room k X.A) (gl : Gl X x) (hm : X.mg x = some (.ref (G.c.fa f))) (hdb : (x == ("__debug__" : Str)) = false) (ha : SA X G (e :: es) mes)
    (he : starEach (e :: es) X.env = (false, eval e X.env) :: starEach es X.env) (hpl : (backTo pos (starEach es X.env)).any (·.1) = false) : SE X G (.Call (.Name x p) (e :: es) [] pos) (fun ρ => bnd (mes ρ) fun vs => call f (vals vs)) := by
  refine ⟨fun pins s σ H ρ h Q E A w => ?_⟩
  refine wpAny_Call_Name_kw (ld_glob A.inv gl hm ?_ hdb)
  refine PySem.W.callWith_K (h₀ := X.base) A.inv.ok.mod.kin T.kp (thn (ha.run pos pins s σ H ρ h _ E A w) fun us s1 ⟨xs, H1, I1, rv, vs, h1, n1, l1, d1, r1, q1, w1⟩ => ⟨I1.kIn, ?_⟩) he hpl
  exact thn (run_fg (A.next l1 I1 r1 q1) T hg hr rv (RelSs.ground d1) n1 w1) fun u s2 e => EP.up l1 e
theorem se_call0 (T : FnT X G call k f 0) (hg : X.A.guards = some []) (hr : Room k X.A) (gl : Gl X x) (hm : X.mg x = some (.ref (G.c.fa f))) (hdb : (x == ("__debug__" : Str)) = false) : SE X G (.Call (.Name x p) [] [] pos) (fun ρ => bnd (ret []) fun vs => call f (vals vs)) := by
  refine ⟨fun pins s σ H ρ h Q E A w => ?_⟩
  refine wpAny_Call_Name_kw (ld_glob A.inv gl hm ?_ hdb)
  exact PySem.W.callWith_K0 A.inv.kIn T.kp (run_fg (us := []) A T hg hr .nil .nil rfl w)
end
end Mi

set_option Elab.async false
set_option linter.all false
set_option maxRecDepth 100000
set_option maxHeartbeats 400000
namespace Mi
open PySem PySem.Spec PyProof.Rows L2 LamX NdefX
section
variable {X : Cx} {G : Gm} {call : Nat → List Sl → M Val} {k j n : Nat} {pos p p1 p2 : Pos} {x : Str}
/-! ### closures -/
theorem notStk {pins : List (Addr × Obj)} {σ : L2.St} {H : Hp} {s : Shared} {d : Addr} {o : Obj} (I : Inv X pins σ H s) (h : X.s_0.heap.get? d = some o) (nf : d ∉ X.fs) : d ∉ frs X.stack := fun hb => by
  rcases List.mem_cons.mp (I.stkSub d hb) with e | hb
  · have := I.ok.above
    rw [← e] at this
    exact absurd (Heap.lt_size h) (Nat.not_lt.mpr this)
  · exact nf hb
theorem ClObj.at_ {pins : List (Addr × Obj)} {σ : L2.St} {H : Hp} {s : Shared} {G' : Gm} {q : Addr} {o : Obj} (I : Inv X pins σ H s) (C : ClObj (G'.at X.stack s.heap H) H q o) : s.heap.get? q = some o := by
  rcases C with ⟨e, _, _⟩ | e
  · exact e
  · exact (I.hok q _ e).1
/-- a closure that the frame got, handed on -/
theorem ClosAt.on (gx : GX X G) (hex : X.ex = []) {pins : List (Addr × Obj)} {σ : L2.St} {H : Hp} {s : Shared} {q : Addr} {ws : List Val} (I : Inv X pins σ H s) (C : ClosAt G H q k ws) : ClosAt (G.at X.stack s.heap H) H q k ws := by
  obtain ⟨h1, cl, c, pm, ctv, dv, doc, vs, ho, hd, hc, C2, d, nf⟩ := C
  unfold ClObj at ho
  rw [gx.h, gx.H, gx.fs] at ho
  rw [gx.h, gx.H] at C2
  rw [gx.fs] at nf
  have ne : ∀ b : Addr, b ∉ X.ex := fun b => by rw [hex]; simp
  refine ⟨h1, cl, c, pm, ctv, dv, doc, vs, ?_, hd, hc, C2.later nf (fun _ b _ => ne b) I, d, fun y b e => ?_⟩
  · rcases ho with ⟨ho, hn, hf⟩ | ho
    · exact .inl ⟨I.base.keep q _ ho hn hf (ne q), I.base.free q _ ho hn (ne q), notStk I ho hf⟩
    · exact .inr ho
  · obtain ⟨_, v, o, hb, _⟩ := C2.all y b e
    exact notStk I hb (nf y b e)
/-- what the text of a lambda must be -/
structure LamT (G : Gm) (k : Nat) : Prop where
  S : NScope (G.lam k).fr [] (G.lam k).fr (G.lam k).scope
  bind : dflOf (G.lam k).params = [] → ∀ (cl : List (Str × Addr)) (pm ctv doc : Value) (cv : Addr), bindArgs (lamF (G.lam k) cl pm cv ctv .none doc) ⟨[], []⟩ = pure []
  dfl : ∀ y i, dflOf (G.lam k).params = [(y, i)] → (G.lam k).scope.names.lookup y = some .local ∧ ∀ (cl : List (Str × Addr)) (pm ctv doc : Value) (cv T : Addr), ∃ f, bindArgs (lamF (G.lam k) cl pm cv ctv (.ref T) doc) ⟨[], []⟩ = seqItems? (.ref T) >>= f ∧ ∀ v, f (some #[v]) = pure [(y, v)]
/-- .. and what it does -/
structure LamOk (P : Program) (w : World) (K : PySem.W.Frag) (mg : Str → Option Value) (base : Heap) (G : Gm) (call : Nat → List Sl → M Val) (lvl k : Nat) : Prop where
  T : LamT G k
  body : ∃ m : Loc → M Val, (∀ (F : NF) (f : Addr) (A : Around) (outer : List Env) (s : Shared) (H : Hp) (E : XK), F.scope = (G.lam k).scope → F.qual = (G.lam k).qual → A.guards = some [] → Room lvl (A.deeper (envF F f s.heap.objs.size)) →
      SE (ncx (L2.CX P w) P w K mg base (G.lam k).fr F f A outer s H E) (G.at outer s.heap H) (G.lam k).body m) ∧
    ∀ (ws : List Val) (Q : Val → CH → Prop) (E : Nat → CH → Prop) (h : CH), ws.length = (G.lam k).fr.length → call k (vals ws) Q E h → m (Mi.start (G.lam k).fr.length (vals ws)) Q E h
theorem loc_startF {G : Gm} {H : Hp} {N : List Str} {ws : List Val} {vs : List V} (d : RelDs G.c H ws vs) (hl : ws.length = N.length) : RelL G H (Mi.start N.length (vals ws)) (startF N [] (vs.map some)) := by
  have e := d.length
  have z : N.length - (vals ws).length = 0 := by simp [vals, hl]
  have z2 : N.length - ([] : List V).length - (vs.map some).length = 0 := by simp [e, hl]
  have e2 : Mi.start N.length (vals ws) = (vals ws).map some := by unfold Mi.start; rw [z]; simp
  have e3 : startF N [] (vs.map some) = vs.map some := by unfold startF; rw [z2]; simp
  rw [e2, e3]
  refine ⟨by simp [vals, e], fun i s h => ?_⟩
  rw [List.getElem?_map] at h
  unfold vals at h
  rw [List.getElem?_map] at h
  cases q : ws[i]? with
  | none => rw [q] at h; cases h
  | some v =>
    rw [q] at h
    cases h
    obtain ⟨y, h1, h2⟩ := d.get q
    exact ⟨y, by rw [List.getElem?_map, h1]; rfl, h2⟩
/-- the names of a lambda's frame, whatever its own parameters hold -/
theorem inv_startL {CX : CXT} {P : Program} {w : World} {K : PySem.W.Frag} {mg : Str → Option Value} {base : Heap} {N : List Str} {F : NF} {f : Addr} {A : Around} {outer : List Env} {s : Shared} {H : Hp} {E : XK} {ws : List (Option V)} {h₁ : Heap} {tk : Nat} {m : Str → Option Value}
    (S : NScope N [] N F.scope) (hd : A.handled = none) (e0 : Env0 P w K mg base A outer s H) (C : CellsAt F.cl N ws s.heap H) (hns : h₁.Ns s.heap.objs.size m)
    (kp : ∀ b o, s.heap.get? b = some o → h₁.get? b = some o) : Inv (ncx CX P w K mg base N F f A outer s H E) [] (startF N [] ws) H { s with heap := h₁, toks := tk } := by
  have no : ∀ b : Addr, b ∉ (ncx CX P w K mg base N F f A outer s H E).ex := fun b z => nomatch (show b ∈ ([] : List Addr) from z)
  have cellK : ∀ {c : Addr} {v : Option Value}, s.heap.IsCell c v → h₁.IsCell c v := fun {c v} ⟨o, e1, e2⟩ => ⟨o, kp _ _ e1, e2⟩
  have clen := C.len
  have es : startF N [] ws = ws := by
    unfold startF
    simp [clen]
  rw [es]
  constructor
  case ok =>
    constructor
    case mod => exact e0.mod
    case kind => exact S.kind
    case glob => rfl
    case blt => rfl
    case above => exact Nat.le_refl _
    case inj => exact C.inj
    case has =>
      intro y hy
      rcases (show F.scope.names.lookup y = some .cell ∨ F.scope.names.lookup y = some .free from hy) with hy | hy
      · exact absurd rfl (S.nocell _ (PySem.mem_of_lookup hy))
      · obtain ⟨i, hi⟩ := List.mem_iff_getElem?.mp (S.free _ (PySem.mem_of_lookup hy) rfl)
        obtain ⟨c, hc, _⟩ := C.has i y hi
        exact ⟨c, hc⟩
    case cab =>
      intro y c z
      exact nomatch (show false = true from z)
    case hd => exact fun _ => hd
    case frames => exact Around.frames_deeper e0.frames
    case stk => exact .inr ⟨rfl, rfl⟩
    case exf => exact fun b z => absurd z (no b)
    case bs => exact e0.bs
    case bsz => exact e0.bsz
    case noex => exact fun b _ _ => no b
    case exfs => exact fun b z => absurd z (no b)
    case funs => exact e0.funs
    case frf => exact e0.frf
  case os => rfl
  case bare => exact e0.bare
  case base => exact Un.kept kp
  case loc =>
    refine ⟨m, hns, fun i y v e1 e2 _ => ?_⟩
    obtain ⟨c, hc, hv⟩ := C.has i y e1
    obtain ⟨u, ru, hu⟩ := hv v e2
    exact ⟨u, ru, .inr ⟨.inr (S.frk y (List.mem_of_getElem? (show N[i]? = some y from e1))), c, hc, cellK hu⟩⟩
  case cell =>
    intro y c e
    obtain ⟨v, z⟩ := (C.all y c e).2
    exact ⟨v, cellK z⟩
  case free => exact e0.hok.fresh (Nat.le_refl _)
  case freeC => exact fun y c e => (C.all y c e).1
  case pin => exact fun q hq => nomatch (show q ∈ ([] : List (Addr × Obj)) ++ [] from hq)
  case hok => exact e0.hok.kept kp
  case len => exact clen
/-- a closure runs -/
theorem clos_run (gx : GX X G) (hex : X.ex = []) {F : Frm} {pins : List (Addr × Obj)} {s : Shared} {σ : L2.St} {H : Hp} {ρ : Loc} {h : CH} {Q : Val → CH → Prop} {E : Nat → CH → Prop} {q : Addr} {ws : List Val} (A : At X G F pins ρ h σ H E s) (L : LamOk X.prog X.w X.K X.mg X.base G call n k) (hg : X.A.guards = some []) (hr : Room (n + 1) X.A)
    (C : ClosAt G H q k ws) (w : call k (vals ws) Q E h) :
    PySem.W.FnAt q s.heap ∧ wpAny (model X.prog X.w) X.A (PySem.call (.ref q) []) (EP X pins σ (QD G F ρ σ H Q)) X.xe s := by
  have Con := C.on gx hex A.inv
  obtain ⟨h1, cl, c, pm, ctv, dv, doc, vs, hob, hdv, hc, C2, d, nf⟩ := Con
  obtain ⟨W, tk, kE⟩ := A.acc
  obtain ⟨m, hb, hm⟩ := L.body
  have w1 := hm ws Q E h h1 w
  have e0 := A.inv.env0
  have lim : s.heap.NoLimit := e0.mod.nolimit.keeps fun b o e => (e0.bs b o e).1
  have cr : s.heap.CodeRec (.ref c) (G.lam k).qual := codeO_at A.inv.hok hc
  have ho : s.heap.get? q = some (lamO (G.lam k) cl pm c ctv dv doc) := hob.at_ A.inv
  have S := L.T.S
  let Fn : NF := ⟨"<lambda>", (G.lam k).qual, (G.lam k).params, [], (G.lam k).scope, cl, c⟩
  have rc : codeAny (model X.prog X.w) X.A (.call (.ref q) ⟨[], []⟩) (CR (L2.CX X.prog X.w) X.stack X.prog X.w H s (QD G F ρ σ H Q) (WE W σ)) s := by
    refine PySem.W.kla_callFunE hr.depth ho rfl S.co S.gen rfl cr ?_
    have fin : ∀ bs : List (Str × Value), (∀ y ∈ bs, (G.lam k).scope.names.lookup y.1 = some .local) → wpAny (model X.prog X.w) X.A.in1 (newFunctionEnv (G.lam k).scope mainGlobals cl bs ((G.lam k).qual ++ ".<locals>.") (some q) (.ref c) none builtinsNs)
        (fun env s₂ => s₂.heap.NoLimit ∧ codeAny (model X.prog X.w) X.A (.expr (G.lam k).body env) (CR (L2.CX X.prog X.w) X.stack X.prog X.w H s (QD G F ρ σ H Q) (WE W σ)) s₂) (fun e s' => CR (L2.CX X.prog X.w) X.stack X.prog X.w H s (QD G F ρ σ H Q) (WE W σ) (.error e) s') s := fun bs hbs => by
      refine wpAny_newFunctionEnv S.nocell hbs (fun h₁ hns hsb => ⟨lim.fresh _ hsb, ?_⟩) S.kind
      have kp : ∀ b o, s.heap.get? b = some o → h₁.get? b = some o := fun b o e => hsb.extBut b o (Nat.ne_of_lt (Heap.lt_size e)) (Heap.get?_push_of_some _ e)
      have J : Inv (ncx (L2.CX X.prog X.w) X.prog X.w X.K X.mg X.base (G.lam k).fr Fn q X.A X.stack s H (WE W σ)) [] (startF (G.lam k).fr [] (vs.map some)) H { s with heap := h₁, toks := s.toks + bs.length } :=
        inv_startL (F := Fn) S hr.hd e0 C2 hns kp
      have rl : RelL (G.at X.stack s.heap H) H (Mi.start (G.lam k).fr.length (vals ws)) (startF (G.lam k).fr [] (vs.map some)) := loc_startF (G := G.at X.stack s.heap H) d h1
      have ac : Acc (ncx (L2.CX X.prog X.w) X.prog X.w X.K X.mg X.base (G.lam k).fr Fn q X.A X.stack s H (WE W σ)) (G.at X.stack s.heap H) F (Mi.start (G.lam k).fr.length (vals ws)) (startF (G.lam k).fr [] (vs.map some)) H E :=
        ⟨fun cls dd _ H' => WE W σ cls dd H', takes_of rfl rfl rfl rfl, fun c h' H' l r e => kE c h' H' l r e⟩
      have P := (hb Fn q X.A X.stack s H (WE W σ) rfl rfl hg (hr.deeper _)).run [] _ _ H _ h Q E ⟨J, rl, A.rep, ac⟩ w1
      show codeAny _ _ (.expr (G.lam k).body (envF Fn q s.heap.objs.size)) _ _
      refine PySem.W.kla_codeExpr (wpAny_mono P (fun v s' hq => ?_) fun e s' hq => hq)
      obtain ⟨y, H', J', rv, vv, h', l', d', r', q', z⟩ := hq
      exact ⟨y, H', J'.os, J'.bare, J'.base, J'.hok, rv, vv, h', l', d', A.loc.mono l', q', z⟩
    rcases hdv with ⟨e1, rfl⟩ | ⟨y, i, T, e1, rfl, e2⟩
    · rw [L.T.bind e1 cl pm ctv doc c]
      exact wpAny_pure (fin [] fun y hy => nomatch hy)
    · obtain ⟨hl, hbd⟩ := L.T.dfl y i e1
      obtain ⟨g, eg, eg2⟩ := hbd cl pm ctv doc c T
      obtain ⟨_, its, rt, ot, et, _, _, od⟩ := A.inv.hok T _ e2
      rw [eg]
      match its, rt with
      | [u], .cons ru .nil =>
        refine wpAny_bind (wpAny_seqItems (s := s) et od ?_)
        rw [eg2]
        refine wpAny_pure (fin [(y, u)] fun z hz => ?_)
        rw [List.mem_singleton] at hz
        rw [hz]
        exact hl
  refine ⟨⟨_, _, _, _, ho⟩, wpAny_call (codeAny_mono rc fun r s' hq => ?_)⟩
  cases r with
  | error e => exact passAt tk σ pins H s e s' A.inv hq
  | ok fl =>
    cases fl with
    | ret u => exact A.inv.after hq
    | next => exact False.elim hq
    | brk => exact False.elim hq
    | cont => exact False.elim hq
end
end Mi

set_option Elab.async false
set_option linter.all false
set_option maxRecDepth 100000
set_option maxHeartbeats 400000
namespace Mi
open PySem PySem.Spec PyProof.Rows L2 LamX NdefX
section
variable {X : Cx} {pins : List (Addr × Obj)} {σ : L2.St} {H : Hp} {s : Shared}
/-- a lambda's defaults are evaluated so -/
def DflOk (a : Arguments) (env : Env) : Prop := (dflOf a = [] ∧ defaultsOf a env = ([], [])) ∨ ∃ y i j p, dflOf a = [(y, i)] ∧ defaultsOf a env = ([eval (.Constant (.int i) j p) env], [])
/-- what is told of a lambda just made -/
def Made (X : Cx) (T : List (Addr × Str)) (l : LamI) (H : Hp) (pins : List (Addr × Obj)) (σ : L2.St) (f : Addr) (H1 : Hp) (s' : Shared) : Prop :=
  ∃ (c' : Addr) (pm ctv dv doc : Value), Inv X pins σ H1 s' ∧ ExtN H H1 ∧ Tabs T H1 ∧ s'.heap.get? f = some (lamO l (cloFrom X.env.cells l.scope.names []) pm c' ctv dv doc) ∧ DvAt H1 l.params dv ∧ H1 f = none ∧ (X.s_0.heap.get? f = none ∧ f ≠ X.env.locals ∧ ∀ p ∈ X.pn ++ pins, p.1 ≠ f) ∧ f ∉ frs X.stack ∧ H1 c' = some (CodeO c' l.qual)
theorem DvAt.extN {H H' : Hp} {a : Arguments} {dv : Value} (l : ExtN H H') (d : DvAt H a dv) : DvAt H' a dv := by
  rcases d with d | ⟨y, i, T, e1, e2, e3⟩
  · exact .inl d
  · exact .inr ⟨y, i, T, e1, e2, l _ _ e3 fun _ z => by cases z⟩
theorem lam_tail {T : List (Addr × Str)} {c P : Addr} {l : LamI} {pos : Pos} {dv : Value} {E : Value → Shared → Prop} {Q : Value → Shared → Prop} (I : Inv X pins σ H s) (TB : TabB X.base X.mg c P) (hcode : X.env.code = .ref c)
    (hm : (P, l.qual) ∈ T) (hu : ∀ p ∈ T, p.1 = P → p.2 = l.qual) (hT : Tabs T H) (hd : DvAt H l.params dv) (hfree : ∀ y ∈ l.scope.names, y.2 = .free → ∃ c, X.env.cells.lookup y.1 = some c)
    (h : ∀ (f : Addr) (H1 : Hp) (s' : Shared), Made X T l H pins σ f H1 s' → Q (.ref f) s') :
    wpAny (model X.prog X.w) X.A (makeTail "<lambda>" l.qual l.params (.expr l.body) l.scope X.env dv .none none pos pos.line) Q E s := by
  obtain ⟨ps, hP, ht, ha⟩ := hT _ hm
  have bP : s.heap.BuiltinsAt X.mg P := TB.bm.keeps I.bk
  have hP' : s.heap.get? P = some { cls := .none, data := .fields ps } := I.hok P _ hP
  have nofr : ∀ f, s.heap.objs.size ≤ f → f ∉ frs X.stack := fun f hf z => by
    rcases List.mem_cons.mp (I.stkSub _ z) with e | e
    · have h1 := I.lt
      rw [← e] at h1
      exact absurd h1 (Nat.not_lt.mpr hf)
    · exact I.nofs hf e
  have neg : ∀ f, s.heap.objs.size ≤ f → X.s_0.heap.get? f = none ∧ f ≠ X.env.locals ∧ ∀ p ∈ X.pn ++ pins, p.1 ≠ f := fun f hf => by
    refine ⟨Heap.get?_none_of_le (Nat.le_trans I.sz hf), fun z => ?_, fun p hp z => ?_⟩
    · have h1 := I.lt
      rw [← z] at h1
      exact absurd h1 (Nat.not_lt.mpr hf)
    · have h1 := Heap.lt_size (I.pin p hp).1
      rw [z] at h1
      exact absurd h1 (Nat.not_lt.mpr hf)
  cases hc : codeAmong pos ps.toList with
  | none =>
    refine PySem.W.kdv_makeTail (mg := X.mg) (c := c) (P := P) (ps := ps) (closure_ok hfree) I.ok.glob (I.mod.glob.keeps I.bk) hcode (TB.code.keeps I.bk) hP' ht hc TB.gP bP fun c' ctv doc h' tk hx hge hlt hrec htb => ?_
    obtain ⟨c2, oc, vs, t, e2, hoc, hdt, hv⟩ := hrec
    cases e2
    have nC : H c' = none := I.hok.fresh hge
    let Hn : Hp := upd (upd H P (.tbl (ps ++ #[rawInt pos.line, rawInt pos.col, .ref c']))) c' (CodeO c' l.qual)
    have I1 : Inv X pins σ Hn { s with heap := h'.push (lamO l (cloFrom X.env.cells l.scope.names []) ((X.mg "__name__").getD .none) c' ctv dv doc), toks := tk } :=
      inv_table (more := #[rawInt pos.line, rawInt pos.col, .ref c']) I hP (fun b o hb e => Heap.get?_push_of_some _ (hx b o hb e)) (Heap.get?_push_of_some _ htb) hge ⟨oc, vs, t, Heap.get?_push_of_some _ hoc, hdt, hv⟩
    have sz : s.heap.objs.size ≤ h'.objs.size := by omega
    have far : ∀ b o, H b = some o → (∀ q, o ≠ .tbl q) → Hn b = some o := fun b o e n => by
      have b1 : b ≠ c' := ne_of_none e nC
      have b2 : b ≠ P := fun z => by
        rw [z, hP] at e
        exact n ps (Option.some.inj e).symm
      show upd (upd H P _) c' _ b = some o
      rw [upd_ne b1, upd_ne b2, e]
    refine h h'.objs.size Hn _ ⟨c', _, ctv, dv, doc, I1, far, fun p hp => ?_, Heap.get?_push_size _ rfl, hd.extN far, ?_, neg _ sz, nofr _ sz, upd_same⟩
    · by_cases hb : p.1 = P
      · rw [hu p hp hb, hb]
        have el : (ps ++ #[rawInt pos.line, rawInt pos.col, .ref c']).toList = ps.toList ++ [rawInt pos.line, rawInt pos.col, .ref c'] := by simp
        refine ⟨ps ++ #[rawInt pos.line, rawInt pos.col, .ref c'], ?_, ?_, fun p' cv hcv => ?_⟩
        · show upd (upd H P _) c' _ P = _
          rw [upd_ne (ne_of_none hP nC), upd_same]
        · rw [el]
          exact PySem.TriplesOk_snoc _ _ _ _ ht
        · rw [el] at hcv
          rcases among_app _ ht hcv with z | z
          · obtain ⟨c0, e1, e2⟩ := ha p' cv z
            exact ⟨c0, e1, far _ _ e2 codeO_ne⟩
          · exact ⟨c', z, upd_same⟩
      · obtain ⟨qs, a1, a2, a3⟩ := hT p hp
        refine ⟨qs, ?_, a2, fun p' cv hcv => ?_⟩
        · show upd (upd H P _) c' _ p.1 = _
          rw [upd_ne (ne_of_none a1 nC), upd_ne hb]
          exact a1
        · obtain ⟨c0, e1, e2⟩ := a3 p' cv hcv
          exact ⟨c0, e1, far _ _ e2 codeO_ne⟩
    · have n1 : h'.objs.size ≠ c' := Nat.ne_of_gt hlt
      have n2 : h'.objs.size ≠ P := Nat.ne_of_gt (Nat.lt_of_lt_of_le (Heap.lt_size hP') sz)
      show upd (upd H P _) c' _ _ = none
      rw [upd_ne n1, upd_ne n2]
      exact I.hok.fresh sz
  | some cv =>
    obtain ⟨c', e, hco⟩ := ha pos cv hc
    subst e
    refine PySem.W.kdv_makeTailHit (mg := X.mg) (c := c) (P := P) (ps := ps) (closure_ok hfree) I.ok.glob (I.mod.glob.keeps I.bk) hcode (TB.code.keeps I.bk) hP' ht hc bP fun ctv doc h' tk hx hsz => ?_
    have I1 : Inv X pins σ H { s with heap := h'.push (lamO l (cloFrom X.env.cells l.scope.names []) ((X.mg "__name__").getD .none) c' ctv dv doc), toks := tk } := I.kept fun b o e => Heap.get?_push_of_some _ (hx b o e)
    exact h h'.objs.size H _ ⟨c', _, ctv, dv, doc, I1, ExtN.refl H, hT, Heap.get?_push_size _ rfl, hd, I.hok.fresh hsz, neg _ hsz, nofr _ hsz, hco⟩
theorem lam_makeD {T : List (Addr × Str)} {c P : Addr} {l : LamI} {pos : Pos} {E : Value → Shared → Prop} {Q : Value → Shared → Prop} (I : Inv X pins σ H s) (TB : TabB X.base X.mg c P) (hcode : X.env.code = .ref c)
    (hm : (P, l.qual) ∈ T) (hu : ∀ p ∈ T, p.1 = P → p.2 = l.qual) (hT : Tabs T H) (hq : l.qual = X.env.qual ++ "<lambda>") (hd : DflOk l.params X.env) (hfree : ∀ y ∈ l.scope.names, y.2 = .free → ∃ c, X.env.cells.lookup y.1 = some c)
    (h : ∀ (f : Addr) (H1 : Hp) (s' : Shared), Made X T l H pins σ f H1 s' → Q (.ref f) s') :
    wpAny (model X.prog X.w) X.A (eval (.Lambda l.params l.body l.scope pos) X.env) Q E s := by
  rw [arm_eval_Lambda, ← hq]
  rcases hd with ⟨d1, d2⟩ | ⟨y, i, j, p, d1, d2⟩
  · rw [d2]
    show wpAny _ _ (do let dv ← evalAll []; let kdv ← holding dv (evalAllOpt []); makeFunction "<lambda>" l.qual l.params (.expr l.body) l.scope X.env dv kdv [] pos pos.line) _ _ _
    refine wpAny_bind (wpAny_pure (wpAny_bind (wpAny_holding (wpAny_pure ?_))))
    rw [makeFunction_eq]
    simp only [List.zip_nil_right, List.filterMap_nil, List.isEmpty_nil, if_true, pure_bind]
    exact lam_tail I TB hcode hm hu hT (.inl ⟨d1, rfl⟩) hfree h
  · rw [d2]
    show wpAny _ _ (do let dv ← evalAll [eval (.Constant (.int i) j p) X.env]; let kdv ← holding dv (evalAllOpt []); makeFunction "<lambda>" l.qual l.params (.expr l.body) l.scope X.env dv kdv [] pos pos.line) _ _ _
    refine wpAny_bind (evalAll_cons (thn ((pe_int (X := X) (j := j) (pos := p)).run pins s σ H (fun x H1 => x = .int i ∧ H1 = H) I ⟨rfl, rfl⟩) fun u s1 ⟨x, H1, I1, rx, e1, e2⟩ => evalAll_nil ?_))
    subst e1 e2
    refine wpAny_bind (wpAny_holding (wpAny_pure ?_))
    rw [makeFunction_eq]
    simp only [List.zip_nil_right, List.filterMap_nil, List.isEmpty_nil, List.isEmpty_cons, if_true, pure_bind, Bool.false_eq_true, if_false]
    refine wpAny_bind (wpAny_newTextTuple ?_)
    have n : H1 s1.heap.objs.size = none := I1.hok.fresh (Nat.le_refl _)
    have I2 : Inv X pins σ (upd H1 s1.heap.objs.size (.tup [.int i])) { s1 with heap := s1.heap.push { cls := .type "tuple", data := .seq [u].toArray }, toks := s1.toks } :=
      I1.laid (fun _ _ q => Heap.get?_push_of_some _ q) (Nat.le_refl _) ⟨(show 1 ≤ sizeLine by decide), [u], .cons rx .nil, _, Heap.get?_push_size _ rfl, rfl, 0, rfl⟩
    have ex : ExtN H1 (upd H1 s1.heap.objs.size (.tup [.int i])) := fun b o e _ => by rw [upd_ne (ne_of_none e n)]; exact e
    refine lam_tail I2 TB hcode hm hu (fun p hp => ?_) (.inr ⟨y, i, s1.heap.objs.size, d1, rfl, upd_same⟩) hfree fun f H2 s' ⟨c', pm, ctv, dv, doc, a1, a2, a3, a4, a5, a6, a7, a8, a9⟩ => h f H2 s' ⟨c', pm, ctv, dv, doc, a1, ex.trans a2, a3, a4, a5, a6, a7, a8, a9⟩
    obtain ⟨qs, b1, b2, b3⟩ := hT p hp
    refine ⟨qs, by rw [upd_ne (ne_of_none b1 n)]; exact b1, b2, fun p' cv hcv => ?_⟩
    obtain ⟨c0, e1, e2⟩ := b3 p' cv hcv
    exact ⟨c0, e1, ex _ _ e2 codeO_ne⟩
end
end Mi

set_option Elab.async false
set_option linter.all false
set_option maxRecDepth 100000
set_option maxHeartbeats 400000
namespace Mi
open PySem PySem.Spec PyProof.Rows L2 LamX NdefX
section
variable {X : Cx} {G : Gm} {call : Nat → List Sl → M Val} {ar : Nat → Option Nat} {k j n f i lvl : Nat} {pos p p1 p2 lpos : Pos} {x : Str} {e a b : Expr} {es : List Expr} {ma : Loc → M Val} {mes : Loc → M (List Val)}
/-! ### x(..), x a local name -/
theorem fnAt_some {ρ : Loc} {i f : Nat} (h : fnAt ρ i = some f) : ρ[i]? = some (some (.v (.fn f))) := by
  unfold fnAt at h
  cases e : ρ[i]? with
  | none => rw [e] at h; cases h
  | some o =>
    rw [e] at h
    cases o with
    | none => cases h
    | some s =>
      cases s with
      | c _ _ => cases h
      | v v => cases v with
        | fn g => cases h; rfl
        | _ => cases h
theorem cloAt_some {ρ : Loc} {i : Nat} {q : Nat × List Val} (h : cloAt ρ i = some q) : ρ[i]? = some (some (.c q.1 q.2)) := by
  unfold cloAt at h
  cases e : ρ[i]? with
  | none => rw [e] at h; cases h
  | some o =>
    rw [e] at h
    cases o with
    | none => cases h
    | some s =>
      cases s with
      | c _ _ => cases h; rfl
      | v v => cases h
theorem ld_var {F : Frm} {pins : List (Addr × Obj)} {s : Shared} {σ : L2.St} {H : Hp} {ρ : Loc} {h : CH} {E : Nat → CH → Prop} {sl : Sl} {Q : Value → Shared → Prop} (A : At X G F pins ρ h σ H E s) (hN : X.N[i]? = some x) (hv : Vis X.env.scope x) (hd : (x == ("__debug__" : Str)) = false) (hcd : (x == ("__classdict__" : Str)) = false)
    (e : ρ[i]? = some (some sl)) (K : ∀ y u s', Inv X pins σ H s' → L2.RelV y u → RelS G H sl y → Q u s') : wpAny (model X.prog X.w) X.A (eval (.Name x p) X.env) Q X.xe s := by
  obtain ⟨y, h1, h2⟩ := A.loc.at_ i sl e
  exact thn ((pe_var (pos := p) hN hv hd hcd).run pins s σ H (fun v H1 => v = y ∧ H1 = H) A.inv ⟨y, h1, rfl, rfl⟩) fun u s' ⟨v, H1, I, rv, e1, e2⟩ => by
    subst e1 e2
    exact K _ u s' I rv h2
theorem se_callv (T : ∀ f n, ar f = some n → FnT X G call k f n) (hg : X.A.guards = some []) (hr : Room k X.A) (hN : X.N[i]? = some x) (hv : Vis X.env.scope x) (hd : (x == ("__debug__" : Str)) = false) (hcd : (x == ("__classdict__" : Str)) = false) (ha : SA X G (e :: es) mes)
    (he : starEach (e :: es) X.env = (false, eval e X.env) :: starEach es X.env) (hpl : (backTo pos (starEach es X.env)).any (·.1) = false) : SE X G (.Call (.Name x p) (e :: es) [] pos) (callvM call ar i (e :: es).length mes) := by
  refine ⟨fun pins s σ H ρ h Q E A w => ?_⟩
  obtain ⟨f, e1, ef, w⟩ := opt_some w
  have TF := T f _ ef
  refine wpAny_Call_Name_kw (ld_var A hN hv hd hcd (fnAt_some e1) fun y u s1 I1 ry rs => ?_)
  have ey : y = .ref (G.c.fa f) := rs
  subst ey
  cases ry
  have A1 : At X G _ pins ρ h σ H E s1 := ⟨I1, A.loc, A.rep, A.acc⟩
  refine PySem.W.callWith_K (h₀ := X.base) A.inv.ok.mod.kin TF.kp (thn (ha.run pos pins s1 σ H ρ h _ E A1 w) fun us s2 ⟨xs, H2, I2, rv, vs, h2, n2, l2, d2, r2, q2, w2⟩ => ⟨I2.kIn, ?_⟩) he hpl
  exact thn (run_fg (A1.next l2 I2 r2 q2) TF hg hr rv (RelSs.ground d2) n2 w2) fun u s3 e => EP.up l2 e
theorem se_callc (gx : GX X G) (hex : X.ex = []) (L : ∀ k ws Q E h, call k (vals ws) Q E h → ws.length = (G.lam k).fr.length → LamOk X.prog X.w X.K X.mg X.base G call n k) (hg : X.A.guards = some []) (hr : Room (n + 1) X.A) (hN : X.N[i]? = some x) (hv : Vis X.env.scope x) (hd : (x == ("__debug__" : Str)) = false) (hcd : (x == ("__classdict__" : Str)) = false) :
    SE X G (.Call (.Name x p) [] [] pos) (callcM call i) := by
  refine ⟨fun pins s σ H ρ h Q E A w => ?_⟩
  obtain ⟨q, e1, w⟩ := opt_some w
  refine wpAny_Call_Name_kw (ld_var A hN hv hd hcd (cloAt_some e1) fun y u s1 I1 ry rs => ?_)
  obtain ⟨a, rfl, C⟩ := rs
  cases ry
  have A1 : At X G _ pins ρ h σ H E s1 := ⟨I1, A.loc, A.rep, A.acc⟩
  obtain ⟨z, w2⟩ := clos_run gx hex A1 (L q.1 q.2 Q E h w C.len) hg hr C w
  exact PySem.W.callWith_F0 z w2
/-! ### an argument list that ends in a closure -/
structure SAc (X : Cx) (G : Gm) (es : List Expr) (m : Loc → M (List Sl)) : Prop where
  run : ∀ {F : Frm} (pos : Pos) (pins : List (Addr × Obj)) (s : Shared) (σ : L2.St) (H : Hp) (ρ : Loc) (h : CH) (Q : List Sl → CH → Prop) (E : Nat → CH → Prop), At X G F pins ρ h σ H E s → m ρ Q E h →
    wpAny (model X.prog X.w) X.A (spliced (backTo pos (starEach es X.env))) (fun us s' => ∃ xs H' ss h', Inv X pins σ H' s' ∧ Vals xs us ∧ xs.length = es.length ∧ Le H H' ∧ RelSs (G.at X.stack s'.heap H') H' ss xs ∧ RelL G H' ρ σ ∧ Rep G.c F h' H' ∧ Q ss h') X.xe s
theorem sac_cons {mc : Loc → M (List Sl)} (ha : SE X G a ma) (hr : SAc X G es mc) (hs : starEach (a :: es) X.env = (false, eval a X.env) :: starEach es X.env) : SAc X G (a :: es) (fun ρ => bnd (ma ρ) fun v => bnd (mc ρ) fun ss => ret (.v v :: ss)) := by
  refine ⟨fun pos pins s σ H ρ h Q E A w => ?_⟩
  rw [hs]
  show wpAny _ _ (spliced ((false, eval a X.env) :: backTo pos (starEach es X.env))) _ _ s
  refine Calls.spliced_cons (thn (ha.run pins s σ H ρ h _ E A w) fun u s1 ⟨x, H1, I1, rx, va, h1, l1, d1, r1, q1, w1⟩ => ?_)
  refine thn (hr.run pos pins s1 σ H1 ρ h1 _ E (A.next l1 I1 r1 q1) w1) fun us s2 ⟨xs, H2, ss, h2, I2, rv, n2, l2, d2, r2, q2, w2⟩ => ?_
  exact ⟨x :: xs, H2, .v va :: ss, h2, I2, .cons rx rv, by simp [n2], l1.trans l2, .cons (RelD.mono l2 _ _ d1) d2, r2, q2, w2⟩
theorem sac_var (gx : GX X G) (hex : X.ex = []) (hN : X.N[i]? = some x) (hv : Vis X.env.scope x) (hd : (x == ("__debug__" : Str)) = false) (hcd : (x == ("__classdict__" : Str)) = false) : SAc X G [.Name x p] (fun ρ => opt (cloOf ρ (.var i)) fun c => ret [c]) := by
  refine ⟨fun pos pins s σ H ρ h Q E A w => ?_⟩
  obtain ⟨c, e, w⟩ := opt_some w
  obtain ⟨q, e1, rfl⟩ := Option.map_eq_some_iff.mp e
  show wpAny _ _ (spliced [(false, eval (.Name x p) X.env)]) _ _ s
  refine Calls.spliced_cons (ld_var A hN hv hd hcd (cloAt_some e1) fun y u s1 I1 ry rs => Calls.spliced_nil ?_)
  obtain ⟨a, rfl, C⟩ := rs
  exact ⟨[.ref a], H, [.c q.1 q.2], h, I1, .cons ry .nil, rfl, .refl _, .cons ⟨a, rfl, C.on gx hex I1⟩ .nil, A.loc, A.rep, w⟩
/-- what the making of a lambda asks -/
structure MkL (X : Cx) (G : Gm) (k : Nat) (caps : List Nat) (params : Arguments) (body : Expr) (scp : Scope) : Prop where
  ex : ∃ c P, TabB X.base X.mg c P ∧ X.env.code = .ref c ∧ (P, X.env.qual ++ "<lambda>") ∈ G.c.T ∧ ∀ p ∈ G.c.T, p.1 = P → p.2 = X.env.qual ++ "<lambda>"
  qual : (G.lam k).qual = X.env.qual ++ "<lambda>"
  par : (G.lam k).params = params
  body : (G.lam k).body = body
  scope : (G.lam k).scope = scp
  dfl : DflOk params X.env
  free : ∀ y ∈ scp.names, y.2 = .free → X.env.scope.names.lookup y.1 = some .cell ∨ X.env.scope.names.lookup y.1 = some .free
  fr : ∀ y ∈ (G.lam k).fr, (y, NameKind.free) ∈ scp.names
  caps : caps.map (fun j => X.N[j]?) = (G.lam k).fr.map some
  fn : ∀ y, X.fn y = true
theorem caps_rel {H : Hp} {ρ : Loc} {σ : L2.St} (r : RelL G H ρ σ) : ∀ {caps : List Nat} {ws : List Val}, capsOf ρ caps = some ws → ∃ vs, RelDs G.c H ws vs ∧ caps.map (slotAt σ) = vs.map some
  | [], ws, e => by cases e; exact ⟨[], .nil, rfl⟩
  | c :: caps, ws, e => by
    simp only [capsOf] at e
    split at e
    · rename_i v l e1 e2
      cases e
      obtain ⟨vs, d, e3⟩ := caps_rel r e2
      unfold getV at e1
      split at e1
      · rename_i u e4
        cases e1
        obtain ⟨y, h1, h2⟩ := r.at_ c _ e4
        exact ⟨y :: vs, .cons h2 d, by rw [List.map_cons, List.map_cons, e3, slotAt_of h1]⟩
      · cases e1
    · cases e
theorem MkL.run {caps : List Nat} {params : Arguments} {body : Expr} {scope : Scope} (mk : MkL X G k caps params body scope) {F : Frm} {h : CH} {pins : List (Addr × Obj)} {s : Shared} {σ : L2.St} {H : Hp} {E Q : Value → Shared → Prop} (I : Inv X pins σ H s) (R : Rep G.c F h H)
    (q : ∀ (f : Addr) (H1 : Hp) (s' : Shared), Made X G.c.T (G.lam k) H pins σ f H1 s' → Q (.ref f) s') : wpAny (model X.prog X.w) X.A (eval (.Lambda params body scope lpos) X.env) Q E s := by
  obtain ⟨c, P, TB, hcode, hm, hu⟩ := mk.ex
  have dfl := mk.dfl
  have fre := mk.free
  rw [← mk.par] at dfl
  rw [← mk.scope] at fre
  rw [← mk.par, ← mk.body, ← mk.scope]
  rw [← mk.qual] at hm hu
  exact lam_makeD I TB hcode hm hu R.tabs mk.qual dfl (fun y hy e => (fre y hy e).elim (fun z => I.ok.has _ (.inl z)) fun z => I.ok.has _ (.inr z)) q
theorem MkL.capsOk {caps : List Nat} {params : Arguments} {body : Expr} {scope : Scope} (mk : MkL X G k caps params body scope) (ok : X.Ok) : Caps X (cloFrom X.env.cells (G.lam k).scope.names []) (G.lam k).fr caps := by
  rw [mk.scope]
  exact Caps.made ok mk.free mk.fr mk.caps
theorem Made.le {H H1 : Hp} (ext : ExtN H H1) : Le H H1 := ⟨fun b xs e => ext b _ e (fun _ z => by cases z), fun b o u e => ext b _ e (fun _ z => by cases z), fun b q e => ext b _ e (codeO_ne)⟩
/-- a closure whose cells are this frame's -/
theorem clos_own {caps : List Nat} {pins : List (Addr × Obj)} {s : Shared} {σ : L2.St} {H : Hp} {ρ : Loc} {ws : List Val} {f c' : Addr} {pm ctv dv doc : Value} (I : Inv X pins σ H s) (cp : Caps X (cloFrom X.env.cells (G.lam k).scope.names []) (G.lam k).fr caps) (hfn : ∀ y, X.fn y = true) (r : RelL G H ρ σ) (e1 : capsOf ρ caps = some ws)
    (ho : ClObj (G.at X.stack s.heap H) H f (lamO (G.lam k) (cloFrom X.env.cells (G.lam k).scope.names []) pm c' ctv dv doc)) (hd : DvAt H (G.lam k).params dv) (hc : H c' = some (CodeO c' (G.lam k).qual)) : ClosAt (G.at X.stack s.heap H) H f k ws := by
  obtain ⟨vs, d, ev⟩ := caps_rel r e1
  have C2 := cells_of I cp
  rw [ev] at C2
  have hl : ws.length = (G.lam k).fr.length := by
    have := C2.len
    rw [List.length_map, d.length] at this
    exact this
  refine ⟨hl, _, c', pm, ctv, dv, doc, vs, ho, hd, hc, C2, d, fun y b e => ?_⟩
  show b ∉ frs X.stack
  have hb := cp.sub y b e
  intro hm
  rcases List.mem_cons.mp (I.stkSub b hm) with z | z
  · exact I.cne y b hb z
  · obtain ⟨_, o, ho', _⟩ := I.ok.funs.mem z
    exact absurd (Heap.lt_size ho') (Nat.not_lt.mpr (I.ok.cab y b (hfn y) hb))
theorem sac_lam {caps : List Nat} {params : Arguments} {body : Expr} {scope : Scope} (mk : MkL X G k caps params body scope) : SAc X G [.Lambda params body scope lpos] (fun ρ => opt (cloOf ρ (.lam k caps)) fun c => ret [c]) := by
  refine ⟨fun pos pins s σ H ρ h Q E A w => ?_⟩
  obtain ⟨cl, e, w⟩ := opt_some w
  obtain ⟨ws, e1, rfl⟩ := Option.map_eq_some_iff.mp e
  show wpAny _ _ (spliced [(false, eval (.Lambda params body scope lpos) X.env)]) _ _ s
  refine Calls.spliced_cons (mk.run A.inv A.rep fun f H1 s1 ⟨c', pm, ctv, dv, doc, I1, ext, tb, ho, hd, hn, _, hf, hc⟩ => Calls.spliced_nil ?_)
  have le := Made.le ext
  have q1 : Rep G.c _ h H1 := A.rep.mono le (fun b u e m => ext b u e m.tbl) tb
  have r1 := A.loc.mono le
  exact ⟨[.ref f], H1, [.c k ws], h, I1, .cons rfl .nil, rfl, le, .cons ⟨f, rfl, clos_own I1 (mk.capsOk I1.ok) mk.fn r1 e1 (.inl ⟨ho, hn, hf⟩) hd hc⟩ .nil, r1, q1, w⟩
/-- f(e, .., closure) -/
theorem se_callC {mc : Loc → M (List Sl)} (T : FnT X G call k f (e :: es).length) (hg : X.A.guards = some []) (hr : Room k X.A) (gl : Gl X x) (hm : X.mg x = some (.ref (G.c.fa f))) (hdb : (x == ("__debug__" : Str)) = false) (ha : SAc X G (e :: es) mc)
    (he : starEach (e :: es) X.env = (false, eval e X.env) :: starEach es X.env) (hpl : (backTo pos (starEach es X.env)).any (·.1) = false) : SE X G (.Call (.Name x p) (e :: es) [] pos) (fun ρ => bnd (mc ρ) fun ss => call f ss) := by
  refine ⟨fun pins s σ H ρ h Q E A w => ?_⟩
  refine wpAny_Call_Name_kw (ld_glob A.inv gl hm ?_ hdb)
  refine PySem.W.callWith_K (h₀ := X.base) A.inv.ok.mod.kin T.kp (thn (ha.run pos pins s σ H ρ h _ E A w) fun us s1 ⟨xs, H1, ss, h1, I1, rv, n1, l1, d1, r1, q1, w1⟩ => ⟨I1.kIn, ?_⟩) he hpl
  exact thn (run_fg (A.next l1 I1 r1 q1) T hg hr rv d1 n1 w1) fun u s2 e => EP.up l1 e
end
end Mi

set_option Elab.async false
set_option linter.all false
set_option maxRecDepth 100000
set_option maxHeartbeats 800000
namespace Mi
open PySem PySem.Spec PyProof.Rows L2 LamX NdefX
section
variable {X : Cx} {pins : List (Addr × Obj)} {σ : L2.St} {H : Hp} {s : Shared}
/-- an exception's object is known from now on -/
theorem inv_track {a : Addr} {o : Obj} {vs : Array Value} (I : Inv X pins σ H s) (ha : s.heap.get? a = some o) (hd : o.data = .fields vs) (n : H a = none) (h0 : X.s_0.heap.get? a = none) (hl : a ≠ X.env.locals) (hp : ∀ p ∈ X.pn ++ pins, p.1 ≠ a) :
    Inv X pins σ (upd H a (.frz o (.ext fun _ => True))) s := by
  have z : ∀ b ob, X.s_0.heap.get? b = some ob → b ≠ a := fun b ob e q => by subst q; rw [h0] at e; cases e
  refine ⟨I.ok, I.os, I.bare, ⟨I.base.keep, I.base.slot, fun b ob e n hx => by rw [upd_ne (z b ob e)]; exact I.base.free b ob e n hx, I.base.there, fun b xs e => ?_, fun b ob u e => ?_, fun b ps e => ?_⟩, I.loc, I.cell, ?_, fun y c e => ?_, fun p hp' => ?_, fun b ob e => ?_, I.len⟩
  · have q := I.base.tups b xs e
    rw [upd_ne (ne_of_none q n)]; exact q
  · have q := I.base.frzs b ob u e
    rw [upd_ne (ne_of_none q n)]; exact q
  · obtain ⟨m, q⟩ := I.base.tbls b ps e
    exact ⟨m, by rw [upd_ne (ne_of_none q n)]; exact q⟩
  · rw [upd_ne (Ne.symm hl)]; exact I.free
  · have nc : c ≠ a := fun q => by
      subst q
      obtain ⟨v, o', e1, e2⟩ := I.cell y c e
      rw [ha] at e1; cases e1
      rw [hd] at e2; cases e2
    rw [upd_ne nc]; exact I.freeC y c e
  · obtain ⟨e1, e2, e3, e4, e5⟩ := I.pin p hp'
    exact ⟨e1, by rw [upd_ne (hp p hp')]; exact e2, e3, e4, e5⟩
  · by_cases q : b = a
    · subst q
      rw [upd_same] at e
      cases e
      exact ⟨ha, trivial, ⟨o, ha⟩, fun _ _ _ _ => trivial⟩
    · rw [upd_ne q] at e
      have up : ∀ b u, H b = some u → upd H a (.frz o (.ext fun _ => True)) b = some u := fun b u e => by rw [upd_ne (ne_of_none e n)]; exact e
      exact (I.hok b ob e).stay (fun _ _ _ q => q) (fun b e => up b _ e) (fun b xs e => up b _ e)
end
/-- what 'except x as n: y = n' wishes of an exception -/
def wFrz (K : PySem.W.Frag) (c : Value) (i j : Nat) (Wout : WX) (D : Ends) : WX := fun cls d σ H =>
  ∃ b, PySem.W.exmOne K cls c = some b ∧ (b = true → ∀ (a : Addr) (o : Obj), H a = none → Zc cls d o → (∃ vs, o.data = .fields vs) → D.nx (((σ.set i (some (.ref a))).set j (some (.ref a))).set i none) (upd H a (.frz o (.ext fun _ => True)))) ∧ (b = false → Wout cls d σ H)
section
variable {X : Cx} {x n y : Str} {c : Value} {i j : Nat} {body : List Stmt} {np pos pos' py pn' sp : Pos} {tb : WX → TS} {Wout : WX}
/-- try: body / except x as n: y = n -/
theorem ps_try_frz (hex : X.ex = []) (hs : X.stack = X.env :: X.outer) (hf : X.env.frame = some X.env.locals) (hN : X.N.Nodup) (hi : X.N[i]? = some n) (hj : X.N[j]? = some y) (hij : i ≠ j) (hln : X.env.kindOf n = some .local) (hly : X.env.scope.names.lookup y = some .local) (hc : Names X x c) (tk : Takes X Wout)
    (hdn : (n == ("__debug__" : Str)) = false) (hcn : (n == ("__classdict__" : Str)) = false)
    (hb : ∀ (W : WX) (pn : List (Addr × Obj)) (xe : Value → Shared → Prop), Takes (X.tr pn xe) W → PassesOwn (model X.prog X.w) X.A X.env xe → PSs (X.tr pn xe) body (tb W)) :
    PS X (.Try body [.ExceptHandler (some (.Name x np)) (some n) [.Assign [.Name y py] (.Name n pn') sp] pos'] [] [] pos) (fun D σ H => tb (wFrz X.K c i j Wout D) D σ H) := by
  refine ⟨fun pins s σ H D I h => ?_⟩
  have ok := I.ok
  have hfr : X.A.frames = some (X.env :: X.outer) := by rw [ok.frames, hs]
  have hloc : L2.Loc X.env.scope n := .inl hln
  refine wpAny_Try_except ?_
  refine wpAny_mono ((hb (wFrz X.K c i j Wout D) (X.pn ++ pins) (fun e s₁ => wpAny (model X.prog X.w) X.A (noteFrame e X.env) (fun _ s₂ => wpAny (model X.prog X.w) X.A (setFlight e none) (fun _ s₃ =>
    wpAny (model X.prog X.w) X.A (handleBy e X.env [.ExceptHandler (some (.Name x np)) (some n) [.Assign [.Name y py] (.Name n pn') sp] pos']) (SP X pins D) X.xe s₃) X.xe s₂) X.xe s₁) (fun u s' xx => ?_) PassesOwn.looking).run [] s σ H D (I.toTry _) h) (fun f s1 hsp => ?_) (fun e s1 he => he)
  · obtain ⟨a, B, sI, pins', σ', H', cls, d, rfl, J', nb, up, sky, na, os, ag, b, hb1, hyes, hno⟩ := xx
    have J : Inv X pins σ' H' sI := J'.ofTry ok
    have sky' : Sky B (X.env :: X.outer) a (Zc cls d) X.env.locals s'.heap := by rw [← hs]; exact sky
    show wpAny (model X.prog X.w) X.A (noteFrame (.ref a) X.env) _ _ _
    refine Sky.land Zc.steady hfr hf sky' fun h3 fl3 up3 => ?_
    have J3 : Inv X pins σ' H' { s' with heap := h3 } := J.landed nb fl3.1 (up.trans up3) os ag
    obtain ⟨oe3, vs3, he3, hz3, hd3⟩ := fl3.there
    have notFr : ∀ {h : Heap} {o : Obj} {vs : Array Value}, h.FunFrames B (X.env :: X.outer) → h.get? a = some o → o.data = .fields vs → a ∉ frs (X.env :: X.outer) := fun {h o vs} ff e dd hm => by
      obtain ⟨_, o', e', hnf⟩ := ff.mem hm
      rw [e] at e'; cases e'
      exact hnf _ dd
    have nfr := notFr fl3.2.2.1 he3 hd3
    have nL : a ≠ X.env.locals := fun z => nfr (List.mem_filterMap.mpr ⟨X.env, List.mem_cons_self, by rw [hf, z]⟩)
    have nF : a ∉ X.fs := fun hm => by
      obtain ⟨e, he, q⟩ := List.mem_filterMap.mp hm
      exact nfr (List.mem_filterMap.mpr ⟨e, List.mem_cons_of_mem _ he, q⟩)
    have nB : B.get? a = none := fl3.2.1
    have nI : ∀ o, sI.heap.get? a = some o → False := fun o e => by
      have := nb a o e (by rw [hs]; exact nfr)
      rw [nB] at this; cases this
    have nX : X.s_0.heap.get? a = none ∨ a ∈ X.ex := by
      cases q : X.s_0.heap.get? a with
      | none => exact .inl rfl
      | some o =>
        by_cases hx : a ∈ X.ex
        · exact .inr hx
        · obtain ⟨o', e⟩ := J.base.there a o q hx
          exact (nI o' e).elim
    have nP : ∀ p ∈ X.pn ++ pins, p.1 ≠ a := fun p hp z => by
      obtain ⟨e, _⟩ := J.pin p hp
      rw [z] at e
      exact nI _ e
    have S3 := J3.suite he3 hd3 na nL nF
    refine wpAny_handleBy_cons (codeAny_handlers_test ?_) (by intro q; cases q)
    have LT : PySem.W.Looks (model X.prog X.w) h3 (typeOf (.ref a)) cls := fun A Q E s k q => wpAny_typeOf_ref (k _ _ he3) (by rw [hz3.1]; exact q)
    have LM := PySem.W.exm_one (M := model X.prog X.w) (J3.kIn) LT hb1
    have test : ∀ {Q : Value → Shared → Prop} {E : Value → Shared → Prop}, Q c { s' with heap := h3 } → wpAny (model X.prog X.w) (X.A.mark (some (.ref a))) (eval (.Name x np) X.env) Q E { s' with heap := h3 } := fun {Q E} q => by
      obtain ⟨hg, hdbg, hm | ⟨hm, hv, hnn⟩⟩ := hc
      · exact ld_glob (X := X.suite a ((a, oe3) :: (X.pn ++ pins))) S3 hg hm q hdbg
      · exact ld_blt (X := X.suite a ((a, oe3) :: (X.pn ++ pins))) S3 hg hm hv q hnn hdbg
    refine test (LM.here ?_)
    cases b with
    | true =>
      refine codeAny_handlers_suite_as ?_
      refine HandSPX.lands_againZ fl3 fun h4 fl4 up4 => ?_
      have J4 : Inv X pins σ' H' { s' with heap := h4 } := J.landed nb fl4.1 ((up.trans up3).trans up4) os ag
      obtain ⟨oe4, vs4, he4, hz4, hd4⟩ := fl4.there
      have S4 := J4.suite he4 hd4 na nL nF
      refine store_ok (X := X.suite a ((a, oe4) :: (X.pn ++ pins))) (v := .ref a) S4 hN hi hloc rfl (fun s5 S5 => ?_) (.inr hln)
      have P : PSs (X.suite a ((a, oe4) :: (X.pn ++ pins))) [.Assign [.Name y py] (.Name n pn') sp] (tAsg (tVar i) (gName j)) :=
        pss_one (ps_set (X := X.suite a ((a, oe4) :: (X.pn ++ pins))) hN hj (.inl hly) (pe_var (X := X.suite a ((a, oe4) :: (X.pn ++ pins))) hi (.inl hln) hdn hcn) rfl (.inr hly))
      have len : i < σ'.length := by
        rw [J.len]
        exact (List.getElem?_eq_some_iff.mp hi).1
      refine wpAny_mono (P.run [] s5 _ H' { nx := fun σ6 H6 => σ6 = (σ'.set i (some (.ref a))).set j (some (.ref a)) ∧ H6 = H', rt := fun _ _ => False } S5 ⟨.ref a, by rw [List.getElem?_set_self len], rfl, rfl⟩) (fun f s6 hsp => ?_) (fun _ _ z => False.elim z)
      cases f with
      | next =>
        obtain ⟨σ6, H6, S6, e1, e2⟩ := hsp
        subst e1 e2
        obtain ⟨g6, n6, _⟩ := S6.pin (a, oe4) (List.mem_append_left _ List.mem_cons_self)
        have J6 : Inv X pins _ H6 s6 := S6.unsuite ok
        have nX0 : X.s_0.heap.get? a = none := by
          rcases nX with z | z
          · exact z
          · rw [hex] at z; cases z
        have T := inv_track J6 g6 hd4 n6 nX0 nL nP
        exact gone_ok T hN hi hln fun s7 J7 => ⟨_, _, J7, hyes rfl a oe4 na hz4 ⟨_, hd4⟩⟩
      | brk => obtain ⟨_, _, _, q⟩ := hsp; exact q.elim
      | cont => obtain ⟨_, _, _, q⟩ := hsp; exact q.elim
      | ret u => obtain ⟨_, _, _, _, _, q⟩ := hsp; exact q.elim
    | false =>
      show wpAny _ X.A (handleBy (.ref a) X.env []) _ _ _
      refine wpAny_handleBy_nil ?_
      obtain ⟨k1, k2, k3, oe, vs, T, oT, ts', he, hz, hd, h1, hr⟩ := id fl3
      unfold PySem.passOn
      refine wpAny_bind (wpAny_field he hd h1 ?_)
      rw [if_neg (show ¬ ((Value.ref T == Value.none) = true) from by simp)]
      have fin : wpAny (model X.prog X.w) X.A (setFlight (.ref a) X.env.frame) (fun _ s4 => wpAny (model X.prog X.w) X.A (throw (.ref a) : Sem Flow) (SP X pins D) X.xe s4) X.xe { s' with heap := h3 } := by
        rw [hf]
        refine HandSPX.setFlight_upZ fl3 fun h4 hh4 up4 => wpAny_throw (tk _ _ ?_)
        exact ⟨a, B, sI, pins, σ', H', cls, d, rfl, J, nb, (up.trans up3).trans up4, .inr (.inr (by rw [hs]; exact hh4)), na, os, ag, hno rfl⟩
      first
        | exact wpAny_bind (wpAny_pure (wpAny_bind fin))
        | exact wpAny_bind fin
  · cases f with
    | next =>
      obtain ⟨σ', H', J', q⟩ := hsp
      exact wpAny_execs_nil ⟨σ', H', J'.ofTry ok, q⟩
    | brk =>
      obtain ⟨σ', H', J', q⟩ := hsp
      exact ⟨σ', H', J'.ofTry ok, q⟩
    | cont =>
      obtain ⟨σ', H', J', q⟩ := hsp
      exact ⟨σ', H', J'.ofTry ok, q⟩
    | ret u =>
      obtain ⟨v, σ', H', J', r, q⟩ := hsp
      exact ⟨v, σ', H', J'.ofTry ok, r, q⟩
end
end Mi

set_option Elab.async false
set_option linter.all false
set_option maxRecDepth 100000
set_option maxHeartbeats 400000
namespace Mi
open PySem PySem.Spec PyProof.Rows L2 LamX NdefX
section
variable {X : Cx} {G : Gm} {I : CI} {x n y : Str} {c i j : Nat} {e : Expr} {me : Loc → M Val} {np pos pos' py pn' sp p3 : Pos}
theorem RelL.forget {H : Hp} {ρ : Mi.Loc} {σ : L2.St} (r : RelL G H ρ σ) (i : Nat) : RelL G H (ρ.set i none) σ := by
  refine ⟨by simp [r.len], fun k s e => ?_⟩
  by_cases hk : i = k
  · subst hk
    have hl : i < ρ.length := by
      have := (List.getElem?_eq_some_iff.mp e).1
      simpa using this
    rw [List.getElem?_set_self hl] at e
    cases e
  · rw [List.getElem?_set_ne hk] at e
    exact r.at_ k s e
def rdW (G : Gm) (W : WX) (m : Mi.Loc → M Val) : TE := fun σ H Q => ∃ (F : Frm) (ρ : Mi.Loc) (h : CH) (Q' : Val → CH → Prop) (E' : Nat → CH → Prop), RelL G H ρ σ ∧ Rep G.c F h H ∧ (∀ c h' H', Le H H' → Rep G.c F h' H' → E' c h' → W (.ref (G.c.ca c)) none σ H') ∧ m ρ Q' E' h ∧
  ∀ v h' x H', Le H H' → RelD G.c H' v x → RelL G H' ρ σ → Rep G.c F h' H' → Q' v h' → Q x H'
theorem SE.peW {W : WX} (a : SE X G e me) (tk : Takes X W) : PE X e (rdW G W me) := by
  refine ⟨fun pins s σ H Q I ⟨F, ρ, h, Q', E', r, q, ac, hm, k⟩ => ?_⟩
  refine thn (a.run pins s σ H ρ h Q' E' ⟨I, r, q, W, tk, ac⟩ hm) fun u s' ⟨x, H', I', rv, v, h', l, rd, rl, rp, w⟩ => ?_
  exact ⟨x, H', I', rv, k v h' x H' l rd rl rp w⟩
theorem ss_tryc (hK : X.K = G.c.K) (ok : CIok G I) (hex : X.ex = []) (hs : X.stack = X.env :: X.outer) (hf : X.env.frame = some X.env.locals) (hN : X.N.Nodup) (hi : X.N[i]? = some n) (hj : X.N[j]? = some y) (hij : i ≠ j) (hln : X.env.kindOf n = some .local) (hly : X.env.scope.names.lookup y = some .local)
    (hx : Gl X x ∧ (x == ("__debug__" : Str)) = false ∧ X.mg x = some (.ref (G.c.ca c))) (hdn : (n == ("__debug__" : Str)) = false) (hcn : (n == ("__classdict__" : Str)) = false) (hsw : ∀ env, swapsWith e none p3.line env = pure false)
    (hb : ∀ (pn : List (Addr × Obj)) (xe : Value → Shared → Prop), SE (X.tr pn xe) G e me) :
    SS X G (.Try [.Expr e p3] [.ExceptHandler (some (.Name x np)) (some n) [.Assign [.Name y py] (.Name n pn') sp] pos'] [] [] pos) (trycM I c i j me) := by
  refine ⟨fun pins s σ H ρ h Q E A w => ?_⟩
  rename_i F
  obtain ⟨Wo, tk, kE⟩ := A.acc
  have P := ps_try_frz (X := X) (np := np) (pos := pos) (pos' := pos') (py := py) (pn' := pn') (sp := sp) (body := [.Expr e p3]) (tb := fun W => tDrop (rdW G W me)) (c := .ref (G.c.ca c)) hex hs hf hN hi hj hij hln hly ⟨hx.1, hx.2.1, .inl hx.2.2⟩ tk hdn hcn
    fun W pn xe t _ => pss_one (ps_expr (SE.peW (hb pn xe) t) (hsw _))
  refine P.run pins s σ H _ A.inv ⟨F, ρ, h, _, _, A.loc, A.rep, ?_, w, fun v h' x H' l d r q z => ⟨ρ.set i none, h', l, r.forget i, q, z⟩⟩
  intro d h' H' l q z
  cases e1 : I.exm d c with
  | none => rw [e1] at z; exact z.elim
  | some b =>
    rw [e1] at z
    refine ⟨b, by rw [hK]; exact ok.exm d c b e1, fun eb a o na hz hd => ?_, fun eb => ?_⟩
    · subst eb
      have r := A.loc.mono l
      have le : Le H' (upd H' a (.frz o (.ext fun _ => True))) := .new na
      have r2 := r.mono le
      have dv : RelD G.c (upd H' a (.frz o (.ext fun _ => True))) (.exc d) (.ref a) := ⟨a, o, rfl, upd_same, hz.1, hz.2, hd⟩
      refine ⟨(setV ρ j (.exc d)).set i none, h', l.trans le, ?_, q.beside na, z⟩
      have e : ((σ.set i (some (.ref a))).set j (some (.ref a))).set i none = (σ.set j (some (.ref a))).set i none := by
        rw [List.set_comm _ _ hij.symm, List.set_set, List.set_comm _ _ hij]
      rw [e]
      exact (r2.set dv j).clear i none
    · subst eb
      exact kE d h' H' σ l q z
end
end Mi

set_option Elab.async false
set_option linter.all false
set_option maxRecDepth 100000
set_option maxHeartbeats 400000
namespace Mi
open PySem PySem.Spec PyProof.Rows L2 LamX NdefX
section
variable {X : Cx} {G : Gm} {call : Nat → List Sl → M Val} {k f n : Nat} {e a : Expr} {es : List Expr} {kws : List Keyword} {ma : Mi.Loc → M Val} {mes mks : Mi.Loc → M (List Val)} {pos p kpos : Pos} {x : Str} {nm : Option Str} {ks : List Str} {ord : List Nat}
/-- the keywords' values -/
structure SK (X : Cx) (G : Gm) (kws : List Keyword) (m : Mi.Loc → M (List Val)) : Prop where
  run : ∀ {F : Frm} (pos : Pos) (pins : List (Addr × Obj)) (s : Shared) (σ : L2.St) (H : Hp) (ρ : Mi.Loc) (h : CH) (Q : List Val → CH → Prop) (E : Nat → CH → Prop), At X G F pins ρ h σ H E s → m ρ Q E h →
    wpAny (model X.prog X.w) X.A (evalAll ((backToKw pos (keywordEach kws X.env)).map (·.2))) (AP X pins σ (AD G F ρ σ H kws.length Q)) X.xe s
theorem sk_nil : SK X G [] (fun _ => ret []) := ⟨fun pos pins s σ H ρ h Q E A w => wpAny_evalAll_nil ⟨[], H, A.inv, .nil, [], h, rfl, .refl _, .nil, A.loc, A.rep, w⟩⟩
theorem sk_cons (ha : SE X G a ma) (hr : SK X G kws mks) : SK X G (⟨nm, a, kpos⟩ :: kws) (fun ρ => bnd (ma ρ) fun v => bnd (mks ρ) fun vs => ret (v :: vs)) := by
  refine ⟨fun pos pins s σ H ρ h Q E A w => ?_⟩
  show wpAny _ _ (evalAll ((do let v ← eval a X.env; standAt pos; pure v) :: (backToKw pos (keywordEach kws X.env)).map (·.2))) _ _ s
  refine wpAny_evalAll_cons (wpAny_bind (thn (ha.run pins s σ H ρ h _ E A w) fun u s1 ⟨x, H1, I1, rx, va, h1, l1, d1, r1, q1, w1⟩ => wpAny_bind (wpAny_standAt (wpAny_pure ?_))))
  refine thn (hr.run pos pins s1 σ H1 ρ h1 _ E (A.next l1 I1 r1 q1) w1) fun us s2 ⟨xs, H2, I2, rv, vs, h2, n2, l2, d2, r2, q2, w2⟩ => ?_
  exact ⟨x :: xs, H2, I2, .cons rx rv, va :: vs, h2, by simp [n2], l1.trans l2, .cons (RelD.mono l2 _ _ d1) d2, r2, q2, w2⟩
theorem pick_vals : ∀ (ord : List Nat) {xs : List V} {us : List Value}, Vals xs us → Vals (pickL ord xs) (pickL ord us)
  | [], _, _, _ => .nil
  | i :: ord, xs, us, r => by
    unfold pickL
    rw [List.filterMap_cons, List.filterMap_cons]
    cases e : xs[i]? with
    | none =>
      have e2 : us[i]? = none := by
        rw [List.getElem?_eq_none_iff] at e ⊢
        rw [← r.length]; exact e
      rw [e2]
      exact pick_vals ord r
    | some x =>
      obtain ⟨u, e2, ru⟩ := r.get e
      rw [e2]
      exact .cons ru (pick_vals ord r)
theorem pick_rel {H : Hp} : ∀ (ord : List Nat) {vs : List Val} {xs : List V}, RelDs G.c H vs xs → RelDs G.c H (pickL ord vs) (pickL ord xs)
  | [], _, _, _ => .nil
  | i :: ord, vs, xs, r => by
    unfold pickL
    rw [List.filterMap_cons, List.filterMap_cons]
    cases e : vs[i]? with
    | none =>
      have e2 : xs[i]? = none := by
        rw [List.getElem?_eq_none_iff] at e ⊢
        rw [r.length]; exact e
      rw [e2]
      exact pick_rel ord r
    | some v =>
      obtain ⟨u, e2, ru⟩ := r.get e
      rw [e2]
      exact .cons ru (pick_rel ord r)
theorem pick_len {α : Type} {l : List α} : ∀ {ord : List Nat}, (∀ i ∈ ord, i < l.length) → (pickL ord l).length = ord.length
  | [], _ => rfl
  | i :: ord, h => by
    unfold pickL
    have hi := h i (by simp)
    rw [List.filterMap_cons, List.getElem?_eq_getElem hi]
    simp only [List.length_cons]
    exact congrArg (· + 1) (pick_len fun j hj => h j (by simp [hj]))
/-- a def of the table, called with keywords: j positional arguments, the names ks, where each parameter's value stands -/
structure FnK (X : Cx) (G : Gm) (call : Nat → List Sl → M Val) (k f j : Nat) (ks : List Str) (ord : List Nat) : Prop where
  ex : ∃ (fd : FuncData) (ps : List Str), FG X.prog X.w X.K X.mg X.base k (G.c.fa f) fd ps (spD G ord.length (call f)) ∧ ps.length = ord.length ∧
    ∀ (s : Shared) (us ws : List Value), X.K.In s.heap → us.length = j → ws.length = ks.length → BindsTo s fd ⟨us, ks.zip ws⟩ (ps.zip (pickL ord (us ++ ws)))
  kp : PySem.W.keepIn X.K (.ref (G.c.fa f)) = true
  ok : ∀ i ∈ ord, i < j + ks.length
theorem run_fgk {F : Frm} {pins : List (Addr × Obj)} {s : Shared} {σ : L2.St} {H : Hp} {ρ : Mi.Loc} {h : CH} {Q : Val → CH → Prop} {E : Nat → CH → Prop} {us ws : List Value} {xs zs : List V} {vs us' : List Val} {j : Nat} (A : At X G F pins ρ h σ H E s) (T : FnK X G call k f j ks ord) (hg : X.A.guards = some []) (hr : Room k X.A)
    (r : Vals xs us) (rz : Vals zs ws) (d : RelDs G.c H vs xs) (dz : RelDs G.c H us' zs) (hj : xs.length = j) (hk : zs.length = ks.length) (w : call f (vals (pickL ord (vs ++ us'))) Q E h) : wpAny (model X.prog X.w) X.A (PySem.call (.ref (G.c.fa f)) us (ks.zip ws)) (EP X pins σ (QD G F ρ σ H Q)) X.xe s := by
  obtain ⟨fd, ps, FF, hl, hb⟩ := T.ex
  obtain ⟨W, tk, kE⟩ := A.acc
  have b := hb s us ws A.inv.kIn (by rw [← r.length]; exact hj) (by rw [← rz.length]; exact hk)
  have rr := pick_vals ord (r.append rz)
  have dd := pick_rel ord (d.append dz)
  have hn : (pickL ord (xs ++ zs)).length = ord.length := pick_len fun i hi => by
    rw [List.length_append, hj, hk]; exact T.ok i hi
  have sp : spD G ord.length (call f) X.stack s.heap (pickL ord (xs ++ zs)) H (QD G F ρ σ H Q) (WE W σ) :=
    ⟨hn, F, h, _, Q, E, RelSs.ground dd, A.rep, w, fun v h' x H' l d q z => ⟨v, h', l, d, A.loc.mono l, q, z⟩, fun c h' H' l q z => kE c h' H' l q z⟩
  refine wpAny_call (codeAny_mono (FF.run X.A X.stack s H ⟨us, ks.zip ws⟩ (pickL ord (us ++ ws)) (pickL ord (xs ++ zs)) _ (WE W σ) hg hr A.inv.env0 b rr sp) fun r s' hq => ?_)
  cases r with
  | error e => exact passAt tk σ pins H s e s' A.inv hq
  | ok fl =>
    cases fl with
    | ret u => exact A.inv.after hq
    | next => exact False.elim hq
    | brk => exact False.elim hq
    | cont => exact False.elim hq
theorem se_callk (T : FnK X G call k f (e :: es).length ks ord) (hg : X.A.guards = some []) (hr : Room k X.A) (gl : Gl X x) (hm : X.mg x = some (.ref (G.c.fa f))) (hdb : (x == ("__debug__" : Str)) = false) (ha : SA X G (e :: es) mes) (hk : SK X G kws mks) (hkl : kws.length = ks.length)
    (hall : (backToKw pos (keywordEach kws X.env)).all (·.1.isSome) = true) (hks : (backToKw pos (keywordEach kws X.env)).filterMap (·.1) = ks)
    (he : starEach (e :: es) X.env = (false, eval e X.env) :: starEach es X.env) (hpl : ((backTo pos (starEach (e :: es) X.env)).any (·.1) || (backToKw pos (keywordEach kws X.env)).any (·.1.isNone)) = false) :
    SE X G (.Call (.Name x p) (e :: es) kws pos) (fun ρ => bnd (mes ρ) fun vs => bnd (mks ρ) fun ws => call f (vals (pickL ord (vs ++ ws)))) := by
  refine ⟨fun pins s σ H ρ h Q E A w => ?_⟩
  refine wpAny_Call_Name_kw (ld_glob A.inv gl hm ?_ hdb)
  refine PySem.W.callWith_KW (h₀ := X.base) A.inv.ok.mod.kin T.kp hall (thn (ha.run pos pins s σ H ρ h _ E A w) fun us s1 ⟨xs, H1, I1, rv, vs, h1, n1, l1, d1, r1, q1, w1⟩ => ?_) hpl he
  refine thn (hk.run pos pins s1 σ H1 ρ h1 _ E (A.next l1 I1 r1 q1) w1) fun ws s2 ⟨zs, H2, I2, rz, us', h2, n2, l2, d2, r2, q2, w2⟩ => ⟨I2.kIn, ?_⟩
  rw [hks]
  exact thn (run_fgk ((A.next l1 I1 r1 q1).next l2 I2 r2 q2) T hg hr rv rz (d1.mono l2) d2 n1 (by rw [n2]; exact hkl) w2) fun u s3 e => EP.up (l1.trans l2) e
theorem se_callk0 (T : FnK X G call k f 0 ks ord) (hg : X.A.guards = some []) (hr : Room k X.A) (gl : Gl X x) (hm : X.mg x = some (.ref (G.c.fa f))) (hdb : (x == ("__debug__" : Str)) = false) (hk : SK X G kws mks) (hkl : kws.length = ks.length)
    (hall : (backToKw pos (keywordEach kws X.env)).all (·.1.isSome) = true) (hks : (backToKw pos (keywordEach kws X.env)).filterMap (·.1) = ks)
    (hpl : ((backTo pos (starEach [] X.env)).any (·.1) || (backToKw pos (keywordEach kws X.env)).any (·.1.isNone)) = false) :
    SE X G (.Call (.Name x p) [] kws pos) (fun ρ => bnd (ret []) fun vs => bnd (mks ρ) fun ws => call f (vals (pickL ord (vs ++ ws)))) := by
  refine ⟨fun pins s σ H ρ h Q E A w => ?_⟩
  refine wpAny_Call_Name_kw (ld_glob A.inv gl hm ?_ hdb)
  refine PySem.W.callWith_KW0 (h₀ := X.base) A.inv.ok.mod.kin T.kp hall ?_ hpl
  refine thn (hk.run pos pins s σ H ρ h _ E A w) fun ws s2 ⟨zs, H2, I2, rz, us', h2, n2, l2, d2, r2, q2, w2⟩ => ⟨I2.kIn, ?_⟩
  rw [hks]
  exact thn (run_fgk (us := []) (xs := []) (vs := []) (A.next l2 I2 r2 q2) T hg hr .nil rz .nil d2 rfl (by rw [n2]; exact hkl) w2) fun u s3 e => EP.up l2 e
end
end Mi

set_option Elab.async false
set_option linter.all false
set_option maxRecDepth 100000
set_option maxHeartbeats 400000
namespace Mi
open PySem PySem.Spec PyProof.Rows L2 LamX NdefX
/-- a closure that this frame made, tracked -/
def OwnC (X : Cx) (G : Gm) (H : Hp) (x : V) (k : Nat) : Prop := ∃ (f c' : Addr) (pm ctv dv doc : Value), x = .ref f ∧ H f = some (.frz (lamO (G.lam k) (cloFrom X.env.cells (G.lam k).scope.names []) pm c' ctv dv doc) (.ext fun _ => True)) ∧
  DvAt H (G.lam k).params dv ∧ H c' = some (CodeO c' (G.lam k).qual)
theorem OwnC.mono {X : Cx} {G : Gm} {H H' : Hp} {x : V} {k : Nat} (l : Le H H') (a : OwnC X G H x k) : OwnC X G H' x k := by
  obtain ⟨f, c', pm, ctv, dv, doc, e, h1, h2, h3⟩ := a
  exact ⟨f, c', pm, ctv, dv, doc, e, l.frz _ _ _ h1, h2.mono l, l.code _ _ h3⟩
inductive OwnCs (X : Cx) (G : Gm) (H : Hp) : List V → List (Nat × List Nat) → Prop where
  | nil : OwnCs X G H [] []
  | cons {x : V} {xs : List V} {k : Nat} {cs : List Nat} {ks : List (Nat × List Nat)} : OwnC X G H x k → OwnCs X G H xs ks → OwnCs X G H (x :: xs) ((k, cs) :: ks)
theorem OwnCs.mono {X : Cx} {G : Gm} {H H' : Hp} (l : Le H H') : ∀ {xs : List V} {ks : List (Nat × List Nat)}, OwnCs X G H xs ks → OwnCs X G H' xs ks
  | _, _, .nil => .nil
  | _, _, .cons a r => .cons (a.mono l) (r.mono l)
theorem OwnCs.len {X : Cx} {G : Gm} {H : Hp} : ∀ {xs : List V} {ks : List (Nat × List Nat)}, OwnCs X G H xs ks → xs.length = ks.length
  | _, _, .nil => rfl
  | _, _, .cons a r => congrArg (· + 1) r.len
theorem OwnCs.at_ {X : Cx} {G : Gm} {H : Hp} : ∀ {xs : List V} {ks : List (Nat × List Nat)} {j : Nat} {x : V} , OwnCs X G H xs ks → xs[j]? = some x → ∃ p rest, ks.drop j = p :: rest ∧ ks.drop (j + 1) = rest ∧ p ∈ ks ∧ OwnC X G H x p.1
  | _, _, j, x, .nil, e => by simp at e
  | _, _, 0, x, .cons (k := k) (cs := cs) (ks := ks) a r, e => by
    simp at e
    subst e
    exact ⟨(k, cs), ks, rfl, rfl, List.mem_cons_self, a⟩
  | _, _, j + 1, x, .cons a r, e => by
    obtain ⟨p, rest, h1, h2, h3, h4⟩ := r.at_ (by simpa using e)
    exact ⟨p, rest, h1, h2, List.mem_cons_of_mem _ h3, h4⟩
section
variable {X : Cx} {pins : List (Addr × Obj)} {σ : L2.St} {H : Hp} {s : Shared}
/-- an object that is no cell is known from now on -/
theorem inv_trackF {a : Addr} {o : Obj} (I : Inv X pins σ H s) (ha : s.heap.get? a = some o) (hd : ∀ v, o.data ≠ .cell v) (n : H a = none) (h0 : X.s_0.heap.get? a = none) (hl : a ≠ X.env.locals) (hp : ∀ p ∈ X.pn ++ pins, p.1 ≠ a) :
    Inv X pins σ (upd H a (.frz o (.ext fun _ => True))) s := by
  have z : ∀ b ob, X.s_0.heap.get? b = some ob → b ≠ a := fun b ob e q => by subst q; rw [h0] at e; cases e
  refine ⟨I.ok, I.os, I.bare, ⟨I.base.keep, I.base.slot, fun b ob e n hx => by rw [upd_ne (z b ob e)]; exact I.base.free b ob e n hx, I.base.there, fun b xs e => ?_, fun b ob u e => ?_, fun b ps e => ?_⟩, I.loc, I.cell, ?_, fun y c e => ?_, fun p hp' => ?_, fun b ob e => ?_, I.len⟩
  · have q := I.base.tups b xs e
    rw [upd_ne (ne_of_none q n)]; exact q
  · have q := I.base.frzs b ob u e
    rw [upd_ne (ne_of_none q n)]; exact q
  · obtain ⟨m, q⟩ := I.base.tbls b ps e
    exact ⟨m, by rw [upd_ne (ne_of_none q n)]; exact q⟩
  · rw [upd_ne (Ne.symm hl)]; exact I.free
  · have nc : c ≠ a := fun q => by
      subst q
      obtain ⟨v, o', e1, e2⟩ := I.cell y c e
      rw [ha] at e1; cases e1
      exact hd _ e2
    rw [upd_ne nc]; exact I.freeC y c e
  · obtain ⟨e1, e2, e3, e4, e5⟩ := I.pin p hp'
    exact ⟨e1, by rw [upd_ne (hp p hp')]; exact e2, e3, e4, e5⟩
  · by_cases q : b = a
    · subst q
      rw [upd_same] at e
      cases e
      exact ⟨ha, trivial, ⟨o, ha⟩, fun _ _ _ _ => trivial⟩
    · rw [upd_ne q] at e
      have up : ∀ b u, H b = some u → upd H a (.frz o (.ext fun _ => True)) b = some u := fun b u e => by rw [upd_ne (ne_of_none e n)]; exact e
      exact (I.hok b ob e).stay (fun _ _ _ q => q) (fun b e => up b _ e) (fun b xs e => up b _ e)
end
/-- a lambda is made and tracked -/
def tLam (X : Cx) (G : Gm) (k : Nat) : TE := fun σ H Q => ∃ (F : Frm) (h : CH), Rep G.c F h H ∧ ∀ x H1, Le H H1 → Rep G.c F h H1 → OwnC X G H1 x k → Q x H1
def tLams (X : Cx) (G : Gm) (ks : List (Nat × List Nat)) : TA := fun σ H Q => ∃ (F : Frm) (h : CH), Rep G.c F h H ∧ ∀ xs H1, Le H H1 → Rep G.c F h H1 → OwnCs X G H1 xs ks → Q xs H1
def tLamL (X : Cx) (G : Gm) (ks : List (Nat × List Nat)) : TE := fun σ H Q => ∃ (F : Frm) (h : CH), Rep G.c F h H ∧ ∀ a o xs H1, Le H H1 → Rep G.c F h H1 → OwnCs X G H1 xs ks → H1 a = some (.frz o (.lst xs)) → Q (.ref a) H1
section
variable {X : Cx} {G : Gm} {call : Nat → List Sl → M Val} {k f n i : Nat} {e r : Expr} {me mr : Mi.Loc → M Val} {pos p p1 p2 p3 p4 p5 p6 p7 p8 lpos : Pos} {x y : Str}
theorem pe_lam {caps : List Nat} {params : Arguments} {body : Expr} {scope : Scope} (mk : MkL X G k caps params body scope) : PE X (.Lambda params body scope lpos) (tLam X G k) := by
  refine ⟨fun pins s σ H Q I ⟨F, h, R, q⟩ => ?_⟩
  refine mk.run I R fun g H1 s1 ⟨c', pm, ctv, dv, doc, I1, ext, tb, ho, hd, hn, ⟨n1, n2, n3⟩, hf, hc⟩ => ?_
  have le := Made.le ext
  have q1 : Rep G.c F h H1 := R.mono le (fun b u e m => ext b u e m.tbl) tb
  have I2 := inv_trackF I1 ho (fun v z => by cases z) hn n1 n2 n3
  have l2 : Le H1 (upd H1 g (.frz (lamO (G.lam k) (cloFrom X.env.cells (G.lam k).scope.names []) pm c' ctv dv doc) (.ext fun _ => True))) := .new hn
  exact ⟨.ref g, _, I2, rfl, q _ _ (le.trans l2) (q1.beside hn) ⟨g, c', pm, ctv, dv, doc, rfl, upd_same, hd.mono l2, l2.code _ _ hc⟩⟩
/-- the lambdas of a display -/
inductive MkLs (X : Cx) (G : Gm) : List Expr → List (Nat × List Nat) → Prop where
  | nil : MkLs X G [] []
  | cons {caps : List Nat} {params : Arguments} {body : Expr} {scope : Scope} {lpos : Pos} {k : Nat} {es : List Expr} {ks : List (Nat × List Nat)} : MkL X G k caps params body scope → MkLs X G es ks → MkLs X G (.Lambda params body scope lpos :: es) ((k, caps) :: ks)
theorem MkLs.len : ∀ {es : List Expr} {ks : List (Nat × List Nat)}, MkLs X G es ks → es.length = ks.length
  | _, _, .nil => rfl
  | _, _, .cons _ r => congrArg (· + 1) r.len
theorem MkLs.caps : ∀ {es : List Expr} {ks : List (Nat × List Nat)} {q : Nat × List Nat}, MkLs X G es ks → X.Ok → q ∈ ks → Caps X (cloFrom X.env.cells (G.lam q.1).scope.names []) (G.lam q.1).fr q.2
  | _, _, q, .nil, _, h => nomatch h
  | _, _, q, .cons m r, ok, h => by
    rcases List.mem_cons.mp h with z | z
    · rw [z]; exact m.capsOk ok
    · exact r.caps ok z
theorem pa_lams : ∀ {es : List Expr} {ks : List (Nat × List Nat)}, MkLs X G es ks → PA X es (tLams X G ks)
  | _, _, .nil => ⟨fun pos pins s σ H Q I ⟨F, h, R, q⟩ => pa_nil.run pos pins s σ H Q I (q [] H (.refl _) R .nil)⟩
  | _, _, .cons m r => ⟨fun pos pins s σ H Q I ⟨F, h, R, q⟩ => (pa_cons (pe_lam m) (pa_lams r)).run pos pins s σ H Q I ⟨F, h, R, fun x H1 l1 R1 o1 => ⟨F, h, R1, fun xs H2 l2 R2 o2 => q _ _ (l1.trans l2) R2 (.cons (o1.mono l2) o2)⟩⟩⟩
theorem pe_lamL {es : List Expr} {ks : List (Nat × List Nat)} (m : MkLs X G es ks) (hl : ks.length ≤ sizeLine) : PE X (.List es pos) (tLamL X G ks) := by
  refine ⟨fun pins s σ H Q I ⟨F, h, R, q⟩ => ?_⟩
  refine thn ((pe_lst (pos := pos) (pa_lams m)).run pins s σ H (fun z H1 => ∃ p xs, z = .ref p ∧ H1 p = some (.lst xs) ∧ ∀ o, Q z (upd H1 p (.frz o (.lst xs)))) I ⟨F, h, R, fun xs H1 l1 R1 o1 => ⟨by rw [o1.len]; exact hl, fun a n => ⟨a, xs, rfl, upd_same, fun o => ?_⟩⟩⟩) fun u s1 e => ep_freeze e
  rw [upd_upd]
  exact q a o xs _ (l1.trans (.new n)) (R1.beside n) (o1.mono (.new n)) upd_same
/-- g(e, x), x a closure of this frame -/
def tCallO (X : Cx) (G : Gm) (call : Nat → List Sl → M Val) (f i : Nat) (me : Mi.Loc → M Val) : TE := fun σ H Q => ∃ (F : Frm) (ρ : Mi.Loc) (h : CH) (Q' : Val → CH → Prop) (E' : Nat → CH → Prop) (k : Nat) (caps : List Nat) (ws : List Val) (x : V),
  RelL G H ρ σ ∧ Rep G.c F h H ∧ Acc X G F ρ σ H E' ∧ σ[i]? = some (some x) ∧ OwnC X G H x k ∧ Caps X (cloFrom X.env.cells (G.lam k).scope.names []) (G.lam k).fr caps ∧ capsOf ρ caps = some ws ∧
    (bnd (me ρ) fun v => call f [.v v, .c k ws]) Q' E' h ∧ ∀ v h' x H', Le H H' → RelD G.c H' v x → RelL G H' ρ σ → Rep G.c F h' H' → Q' v h' → Q x H'
theorem pe_callO (T : FnT X G call n f 2) (hg : X.A.guards = some []) (hr : Room n X.A) (gl : Gl X x) (hm : X.mg x = some (.ref (G.c.fa f))) (hdb : (x == ("__debug__" : Str)) = false) (ha : SE X G e me) (hfn : ∀ y, X.fn y = true)
    (hN : X.N[i]? = some y) (hv : Vis X.env.scope y) (hd : (y == ("__debug__" : Str)) = false) (hcd : (y == ("__classdict__" : Str)) = false)
    (he : starEach (e :: [.Name y p4]) X.env = (false, eval e X.env) :: starEach [.Name y p4] X.env) (hpl : (backTo pos (starEach [.Name y p4] X.env)).any (·.1) = false) :
    PE X (.Call (.Name x p) [e, .Name y p4] [] pos) (tCallO X G call f i me) := by
  refine ⟨fun pins s σ H Q I ⟨F, ρ, h, Q', E', k, caps, ws, z, r, q, ac, hi, oc, cp, ec, w, kk⟩ => ?_⟩
  refine wpAny_Call_Name_kw (ld_glob I gl hm ?_ hdb)
  refine PySem.W.callWith_K (h₀ := X.base) I.ok.mod.kin T.kp ?_ he hpl
  rw [he]
  show wpAny _ _ (spliced ((false, eval e X.env) :: backTo pos (starEach [.Name y p4] X.env))) _ _ s
  refine Calls.spliced_cons (thn (ha.run pins s σ H ρ h _ E' ⟨I, r, q, ac⟩ w) fun u1 s1 ⟨x1, H1, I1, rx, v1, h1, l1, d1, r1, q1, w1⟩ => ?_)
  show wpAny _ _ (spliced [(false, eval (.Name y p4) X.env)]) _ _ s1
  refine Calls.spliced_cons (thn ((pe_var (pos := p4) hN hv hd hcd).run pins s1 σ H1 (fun v H2 => v = z ∧ H2 = H1) I1 ⟨z, hi, rfl, rfl⟩) fun u2 s2 ⟨x2, H2, I2, r2, e1, e2⟩ => Calls.spliced_nil ⟨I2.kIn, ?_⟩)
  subst e1 e2
  obtain ⟨g, c', pm, ctv, dv, doc, ez, o1, o2, o3⟩ := oc.mono l1
  subst ez
  have CL : ClosAt (G.at X.stack s2.heap H2) H2 g k ws := clos_own I2 cp hfn r1 ec (.inr o1) o2 o3
  have A2 : At X G F pins ρ h1 σ H2 E' s2 := ⟨I2, r1, q1, ac.mono l1⟩
  refine thn (run_fg (us := [u1, u2]) (vs := [x1, .ref g]) (ss := [.v v1, .c k ws]) A2 T hg hr (.cons rx (.cons r2 .nil)) (.cons (show RelS (G.at X.stack s2.heap H2) H2 (.v v1) x1 from d1) (.cons (show RelS (G.at X.stack s2.heap H2) H2 (.c k ws) (.ref g) from ⟨g, rfl, CL⟩) .nil)) rfl w1) fun u s3 ⟨y3, H3, I3, ry, v3, h3, l3, d3, rl3, q3, w3⟩ => ?_
  exact ⟨y3, H3, I3, ry, kk v3 h3 y3 H3 (l1.trans l3) d3 rl3 q3 w3⟩
theorem RelL.unset {H : Hp} {ρ : Mi.Loc} {σ : L2.St} (r : RelL G H ρ σ) (hn : ∀ s, ρ[i]? ≠ some (some s)) (o : Option V) : RelL G H ρ (σ.set i o) := by
  refine ⟨by simp [r.len], fun j s e => ?_⟩
  by_cases hj : i = j
  · subst hj
    exact absurd e (hn s)
  · obtain ⟨x, h1, h2⟩ := r.at_ j s e
    exact ⟨x, by rw [List.getElem?_set_ne hj]; exact h1, h2⟩
theorem ss_forlam {es : List Expr} {ks : List (Nat × List Nat)} (hp : PassesOwn (model X.prog X.w) X.A X.env X.xe) (hc : X.calm = true) (hNd : X.N.Nodup) (hN : X.N[i]? = some y) (hx : L2.Loc X.env.scope y) (hf : X.fn y = true ∨ X.env.scope.names.lookup y = some .local) (hv : Vis X.env.scope y)
    (hd : (y == ("__debug__" : Str)) = false) (hcd : (y == ("__classdict__" : Str)) = false) (hfn : ∀ y, X.fn y = true) (m : MkLs X G es ks) (hl : ks.length ≤ sizeLine)
    (T : FnT X G call n f 2) (hg : X.A.guards = some []) (hr : Room n X.A) (gl : Gl X x) (hm : X.mg x = some (.ref (G.c.fa f))) (hdb : (x == ("__debug__" : Str)) = false) (ha : SE X G e me) (hb : SE X G r mr)
    (he : starEach (e :: [.Name y p4]) X.env = (false, eval e X.env) :: starEach [.Name y p4] X.env) (hpl : (backTo p5 (starEach [.Name y p4] X.env)).any (·.1) = false) :
    SS X G (.For (.Name y p1) (.List es p2) [.If (.UnaryOp .Not (.Call (.Name x p3) [e, .Name y p4] [] p5) p6) [.Return (some r) p7] [] p8] [] pos) (fun ρ => lamGo call f me mr ks (ρ.set i none)) := by
  have PC := pe_callO (p := p3) (pos := p5) (p4 := p4) T hg hr gl hm hdb ha hfn hN hv hd hcd he hpl
  have PT1 := pt_not (pos := p6) (pt_val PC (fun _ => rfl))
  have P := ps_for (pos := pos) hp hc (pi_list (pe_lamL (pos := p2) m hl)) (pg_name (pos := p1) hNd hN hx hf) (pss_one (ps_if (pos := p8) PT1 (pss_one (ps_ret (pos := p7) hb.pe)) pss_nil)) (fun _ => rfl)
  refine ⟨fun {F} pins s0 σ0 H0 ρ0 h0 Q E A w => P.run pins s0 σ0 H0 _ A.inv ?_⟩
  have rl := A.loc
  have q := A.rep
  have ac := A.acc
  refine ⟨F, h0, q, fun a o xs H1 l1 R1 oc ha1 => ⟨a, rfl, ⟨xs, .inl (.inr ⟨o, ha1⟩)⟩, ?_⟩⟩
  have hi0 : ∀ s, (ρ0.set i none)[i]? ≠ some (some s) := fun s z => by
    have hl : i < ρ0.length := by
      have := (List.getElem?_eq_some_iff.mp z).1
      simpa using this
    rw [List.getElem?_set_self hl] at z
    cases z
  have hil : i < σ0.length := by
    rw [A.inv.len]
    exact (List.getElem?_eq_some_iff.mp hN).1
  refine for_list (K := X.K) (a := a) (xs := xs) (fun j σ H => ∃ h, i < σ.length ∧ Le H1 H ∧ RelL G H (ρ0.set i none) σ ∧ Rep G.c F h H ∧ lamGo call f me mr (ks.drop j) (ρ0.set i none) Q E h) ?_ ?_ ?_ ?_
  · exact ⟨h0, hil, .refl _, (rl.mono l1).forget i, R1, w⟩
  · rintro j σ H _ ⟨h, _, l, _⟩
    exact .inl (.inr ⟨o, l.frz _ _ _ ha1⟩)
  · rintro j z σ H ez ⟨h, il, l, r1, q1, w1⟩
    obtain ⟨pk, rest, e1, e2, e3, oz⟩ := oc.at_ ez
    rw [e1] at w1
    obtain ⟨ws, ew, w1⟩ := opt_some w1
    show tIfS _ _ _ _ (σ.set i (some z)) H
    refine ⟨F, ρ0.set i none, h, _, E, pk.1, pk.2, ws, z, r1.unset hi0 _, q1, (ac.mono (l1.trans l)).at, by rw [List.getElem?_set_self il], oz.mono l, m.caps A.inv.ok e3, ew, w1, ?_⟩
    intro v h' xv H' l' dv rl' q' w'
    cases v with
    | bl b =>
      refine ⟨b, dv, ?_⟩
      cases b with
      | true =>
        exact ⟨h', by rw [List.length_set]; exact il, l.trans l', rl', q', by rw [e2]; exact w'⟩
      | false =>
        exact ⟨F, ρ0.set i none, h', _, E, rl', q', (ac.mono ((l1.trans l).trans l')).at, w', fun v2 h2 x2 H2 l2 d2 _ q2 w2 => ⟨v2, h2, ((l1.trans l).trans l').trans l2, d2, q2, w2⟩⟩
    | _ => exact w'.elim
  · rintro σ H ⟨h, il, l, r1, q1, w1⟩
    rw [List.drop_of_length_le (by rw [oc.len]; exact Nat.le_refl _)] at w1
    exact ⟨ρ0.set i none, h, l1.trans l, r1, q1, w1⟩
end
end Mi

set_option Elab.async false
set_option linter.all false
set_option maxRecDepth 100000
set_option maxHeartbeats 400000
namespace Mi
open PySem PySem.Spec PyProof.Rows L2 LamX NdefX
/-! ### looks at the text -/
def nsE : Expr → Bool
  | .Starred _ _ => false
  | _ => true
theorem star_cons {e : Expr} {es : List Expr} {env : Env} (h : nsE e = true) : starEach (e :: es) env = (false, eval e env) :: starEach es env := by
  cases e <;> first | rfl | (exact nomatch (show false = true from h))
theorem star_plain {pos : Pos} {env : Env} : ∀ {es : List Expr}, es.all nsE = true → (backTo pos (starEach es env)).any (·.1) = false
  | [], _ => rfl
  | e :: es, h => by
    rw [List.all_cons, Bool.and_eq_true] at h
    rw [star_cons h.1]
    show (false || (backTo pos (starEach es env)).any (·.1)) = false
    rw [star_plain h.2]; rfl
theorem star_one {e : Expr} {env : Env} (h : nsE e = true) : starEach [e] env = [(false, eval e env)] := star_cons h
theorem star_len {env : Env} : ∀ {es : List Expr}, (starEach es env).length = es.length
  | [] => rfl
  | e :: es => by
    have := star_len (env := env) (es := es)
    cases e <;> simp [starEach, this]
theorem all_notstar {pos : Pos} {env : Env} : ∀ {es : List Expr}, es.all nsE = true → (backTo pos (starEach es env)).all (fun x => !x.1) = true
  | [], _ => rfl
  | e :: es, h => by
    rw [List.all_cons, Bool.and_eq_true] at h
    rw [star_cons h.1]
    show (true && (backTo pos (starEach es env)).all (fun x => !x.1)) = true
    rw [all_notstar h.2]; rfl
/-- no call without arguments (super) stands ahead of an attribute -/
def baseB : Expr → Bool
  | .Call (.Name _ _) [] [] _ => false
  | _ => true
theorem base_ok {o : Expr} {m : Str} {env : Env} {w : Sem Value} (h : baseB o = true) : attributeBase o m env w = w := by
  cases o with
  | Call f as ks p =>
    cases f with
    | Name x p2 =>
      cases as with
      | nil => cases ks with
        | nil => exact nomatch (show false = true from h)
        | cons _ _ => rfl
      | cons _ _ => rfl
    | _ => rfl
  | _ => rfl
theorem bmT_of {X : Cx} {o : Expr} {name : Str} {apos cpos : Pos} {es : List Expr} (h1 : baseB o = true) (h2 : es.all nsE = true) (h3 : es.length < 30) (h4 : (apos.endLine == cpos.line) = true) : BmT X o name apos es cpos :=
  ⟨base_ok h1, by
    rw [all_notstar h2]
    show (true && true && decide (es.length + 0 + 0 < 30)) = true
    rw [decide_eq_true (by omega)]; rfl, h4, star_plain h2⟩
/-- a plain index -/
def plainI : Expr → Bool
  | .Slice _ _ _ _ => false
  | _ => true
theorem plain_ok {b : Expr} (h : plainI b = true) : PlainIx b := by
  intro o i
  cases b <;> first | rfl | (exact nomatch (show false = true from h))
/-- a test is the value's truth -/
def valE : Expr → Bool
  | .BoolOp _ _ _ => false
  | .UnaryOp .Not _ _ => false
  | .IfExp _ _ _ _ => false
  | .Compare _ _ _ _ => false
  | _ => true
theorem val_ok {a : Expr} {env : Env} (h : valE a = true) : ∀ whole, isTrue a env whole = (do let v ← whole; standAt a.pos; holding [v] (truthy v)) := by
  intro whole
  cases a with
  | UnaryOp op x p => cases op <;> first | rfl | (exact nomatch (show false = true from h))
  | _ => first | rfl | (exact nomatch (show false = true from h))
/-- what a store swaps -/
def compE : Expr → Bool
  | .ListComp _ _ _ _ => true
  | .SetComp _ _ _ _ => true
  | .DictComp _ _ _ _ _ => true
  | _ => false
theorem swaps_no {e : Expr} {t : Option Expr} {l : Nat} {env : Env} (h : compE e = false) : swapsWith e t l env = pure false := by
  cases e <;> first | rfl | (exact nomatch (show true = false from h))
theorem swapsSole_no {tg e : Expr} {l : Nat} {env : Env} (h : compE e = false) : swapsWithSole [tg] e l env = pure false := swaps_no h
theorem folded_no {e : Expr} {env : Env} (h : ∀ a b c, e ≠ .Set a b c) : ∀ x, foldedSetIterable e env x = pure x := by
  intro x
  cases e <;> first | rfl | exact (h _ _ _ rfl).elim
def setE : Expr → Bool
  | .Set _ _ _ => true
  | _ => false
theorem folded_ok {e : Expr} {env : Env} (h : setE e = false) : ∀ x, foldedSetIterable e env x = pure x :=
  folded_no fun a b c q => by subst q; exact nomatch (show true = false from h)
theorem marks_no {op : CmpOp} {e : Expr} (h : setE e = false) : behindInMarks op e = false := by
  cases e <;> first | rfl | (exact nomatch (show true = false from h))
theorem lastMarks_no {op op' : CmpOp} {b c : Expr} (h : setE c = false) : lastMarks [op, op'] [b, c] = false := marks_no h
/-- an expression and what it does, as a value and as a test -/
structure ET (X : Cx) (G : Gm) (e : Expr) (m : Mi.Loc → M Val) : Prop where
  se : SE X G e m
  st : ST X G e m
theorem ET.of {X : Cx} {G : Gm} {e : Expr} {m : Mi.Loc → M Val} (hK : X.K = G.c.K) (a : SE X G e m) (h : valE e = true) : ET X G e m := ⟨a, st_val hK a (val_ok h)⟩
end Mi

set_option Elab.async false
set_option linter.all false
set_option maxRecDepth 100000
set_option maxHeartbeats 400000
namespace Mi
open PySem PySem.Spec PyProof.Rows L2 LamX NdefX
/-! ### the check of a text against its clean form -/
structure LamOb where
  k : Nat
  caps : List Nat
  params : Arguments
  body : Expr
  scope : Scope
abbrev R := Option (List LamOb)
def okR (b : Bool) : R := if b = true then some [] else none
def andR (a b : R) : R := match a with
  | some x => (match b with
    | some y => some (x ++ y)
    | none => none)
  | none => none
theorem okR_some {b : Bool} {o : List LamOb} (h : okR b = some o) : b = true := by
  unfold okR at h
  split at h
  · assumption
  · cases h
theorem andR_some {a b : R} {o : List LamOb} (h : andR a b = some o) : ∃ x y, a = some x ∧ b = some y ∧ (∀ z, z ∈ x → z ∈ o) ∧ (∀ z, z ∈ y → z ∈ o) := by
  unfold andR at h
  split at h
  · split at h
    · cases h
      exact ⟨_, _, rfl, rfl, fun z hz => List.mem_append_left _ hz, fun z hz => List.mem_append_right _ hz⟩
    · cases h
  · cases h
/-- what the check knows -/
structure KC where
  N : List Str
  sc : List (Str × NameKind)
  fns : List (Str × Nat)
  cls : List (Str × Nat)
  excs : List (Str × Nat)
  gis : List (Str × Int)
  free : List Str
  ar : Nat → Option Nat
  kb : List (Nat × Nat × List Str × List Nat)
  top : Bool
def okN (x : Str) : Bool := !(x == ("__debug__" : Str)) && !(x == ("__classdict__" : Str)) && !(x == ("__name__" : Str))
def KC.vis (C : KC) (x : Str) : Bool := match C.sc.lookup x with
  | some .local => true
  | some .cell => true
  | some .free => true
  | _ => false
def KC.glo (C : KC) (x : Str) : Bool := (match C.sc.lookup x with
  | some .globalImplicit => true
  | _ => false) && okN x
def KC.own (C : KC) (x : Str) : Bool := match C.sc.lookup x with
  | some .local => true
  | some .cell => true
  | _ => false
def KC.loc (C : KC) (x : Str) : Bool := match C.sc.lookup x with
  | some .local => true
  | _ => false
def KC.nm (C : KC) (i : Nat) (x : Str) : Bool := decide (C.N[i]? = some x)
/-- a name that is a builtin -/
def KC.bt (C : KC) (x : Str) : Bool := C.glo x && C.free.contains x
def opOk : Operator → Op → Bool
  | .Add, .add => true
  | .Sub, .sub => true
  | .Mult, .mul => true
  | .FloorDiv, .fdiv => true
  | .Mod, .mod => true
  | .Pow, .pow => true
  | _, _ => false
def cmOk : CmpOp → Cm → Bool
  | .Eq, .eq => true
  | .NotEq, .ne => true
  | .Lt, .lt => true
  | .LtE, .le => true
  | .Gt, .gt => true
  | .GtE, .ge => true
  | .Is, .is => true
  | .IsNot, .isn => true
  | .In, .inn => true
  | .NotIn, .nin => true
  | _, _ => false
/-- the builtins that are called by name: their word, whether they are types -/
def biN : Bi → Option (Str × Bool)
  | .len => some ("len", false)
  | .all => some ("all", false)
  | .any => some ("any", false)
  | .abs => some ("abs", false)
  | .sum => some ("sum", false)
  | .max => some ("max", false)
  | .maxD => some ("max", false)
  | .min => some ("min", false)
  | .sorted _ => some ("sorted", false)
  | .int => some ("int", true)
  | .tuple => some ("tuple", true)
  | .list _ => some ("list", true)
  | .sortSet _ => none
def bmN : Bm → Option Str
  | .append => some "append"
  | .extend => some "extend"
  | .pop => some "pop"
  | _ => none
def tyN (C : KC) (x : Str) : Ty → Bool
  | .int => decide (x = "int") && C.bt x
  | .bool => decide (x = "bool") && C.bt x
  | .str => decide (x = "str") && C.bt x
  | .tup => decide (x = "tuple") && C.bt x
  | .lst => decide (x = "list") && C.bt x
  | .dict => decide (x = "dict") && C.bt x
  | .own c => C.glo x && decide (C.cls.lookup x = some c)
/-- a target: its names' places -/
def ckNs (C : KC) : List Expr → List Nat → Bool
  | [], [] => true
  | .Name x _ :: r, i :: is => C.nm i x && C.own x && ckNs C r is
  | _, _ => false
def ckTg (C : KC) : Expr → List Nat → Bool
  | .Name x _, [i] => C.nm i x && C.own x
  | .Tuple es _ _, is => decide (is.length ≠ 1) && ckNs C es is && decide (es.length = is.length)
  | _, _ => false
def KC.blk (C : KC) (sc : Scope) : KC := { C with sc := sc.names, top := false }
/-- the block's own names, as the target has them -/
def tgNames : Expr → List Str
  | .Name x _ => [x]
  | .Tuple es _ _ => es.filterMap fun
    | .Name x _ => some x
    | _ => none
  | _ => []
def ckClo (C : KC) (l : Expr) : Clo → R
  | .var i => (match l with
    | .Name x _ => okR (C.top && C.nm i x && C.vis x && okN x)
    | _ => none)
  | .lam k caps => (match l with
    | .Lambda ps b sc _ => if C.top = true then some [⟨k, caps, ps, b, sc⟩] else none
    | _ => none)
def kwOk : List Keyword → List Str → Bool
  | [], [] => true
  | ⟨some a, _, _⟩ :: r, k :: ks => decide (a = k) && kwOk r ks
  | _, _ => false
/-- what is walked: its arguments -/
def itArgs (C : KC) (tg e : Expr) (k : ItK) : Option (List Expr) := match k with
  | .seq => if setE e = true then none else some [e]
  | .range => (match e with
    | .Call (.Name x _) es [] _ => if (decide (x = "range") && C.bt x && es.all nsE && (decide (es.length = 1) || decide (es.length = 2))) = true then some es else none
    | _ => none)
  | .enum => (match e, tg with
    | .Call (.Name x _) [a] [] _, .Tuple _ _ _ => if (decide (x = "enumerate") && C.bt x && nsE a) = true then some [a] else none
    | _, _ => none)
  | .zip => (match e, tg with
    | .Call (.Name x _) [a, b] [] _, .Tuple _ _ _ => if (decide (x = "zip") && C.bt x && nsE a && nsE b) = true then some [a, b] else none
    | _, _ => none)
mutual
def ckE (C : KC) (e : Expr) : E → R
  | .skip => none
  | .var i => (match e with
    | .Name x _ => okR (C.nm i x && C.vis x && okN x)
    | _ => none)
  | .con v => (match e, v with
    | .Constant .none _ _, .non => some []
    | .Constant (.bool a) _ _, .bl b => okR (decide (a = b))
    | .Constant (.int a) _ _, .int b => okR (decide (a = b))
    | .Constant (.str a) _ _, .str b => okR (decide (a = b) && decide (b.length ≤ sizeLine) && b.cps.all (· < 0x110000))
    | _, _ => none)
  | .gint x i => (match e with
    | .Name y _ => okR (decide (x = y) && C.glo x && decide (C.gis.lookup x = some i))
    | _ => none)
  | .fn x f => (match e with
    | .Name y _ => okR (decide (x = y) && C.glo x && decide (C.fns.lookup x = some f))
    | _ => none)
  | .bin op _ a b => (match e with
    | .BinOp a' o b' _ => andR (okR (opOk o op)) (andR (ckE C a' a) (ckE C b' b))
    | _ => none)
  | .neg a => (match e with
    | .UnaryOp .USub a' _ => ckE C a' a
    | _ => none)
  | .cmp op a b => (match e with
    | .Compare a' [o] [b'] _ => andR (okR (cmOk o op && !setE b')) (andR (ckE C a' a) (ckE C b' b))
    | _ => none)
  | .chain o1 o2 a b c => (match e with
    | .Compare a' [p1, p2] [b', c'] _ => andR (okR (cmOk p1 o1 && cmOk p2 o2 && !setE c')) (andR (ckE C a' a) (andR (ckE C b' b) (ckE C c' c)))
    | _ => none)
  | .band es => (match e with
    | .BoolOp .And es' _ => andR (okR (!es.isEmpty)) (ckL C es' es)
    | _ => none)
  | .bor es => (match e with
    | .BoolOp .Or es' _ => andR (okR (!es.isEmpty)) (ckL C es' es)
    | _ => none)
  | .not a => (match e with
    | .UnaryOp .Not a' _ => ckE C a' a
    | _ => none)
  | .ite c a b => (match e with
    | .IfExp c' a' b' _ => andR (ckE C c' c) (andR (ckE C a' a) (ckE C b' b))
    | _ => none)
  | .tup es => (match e with
    | .Tuple es' _ _ => andR (okR (es'.all nsE && decide (es'.length ≤ sizeLine))) (ckL C es' es)
    | _ => none)
  | .list _ es => (match e with
    | .List es' _ => andR (okR (es'.all nsE && decide (es'.length ≤ sizeLine))) (ckL C es' es)
    | _ => none)
  | .dict deep es => (match e with
    | .Dict ks vs _ => andR (okR (!deep && !ks.isEmpty && decide (ks.length ≤ 15) && decide (ks.length = vs.length) && ks.all (·.isSome))) (ckP C ks vs es)
    | _ => none)
  | .emp => (match e with
    | .Dict [] [] _ => some []
    | _ => none)
  | .ix a i => (match e with
    | .Subscript a' i' _ => andR (okR (plainI i')) (andR (ckE C a' a) (ckE C i' i))
    | _ => none)
  | .cut _ a lo hi => (match e with
    | .Subscript a' (.Slice lo' hi' none _) _ => andR (ckE C a' a) (andR (match lo' with
        | none => okR (isSkip lo)
        | some l => if isSkip lo = true then none else ckE C l lo) (match hi' with
        | none => okR (isSkip hi)
        | some l => if isSkip hi = true then none else ckE C l hi))
    | _ => none)
  | .rev _ a => (match e with
    | .Subscript a' (.Slice none none (some (.UnaryOp .USub (.Constant (.int i) _ _) _)) _) _ => andR (okR (decide (i = 1))) (ckE C a' a)
    | _ => none)
  | .comp _ tg k its cond elt => (match e with
    | .ListComp elt' [⟨tg', it', ifs', asy⟩] sc _ => andR (okR (decide (asy = 0) && !setE it' && blkC C.N ⟨.function, C.sc, false, false, []⟩ sc ((tgNames tg').zip tg) && decide ((((tgNames tg').zip tg).map (·.2)) = tg) && ckTg (C.blk sc) tg' tg))
        (andR (match itArgs C tg' it' k with
          | some as => ckL C as its
          | none => none) (andR (match ifs' with
          | [] => okR (isSkip cond)
          | [c'] => if isSkip cond = true then none else ckE (C.blk sc) c' cond
          | _ => none) (ckE (C.blk sc) elt' elt)))
    | _ => none)
  | .call x f es => (match e with
    | .Call (.Name y _) es' [] _ => andR (okR (decide (x = y) && C.glo x && decide (C.fns.lookup x = some f) && decide (C.ar f = some es'.length) && es'.all nsE)) (ckL C es' es)
    | _ => none)
  | .callk x f es ks kes ord => (match e with
    | .Call (.Name y _) es' kws _ => andR (okR (decide (x = y) && C.glo x && decide (C.fns.lookup x = some f) && C.kb.contains (f, es'.length, ks, ord) && es'.all nsE && kwOk kws ks)) (andR (ckL C es' es) (ckL C (kws.map (·.value)) kes))
    | _ => none)
  | .callc x f es c => (match e with
    | .Call (.Name y _) es' [] _ => andR (okR (decide (x = y) && C.glo x && decide (C.fns.lookup x = some f) && decide (C.ar f = some es'.length) && es'.all nsE)) (ckLC C es' es c)
    | _ => none)
  | .callv i es => (match e with
    | .Call (.Name x _) es' [] _ => andR (okR (C.nm i x && C.vis x && okN x && es'.all nsE && (C.top || !es.isEmpty))) (ckL C es' es)
    | _ => none)
  | .meth _ _ _ => none
  | .make _ _ _ => none
  | .bi b es => (match e with
    | .Call (.Name x _) es' [] _ => (match b with
      | .sortSet _ => (match es', es with
        | [.Call (.Name y _) [a'] [] _], [a] => andR (okR (decide (x = "sorted") && C.bt x && decide (y = "set") && C.bt y && nsE a')) (ckE C a' a)
        | _, _ => none)
      | b => (match biN b with
        | some (w, _) => andR (okR (decide (x = w) && C.bt x && es'.all nsE && !es'.isEmpty)) (ckL C es' es)
        | none => none))
    | _ => none)
  | .rng1 k a => (match e with
    | .Call (.Name x _) [.Call (.Name y _) [a'] [] _] [] _ => andR (okR (decide (x = (match k with
        | none => "tuple"
        | some _ => "list")) && C.bt x && decide (y = "range") && C.bt y && nsE a')) (ckE C a' a)
    | _ => none)
  | .rng2 k a b => (match e with
    | .Call (.Name x _) [.Call (.Name y _) [a', b'] [] _] [] _ => andR (okR (decide (x = (match k with
        | none => "tuple"
        | some _ => "list")) && C.bt x && decide (y = "range") && C.bt y && nsE a' && nsE b')) (andR (ckE C a' a) (ckE C b' b))
    | _ => none)
  | .sset _ _ => none
  | .lset _ => none
  | .bm b o es => (match e with
    | .Call (.Attribute o' m ap) es' [] cp => (match bmN b with
      | some w => andR (okR (decide (m = w) && baseB o' && es'.all nsE && decide (es'.length < 30) && (ap.endLine == cp.line))) (andR (ckE C o' o) (ckL C es' es))
      | none => none)
    | _ => none)
  | .attr _ _ => none
  | .isi a t => (match e with
    | .Call (.Name x _) [a', .Name y _] [] _ => andR (okR (decide (x = "isinstance") && C.bt x && tyN C y t && nsE a')) (ckE C a' a)
    | _ => none)
  | .reprEq n a b => (match e with
    | .Compare (.Call (.Name x _) [a'] [] _) [o] [.Call (.Name y _) [b'] [] _] _ => andR (okR (decide (x = "repr") && C.bt x && decide (y = "repr") && (match o with
        | .Eq => !n
        | .NotEq => n
        | _ => false) && nsE a' && nsE b')) (andR (ckE C a' a) (ckE C b' b))
    | _ => none)
def ckL (C : KC) (es' : List Expr) : List E → R
  | [] => okR es'.isEmpty
  | i :: is => (match es' with
    | e :: r => andR (ckE C e i) (ckL C r is)
    | [] => none)
def ckLC (C : KC) (es' : List Expr) : List E → Clo → R
  | [], c => (match es' with
    | [l] => ckClo C l c
    | _ => none)
  | i :: is, c => (match es' with
    | e :: r => andR (ckE C e i) (ckLC C r is c)
    | [] => none)
def ckP (C : KC) (ks : List (Option Expr)) (vs : List Expr) : List E → R
  | [] => okR (ks.isEmpty && vs.isEmpty)
  | [_] => none
  | k :: v :: r => (match ks, vs with
    | some k' :: ks', v' :: vs' => andR (ckE C k' k) (andR (ckE C v' v) (ckP C ks' vs' r))
    | _, _ => none)
end
end Mi

set_option Elab.async false
set_option linter.all false
set_option maxRecDepth 100000
set_option maxHeartbeats 400000
namespace Mi
open PySem PySem.Spec PyProof.Rows L2 LamX NdefX
/-- what the check leans on -/
structure CKok (X : Cx) (G : Gm) (C : KC) (D : DG) (n : Nat) : Prop where
  hK : X.K = G.c.K
  nd : X.N.Nodup
  hN : X.N = C.N
  kind : X.env.scope.kind = .function
  sc : ∀ x k, C.sc.lookup x = some k → X.env.scope.names.lookup x = some k ∨ (k = .free ∧ X.env.scope.names.lookup x = some .cell)
  fn : ∀ x, C.sc.lookup x = some .cell → X.fn x = true
  fns : ∀ x f, C.fns.lookup x = some f → X.mg x = some (.ref (G.c.fa f))
  cls : ∀ x c, C.cls.lookup x = some c → X.mg x = some (.ref (G.c.ca c))
  gis : ∀ x i, C.gis.lookup x = some i → ∃ t, X.mg x = some (.int i t)
  free : ∀ x, C.free.contains x = true → X.mg x = none
  calm : X.calm = true
  un : X.A.units + 128 < cLine
  gd : X.A.guards = some []
  room : Room (n + 1) X.A
  ok : CIok G D.ci
  dar : D.ar = C.ar
  fnT : ∀ f m, C.ar f = some m → FnT X G D.call (n + 1) f m
  fnK : ∀ f j ks ord, C.kb.contains (f, j, ks, ord) = true → FnK X G D.call (n + 1) f j ks ord
  gx : C.top = true → GX X G ∧ X.ex = []
  lam : C.top = true → ∀ k ws Q E h, D.call k (vals ws) Q E h → ws.length = (G.lam k).fr.length → LamOk X.prog X.w X.K X.mg X.base G D.call n k
abbrev MkOb (X : Cx) (G : Gm) (o : LamOb) : Prop := MkL X G o.k o.caps o.params o.body o.scope
section
variable {X : Cx} {G : Gm} {C : KC} {D : DG} {n : Nat} {x : Str} {i : Nat}
theorem okN_1 (h : okN x = true) : (x == ("__debug__" : Str)) = false := by
  unfold okN at h
  cases e : (x == ("__debug__" : Str)) with
  | false => rfl
  | true => rw [e] at h; exact nomatch (show false = true from h)
theorem okN_2 (h : okN x = true) : (x == ("__classdict__" : Str)) = false := by
  unfold okN at h
  cases e : (x == ("__classdict__" : Str)) with
  | false => rfl
  | true => rw [e] at h; simp at h
theorem okN_3 (h : okN x = true) : x ≠ "__name__" := by
  unfold okN at h
  cases e : (x == ("__name__" : Str)) with
  | false => exact fun z => by rw [z] at e; simp at e
  | true => rw [e] at h; simp at h
theorem CKok.vis (k : CKok X G C D n) (h : C.vis x = true) : Vis X.env.scope x := by
  unfold KC.vis at h
  split at h
  · rename_i e
    rcases k.sc x _ e with z | ⟨z, _⟩
    · exact .inl z
    · cases z
  · rename_i e
    rcases k.sc x _ e with z | ⟨z, _⟩
    · exact .inr (.inl z)
    · cases z
  · rename_i e
    rcases k.sc x _ e with z | ⟨_, z⟩
    · exact .inr (.inr z)
    · exact .inr (.inl z)
  · cases h
theorem CKok.glo (k : CKok X G C D n) (h : C.glo x = true) : Gl X x ∧ okN x = true := by
  unfold KC.glo at h
  rw [Bool.and_eq_true] at h
  obtain ⟨h, h2⟩ := h
  refine ⟨?_, h2⟩
  split at h
  · rename_i e
    rcases k.sc x _ e with z | ⟨z, _⟩
    · exact z
    · cases z
  · cases h
theorem CKok.own (k : CKok X G C D n) (h : C.own x = true) : L2.Loc X.env.scope x ∧ (X.fn x = true ∨ X.env.scope.names.lookup x = some .local) := by
  unfold KC.own at h
  split at h
  · rename_i e
    rcases k.sc x _ e with z | ⟨z, _⟩
    · exact ⟨.inl z, .inr z⟩
    · cases z
  · rename_i e
    rcases k.sc x _ e with z | ⟨z, _⟩
    · exact ⟨.inr z, .inl (k.fn x e)⟩
    · cases z
  · cases h
theorem CKok.loc (k : CKok X G C D n) (h : C.loc x = true) : X.env.scope.names.lookup x = some .local := by
  unfold KC.loc at h
  split at h
  · rename_i e
    rcases k.sc x _ e with z | ⟨z, _⟩
    · exact z
    · cases z
  · cases h
theorem CKok.nm (k : CKok X G C D n) (h : C.nm i x = true) : X.N[i]? = some x := by
  rw [k.hN]
  exact of_decide_eq_true h
theorem CKok.bt (k : CKok X G C D n) (h : C.bt x = true) : Gl X x ∧ okN x = true ∧ X.mg x = none := by
  unfold KC.bt at h
  rw [Bool.and_eq_true] at h
  obtain ⟨a, b⟩ := k.glo h.1
  exact ⟨a, b, k.free x h.2⟩
theorem vr_op (hK : X.K = G.c.K) {o : Operator} {op : Op} {m : Bool} (h : opOk o op = true) : VR2 X G (binaryOp o) (binM op m) := by
  cases op with
  | add => cases o <;> first | exact nomatch (show false = true from h) | exact @vr_add X G hK m
  | sub => cases o <;> first | exact nomatch (show false = true from h) | exact @vr_sub X G m
  | mul => cases o <;> first | exact nomatch (show false = true from h) | exact @vr_mul X G hK m
  | fdiv => cases o <;> first | exact nomatch (show false = true from h) | exact @vr_fdiv X G m
  | mod => cases o <;> first | exact nomatch (show false = true from h) | exact @vr_mod X G m
  | pow => cases o <;> first | exact nomatch (show false = true from h) | exact @vr_pow X G m
theorem vr_cm (hK : X.K = G.c.K) (hu : X.A.units + 128 < cLine) {o : CmpOp} {c : Cm} (h : cmOk o c = true) : VR2 X G (compareOp o) (fun a b => blM (cmpM c a b)) := by
  have hu2 : X.A.units + 64 < cLine := by omega
  cases c with
  | eq => cases o <;> first | exact nomatch (show false = true from h) | exact @vr_eq X G hK hu2
  | ne => cases o <;> first | exact nomatch (show false = true from h) | exact @vr_ne X G hK hu2
  | lt => cases o <;> first | exact nomatch (show false = true from h) | exact @vr_lt X G
  | le => cases o <;> first | exact nomatch (show false = true from h) | exact @vr_le X G
  | gt => cases o <;> first | exact nomatch (show false = true from h) | exact @vr_gt X G
  | ge => cases o <;> first | exact nomatch (show false = true from h) | exact @vr_ge X G
  | is => cases o <;> first | exact nomatch (show false = true from h) | exact @vr_is X G
  | isn => cases o <;> first | exact nomatch (show false = true from h) | exact @vr_isn X G
  | inn => cases o <;> first | exact nomatch (show false = true from h) | exact @vr_in X G hK hu
  | nin => cases o <;> first | exact nomatch (show false = true from h) | exact @vr_nin X G hK hu
/-! ### targets -/
theorem pgs_ok (k : CKok X G C D n) : ∀ {ts : List Expr} {is : List Nat}, ckNs C ts is = true → PGs X ts (gNs is) ∧ (assignEach ts X.env).findIdx? (·.1) = none ∧ (assignEach ts X.env).length = is.length
  | [], [], _ => ⟨pgs_nil, rfl, rfl⟩
  | t :: ts, i :: is, h => by
    cases t with
    | Name x p =>
      have h : (C.nm i x && C.own x && ckNs C ts is) = true := h
      simp only [Bool.and_eq_true] at h
      obtain ⟨a, b⟩ := k.own h.1.2
      obtain ⟨c, d, e⟩ := pgs_ok k h.2
      refine ⟨pgs_cons (pg_name k.nd (k.nm h.1.1) a b) c, ?_, ?_⟩
      · show List.findIdx? (·.1) ((false, _) :: assignEach ts X.env) = none
        rw [List.findIdx?_cons]
        simp only [Bool.false_eq_true, if_false, d]; rfl
      · show (assignEach ts X.env).length + 1 = is.length + 1
        rw [e]
    | _ => exact nomatch (show false = true from h)
  | [], _ :: _, h => nomatch (show false = true from h)
  | t :: _, [], h => by cases t <;> exact nomatch (show false = true from h)
theorem pg_many (k : CKok X G C D n) {ts : List Expr} {is : List Nat} {kk : Nat} {pos : Pos} (h : ckNs C ts is = true) : PG X (.Tuple ts kk pos) (gTup X.K is.length (gNs is)) := by
  obtain ⟨a, b, c⟩ := pgs_ok k h
  exact pg_tup k.calm a c b
theorem tgG_not1 {K : PySem.W.Frag} {is : List Nat} (h : is.length ≠ 1) : tgG K is = gTup K is.length (gNs is) := by
  match is, h with
  | [], _ => rfl
  | [_], h => exact (h rfl).elim
  | _ :: _ :: _, _ => rfl
theorem pg_ok (k : CKok X G C D n) {tg : Expr} {is : List Nat} (h : ckTg C tg is = true) : PG X tg (tgG X.K is) := by
  cases tg with
  | Name x p =>
    match is, h with
    | [i], h =>
      have h : (C.nm i x && C.own x) = true := h
      rw [Bool.and_eq_true] at h
      obtain ⟨a, b⟩ := k.own h.2
      exact pg_name k.nd (k.nm h.1) a b
    | [], h => exact nomatch (show false = true from h)
    | _ :: _ :: _, h => exact nomatch (show false = true from h)
  | Tuple ts kk pos =>
    have h : (decide (is.length ≠ 1) && ckNs C ts is && decide (ts.length = is.length)) = true := by
      match is, h with
      | [], h => exact h
      | [_], h => exact h
      | _ :: _ :: _, h => exact h
    simp only [Bool.and_eq_true, decide_eq_true_eq] at h
    rw [tgG_not1 h.1.1]
    exact pg_many k h.1.2
  | _ => cases is with
    | nil => exact nomatch (show false = true from h)
    | cons _ r => cases r <;> exact nomatch (show false = true from h)
/-! ### a comprehension's block -/
theorem relabel_sc {scope : Scope} {env : Env} : ∀ {names : List (Str × NameKind)} {x : Str} {k : NameKind}, names.lookup x = some k →
    (names.map fun (n, k) => if (k == NameKind.free && env.scope.kind == .function && env.kindOf n == some .cell) then (n, NameKind.cell) else (n, k)).lookup x = some k ∨
      (k = .free ∧ (names.map fun (n, k) => if (k == NameKind.free && env.scope.kind == .function && env.kindOf n == some .cell) then (n, NameKind.cell) else (n, k)).lookup x = some .cell)
  | [], x, k, h => by cases h
  | (m, k0) :: r, x, k, h => by
    rw [List.lookup_cons] at h
    rw [List.map_cons]
    by_cases q : (x == m) = true
    · rw [q] at h
      cases h
      by_cases c : (k0 == NameKind.free && env.scope.kind == .function && env.kindOf m == some .cell) = true
      · simp only [c, if_true, List.lookup_cons, q]
        refine .inr ⟨?_, trivial⟩
        simp only [Bool.and_eq_true] at c
        exact eq_of_beq c.1.1
      · left
        show List.lookup x ((if (k0 == NameKind.free && env.scope.kind == .function && env.kindOf m == some .cell) = true then (m, NameKind.cell) else (m, k0)) :: _) = some k0
        rw [if_neg c, List.lookup_cons, q]
    · have q : (x == m) = false := by simpa using q
      rw [q] at h
      have ih := relabel_sc (scope := scope) (env := env) h
      have e : ∀ l : List (Str × NameKind), ((if (k0 == NameKind.free && env.scope.kind == .function && env.kindOf m == some .cell) then (m, NameKind.cell) else (m, k0)) :: l).lookup x = l.lookup x := fun l => by
        split <;> rw [List.lookup_cons, q]
      rw [e]
      exact ih
theorem CKok.blk (k : CKok X G C D n) (scope : Scope) (hk : scope.kind = .function) (s : Shared) (H : Hp) (Cd : Addr) (cl : List (Str × Addr)) (fp : List Addr) : CKok (X.blk s H scope (compEnvC scope cl Cd X.env) fp) G (C.blk scope) D n where
  hK := k.hK
  nd := k.nd
  hN := k.hN
  kind := hk
  sc := fun x kk h => relabel_sc (scope := scope) (env := X.env) h
  fn := fun x h => by
    show (scope.names.lookup x == some .cell) = true
    rw [show scope.names.lookup x = some .cell from h]; rfl
  fns := k.fns
  cls := k.cls
  gis := k.gis
  free := k.free
  calm := k.calm
  un := k.un
  gd := k.gd
  room := k.room
  ok := k.ok
  dar := k.dar
  fnT := fun f m h => ⟨(k.fnT f m h).ex, (k.fnT f m h).kp⟩
  fnK := fun f j ks ord h => ⟨(k.fnK f j ks ord h).ex, (k.fnK f j ks ord h).kp, (k.fnK f j ks ord h).ok⟩
  gx := fun h => nomatch (show false = true from h)
  lam := fun h => nomatch (show false = true from h)
end
end Mi

set_option Elab.async false
set_option linter.all false
set_option maxRecDepth 100000
set_option maxHeartbeats 400000
namespace Mi
open PySem PySem.Spec PyProof.Rows L2 LamX NdefX
/-- the expressions of a list, each with its clean form -/
inductive EL (X : Cx) (G : Gm) (D : DG) : List Expr → List E → Prop where
  | nil : EL X G D [] []
  | cons {e : Expr} {i : E} {es : List Expr} {is : List E} : ET X G e (denE D i) → EL X G D es is → EL X G D (e :: es) (i :: is)
section
variable {X : Cx} {G : Gm} {C : KC} {D : DG} {n : Nat}
theorem EL.length : ∀ {es : List Expr} {is : List E}, EL X G D es is → es.length = is.length
  | _, _, .nil => rfl
  | _, _, .cons _ t => by simp [EL.length t]
theorem EL.sa : ∀ {es : List Expr} {is : List E}, EL X G D es is → es.all nsE = true → SA X G es (denEs D is)
  | _, _, .nil, _ => sa_nil
  | _, _, .cons a t, h => by
    rw [List.all_cons, Bool.and_eq_true] at h
    exact sa_cons a.se (EL.sa t h.2) (star_cons h.1)
theorem EL.sk : ∀ {kws : List Keyword} {is : List E}, EL X G D (kws.map (·.value)) is → SK X G kws (denEs D is)
  | [], _, t => by cases t; exact sk_nil
  | ⟨nm, a, kp⟩ :: kws, _, t => by
    cases t with
    | cons a t => exact sk_cons a.se (EL.sk t)
theorem EL.and_ (hK : X.K = G.c.K) {pos : Pos} : ∀ {es : List Expr} {is : List E}, EL X G D es is → is ≠ [] → SE X G (.BoolOp .And es pos) (denAnd D is) ∧ SW X G (.BoolOp .And es pos) (denAnd D is)
  | _, _, .nil, h => (h rfl).elim
  | _, _, .cons a .nil, _ => ⟨se_one a.se, sw_and1 a.st⟩
  | _, _, .cons a (.cons b t), _ => by
    obtain ⟨h1, h2⟩ := EL.and_ hK (pos := pos) (.cons b t) (by simp)
    exact ⟨se_and hK a.se h1, sw_and a.st h2⟩
theorem EL.or_ (hK : X.K = G.c.K) {pos : Pos} : ∀ {es : List Expr} {is : List E}, EL X G D es is → is ≠ [] → SE X G (.BoolOp .Or es pos) (denOr D is) ∧ SW X G (.BoolOp .Or es pos) (denOr D is)
  | _, _, .nil, h => (h rfl).elim
  | _, _, .cons a .nil, _ => ⟨se_one a.se, sw_or1 a.st⟩
  | _, _, .cons a (.cons b t), _ => by
    obtain ⟨h1, h2⟩ := EL.or_ hK (pos := pos) (.cons b t) (by simp)
    exact ⟨se_or hK a.se h1, sw_or a.st h2⟩
/-- arguments that end in a closure -/
def denLC (D : DG) : List E → Clo → Mi.Loc → M (List Sl)
  | [], c, ρ => opt (cloOf ρ c) fun k => ret [k]
  | i :: is, c, ρ => bnd (denE D i ρ) fun v => bnd (denLC D is c ρ) fun ss => ret (.v v :: ss)
theorem denLC_eq {c : Clo} {ρ : Mi.Loc} : ∀ {is : List E} {α : Type} {K : List Sl → M α}, bnd (denLC D is c ρ) K = bnd (denEs D is ρ) fun vs => opt (cloOf ρ c) fun k => K (vals vs ++ [k])
  | [], α, K => by
    funext Q E h
    show opt (cloOf ρ c) (fun k => ret [k]) (fun a h' => K a Q E h') E h = opt (cloOf ρ c) (fun k => K (vals [] ++ [k])) Q E h
    cases cloOf ρ c <;> rfl
  | i :: is, α, K => by
    funext Q E h
    show denE D i ρ (fun v h' => bnd (denLC D is c ρ) (fun ss => K (.v v :: ss)) Q E h') E h = denE D i ρ (fun v h' => bnd (denEs D is ρ) (fun vs => opt (cloOf ρ c) fun k => K (vals (v :: vs) ++ [k])) Q E h') E h
    have e : (fun v h' => bnd (denLC D is c ρ) (fun ss => K (.v v :: ss)) Q E h') = fun v h' => bnd (denEs D is ρ) (fun vs => opt (cloOf ρ c) fun k => K (vals (v :: vs) ++ [k])) Q E h' := by
      funext v h'
      rw [denLC_eq (K := fun ss => K (.v v :: ss))]
      rfl
    rw [e]
/-! ### builtins -/
theorem bt_of {s : Str} {u : Value} (h : bootBuiltins s = some u) : bootBuiltins s = some u := h
theorem bi_call (k : CKok X G C D n) {b : Bi} {w x : Str} {ty : Bool} {e : Expr} {es : List Expr} {mes : Mi.Loc → M (List Val)} {p pos : Pos} (hb : biN b = some (w, ty)) (hx : x = w) (hbt : C.bt x = true) (ha : SA X G (e :: es) mes) (hs : (e :: es).all nsE = true) :
    SE X G (.Call (.Name x p) (e :: es) [] pos) (fun ρ => bnd (mes ρ) (biM b)) := by
  obtain ⟨g, ok, m⟩ := k.bt hbt
  rw [List.all_cons, Bool.and_eq_true] at hs
  have he := star_cons (es := es) (env := X.env) hs.1
  have hp := star_plain (pos := pos) (env := X.env) hs.2
  subst hx
  cases b with
  | sortSet _ => cases hb
  | len => cases hb; exact se_callB (@cv_len X G k.hK) g m (by decide +kernel) ha (okN_3 ok) (okN_1 ok) he hp
  | all => cases hb; exact se_callB (@cv_all X G k.hK k.calm) g m (by decide +kernel) ha (okN_3 ok) (okN_1 ok) he hp
  | any => cases hb; exact se_callB (@cv_any X G k.hK k.calm) g m (by decide +kernel) ha (okN_3 ok) (okN_1 ok) he hp
  | abs => cases hb; exact se_callB (@cv_abs X G) g m (by decide +kernel) ha (okN_3 ok) (okN_1 ok) he hp
  | sum => cases hb; exact se_callB (@cv_sum X G k.hK k.calm) g m (by decide +kernel) ha (okN_3 ok) (okN_1 ok) he hp
  | maxD => cases hb; exact se_callB (@cv_maxD X G k.hK k.calm k.un) g m (by decide +kernel) ha (okN_3 ok) (okN_1 ok) he hp
  | max => cases hb; exact se_callB (@cv_max X G k.hK k.calm) g m (by decide +kernel) ha (okN_3 ok) (okN_1 ok) he hp
  | min => cases hb; exact se_callB (@cv_min X G k.hK k.calm) g m (by decide +kernel) ha (okN_3 ok) (okN_1 ok) he hp
  | sorted mm => cases hb; exact se_callB (@cv_sorted X G k.hK k.un mm) g m (by decide +kernel) ha (okN_3 ok) (okN_1 ok) he hp
  | int => cases hb; exact se_callTy (@cv_int X G) g m (by decide +kernel) ha (okN_3 ok) (okN_1 ok) he hp
  | tuple => cases hb; exact se_callTy (@cv_tuple X G k.hK) g m (by decide +kernel) ha (okN_3 ok) (okN_1 ok) he hp
  | list mm => cases hb; exact se_callTy (@cv_list X G k.hK mm) g m (by decide +kernel) ha (okN_3 ok) (okN_1 ok) he hp
theorem bm_call (k : CKok X G C D n) {b : Bm} {w m : Str} {o : Expr} {es : List Expr} {mo : Mi.Loc → M Val} {mes : Mi.Loc → M (List Val)} {ap cp : Pos} (hb : bmN b = some w) (hx : m = w) (ho : SE X G o mo) (ha : SA X G es mes) (t : BmT X o m ap es cp) :
    SE X G (.Call (.Attribute o m ap) es [] cp) (fun ρ => bnd (mo ρ) fun x => fun Q E h => recvOk h b x ∧ bnd (mes ρ) (fun vs => bmM b x vs) Q E h) := by
  subst hx
  cases b with
  | append => cases hb; exact se_bm (ok := fun h v => recvOk h .append v) F.plainAttrs_list F.slot_list_append F.type_list_append (@mv_append X G) (fun F H h v x q d k => ok_list (.inl rfl) q d k) ho ha t
  | extend => cases hb; exact se_bm (ok := fun h v => recvOk h .extend v) F.plainAttrs_list F.slot_list_extend F.type_list_extend (@mv_extend X G) (fun F H h v x q d k => ok_list (.inr (.inl rfl)) q d k) ho ha t
  | pop => cases hb; exact se_bm (ok := fun h v => recvOk h .pop v) F.plainAttrs_list F.slot_list_pop F.type_list_pop (@mv_pop X G) (fun F H h v x q d k => ok_list (.inr (.inr rfl)) q d k) ho ha t
  | _ => cases hb
theorem ty_of (k : CKok X G C D n) {x : Str} {t : Ty} (h : tyN C x t = true) : ClsN X G t x := by
  cases t with
  | own c =>
    have h : (C.glo x && decide (C.cls.lookup x = some c)) = true := h
    rw [Bool.and_eq_true, decide_eq_true_eq] at h
    obtain ⟨a, b⟩ := k.glo h.1
    exact ⟨a, okN_1 b, .inl ⟨k.cls x c h.2, c, rfl⟩⟩
  | int =>
    have h : (decide (x = "int") && C.bt x) = true := h
    rw [Bool.and_eq_true, decide_eq_true_eq] at h
    obtain ⟨a, b, c⟩ := k.bt h.2
    exact ⟨a, okN_1 b, .inr ⟨c, by rw [h.1]; exact PyProof.Rows.boot_int, okN_3 b⟩⟩
  | bool =>
    have h : (decide (x = "bool") && C.bt x) = true := h
    rw [Bool.and_eq_true, decide_eq_true_eq] at h
    obtain ⟨a, b, c⟩ := k.bt h.2
    exact ⟨a, okN_1 b, .inr ⟨c, by rw [h.1]; exact PyProof.Rows.boot_bool, okN_3 b⟩⟩
  | str =>
    have h : (decide (x = "str") && C.bt x) = true := h
    rw [Bool.and_eq_true, decide_eq_true_eq] at h
    obtain ⟨a, b, c⟩ := k.bt h.2
    exact ⟨a, okN_1 b, .inr ⟨c, by rw [h.1]; exact PyProof.Rows.boot_str, okN_3 b⟩⟩
  | tup =>
    have h : (decide (x = "tuple") && C.bt x) = true := h
    rw [Bool.and_eq_true, decide_eq_true_eq] at h
    obtain ⟨a, b, c⟩ := k.bt h.2
    exact ⟨a, okN_1 b, .inr ⟨c, by rw [h.1]; exact PyProof.Rows.boot_tuple, okN_3 b⟩⟩
  | lst =>
    have h : (decide (x = "list") && C.bt x) = true := h
    rw [Bool.and_eq_true, decide_eq_true_eq] at h
    obtain ⟨a, b, c⟩ := k.bt h.2
    exact ⟨a, okN_1 b, .inr ⟨c, by rw [h.1]; exact PyProof.Rows.boot_list, okN_3 b⟩⟩
  | dict =>
    have h : (decide (x = "dict") && C.bt x) = true := h
    rw [Bool.and_eq_true, decide_eq_true_eq] at h
    obtain ⟨a, b, c⟩ := k.bt h.2
    exact ⟨a, okN_1 b, .inr ⟨c, by rw [h.1]; exact PyProof.Rows.boot_dict, okN_3 b⟩⟩
/-- what is walked -/
theorem it_ok (k : CKok X G C D n) {tg e : Expr} {kk : ItK} {as : List Expr} {is : List E} (h : itArgs C tg e kk = some as) (L : EL X G D as is) : SI X G tg e (fun ρ => bnd (denEs D is ρ) fun vs => walkM kk vs) ∧ setE e = false := by
  cases kk with
  | seq =>
    have h : (if setE e = true then none else some [e]) = some as := h
    split at h
    · cases h
    · rename_i hs
      cases h
      cases L with
      | cons a t =>
        cases t
        exact ⟨si_seq k.hK a.se, by simpa using hs⟩
  | range =>
    cases e with
    | Call f es kws p =>
      cases f with
      | Name x p2 =>
        cases kws with
        | cons _ _ => cases h
        | nil =>
          have h : (if (decide (x = "range") && C.bt x && es.all nsE && (decide (es.length = 1) || decide (es.length = 2))) = true then some es else none) = some as := h
          split at h
          · rename_i hc
            cases h
            simp only [Bool.and_eq_true, Bool.or_eq_true, decide_eq_true_eq] at hc
            obtain ⟨⟨⟨rfl, h2⟩, h3⟩, h4⟩ := hc
            obtain ⟨g, ok, m⟩ := k.bt h2
            refine ⟨?_, rfl⟩
            match as, L, h3, h4 with
            | [a], L, h3, _ => exact si_range1 g m (L.sa h3) (star_one (by simpa using h3))
            | [a, b], L, h3, _ =>
              have h3' : nsE a = true ∧ nsE b = true := by simpa using h3
              exact si_range2 g m (L.sa h3) (by rw [star_cons h3'.1, star_one h3'.2]) (star_one h3'.2)
            | [], _, _, h4 => rcases h4 with z | z <;> cases z
            | _ :: _ :: _ :: _, _, _, h4 => simp at h4
          · cases h
      | _ => cases h
    | _ => cases h
  | enum =>
    cases e with
    | Call f es kws p =>
      cases f with
      | Name x p2 =>
        match es, kws, tg, h with
        | [a], [], .Tuple ts kk tp, h =>
          have h : (if (decide (x = "enumerate") && C.bt x && nsE a) = true then some [a] else none) = some as := h
          split at h
          · rename_i hc
            cases h
            simp only [Bool.and_eq_true, decide_eq_true_eq] at hc
            obtain ⟨⟨rfl, h2⟩, h3⟩ := hc
            obtain ⟨g, ok, m⟩ := k.bt h2
            exact ⟨si_enum g m (L.sa (by simpa using h3)) (star_one h3), rfl⟩
          · cases h
        | [], _, _, h => cases h
        | _ :: _ :: _, _, _, h => cases h
        | [_], _ :: _, _, h => cases h
        | [_], [], .Name _ _, h => cases h
        | [_], [], .BoolOp _ _ _, h => cases h
        | [_], [], .NamedExpr _ _ _, h => cases h
        | [_], [], .BinOp _ _ _ _, h => cases h
        | [_], [], .UnaryOp _ _ _, h => cases h
        | [_], [], .Lambda _ _ _ _, h => cases h
        | [_], [], .IfExp _ _ _ _, h => cases h
        | [_], [], .Dict _ _ _, h => cases h
        | [_], [], .Set _ _ _, h => cases h
        | [_], [], .ListComp _ _ _ _, h => cases h
        | [_], [], .SetComp _ _ _ _, h => cases h
        | [_], [], .DictComp _ _ _ _ _, h => cases h
        | [_], [], .GeneratorExp _ _ _ _, h => cases h
        | [_], [], .Await _ _, h => cases h
        | [_], [], .Yield _ _, h => cases h
        | [_], [], .YieldFrom _ _, h => cases h
        | [_], [], .Compare _ _ _ _, h => cases h
        | [_], [], .Call _ _ _ _, h => cases h
        | [_], [], .FormattedValue _ _ _ _, h => cases h
        | [_], [], .JoinedStr _ _, h => cases h
        | [_], [], .Constant _ _ _, h => cases h
        | [_], [], .Attribute _ _ _, h => cases h
        | [_], [], .Subscript _ _ _, h => cases h
        | [_], [], .Starred _ _, h => cases h
        | [_], [], .List _ _, h => cases h
        | [_], [], .Slice _ _ _ _, h => cases h
      | _ => cases h
    | _ => cases h
  | zip =>
    cases e with
    | Call f es kws p =>
      cases f with
      | Name x p2 =>
        match es, kws, h with
        | [a, b], [], h =>
          cases tg with
          | Tuple ts kk tp =>
            have h : (if (decide (x = "zip") && C.bt x && nsE a && nsE b) = true then some [a, b] else none) = some as := h
            split at h
            · rename_i hc
              cases h
              simp only [Bool.and_eq_true, decide_eq_true_eq] at hc
              obtain ⟨⟨⟨rfl, h2⟩, h3⟩, h4⟩ := hc
              obtain ⟨g, ok, m⟩ := k.bt h2
              exact ⟨si_zip k.hK g m (L.sa (by simp [h3, h4])) (star_cons h3) (star_plain (by simp [h4])), rfl⟩
            · cases h
          | _ => cases h
        | [], _, h => cases h
        | [_], _, h => cases h
        | _ :: _ :: _ :: _, _, h => cases h
        | [_, _], _ :: _, h => cases h
      | _ => cases h
    | _ => cases h
end
end Mi

set_option Elab.async false
set_option linter.all false
set_option maxRecDepth 100000
set_option maxHeartbeats 2000000
namespace Mi
open PySem PySem.Spec PyProof.Rows L2 LamX NdefX
section
variable {D : DG} {n : Nat}
theorem b2 {a b : Bool} (h : (a && b) = true) : a = true ∧ b = true := Bool.and_eq_true_iff.mp h
theorem dt {p : Prop} [Decidable p] (h : decide p = true) : p := of_decide_eq_true h
/-- a closure as the last argument -/
theorem clo_ok {X : Cx} {G : Gm} {C : KC} (k : CKok X G C D n) {l : Expr} {c : Clo} {o : List LamOb} (h : ckClo C l c = some o) (hm : C.top = true → ∀ ob ∈ o, MkOb X G ob) : SAc X G [l] (fun ρ => opt (cloOf ρ c) fun k => ret [k]) := by
  cases c with
  | var i =>
    cases l with
    | Name x p =>
      have h := okR_some (show okR (C.top && C.nm i x && C.vis x && okN x) = some o from h)
      obtain ⟨h, h4⟩ := b2 h
      obtain ⟨h, h3⟩ := b2 h
      obtain ⟨h1, h2⟩ := b2 h
      obtain ⟨gx, ex⟩ := k.gx h1
      exact sac_var gx ex (k.nm h2) (k.vis h3) (okN_1 h4) (okN_2 h4)
    | _ => cases h
  | lam kk caps =>
    cases l with
    | Lambda ps b sc p =>
      have h : (if C.top = true then some [(⟨kk, caps, ps, b, sc⟩ : LamOb)] else none) = some o := h
      split at h
      · rename_i ht
        cases h
        exact sac_lam (hm ht ⟨kk, caps, ps, b, sc⟩ (by simp))
      · cases h
    | _ => cases h
theorem nsE_last {l : Expr} {c : Clo} {C : KC} {o : List LamOb} (h : ckClo C l c = some o) : nsE l = true := by
  cases c <;> cases l <;> first | rfl | cases h
theorem if_no {b : Bool} {a : R} {o : List LamOb} (h : (if b = true then none else a) = some o) : b = false ∧ a = some o := by
  split at h
  · cases h
  · rename_i e
    exact ⟨by simpa using e, h⟩
theorem so_no {X : Cx} {G : Gm} {lo : E} (e : isSkip lo = true) : SO X G none (fun ρ => if isSkip lo then ret none else bnd (denE D lo ρ) fun v => opt (partO v) ret) := by
  simp only [e, if_true]
  exact so_none
theorem so_yes {X : Cx} {G : Gm} {lo : E} {l : Expr} (e : isSkip lo = false) (h : SE X G l (denE D lo)) : SO X G (some l) (fun ρ => if isSkip lo then ret none else bnd (denE D lo ρ) fun v => opt (partO v) ret) := by
  simp only [e, Bool.false_eq_true, if_false]
  exact so_some h
/-- the pieces of a comprehension -/
structure LcP (X : Cx) (G : Gm) (D : DG) (tg it elt : Expr) (ifs : List Expr) (sc : Scope) (own : List (Str × Nat)) (tgI : List Nat) (k : ItK) (its : List E) (cond el : E) : Prop where
  hi : SI X G tg it (fun ρ => bnd (denEs D its ρ) fun vs => walkM k vs)
  ok : BlkOk X.N X.env.scope sc own
  own : own.map (·.2) = tgI
  hg : ∀ (s : Shared) (H : Hp) (C : Addr) (cl : List (Str × Addr)) (fp : List Addr), PG (X.blk s H sc (compEnvC sc cl C X.env) fp) tg (tgG X.K tgI)
  ht : ∀ (s : Shared) (H : Hp) (C : Addr) (cl : List (Str × Addr)) (fp : List Addr), PTs (X.blk s H sc (compEnvC sc cl C X.env) fp) ifs (rdT0 G fun ρ' => if isSkip cond then ret true else bnd (denE D cond ρ') truthM)
  he : ∀ (s : Shared) (H : Hp) (C : Addr) (cl : List (Str × Addr)) (fp : List Addr), SE (X.blk s H sc (compEnvC sc cl C X.env) fp) G elt (denE D el)
  hs : ∀ x, foldedSetIterable it X.env x = pure x
theorem blk_ok {X : Cx} {G : Gm} {C : KC} (k : CKok X G C D n) {sc : Scope} {own : List (Str × Nat)} (h : blkC C.N ⟨.function, C.sc, false, false, []⟩ sc own = true) : BlkOk X.N X.env.scope sc own := by
  have B := blkOk_by h
  rw [k.hN]
  refine ⟨B.kind, B.uniq, B.ix, fun y hy e => ?_, B.own⟩
  rcases B.free y hy e with z | z
  · rcases k.sc y.1 _ z with q | ⟨q, _⟩
    · exact .inl q
    · cases q
  · rcases k.sc y.1 _ z with q | ⟨_, q⟩
    · exact .inr q
    · exact .inl q
section
variable {X : Cx} {G : Gm} {F : Frm} {a b : Expr} {ma mb : Mi.Loc → M Val} {pos p p1 p2 p3 : Pos}
/-- `repr_two` with a bool that is told -/
theorem repr_twoB (hK : X.K = G.c.K) (hu : X.A.units + 128 < cLine) (hg : X.A.guards = some []) (g1 : Gl X "repr") (m1 : X.mg "repr" = none) (ha : SE X G a ma) (na : starEach [a] X.env = [(false, eval a X.env)]) (hb : SE X G b mb) (nb : starEach [b] X.env = [(false, eval b X.env)])
    {n : Bool} {f : Value → Value → Sem Value} (hf : ∀ (pins : List (Addr × Obj)) (s : Shared) (σ : L2.St) (H : Hp) (x y : V) (v u : Value) (Q : VK), Inv X pins σ H s → L2.RelV x v → L2.RelV y u → (∃ z w, x = .str z ∧ y = .str w ∧ Q (.bl (if n then !decide (z = w) else decide (z = w))) H) → wpAny (model X.prog X.w) X.A (f v u) (EP X pins σ Q) X.xe s)
    {pins : List (Addr × Obj)} {s : Shared} {σ : L2.St} {H : Hp} {ρ : Mi.Loc} {h : CH} {E : Nat → CH → Prop} {Q : Val → CH → Prop} (A : At X G F pins ρ h σ H E s) (w : reprEqM n ma mb ρ Q E h) :
    wpAny (model X.prog X.w) X.A (eval (.Call (.Name "repr" p) [a] [] p1) X.env) (fun v s₁ => wpAny (model X.prog X.w) X.A (eval (.Call (.Name "repr" p2) [b] [] p3) X.env) (fun u s₂ => wpAny (model X.prog X.w) X.A (f v u) (EP X pins σ (fun z H' => ∃ c h', z = .bl c ∧ Le H H' ∧ RelL G H' ρ σ ∧ Rep G.c F h' H' ∧ Q (.bl c) h')) X.xe s₂) X.xe s₁) X.xe s := by
  refine ev_repr hK hu hg g1 m1 ha na A w fun v h1 H1 x w1 l1 d1 r1 q1 => ?_
  obtain ⟨d, e, sm, w1⟩ := w1
  refine ⟨d, e, sm, fun t s1 A1 => ?_⟩
  refine ev_repr hK hu hg g1 m1 hb nb A1 w1 fun v2 h2 H2 x2 w2 l2 d2 r2 q2 => ?_
  obtain ⟨d', e', sm', w2⟩ := w2
  refine ⟨d', e', sm', fun t2 s2 A2 => ?_⟩
  exact hf pins s2 σ H2 (.str d.shown) (.str d'.shown) _ _ _ A2.inv ⟨t, rfl⟩ ⟨t2, rfl⟩ ⟨_, _, rfl, rfl, _, h2, rfl, l1.trans l2, r2, q2, w2⟩
theorem st_two (hK : X.K = G.c.K) (hu : X.A.units + 128 < cLine) (hg : X.A.guards = some []) (g1 : Gl X "repr") (m1 : X.mg "repr" = none) (ha : SE X G a ma) (na : starEach [a] X.env = [(false, eval a X.env)]) (hb : SE X G b mb) (nb : starEach [b] X.env = [(false, eval b X.env)])
    {n : Bool} {op : CmpOp} (hf : ∀ (pins : List (Addr × Obj)) (s : Shared) (σ : L2.St) (H : Hp) (x y : V) (v u : Value) (Q : VK), Inv X pins σ H s → L2.RelV x v → L2.RelV y u → (∃ z w, x = .str z ∧ y = .str w ∧ Q (.bl (if n then !decide (z = w) else decide (z = w))) H) → wpAny (model X.prog X.w) X.A (compareOp op v u) (EP X pins σ Q) X.xe s)
    (hm : behindInMarks op (.Call (.Name "repr" p2) [b] [] p3) = false) : ST X G (.Compare (.Call (.Name "repr" p) [a] [] p1) [op] [.Call (.Name "repr" p2) [b] [] p3] pos) (reprEqM n ma mb) := by
  refine ⟨fun pins s σ H ρ h Q1 Q E A w hq => ?_⟩
  rename_i F
  have P := pt_cmp (X := X) (a := .Call (.Name "repr" p) [a] [] p1) (b := .Call (.Name "repr" p2) [b] [] p3) (op := op) (pos := pos) (t := fun σ' H' Qv => σ' = σ ∧ H' = H ∧ ∀ c h' H', Le H H' → RelL G H' ρ σ → Rep G.c F h' H' → Q1 (.bl c) h' → Qv (.bl c) H')
    ⟨fun pins s' σ' H' Qv I ⟨e1, e2, k⟩ => by
      subst e1 e2
      refine thn (repr_twoB hK hu hg g1 m1 ha na hb nb hf ⟨I, A.loc, A.rep, A.acc⟩ w) fun v s1 h1 => thn h1 fun u s2 h2 => thn h2 fun z s3 ⟨z', H3, I3, rz, c, h3, e, l3, r3, q3, w3⟩ => ?_
      subst e
      exact ⟨.bl c, H3, I3, rz, k c h3 H3 l3 r3 q3 w3⟩⟩ hm
  refine P.run pins s σ H (BD G F ρ σ H Q) A.inv ⟨rfl, rfl, fun c h' H' l r q w' => ?_⟩
  obtain ⟨k, e, w2⟩ := hq _ h' w'
  cases e
  exact ⟨c, rfl, h', l, r, q, w2⟩
end
theorem lc_nil {C : KC} {is : List E} (c : Clo) (o : List LamOb) : ¬ ckLC C [] is c = some o := by
  cases is with
  | nil => exact fun h => nomatch (show (none : R) = some o from h)
  | cons _ _ => exact fun h => nomatch (show (none : R) = some o from h)
theorem kw_facts {env : Env} {pos : Pos} : ∀ {kws : List Keyword} {ks : List Str}, kwOk kws ks = true → kws.length = ks.length ∧ (backToKw pos (keywordEach kws env)).all (·.1.isSome) = true ∧ (backToKw pos (keywordEach kws env)).filterMap (·.1) = ks ∧ (backToKw pos (keywordEach kws env)).any (·.1.isNone) = false
  | [], [], _ => ⟨rfl, rfl, rfl, rfl⟩
  | [], _ :: _, h => nomatch (show false = true from h)
  | ⟨some a, v, p⟩ :: kws, [], h => nomatch (show false = true from h)
  | ⟨none, v, p⟩ :: kws, ks, h => by cases ks <;> exact nomatch (show false = true from h)
  | ⟨some a, v, p⟩ :: kws, k :: ks, h => by
    obtain ⟨h1, h2⟩ := b2 (show (decide (a = k) && kwOk kws ks) = true from h)
    have h1 := dt h1
    subst h1
    obtain ⟨a1, a2, a3, a4⟩ := kw_facts (env := env) (pos := pos) h2
    refine ⟨by simp [a1], ?_, ?_, ?_⟩
    · show (true && (backToKw pos (keywordEach kws env)).all (·.1.isSome)) = true
      rw [a2]; rfl
    · show a :: (backToKw pos (keywordEach kws env)).filterMap (·.1) = a :: ks
      rw [a3]
    · show (false || (backToKw pos (keywordEach kws env)).any (·.1.isNone)) = false
      rw [a4]; rfl
mutual
theorem ckE_ok : ∀ (ir : E) {X : Cx} {G : Gm} {C : KC} (e : Expr) (o : List LamOb), CKok X G C D n → ckE C e ir = some o → (C.top = true → ∀ ob ∈ o, MkOb X G ob) → ET X G e (denE D ir)
  | .skip, X, G, C, e, o, k, h, hm => nomatch (show (none : R) = some o from h)
  | .var i, X, G, C, e, o, k, h, hm => by
    cases e with
    | Name x p =>
      obtain ⟨h, h3⟩ := b2 (okR_some (show okR (C.nm i x && C.vis x && okN x) = some o from h))
      obtain ⟨h1, h2⟩ := b2 h
      exact .of k.hK (se_var (k.nm h1) (k.vis h2) (okN_1 h3) (okN_2 h3)) rfl
    | _ => exact nomatch (show (none : R) = some o from h)
  | .con v, X, G, C, e, o, k, h, hm => by
    cases e with
    | Constant c j p =>
      cases c with
      | none => cases v with
        | non => exact .of k.hK se_non rfl
        | _ => exact nomatch (show (none : R) = some o from h)
      | bool a => cases v with
        | bl b =>
          have e := dt (okR_some (show okR (decide (a = b)) = some o from h))
          subst e
          exact .of k.hK se_bl rfl
        | _ => exact nomatch (show (none : R) = some o from h)
      | int a => cases v with
        | int b =>
          have e := dt (okR_some (show okR (decide (a = b)) = some o from h))
          subst e
          exact .of k.hK se_int rfl
        | _ => exact nomatch (show (none : R) = some o from h)
      | str a => cases v with
        | str b =>
          obtain ⟨h, h3⟩ := b2 (okR_some (show okR (decide (a = b) && decide (b.length ≤ sizeLine) && b.cps.all (· < 0x110000)) = some o from h))
          obtain ⟨h1, h2⟩ := b2 h
          have e := dt h1
          subst e
          exact .of k.hK (se_str (dt h2) h3) rfl
        | _ => exact nomatch (show (none : R) = some o from h)
      | _ => cases v <;> exact nomatch (show (none : R) = some o from h)
    | _ => cases v <;> exact nomatch (show (none : R) = some o from h)
  | .gint x i, X, G, C, e, o, k, h, hm => by
    cases e with
    | Name y p =>
      obtain ⟨h, h3⟩ := b2 (okR_some (show okR (decide (x = y) && C.glo x && decide (C.gis.lookup x = some i)) = some o from h))
      obtain ⟨h1, h2⟩ := b2 h
      have e := dt h1
      subst e
      obtain ⟨g, ok⟩ := k.glo h2
      obtain ⟨t, m⟩ := k.gis x i (dt h3)
      exact .of k.hK (se_gint g m (okN_1 ok)) rfl
    | _ => exact nomatch (show (none : R) = some o from h)
  | .fn x f, X, G, C, e, o, k, h, hm => by
    cases e with
    | Name y p =>
      obtain ⟨h, h3⟩ := b2 (okR_some (show okR (decide (x = y) && C.glo x && decide (C.fns.lookup x = some f)) = some o from h))
      obtain ⟨h1, h2⟩ := b2 h
      have e := dt h1
      subst e
      obtain ⟨g, ok⟩ := k.glo h2
      exact .of k.hK (se_fn g (k.fns x f (dt h3)) (okN_1 ok)) rfl
    | _ => exact nomatch (show (none : R) = some o from h)
  | .bin op m a b, X, G, C, e, o, k, h, hm => by
    cases e with
    | BinOp a' q b' p =>
      obtain ⟨o1, o2, h1, h2, s1, s2⟩ := andR_some (show andR (okR (opOk q op)) (andR (ckE C a' a) (ckE C b' b)) = some o from h)
      obtain ⟨o3, o4, h3, h4, s3, s4⟩ := andR_some h2
      have A := ckE_ok a a' o3 k h3 fun t ob hb => hm t ob (s2 _ (s3 _ hb))
      have B := ckE_ok b b' o4 k h4 fun t ob hb => hm t ob (s2 _ (s4 _ hb))
      exact .of k.hK (se_bin (vr_op k.hK (okR_some h1)) A.se B.se) rfl
    | _ => exact nomatch (show (none : R) = some o from h)
  | .neg a, X, G, C, e, o, k, h, hm => by
    cases e with
    | UnaryOp q a' p =>
      cases q with
      | USub => exact .of k.hK (se_neg (ckE_ok a a' o k h hm).se) rfl
      | _ => exact nomatch (show (none : R) = some o from h)
    | _ => exact nomatch (show (none : R) = some o from h)
  | .cmp op a b, X, G, C, e, o, k, h, hm => by
    cases e with
    | Compare a' qs bs p =>
      match qs, bs, h with
      | [q], [b'], h =>
        obtain ⟨o1, o2, h1, h2, s1, s2⟩ := andR_some (show andR (okR (cmOk q op && !setE b')) (andR (ckE C a' a) (ckE C b' b)) = some o from h)
        obtain ⟨o3, o4, h3, h4, s3, s4⟩ := andR_some h2
        obtain ⟨hc, hs⟩ := b2 (okR_some h1)
        have hs : setE b' = false := by simpa using hs
        have A := ckE_ok a a' o3 k h3 fun t ob hb => hm t ob (s2 _ (s3 _ hb))
        have B := ckE_ok b b' o4 k h4 fun t ob hb => hm t ob (s2 _ (s4 _ hb))
        exact ⟨se_cmp (vr_cm k.hK k.un hc) A.se B.se (marks_no hs), st_cmp (vr_cm k.hK k.un hc) A.se B.se (marks_no hs)⟩
      | [], _, h => exact nomatch (show (none : R) = some o from h)
      | [_], [], h => exact nomatch (show (none : R) = some o from h)
      | [_], _ :: _ :: _, h => exact nomatch (show (none : R) = some o from h)
      | _ :: _ :: _, _, h => exact nomatch (show (none : R) = some o from h)
    | _ => exact nomatch (show (none : R) = some o from h)
  | .chain p1 p2 a b c, X, G, C, e, o, k, h, hm => by
    cases e with
    | Compare a' qs bs p =>
      match qs, bs, h with
      | [q1, q2], [b', c'], h =>
        obtain ⟨o1, o2, h1, h2, s1, s2⟩ := andR_some (show andR (okR (cmOk q1 p1 && cmOk q2 p2 && !setE c')) (andR (ckE C a' a) (andR (ckE C b' b) (ckE C c' c))) = some o from h)
        obtain ⟨o3, o4, h3, h4, s3, s4⟩ := andR_some h2
        obtain ⟨o5, o6, h5, h6, s5, s6⟩ := andR_some h4
        obtain ⟨hc, hs⟩ := b2 (okR_some h1)
        obtain ⟨c1, c2⟩ := b2 hc
        have hs : setE c' = false := by simpa using hs
        have A := ckE_ok a a' o3 k h3 fun t ob hb => hm t ob (s2 _ (s3 _ hb))
        have B := ckE_ok b b' o5 k h5 fun t ob hb => hm t ob (s2 _ (s4 _ (s5 _ hb)))
        have Z := ckE_ok c c' o6 k h6 fun t ob hb => hm t ob (s2 _ (s4 _ (s6 _ hb)))
        exact ⟨se_chain (vr_cm k.hK k.un c1) (vr_cm k.hK k.un c2) A.se B.se Z.se (lastMarks_no hs), st_chain (vr_cm k.hK k.un c1) (vr_cm k.hK k.un c2) A.se B.se Z.se (lastMarks_no hs)⟩
      | [], _, h => exact nomatch (show (none : R) = some o from h)
      | [_], _, h => exact nomatch (show (none : R) = some o from h)
      | [_, _], [], h => exact nomatch (show (none : R) = some o from h)
      | [_, _], [_], h => exact nomatch (show (none : R) = some o from h)
      | [_, _], _ :: _ :: _ :: _, h => exact nomatch (show (none : R) = some o from h)
      | _ :: _ :: _ :: _, _, h => exact nomatch (show (none : R) = some o from h)
    | _ => exact nomatch (show (none : R) = some o from h)
  | .band es, X, G, C, e, o, k, h, hm => by
    cases e with
    | BoolOp q es' p =>
      cases q with
      | And =>
        obtain ⟨o1, o2, h1, h2, s1, s2⟩ := andR_some (show andR (okR (!es.isEmpty)) (ckL C es' es) = some o from h)
        have L := ckL_ok es es' o2 k h2 fun t ob hb => hm t ob (s2 _ hb)
        have ne : es ≠ [] := by
          have := okR_some h1
          intro z; subst z; simp at this
        obtain ⟨a, b⟩ := L.and_ k.hK (pos := p) ne
        exact ⟨a, b.st⟩
      | Or => exact nomatch (show (none : R) = some o from h)
    | _ => exact nomatch (show (none : R) = some o from h)
  | .bor es, X, G, C, e, o, k, h, hm => by
    cases e with
    | BoolOp q es' p =>
      cases q with
      | Or =>
        obtain ⟨o1, o2, h1, h2, s1, s2⟩ := andR_some (show andR (okR (!es.isEmpty)) (ckL C es' es) = some o from h)
        have L := ckL_ok es es' o2 k h2 fun t ob hb => hm t ob (s2 _ hb)
        have ne : es ≠ [] := by
          have := okR_some h1
          intro z; subst z; simp at this
        obtain ⟨a, b⟩ := L.or_ k.hK (pos := p) ne
        exact ⟨a, b.st⟩
      | And => exact nomatch (show (none : R) = some o from h)
    | _ => exact nomatch (show (none : R) = some o from h)
  | .not a, X, G, C, e, o, k, h, hm => by
    cases e with
    | UnaryOp q a' p =>
      cases q with
      | Not =>
        have A := ckE_ok a a' o k h hm
        exact ⟨se_not k.hK A.se, st_not A.st⟩
      | _ => exact nomatch (show (none : R) = some o from h)
    | _ => exact nomatch (show (none : R) = some o from h)
  | .ite c a b, X, G, C, e, o, k, h, hm => by
    cases e with
    | IfExp c' a' b' p =>
      obtain ⟨o1, o2, h1, h2, s1, s2⟩ := andR_some (show andR (ckE C c' c) (andR (ckE C a' a) (ckE C b' b)) = some o from h)
      obtain ⟨o3, o4, h3, h4, s3, s4⟩ := andR_some h2
      have Z := ckE_ok c c' o1 k h1 fun t ob hb => hm t ob (s1 _ hb)
      have A := ckE_ok a a' o3 k h3 fun t ob hb => hm t ob (s2 _ (s3 _ hb))
      have B := ckE_ok b b' o4 k h4 fun t ob hb => hm t ob (s2 _ (s4 _ hb))
      exact ⟨se_ite Z.st A.se B.se, st_ite k.hK Z.st A.st B.st⟩
    | _ => exact nomatch (show (none : R) = some o from h)
  | .tup es, X, G, C, e, o, k, h, hm => by
    cases e with
    | Tuple es' kk p =>
      obtain ⟨o1, o2, h1, h2, s1, s2⟩ := andR_some (show andR (okR (es'.all nsE && decide (es'.length ≤ sizeLine))) (ckL C es' es) = some o from h)
      obtain ⟨a, b⟩ := b2 (okR_some h1)
      have L := ckL_ok es es' o2 k h2 fun t ob hb => hm t ob (s2 _ hb)
      exact .of k.hK (se_tup (L.sa a) (dt b)) rfl
    | _ => exact nomatch (show (none : R) = some o from h)
  | .list m es, X, G, C, e, o, k, h, hm => by
    cases e with
    | List es' p =>
      obtain ⟨o1, o2, h1, h2, s1, s2⟩ := andR_some (show andR (okR (es'.all nsE && decide (es'.length ≤ sizeLine))) (ckL C es' es) = some o from h)
      obtain ⟨a, b⟩ := b2 (okR_some h1)
      have L := ckL_ok es es' o2 k h2 fun t ob hb => hm t ob (s2 _ hb)
      exact .of k.hK (se_list (L.sa a) (dt b)) rfl
    | _ => exact nomatch (show (none : R) = some o from h)
  | .dict deep es, X, G, C, e, o, k, h, hm => by
    cases e with
    | Dict ks vs p =>
      obtain ⟨o1, o2, h1, h2, s1, s2⟩ := andR_some (show andR (okR (!deep && !ks.isEmpty && decide (ks.length ≤ 15) && decide (ks.length = vs.length) && ks.all (·.isSome))) (ckP C ks vs es) = some o from h)
      obtain ⟨a, a5⟩ := b2 (okR_some h1)
      obtain ⟨a, a4⟩ := b2 a
      obtain ⟨a, a3⟩ := b2 a
      obtain ⟨a1, a2⟩ := b2 a
      have ne : ks ≠ [] := by intro z; subst z; simp at a2
      have L := ckP_ok es (pos := p) ks vs o2 k h2 fun t ob hb => hm t ob (s2 _ hb)
      exact .of k.hK (se_disp L a5 (dt a4) ne (dt a3)) rfl
    | _ => exact nomatch (show (none : R) = some o from h)
  | .emp, X, G, C, e, o, k, h, hm => by
    cases e with
    | Dict ks vs p =>
      match ks, vs, h with
      | [], [], h => exact .of k.hK se_emp rfl
      | [], _ :: _, h => exact nomatch (show (none : R) = some o from h)
      | _ :: _, _, h => exact nomatch (show (none : R) = some o from h)
    | _ => exact nomatch (show (none : R) = some o from h)
  | .ix a i, X, G, C, e, o, k, h, hm => by
    cases e with
    | Subscript a' i' p =>
      obtain ⟨o1, o2, h1, h2, s1, s2⟩ := andR_some (show andR (okR (plainI i')) (andR (ckE C a' a) (ckE C i' i)) = some o from h)
      obtain ⟨o3, o4, h3, h4, s3, s4⟩ := andR_some h2
      have A := ckE_ok a a' o3 k h3 fun t ob hb => hm t ob (s2 _ (s3 _ hb))
      have B := ckE_ok i i' o4 k h4 fun t ob hb => hm t ob (s2 _ (s4 _ hb))
      exact .of k.hK (se_ix k.hK (by have := k.un; omega) A.se B.se (plain_ok (okR_some h1))) rfl
    | _ => exact nomatch (show (none : R) = some o from h)
  | .cut m a lo hi, X, G, C, e, o, k, h, hm => by
    cases e with
    | Subscript a' sl p =>
      cases sl with
      | Slice lo' hi' st p2 =>
        cases st with
        | some _ => exact nomatch (show (none : R) = some o from h)
        | none =>
          cases lo' with
          | none =>
            cases hi' with
            | none =>
              obtain ⟨o1, o2, h1, h2, s1, s2⟩ := andR_some (show andR (ckE C a' a) (andR (okR (isSkip lo)) (okR (isSkip hi))) = some o from h)
              obtain ⟨o3, o4, h3, h4, s3, s4⟩ := andR_some h2
              have A := ckE_ok a a' o1 k h1 fun t ob hb => hm t ob (s1 _ hb)
              exact .of k.hK (se_cut k.hK A.se (so_no (okR_some h3)) (so_no (okR_some h4))) rfl
            | some l2 =>
              obtain ⟨o1, o2, h1, h2, s1, s2⟩ := andR_some (show andR (ckE C a' a) (andR (okR (isSkip lo)) (if isSkip hi = true then none else ckE C l2 hi)) = some o from h)
              obtain ⟨o3, o4, h3, h4, s3, s4⟩ := andR_some h2
              obtain ⟨e4, h4⟩ := if_no h4
              have A := ckE_ok a a' o1 k h1 fun t ob hb => hm t ob (s1 _ hb)
              have B := ckE_ok hi l2 o4 k h4 fun t ob hb => hm t ob (s2 _ (s4 _ hb))
              exact .of k.hK (se_cut k.hK A.se (so_no (okR_some h3)) (so_yes e4 B.se)) rfl
          | some l1 =>
            cases hi' with
            | none =>
              obtain ⟨o1, o2, h1, h2, s1, s2⟩ := andR_some (show andR (ckE C a' a) (andR (if isSkip lo = true then none else ckE C l1 lo) (okR (isSkip hi))) = some o from h)
              obtain ⟨o3, o4, h3, h4, s3, s4⟩ := andR_some h2
              obtain ⟨e3, h3⟩ := if_no h3
              have A := ckE_ok a a' o1 k h1 fun t ob hb => hm t ob (s1 _ hb)
              have B := ckE_ok lo l1 o3 k h3 fun t ob hb => hm t ob (s2 _ (s3 _ hb))
              exact .of k.hK (se_cut k.hK A.se (so_yes e3 B.se) (so_no (okR_some h4))) rfl
            | some l2 =>
              obtain ⟨o1, o2, h1, h2, s1, s2⟩ := andR_some (show andR (ckE C a' a) (andR (if isSkip lo = true then none else ckE C l1 lo) (if isSkip hi = true then none else ckE C l2 hi)) = some o from h)
              obtain ⟨o3, o4, h3, h4, s3, s4⟩ := andR_some h2
              obtain ⟨e3, h3⟩ := if_no h3
              obtain ⟨e4, h4⟩ := if_no h4
              have A := ckE_ok a a' o1 k h1 fun t ob hb => hm t ob (s1 _ hb)
              have B := ckE_ok lo l1 o3 k h3 fun t ob hb => hm t ob (s2 _ (s3 _ hb))
              have B2 := ckE_ok hi l2 o4 k h4 fun t ob hb => hm t ob (s2 _ (s4 _ hb))
              exact .of k.hK (se_cut k.hK A.se (so_yes e3 B.se) (so_yes e4 B2.se)) rfl
      | _ => exact nomatch (show (none : R) = some o from h)
    | _ => exact nomatch (show (none : R) = some o from h)
  | .rev m a, X, G, C, e, o, k, h, hm => by
    rw [ckE.eq_def] at h
    dsimp only at h
    split at h
    · rename_i a' i kk p1 p2 p3 p4
      obtain ⟨o1, o2, h1, h2, s1, s2⟩ := andR_some h
      have ei := dt (okR_some h1)
      subst ei
      exact .of k.hK (se_rev k.hK (ckE_ok a a' o2 k h2 fun t ob hb => hm t ob (s2 _ hb)).se) rfl
    · cases h
  | .comp m tg kk its cond elt, X, G, C, e, o, k, h, hm => by
    rw [ckE.eq_def] at h
    dsimp only at h
    split at h
    · rename_i elt' tg' it' ifs' asy sc pos
      obtain ⟨o1, o2, h1, h2, s1, s2⟩ := andR_some h
      obtain ⟨o3, o4, h3, h4, s3, s4⟩ := andR_some h2
      obtain ⟨o5, o6, h5, h6, s5, s6⟩ := andR_some h4
      obtain ⟨g, g5⟩ := b2 (okR_some h1)
      obtain ⟨g, g4⟩ := b2 g
      obtain ⟨g, g3⟩ := b2 g
      obtain ⟨g1, g2⟩ := b2 g
      have g1 := dt g1
      have g4 := dt g4
      subst g1
      have B := blk_ok k g3
      have kb := fun s H Cd cl fp => CKok.blk k sc B.kind s H Cd cl fp
      have nt : ∀ {P : Prop}, (C.blk sc).top = true → P := fun z => nomatch (show false = true from z)
      split at h3
      · rename_i as ea
        obtain ⟨hi, hs⟩ := it_ok k ea (ckL_ok its as o3 k h3 fun t ob hb => hm t ob (s2 _ (s3 _ hb)))
        refine .of k.hK (se_lc k.hK k.calm k.nd hi B g4 (fun s H Cd cl fp => pg_ok (kb s H Cd cl fp) g5) (fun s H Cd cl fp => ?_) (fun s H Cd cl fp => (ckE_ok elt elt' o6 (kb s H Cd cl fp) h6 nt).se) (folded_ok hs)) rfl
        split at h5
        · simp only [okR_some h5, if_true]
          exact pts_no
        · rename_i c'
          obtain ⟨e5, h5⟩ := if_no h5
          simp only [e5, Bool.false_eq_true, if_false]
          exact pts_yes (ckE_ok cond c' o5 (kb s H Cd cl fp) h5 nt).st
        · cases h5
      · cases h3
    · cases h
  | .call x f es, X, G, C, e, o, k, h, hm => by
    rw [ckE.eq_def] at h
    dsimp only at h
    split at h
    · rename_i y p es' pos
      obtain ⟨o1, o2, h1, h2, s1, s2⟩ := andR_some h
      obtain ⟨g, g5⟩ := b2 (okR_some h1)
      obtain ⟨g, g4⟩ := b2 g
      obtain ⟨g, g3⟩ := b2 g
      obtain ⟨g1, g2⟩ := b2 g
      have g1 := dt g1
      subst g1
      obtain ⟨gl, ok⟩ := k.glo g2
      have L := ckL_ok es es' o2 k h2 fun t ob hb => hm t ob (s2 _ hb)
      have T := k.fnT f _ (dt g4)
      have mf := k.fns x f (dt g3)
      cases es' with
      | nil =>
        cases L
        exact .of k.hK (se_call0 T k.gd k.room gl mf (okN_1 ok)) rfl
      | cons a r =>
        have g5 := b2 (show (nsE a && r.all nsE) = true from g5)
        exact .of k.hK (se_call T k.gd k.room gl mf (okN_1 ok) (L.sa (by rw [List.all_cons, g5.1, g5.2]; rfl)) (star_cons g5.1) (star_plain g5.2)) rfl
    · cases h
  | .callk x f es ks kes ord, X, G, C, e, o, k, h, hm => by
    rw [ckE.eq_def] at h
    dsimp only at h
    split at h
    · rename_i y p es' kws pos
      obtain ⟨o1, o2, h1, h2, s1, s2⟩ := andR_some h
      obtain ⟨o3, o4, h3, h4, s3, s4⟩ := andR_some h2
      obtain ⟨g, g6⟩ := b2 (okR_some h1)
      obtain ⟨g, g5⟩ := b2 g
      obtain ⟨g, g4⟩ := b2 g
      obtain ⟨g, g3⟩ := b2 g
      obtain ⟨g1, g2⟩ := b2 g
      have g1 := dt g1
      subst g1
      obtain ⟨gl, ok⟩ := k.glo g2
      have L := ckL_ok es es' o3 k h3 fun t ob hb => hm t ob (s2 _ (s3 _ hb))
      have LK := ckL_ok kes (kws.map (·.value)) o4 k h4 fun t ob hb => hm t ob (s2 _ (s4 _ hb))
      have T := k.fnK f _ ks ord g4
      have mf := k.fns x f (dt g3)
      obtain ⟨q1, q2, q3, q4⟩ := kw_facts (env := X.env) (pos := pos) g6
      cases es' with
      | nil =>
        cases L
        exact .of k.hK (se_callk0 T k.gd k.room gl mf (okN_1 ok) LK.sk q1 q2 q3 (by rw [q4]; rfl)) rfl
      | cons a r =>
        have g5' := b2 (show (nsE a && r.all nsE) = true from g5)
        exact .of k.hK (se_callk T k.gd k.room gl mf (okN_1 ok) (L.sa g5) LK.sk q1 q2 q3 (star_cons g5'.1) (by rw [q4, star_plain g5]; rfl)) rfl
    · cases h
  | .callc x f es c, X, G, C, e, o, k, h, hm => by
    rw [ckE.eq_def] at h
    dsimp only at h
    split at h
    · rename_i y p es' pos
      obtain ⟨o1, o2, h1, h2, s1, s2⟩ := andR_some h
      obtain ⟨g, g5⟩ := b2 (okR_some h1)
      obtain ⟨g, g4⟩ := b2 g
      obtain ⟨g, g3⟩ := b2 g
      obtain ⟨g1, g2⟩ := b2 g
      have g1 := dt g1
      subst g1
      obtain ⟨gl, ok⟩ := k.glo g2
      have L := ckLC_ok es es' c o2 k h2 g5 fun t ob hb => hm t ob (s2 _ hb)
      have T := k.fnT f _ (dt g4)
      have mf := k.fns x f (dt g3)
      cases es' with
      | nil => exact absurd h2 (lc_nil c o2)
      | cons a r =>
        have g5 := b2 (show (nsE a && r.all nsE) = true from g5)
        have S := se_callC (pos := pos) (p := p) T k.gd k.room gl mf (okN_1 ok) L (star_cons g5.1) (star_plain g5.2)
        refine .of k.hK ?_ rfl
        show SE X G _ (fun ρ => bnd (denEs D es ρ) fun vs => opt (cloOf ρ c) fun k => D.call f (vals vs ++ [k]))
        have e : (fun ρ => bnd (denEs D es ρ) fun vs => opt (cloOf ρ c) fun k => D.call f (vals vs ++ [k])) = fun ρ => bnd (denLC D es c ρ) fun ss => D.call f ss := by
          funext ρ
          exact denLC_eq.symm
        rw [e]
        exact S
    · cases h
  | .callv i es, X, G, C, e, o, k, h, hm => by
    rw [ckE.eq_def] at h
    dsimp only at h
    split at h
    · rename_i x p es' pos
      obtain ⟨o1, o2, h1, h2, s1, s2⟩ := andR_some h
      obtain ⟨g, g5⟩ := b2 (okR_some h1)
      obtain ⟨g, g4⟩ := b2 g
      obtain ⟨g, g3⟩ := b2 g
      obtain ⟨g1, g2⟩ := b2 g
      have L := ckL_ok es es' o2 k h2 fun t ob hb => hm t ob (s2 _ hb)
      cases L with
      | nil =>
        have ht : C.top = true := by simpa using g5
        obtain ⟨gx, ex⟩ := k.gx ht
        exact .of k.hK (se_callc gx ex (k.lam ht) k.gd k.room (k.nm g1) (k.vis g2) (okN_1 g3) (okN_2 g3)) rfl
      | cons A t =>
        rename_i a i' r is
        have g4' := b2 (show (nsE a && r.all nsE) = true from g4)
        have L : EL X G D (a :: r) (i' :: is) := .cons A t
        have S := se_callv (pos := pos) (p := p) (fun f m hf => k.fnT f m (by rw [← k.dar]; exact hf)) k.gd k.room (k.nm g1) (k.vis g2) (okN_1 g3) (okN_2 g3) (L.sa g4) (star_cons g4'.1) (star_plain g4'.2)
        refine .of k.hK ?_ rfl
        show SE X G _ (callvM D.call D.ar i (i' :: is).length (denEs D (i' :: is)))
        rw [← L.length]
        exact S
    · cases h
  | .meth _ _ _, X, G, C, e, o, k, h, hm => nomatch (show (none : R) = some o from h)
  | .make _ _ _, X, G, C, e, o, k, h, hm => nomatch (show (none : R) = some o from h)
  | .sset _ _, X, G, C, e, o, k, h, hm => nomatch (show (none : R) = some o from h)
  | .lset _, X, G, C, e, o, k, h, hm => nomatch (show (none : R) = some o from h)
  | .attr _ _, X, G, C, e, o, k, h, hm => nomatch (show (none : R) = some o from h)
  | .rng1 q a, X, G, C, e, o, k, h, hm => by
    rw [ckE.eq_def] at h
    dsimp only at h
    split at h
    · rename_i x p1 y p2 a' p3 p4
      obtain ⟨o1, o2, h1, h2, s1, s2⟩ := andR_some h
      obtain ⟨g, g5⟩ := b2 (okR_some h1)
      obtain ⟨g, g4⟩ := b2 g
      obtain ⟨g, g3⟩ := b2 g
      obtain ⟨g1, g2⟩ := b2 g
      have g1 := dt g1
      have g3 := dt g3
      subst g3
      obtain ⟨b1, b2', b3⟩ := k.bt g4
      have A := ckE_ok a a' o2 k h2 fun t ob hb => hm t ob (s2 _ hb)
      have R := sr_1 (pos := p3) (p := p2) b1 b3 A.se (star_one g5)
      cases q with
      | none =>
        have g1 : x = "tuple" := g1
        subst g1
        obtain ⟨c1, c2, c3⟩ := k.bt g2
        exact .of k.hK (se_tupRg k.calm c1 c3 R rfl) rfl
      | some m =>
        have g1 : x = "list" := g1
        subst g1
        obtain ⟨c1, c2, c3⟩ := k.bt g2
        exact .of k.hK (se_lstRg (mu := m) k.calm c1 c3 R rfl) rfl
    · cases h
  | .rng2 q a b, X, G, C, e, o, k, h, hm => by
    rw [ckE.eq_def] at h
    dsimp only at h
    split at h
    · rename_i x p1 y p2 a' b' p3 p4
      obtain ⟨o1, o2, h1, h2, s1, s2⟩ := andR_some h
      obtain ⟨o3, o4, h3, h4, s3, s4⟩ := andR_some h2
      obtain ⟨g, g6⟩ := b2 (okR_some h1)
      obtain ⟨g, g5⟩ := b2 g
      obtain ⟨g, g4⟩ := b2 g
      obtain ⟨g, g3⟩ := b2 g
      obtain ⟨g1, g2⟩ := b2 g
      have g1 := dt g1
      have g3 := dt g3
      subst g3
      obtain ⟨b1, b2', b3⟩ := k.bt g4
      have A := ckE_ok a a' o3 k h3 fun t ob hb => hm t ob (s2 _ (s3 _ hb))
      have B := ckE_ok b b' o4 k h4 fun t ob hb => hm t ob (s2 _ (s4 _ hb))
      have R := sr_2 (pos := p3) (p := p2) b1 b3 A.se B.se (star_cons g5) (star_one g6)
      cases q with
      | none =>
        have g1 : x = "tuple" := g1
        subst g1
        obtain ⟨c1, c2, c3⟩ := k.bt g2
        exact .of k.hK (se_tupRg k.calm c1 c3 R rfl) rfl
      | some m =>
        have g1 : x = "list" := g1
        subst g1
        obtain ⟨c1, c2, c3⟩ := k.bt g2
        exact .of k.hK (se_lstRg (mu := m) k.calm c1 c3 R rfl) rfl
    · cases h
  | .isi a t, X, G, C, e, o, k, h, hm => by
    rw [ckE.eq_def] at h
    dsimp only at h
    split at h
    · rename_i x p1 a' y p2 p3
      obtain ⟨o1, o2, h1, h2, s1, s2⟩ := andR_some h
      obtain ⟨g, g4⟩ := b2 (okR_some h1)
      obtain ⟨g, g3⟩ := b2 g
      obtain ⟨g1, g2⟩ := b2 g
      have g1 := dt g1
      subst g1
      obtain ⟨b1, _, b3⟩ := k.bt g2
      have A := ckE_ok a a' o2 k h2 fun t ob hb => hm t ob (s2 _ hb)
      exact .of k.hK (se_isi k.hK k.ok b1 b3 A.se (ty_of k g3) (star_cons g4)) rfl
    · cases h
  | .bm b q es, X, G, C, e, o, k, h, hm => by
    rw [ckE.eq_def] at h
    dsimp only at h
    split at h
    · rename_i q' m ap es' cp
      split at h
      · rename_i w hw
        obtain ⟨o1, o2, h1, h2, s1, s2⟩ := andR_some h
        obtain ⟨o3, o4, h3, h4, s3, s4⟩ := andR_some h2
        obtain ⟨g, g5⟩ := b2 (okR_some h1)
        obtain ⟨g, g4⟩ := b2 g
        obtain ⟨g, g3⟩ := b2 g
        obtain ⟨g1, g2⟩ := b2 g
        have A := ckE_ok q q' o3 k h3 fun t ob hb => hm t ob (s2 _ (s3 _ hb))
        have L := ckL_ok es es' o4 k h4 fun t ob hb => hm t ob (s2 _ (s4 _ hb))
        exact .of k.hK (bm_call k hw (dt g1) A.se (L.sa g3) (bmT_of g2 g3 (dt g4) g5)) rfl
      · cases h
    · cases h
  | .bi b es, X, G, C, e, o, k, h, hm => by
    rw [ckE.eq_def] at h
    dsimp only at h
    split at h
    · rename_i x p es' pos
      cases b with
      | sortSet mm =>
        dsimp only at h
        split at h
        · rename_i y p1 a' p2 a
          obtain ⟨o1, o2, h1, h2, s1, s2⟩ := andR_some h
          obtain ⟨g, g5⟩ := b2 (okR_some h1)
          obtain ⟨g, g4⟩ := b2 g
          obtain ⟨g, g3⟩ := b2 g
          obtain ⟨g1, g2⟩ := b2 g
          have g1 := dt g1
          have g3 := dt g3
          subst g1 g3
          obtain ⟨b1, _, b3⟩ := k.bt g2
          obtain ⟨c1, _, c3⟩ := k.bt g4
          have A := ckE_ok a a' o2 k h2 fun t ob hb => hm t ob (s2 _ hb)
          have S := se_sortSet (m := mm) (pos := pos) (p := p) (p1 := p1) (p2 := p2) k.hK k.calm b1 b3 c1 c3 A.se (star_one g5)
          exact .of k.hK S rfl
        · cases h
      | _ =>
        obtain ⟨o1, o2, h1, h2, s1, s2⟩ := andR_some (a := okR (decide (x = _) && C.bt x && es'.all nsE && !es'.isEmpty)) (b := ckL C es' es) h
        obtain ⟨g, g4⟩ := b2 (okR_some h1)
        obtain ⟨g, g3⟩ := b2 g
        obtain ⟨g1, g2⟩ := b2 g
        have L := ckL_ok es es' o2 k h2 fun t ob hb => hm t ob (s2 _ hb)
        cases es' with
        | nil => cases g4
        | cons a r => exact .of k.hK (bi_call k rfl (dt g1) g2 (L.sa g3) g3) rfl
    · cases h
  | .reprEq ne a b, X, G, C, e, o, k, h, hm => by
    rw [ckE.eq_def] at h
    dsimp only at h
    split at h
    · rename_i x p1 a' p2 q y p3 b' p4 p5
      obtain ⟨o1, o2, h1, h2, s1, s2⟩ := andR_some h
      obtain ⟨o3, o4, h3, h4, s3, s4⟩ := andR_some h2
      obtain ⟨g, g7⟩ := b2 (okR_some h1)
      obtain ⟨g, g6⟩ := b2 g
      obtain ⟨g, g5⟩ := b2 g
      obtain ⟨g, g3⟩ := b2 g
      obtain ⟨g1, g2⟩ := b2 g
      have g1 := dt g1
      have g3 := dt g3
      subst g1 g3
      obtain ⟨b1, _, b3⟩ := k.bt g2
      have A := ckE_ok a a' o3 k h3 fun t ob hb => hm t ob (s2 _ (s3 _ hb))
      have B := ckE_ok b b' o4 k h4 fun t ob hb => hm t ob (s2 _ (s4 _ hb))
      cases q with
      | Eq =>
        have g5 : (!ne) = true := g5
        have g5 : ne = false := by simpa using g5
        subst g5
        exact ⟨se_reprEq k.hK k.un k.gd b1 b3 A.se (star_one g6) B.se (star_one g7), st_two k.hK k.un k.gd b1 b3 A.se (star_one g6) B.se (star_one g7) (n := false) str_eq_ok rfl⟩
      | NotEq =>
        have g5 : ne = true := g5
        subst g5
        exact ⟨se_reprNe k.hK k.un k.gd b1 b3 A.se (star_one g6) B.se (star_one g7), st_two k.hK k.un k.gd b1 b3 A.se (star_one g6) B.se (star_one g7) (n := true) str_ne_ok rfl⟩
      | _ => cases g5
    · cases h
theorem ckL_ok : ∀ (irs : List E) {X : Cx} {G : Gm} {C : KC} (es : List Expr) (o : List LamOb), CKok X G C D n → ckL C es irs = some o → (C.top = true → ∀ ob ∈ o, MkOb X G ob) → EL X G D es irs
  | [], X, G, C, es, o, k, h, hm => by
    have := okR_some (show okR es.isEmpty = some o from h)
    cases es with
    | nil => exact .nil
    | cons _ _ => cases this
  | i :: is, X, G, C, es, o, k, h, hm => by
    cases es with
    | nil => exact nomatch (show (none : R) = some o from h)
    | cons e r =>
      obtain ⟨o1, o2, h1, h2, s1, s2⟩ := andR_some (show andR (ckE C e i) (ckL C r is) = some o from h)
      exact .cons (ckE_ok i e o1 k h1 fun t ob hb => hm t ob (s1 _ hb)) (ckL_ok is r o2 k h2 fun t ob hb => hm t ob (s2 _ hb))
theorem ckLC_ok : ∀ (irs : List E) {X : Cx} {G : Gm} {C : KC} (es : List Expr) (c : Clo) (o : List LamOb), CKok X G C D n → ckLC C es irs c = some o → es.all nsE = true → (C.top = true → ∀ ob ∈ o, MkOb X G ob) → SAc X G es (denLC D irs c)
  | [], X, G, C, es, c, o, k, h, hns, hm => by
    match es, h with
    | [l], h => exact clo_ok k h hm
    | [], h => exact nomatch (show (none : R) = some o from h)
    | _ :: _ :: _, h => exact nomatch (show (none : R) = some o from h)
  | i :: is, X, G, C, es, c, o, k, h, hns, hm => by
    cases es with
    | nil => exact nomatch (show (none : R) = some o from h)
    | cons e r =>
      obtain ⟨o1, o2, h1, h2, s1, s2⟩ := andR_some (show andR (ckE C e i) (ckLC C r is c) = some o from h)
      have hns := b2 (show (nsE e && r.all nsE) = true from hns)
      exact sac_cons (ckE_ok i e o1 k h1 fun t ob hb => hm t ob (s1 _ hb)).se (ckLC_ok is r c o2 k h2 hns.2 fun t ob hb => hm t ob (s2 _ hb)) (star_cons hns.1)
theorem ckP_ok : ∀ (irs : List E) {X : Cx} {G : Gm} {C : KC} {pos : Pos} (ks : List (Option Expr)) (vs : List Expr) (o : List LamOb), CKok X G C D n → ckP C ks vs irs = some o → (C.top = true → ∀ ob ∈ o, MkOb X G ob) → SPr X G pos ks vs (denEs D irs)
  | [], X, G, C, pos, ks, vs, o, k, h, hm => by
    obtain ⟨a, b⟩ := b2 (okR_some (show okR (ks.isEmpty && vs.isEmpty) = some o from h))
    cases ks with
    | cons _ _ => cases a
    | nil => cases vs with
      | cons _ _ => cases b
      | nil => exact spr_nil
  | [_], X, G, C, pos, ks, vs, o, k, h, hm => nomatch (show (none : R) = some o from h)
  | a :: b :: r, X, G, C, pos, ks, vs, o, k, h, hm => by
    match ks, vs, h with
    | some k' :: ks', v' :: vs', h =>
      obtain ⟨o1, o2, h1, h2, s1, s2⟩ := andR_some (show andR (ckE C k' a) (andR (ckE C v' b) (ckP C ks' vs' r)) = some o from h)
      obtain ⟨o3, o4, h3, h4, s3, s4⟩ := andR_some h2
      have A := ckE_ok a k' o1 k h1 fun t ob hb => hm t ob (s1 _ hb)
      have B := ckE_ok b v' o3 k h3 fun t ob hb => hm t ob (s2 _ (s3 _ hb))
      exact spr_cons A.se B.se (ckP_ok r ks' vs' o4 k h4 fun t ob hb => hm t ob (s2 _ (s4 _ hb)))
    | [], _, h => exact nomatch (show (none : R) = some o from h)
    | none :: _, _, h => exact nomatch (show (none : R) = some o from h)
    | some _ :: _, [], h => exact nomatch (show (none : R) = some o from h)
end
end
end Mi

set_option Elab.async false
set_option linter.all false
set_option maxRecDepth 100000
set_option maxHeartbeats 2000000
namespace Mi
open PySem PySem.Spec PyProof.Rows L2 LamX NdefX
/-- what the check of a statement leans on -/
structure CSok (X : Cx) (G : Gm) (C : KC) (D : DG) (n : Nat) : Prop where
  ck : CKok X G C D n
  pass : PassesOwn (model X.prog X.w) X.A X.env X.xe
  top : C.top = true
  stk : X.stack = X.env :: X.outer
  frm : X.env.frame = some X.env.locals
  exc : ∀ x c, C.excs.lookup x = some c → Gl X x → (x == ("__debug__" : Str)) = false → RaiseOk X G c x
section
variable {X : Cx} {G : Gm} {C : KC} {D : DG} {n : Nat}
/-- the pieces of a comprehension, from its check -/
theorem lcp_ok (k : CKok X G C D n) {m : Bool} {tg : List Nat} {kk : ItK} {its : List E} {cond elt : E} {elt' tg' it' : Expr} {ifs' : List Expr} {asy : Int} {sc : Scope} {pos : Pos} {o : List LamOb}
    (h : ckE C (.ListComp elt' [⟨tg', it', ifs', asy⟩] sc pos) (.comp m tg kk its cond elt) = some o) (hm : C.top = true → ∀ ob ∈ o, MkOb X G ob) : asy = 0 ∧ LcP X G D tg' it' elt' ifs' sc ((tgNames tg').zip tg) tg kk its cond elt := by
  rw [ckE.eq_def] at h
  dsimp only at h
  obtain ⟨o1, o2, h1, h2, s1, s2⟩ := andR_some h
  obtain ⟨o3, o4, h3, h4, s3, s4⟩ := andR_some h2
  obtain ⟨o5, o6, h5, h6, s5, s6⟩ := andR_some h4
  obtain ⟨g, g5⟩ := b2 (okR_some h1)
  obtain ⟨g, g4⟩ := b2 g
  obtain ⟨g, g3⟩ := b2 g
  obtain ⟨g1, g2⟩ := b2 g
  have g1 := dt g1
  have g4 := dt g4
  have B := blk_ok k g3
  have kb := fun s H Cd cl fp => CKok.blk k sc B.kind s H Cd cl fp
  have nt : ∀ {P : Prop}, (C.blk sc).top = true → P := fun z => nomatch (show false = true from z)
  split at h3
  · rename_i as ea
    obtain ⟨hi, hs⟩ := it_ok k ea (ckL_ok its as o3 k h3 fun t ob hb => hm t ob (s2 _ (s3 _ hb)))
    refine ⟨g1, hi, B, g4, fun s H Cd cl fp => pg_ok (kb s H Cd cl fp) g5, fun s H Cd cl fp => ?_, fun s H Cd cl fp => (ckE_ok elt elt' o6 (kb s H Cd cl fp) h6 nt).se, folded_ok hs⟩
    split at h5
    · simp only [okR_some h5, if_true]
      exact pts_no
    · rename_i c'
      obtain ⟨e5, h5⟩ := if_no h5
      simp only [e5, Bool.false_eq_true, if_false]
      exact pts_yes (ckE_ok cond c' o5 (kb s H Cd cl fp) h5 nt).st
    · cases h5
  · cases h3
/-- whether the store of a comprehension is swapped -/
def swB (C : KC) (x : Str) (px lp : Pos) (sc : Scope) : Bool := C.loc x && px.line == lp.line && !(sc.names.any fun (n, k) => n == x && (k == .local || k == .cell))
theorem own_kind (k : CKok X G C D n) {x : Str} (h : C.own x = true) : (X.env.kindOf x == some .local) = C.loc x := by
  unfold KC.own at h
  unfold KC.loc Env.kindOf
  split at h
  · rename_i e
    rcases k.sc x _ e with z | ⟨z, _⟩
    · rw [z, e]; rfl
    · cases z
  · rename_i e
    rcases k.sc x _ e with z | ⟨z, _⟩
    · rw [z, e]; rfl
    · cases z
  · cases h
theorem blockKind_fn (k : CKok X G C D n) : X.env.blockKind = .function := by
  unfold Env.blockKind
  rw [k.kind]; rfl
theorem swB_ok (k : CKok X G C D n) {x : Str} (h : C.own x = true) {px pos : Pos} {elt : Expr} {gs : List Comprehension} {sc : Scope} {l : Nat} : swapsWith (.ListComp elt gs sc pos) (some (.Name x px)) l X.env = pure (swB C x px pos sc) := by
  show (pure (X.env.blockKind == .function && X.env.kindOf x == some .local && px.line == pos.line && !(sc.names.any fun (n, k) => n == x && (k == .local || k == .cell))) : Sem Bool) = _
  rw [blockKind_fn k, own_kind k h]
  rfl
theorem sw_none {t e : Expr} {env : Env} (h : (match e with
    | .Tuple _ _ _ => false
    | .List _ _ => false
    | _ => true) = true) : swappedStores [t] e env = pure none := by
  cases t <;> cases e <;> first | rfl | exact nomatch (show false = true from h)
theorem ns_any {vs : List Expr} (h : vs.all nsE = true) : (vs.any fun | .Starred .. => true | _ => false) = false := by
  induction vs with
  | nil => rfl
  | cons a r ih =>
    rw [List.all_cons, Bool.and_eq_true] at h
    rw [List.any_cons, ih h.2]
    cases a <;> first | rfl | exact nomatch (show false = true from h.1)
theorem sw_two {x y : Str} {px py pt pt2 : Pos} {kt k2 : Nat} {e1 e2 : Expr} {env : Env} (hb : env.blockKind = .function) (hx : env.kindOf x = some .local) (hy : env.kindOf y = some .local) (hne : (x == y) = false) (hl : (py.line == px.line) = true) (hs : [e1, e2].all nsE = true)
    (hf : [e1, e2].all (foldedForSure 8) = false) (hc : [e1, e2].all (constantsAlone 8) = false) : swappedStores [.Tuple [.Name x px, .Name y py] kt pt] (.Tuple [e1, e2] k2 pt2) env = pure (some [x, y]) := by
  have hl : py.line = px.line := by simpa using hl
  have hn : ¬ x = y := by simpa using hne
  have px0 : (Expr.Name x px).pos.line = px.line := rfl
  unfold swappedStores
  have nm : [Expr.Name x px, Expr.Name y py].filterMap (fun e : Expr => match e with
    | .Name id pos => if env.kindOf id == some .local && pos.line == (([Expr.Name x px, Expr.Name y py].head?.map (·.pos.line)).getD 0) then some id else none
    | _ => none) = [x, y] := by
    simp [hx, hy, px0, hl]
  have hn2 : (y == x) = false := by simpa using fun e => hn e.symm
  have ed : ([x, y] : List Str).eraseDups.length = 2 := by simp [List.eraseDups, List.eraseDupsBy, List.eraseDupsBy.loop, hn2]
  dsimp only
  rw [hb]
  refine (if_neg (fun z => nomatch (show false = true from z))).trans ?_
  refine (if_neg (fun z => Bool.false_ne_true ((ns_any hs).symm.trans (Eq.trans (by rfl) z)))).trans ?_
  rw [hf, hc]
  refine (if_neg (fun z => ?_)).trans ?_
  · have z2 : (([x, y] : List Str).length != 2 || ([x, y] : List Str).eraseDups.length != ([x, y] : List Str).length) = true := by rw [← nm]; exact z
    rw [ed] at z2
    exact nomatch z2
  · exact congrArg (fun l => (pure (some l) : Sem (Option (List Str)))) nm
theorem sw_three {x y z : Str} {px py pz pt pt2 : Pos} {kt k2 : Nat} {e1 e2 e3 : Expr} {env : Env} (hb : env.blockKind = .function) (hx : env.kindOf x = some .local) (hy : env.kindOf y = some .local) (hz : env.kindOf z = some .local) (hxy : (x == y) = false) (hxz : (x == z) = false) (hyz : (y == z) = false) (hl : (py.line == px.line) = true) (hl2 : (pz.line == px.line) = true) (hs : [e1, e2, e3].all nsE = true)
    (hf : [e1, e2, e3].all (foldedForSure 8) = false) (hc : [e1, e2, e3].all (constantsAlone 8) = false) : swappedStores [.Tuple [.Name x px, .Name y py, .Name z pz] kt pt] (.Tuple [e1, e2, e3] k2 pt2) env = pure (some [x, y, z]) := by
  have hl : py.line = px.line := by simpa using hl
  have hl2 : pz.line = px.line := by simpa using hl2
  have px0 : (Expr.Name x px).pos.line = px.line := rfl
  unfold swappedStores
  have nm : [Expr.Name x px, Expr.Name y py, Expr.Name z pz].filterMap (fun e : Expr => match e with
    | .Name id pos => if env.kindOf id == some .local && pos.line == (([Expr.Name x px, Expr.Name y py, Expr.Name z pz].head?.map (·.pos.line)).getD 0) then some id else none
    | _ => none) = [x, y, z] := by
    simp [hx, hy, hz, px0, hl, hl2]
  have f : ∀ {a b : Str}, (a == b) = false → (b == a) = false := fun {a b} h => by
    have h : ¬ a = b := by simpa using h
    simpa using fun e => h e.symm
  have ed : ([x, y, z] : List Str).eraseDups.length = 3 := by simp [List.eraseDups, List.eraseDupsBy, List.eraseDupsBy.loop, f hxy, f hxz, f hyz, hxy, hxz, hyz]
  dsimp only
  rw [hb]
  refine (if_neg (fun z => nomatch (show false = true from z))).trans ?_
  refine (if_neg (fun z => Bool.false_ne_true ((ns_any hs).symm.trans (Eq.trans (by rfl) z)))).trans ?_
  rw [hf, hc]
  refine (if_neg (fun q => ?_)).trans ?_
  · have z2 : (([x, y, z] : List Str).length != 3 || ([x, y, z] : List Str).eraseDups.length != ([x, y, z] : List Str).length) = true := by rw [← nm]; exact q
    rw [ed] at z2
    exact nomatch z2
  · exact congrArg (fun l => (pure (some l) : Sem (Option (List Str)))) nm
/-- two stores, one of them into a cell -/
theorem sw_cell {x y : Str} {px py pt : Pos} {kt : Nat} {e : Expr} {env : Env} (h : env.kindOf x = some .cell ∨ env.kindOf y = some .cell) : swappedStores [.Tuple [.Name x px, .Name y py] kt pt] e env = pure none := by
  cases e with
  | Tuple vs k2 p2 =>
    unfold swappedStores
    dsimp only
    split
    · rfl
    · split
      · rfl
      · have nm : (([Expr.Name x px, Expr.Name y py].filterMap (fun e : Expr => match e with
          | .Name id pos => if env.kindOf id == some .local && pos.line == (([Expr.Name x px, Expr.Name y py].head?.map (·.pos.line)).getD 0) then some id else none
          | _ => none)).length != [Expr.Name x px, Expr.Name y py].length) = true := by
          have two : ∀ b c : Bool, (b = false ∨ c = false) → ((([(if b = true then some x else none), (if c = true then some y else none)] : List (Option Str)).filterMap id).length != 2) = true := fun b c h => by
            cases b <;> cases c <;> first | rfl | (rcases h with h | h <;> cases h)
          have := two (env.kindOf x == some .local && px.line == (([Expr.Name x px, Expr.Name y py].head?.map (·.pos.line)).getD 0)) (env.kindOf y == some .local && py.line == (([Expr.Name x px, Expr.Name y py].head?.map (·.pos.line)).getD 0)) (by
            rcases h with h | h
            · left; rw [h]; rfl
            · right; rw [h]; rfl)
          refine Eq.trans ?_ this
          simp only [List.filterMap_cons, List.filterMap_nil, id]
          rfl
        rw [if_pos (by rw [Bool.or_eq_true]; exact .inl nm)]
  | _ => rfl
end
end Mi

set_option Elab.async false
set_option linter.all false
set_option maxRecDepth 100000
set_option maxHeartbeats 4000000
namespace Mi
open PySem PySem.Spec PyProof.Rows L2 LamX NdefX
/-- a, b = b, a -/
def parOk (C : KC) : List Expr → List Expr → List Nat → Bool
  | [.Name x px, .Name y py], [e1, e2], [j, k] => C.nm j x && C.nm k y && decide (j ≠ k) && C.loc x && C.loc y && !(x == y) && (py.line == px.line) && [e1, e2].all nsE && !([e1, e2].all (foldedForSure 8)) && !([e1, e2].all (constantsAlone 8))
  | [.Name x px, .Name y py, .Name z pz], [e1, e2, e3], [j, k, l] => C.nm j x && C.nm k y && C.nm l z && decide (j ≠ k) && decide (j ≠ l) && decide (k ≠ l) && C.loc x && C.loc y && C.loc z && !(x == y) && !(x == z) && !(y == z) && (py.line == px.line) && (pz.line == px.line) && [e1, e2, e3].all nsE && !([e1, e2, e3].all (foldedForSure 8)) && !([e1, e2, e3].all (constantsAlone 8))
  | _, _, _ => false
/-- a, b = .., one of them a cell -/
def parC (C : KC) (ts es' : List Expr) (is : List Nat) : Bool := ckNs C ts is && es'.all nsE && decide (es'.length ≤ sizeLine) && (match ts with
  | [.Name x _, .Name y _] => decide (C.sc.lookup x = some .cell) || decide (C.sc.lookup y = some .cell)
  | _ => false)
def notTup : Expr → Bool
  | .Tuple _ _ _ => false
  | .List _ _ => false
  | _ => true
def ckLams : List Expr → List (Nat × List Nat) → R
  | [], [] => some []
  | .Lambda ps b sc _ :: es, (k, caps) :: ks => andR (some [⟨k, caps, ps, b, sc⟩]) (ckLams es ks)
  | _, _ => none
mutual
def ckS (C : KC) (st : Stmt) : S → R
  | .set i e => (match st with
    | .Assign [.Name x px] (.ListComp el gs sc lp) p => if swB C x px lp sc = true then andR (okR (C.nm i x && C.loc x)) (ckE C (.ListComp el gs sc lp) e) else andR (okR (C.nm i x && C.own x)) (ckE C (.ListComp el gs sc lp) e)
    | .Assign [.Name x _] e' _ => andR (okR (C.nm i x && C.own x && !compE e')) (ckE C e' e)
    | _ => none)
  | .setT is e => (match st with
    | .Assign [.Tuple ts _ _] (.Tuple es' _ _) _ => (match e with
      | .tup es => andR (okR (parOk C ts es' is || parC C ts es' is)) (ckL C es' es)
      | _ => none)
    | .Assign [.Tuple ts _ _] e' _ => andR (okR (ckNs C ts is && !compE e' && notTup e')) (ckE C e' e)
    | _ => none)
  | .par _ _ => none
  | .setI o i e => (match st with
    | .Assign [.Subscript o' i' _] e' _ => andR (okR (plainI i' && !compE e')) (andR (ckE C e' e) (andR (ckE C o' o) (ckE C i' i)))
    | _ => none)
  | .setA _ _ _ => none
  | .ex e => (match st with
    | .Expr e' _ => andR (okR (!compE e')) (ckE C e' e)
    | _ => none)
  | .ite c a b => (match st with
    | .If c' a' b' _ => andR (ckE C c' c) (andR (ckSs C a' a) (ckSs C b' b))
    | _ => none)
  | .for tg k its body => (match st with
    | .For tg' e' body' [] _ => andR (okR (ckTg C tg' tg)) (andR (match itArgs C tg' e' k with
        | some as => ckL C as its
        | none => none) (ckSs C body' body))
    | _ => none)
  | .while c body => (match st with
    | .While c' body' [] _ => andR (okR (!isSkip c)) (andR (ckE C c' c) (ckSs C body' body))
    | _ => none)
  | .ret e => (match st with
    | .Return (some e') _ => ckE C e' e
    | _ => none)
  | .retN => (match st with
    | .Return none _ => some []
    | _ => none)
  | .cont => (match st with
    | .Continue _ => some []
    | _ => none)
  | .pass => (match st with
    | .Pass _ => some []
    | .Expr (.Constant (.str _) _ _) _ => some []
    | _ => none)
  | .raise x c => (match st with
    | .Raise (some (.Call (.Name y _) [.Constant (.str _) _ _] [] _)) none _ => okR (decide (x = y) && C.glo x && decide (C.excs.lookup x = some c))
    | _ => none)
  | .tryc i x c n j => (match st with
    | .Try [.Expr (.Call (.Name w _) [] [] _) _] [.ExceptHandler (some (.Name y _)) (some en) [.Assign [.Name v _] (.Name en2 _) _] _] [] [] _ =>
      okR (decide (x = y) && C.glo x && decide (C.cls.lookup x = some c) && C.nm i w && C.vis w && okN w && C.nm n en && C.nm j v && C.loc en && C.loc v && decide (n ≠ j) && decide (en2 = en) && okN en)
    | _ => none)
  | .forlam i ls x f e r => (match st with
    | .For (.Name y _) (.List els _) [.If (.UnaryOp .Not (.Call (.Name z _) [e', .Name y' _] [] _) _) [.Return (some r') _] [] _] [] _ =>
      andR (okR (decide (y' = y) && decide (z = x) && C.nm i y && C.own y && C.vis y && okN y && C.glo x && decide (C.fns.lookup x = some f) && decide (C.ar f = some 2) && nsE e' && decide (ls.length ≤ sizeLine) && !ls.isEmpty)) (andR (ckLams els ls) (andR (ckE C e' e) (ckE C r' r)))
    | _ => none)
def ckSs (C : KC) (st : List Stmt) : List S → R
  | [] => okR st.isEmpty
  | s :: ss => (match st with
    | t :: ts => andR (ckS C t s) (ckSs C ts ss)
    | [] => none)
termination_by structural x => x
end
section
variable {D : DG} {n : Nat}
theorem nb {b : Bool} (h : (!b) = true) : b = false := by cases b <;> first | rfl | cases h
theorem par_ok {X : Cx} {G : Gm} {C : KC} (k : CKok X G C D n) {ts es' : List Expr} {is : List Nat} {es : List E} {kt k2 : Nat} {pt pt2 pos : Pos} (h : parOk C ts es' is = true) (L : EL X G D es' es) : SS X G (.Assign [.Tuple ts kt pt] (.Tuple es' k2 pt2) pos) (denS D (.setT is (.tup es))) := by
  unfold parOk at h
  split at h
  · rename_i x px y py e1 e2 i j
    obtain ⟨h, a10⟩ := b2 h
    obtain ⟨h, a9⟩ := b2 h
    obtain ⟨h, a8⟩ := b2 h
    obtain ⟨h, a7⟩ := b2 h
    obtain ⟨h, a6⟩ := b2 h
    obtain ⟨h, a5⟩ := b2 h
    obtain ⟨h, a4⟩ := b2 h
    obtain ⟨h, a3⟩ := b2 h
    obtain ⟨a1, a2⟩ := b2 h
    exact ss_par2 k.calm k.nd (k.nm a1) (k.nm a2) (dt a3) (k.loc a4) (k.loc a5) (L.sa a8) (sw_two (blockKind_fn k) (k.loc a4) (k.loc a5) (by simpa using a6) a7 a8 (nb a9) (nb a10)) rfl
  · rename_i x px y py z pz e1 e2 e3 i j l
    obtain ⟨h, a17⟩ := b2 h
    obtain ⟨h, a16⟩ := b2 h
    obtain ⟨h, a15⟩ := b2 h
    obtain ⟨h, a14⟩ := b2 h
    obtain ⟨h, a13⟩ := b2 h
    obtain ⟨h, a12⟩ := b2 h
    obtain ⟨h, a11⟩ := b2 h
    obtain ⟨h, a10⟩ := b2 h
    obtain ⟨h, a9⟩ := b2 h
    obtain ⟨h, a8⟩ := b2 h
    obtain ⟨h, a7⟩ := b2 h
    obtain ⟨h, a6⟩ := b2 h
    obtain ⟨h, a5⟩ := b2 h
    obtain ⟨h, a4⟩ := b2 h
    obtain ⟨h, a3⟩ := b2 h
    obtain ⟨a1, a2⟩ := b2 h
    exact ss_par3 k.calm k.nd (k.nm a1) (k.nm a2) (k.nm a3) (dt a4) (dt a5) (dt a6) (k.loc a7) (k.loc a8) (k.loc a9) (L.sa a15) (sw_three (blockKind_fn k) (k.loc a7) (k.loc a8) (k.loc a9) (by simpa using a10) (by simpa using a11) (by simpa using a12) a13 a14 a15 (nb a16) (nb a17)) rfl
  · cases h
theorem kind_at {X : Cx} {G : Gm} {C : KC} (k : CKok X G C D n) {x : Str} (h : C.sc.lookup x = some .cell) : X.env.kindOf x = some .cell := by
  rcases k.sc x _ h with z | ⟨z, _⟩
  · exact z
  · cases z
theorem par_any {X : Cx} {G : Gm} {C : KC} (k : CKok X G C D n) {ts es' : List Expr} {is : List Nat} {es : List E} {kt k2 : Nat} {pt pt2 pos : Pos} (h : (parOk C ts es' is || parC C ts es' is) = true) (L : EL X G D es' es) : SS X G (.Assign [.Tuple ts kt pt] (.Tuple es' k2 pt2) pos) (denS D (.setT is (.tup es))) := by
  rw [Bool.or_eq_true] at h
  rcases h with h | h
  · exact par_ok k h L
  · unfold parC at h
    obtain ⟨h, g4⟩ := b2 h
    obtain ⟨h, g3⟩ := b2 h
    obtain ⟨g1, g2⟩ := b2 h
    split at g4
    · rename_i x px y py _ _
      have g4 : C.sc.lookup x = some .cell ∨ C.sc.lookup y = some .cell := by simpa using g4
      exact ss_setT k.hK (se_tup (L.sa g2) (dt g3)) (pg_many k g1) (by rfl) (sw_cell (g4.imp (kind_at k) (kind_at k))) rfl
    · cases g4
theorem lams_ok {X : Cx} {G : Gm} : ∀ {es : List Expr} {ks : List (Nat × List Nat)} {o : List LamOb}, ckLams es ks = some o → (∀ ob ∈ o, MkOb X G ob) → MkLs X G es ks
  | [], [], o, h, hm => .nil
  | .Lambda ps b sc p :: es, (k, caps) :: ks, o, h, hm => by
    obtain ⟨o1, o2, h1, h2, s1, s2⟩ := andR_some (show andR (some [⟨k, caps, ps, b, sc⟩]) (ckLams es ks) = some o from h)
    cases h1
    exact .cons (hm _ (s1 _ (List.mem_singleton.mpr rfl))) (lams_ok h2 fun ob hb => hm ob (s2 _ hb))
  | [], _ :: _, o, h, hm => nomatch (show (none : R) = some o from h)
  | e :: _, [], o, h, hm => by cases e <;> exact nomatch (show (none : R) = some o from h)
  | e :: _, _ :: _, o, h, hm => by
    cases e with
    | Lambda ps b sc p =>
      rename_i es q ks
      obtain ⟨k, caps⟩ := q
      obtain ⟨o1, o2, h1, h2, s1, s2⟩ := andR_some (show andR (some [⟨k, caps, ps, b, sc⟩]) (ckLams es ks) = some o from h)
      cases h1
      exact .cons (hm _ (s1 _ (List.mem_singleton.mpr rfl))) (lams_ok h2 fun ob hb => hm ob (s2 _ hb))
    | _ => exact nomatch (show (none : R) = some o from h)
mutual
theorem ckS_ok : ∀ (ir : S) {X : Cx} {G : Gm} {C : KC} (st : Stmt) (o : List LamOb), CSok X G C D n → ckS C st ir = some o → (∀ ob ∈ o, MkOb X G ob) → SS X G st (denS D ir)
  | .set i e, X, G, C, st, o, k, h, hm => by
    rw [ckS.eq_def] at h
    dsimp only at h
    split at h
    · rename_i x px el gs sc lp p
      split at h
      · rename_i hs
        obtain ⟨o1, o2, h1, h2, s1, s2⟩ := andR_some h
        obtain ⟨g1, g2⟩ := b2 (okR_some h1)
        have ow : C.own x = true := by
          have g2 : (match C.sc.lookup x with
            | some .local => true
            | _ => false) = true := g2
          show (match C.sc.lookup x with
            | some .local => true
            | some .cell => true
            | _ => false) = true
          revert g2
          cases C.sc.lookup x with
          | none => intro h; exact h
          | some q => cases q <;> intro h <;> first | rfl | exact h
        have hsw := swB_ok k.ck ow (px := px) (pos := lp) (elt := el) (gs := gs) (sc := sc) (l := p.line)
        rw [hs] at hsw
        cases e with
        | comp m tg kk its cond elt =>
          match gs, h2 with
          | [⟨tg', it', ifs', asy⟩], h2 =>
            obtain ⟨e0, P⟩ := lcp_ok k.ck h2 fun t ob hb => hm ob (s2 _ hb)
            subst e0
            exact ss_setLc k.ck.hK k.ck.calm k.ck.nd (k.ck.nm g1) (k.ck.loc g2) P.hi P.ok P.own hsw P.hg P.ht P.he P.hs
          | [], h2 => rw [ckE.eq_def] at h2; exact nomatch (show (none : R) = some o2 from h2)
          | ⟨_, _, _, _⟩ :: _ :: _, h2 => rw [ckE.eq_def] at h2; exact nomatch (show (none : R) = some o2 from h2)
        | _ => rw [ckE.eq_def] at h2; exact nomatch (show (none : R) = some o2 from h2)
      · rename_i hs
        obtain ⟨o1, o2, h1, h2, s1, s2⟩ := andR_some h
        obtain ⟨g1, g2⟩ := b2 (okR_some h1)
        obtain ⟨a, b⟩ := k.ck.own g2
        have hsw := swB_ok k.ck g2 (px := px) (pos := lp) (elt := el) (gs := gs) (sc := sc) (l := p.line)
        rw [show swB C x px lp sc = false by simpa using hs] at hsw
        exact ss_set k.ck.nd (k.ck.nm g1) a (ckE_ok e _ o2 k.ck h2 fun t ob hb => hm ob (s2 _ hb)).se hsw b
    · rename_i x px e' p _
      obtain ⟨o1, o2, h1, h2, s1, s2⟩ := andR_some h
      obtain ⟨g, g3⟩ := b2 (okR_some h1)
      obtain ⟨g1, g2⟩ := b2 g
      obtain ⟨a, b⟩ := k.ck.own g2
      exact ss_set k.ck.nd (k.ck.nm g1) a (ckE_ok e _ o2 k.ck h2 fun t ob hb => hm ob (s2 _ hb)).se (swaps_no (by simpa using g3)) b
    · cases h
  | .setT is e, X, G, C, st, o, k, h, hm => by
    rw [ckS.eq_def] at h
    dsimp only at h
    split at h
    · rename_i ts kt pt es' k2 pt2 p
      split at h
      · rename_i es
        obtain ⟨o1, o2, h1, h2, s1, s2⟩ := andR_some h
        have L := ckL_ok es es' o2 k.ck h2 fun t ob hb => hm ob (s2 _ hb)
        exact par_any k.ck (okR_some h1) L
      · cases h
    · rename_i ts kt pt e' p _
      obtain ⟨o1, o2, h1, h2, s1, s2⟩ := andR_some h
      obtain ⟨g, g3⟩ := b2 (okR_some h1)
      obtain ⟨g1, g2⟩ := b2 g
      exact ss_setT k.ck.hK (ckE_ok e _ o2 k.ck h2 fun t ob hb => hm ob (s2 _ hb)).se (pg_many k.ck g1) (swapsSole_no (by simpa using g2)) (sw_none g3) rfl
    · cases h
  | .par _ _, X, G, C, st, o, k, h, hm => nomatch (show (none : R) = some o from h)
  | .setA _ _ _, X, G, C, st, o, k, h, hm => nomatch (show (none : R) = some o from h)
  | .setI q i e, X, G, C, st, o, k, h, hm => by
    rw [ckS.eq_def] at h
    dsimp only at h
    split at h
    · rename_i q' i' sp e' p
      obtain ⟨o1, o2, h1, h2, s1, s2⟩ := andR_some h
      obtain ⟨o3, o4, h3, h4, s3, s4⟩ := andR_some h2
      obtain ⟨o5, o6, h5, h6, s5, s6⟩ := andR_some h4
      obtain ⟨g1, g2⟩ := b2 (okR_some h1)
      have A := (ckE_ok e _ o3 k.ck h3 fun t ob hb => hm ob (s2 _ (s3 _ hb))).se
      have B := (ckE_ok q _ o5 k.ck h5 fun t ob hb => hm ob (s2 _ (s4 _ (s5 _ hb)))).se
      have Z := (ckE_ok i _ o6 k.ck h6 fun t ob hb => hm ob (s2 _ (s4 _ (s6 _ hb)))).se
      exact ss_setI (by have := k.ck.un; omega) A B Z (swapsSole_no (by simpa using g2)) (by intro v; cases i' <;> first | rfl | exact nomatch (show false = true from g1))
    · cases h
  | .ex e, X, G, C, st, o, k, h, hm => by
    rw [ckS.eq_def] at h
    dsimp only at h
    split at h
    · rename_i e' p
      obtain ⟨o1, o2, h1, h2, s1, s2⟩ := andR_some h
      exact ss_ex (ckE_ok e _ o2 k.ck h2 fun t ob hb => hm ob (s2 _ hb)).se (swaps_no (by have := okR_some h1; simpa using this))
    · cases h
  | .ite c a b, X, G, C, st, o, k, h, hm => by
    rw [ckS.eq_def] at h
    dsimp only at h
    split at h
    · rename_i c' a' b' p
      obtain ⟨o1, o2, h1, h2, s1, s2⟩ := andR_some h
      obtain ⟨o3, o4, h3, h4, s3, s4⟩ := andR_some h2
      exact ss_if (ckE_ok c _ o1 k.ck h1 fun t ob hb => hm ob (s1 _ hb)).st (ckSs_ok a a' o3 k h3 fun ob hb => hm ob (s2 _ (s3 _ hb))) (ckSs_ok b b' o4 k h4 fun ob hb => hm ob (s2 _ (s4 _ hb)))
    · cases h
  | .for tg kk its body, X, G, C, st, o, k, h, hm => by
    rw [ckS.eq_def] at h
    dsimp only at h
    split at h
    · rename_i tg' e' body' p
      obtain ⟨o1, o2, h1, h2, s1, s2⟩ := andR_some h
      obtain ⟨o3, o4, h3, h4, s3, s4⟩ := andR_some h2
      split at h3
      · rename_i as ea
        obtain ⟨hi, hs⟩ := it_ok k.ck ea (ckL_ok its as o3 k.ck h3 fun t ob hb => hm ob (s2 _ (s3 _ hb)))
        exact ss_for k.ck.hK k.pass k.ck.calm hi (pg_ok k.ck (okR_some h1)) (ckSs_ok body body' o4 k h4 fun ob hb => hm ob (s2 _ (s4 _ hb))) (folded_ok hs)
      · cases h3
    · cases h
  | .while c body, X, G, C, st, o, k, h, hm => by
    rw [ckS.eq_def] at h
    dsimp only at h
    split at h
    · rename_i c' body' p
      obtain ⟨o1, o2, h1, h2, s1, s2⟩ := andR_some h
      obtain ⟨o3, o4, h3, h4, s3, s4⟩ := andR_some h2
      have S := ss_while (pos := p) k.pass (ckE_ok c _ o3 k.ck h3 fun t ob hb => hm ob (s2 _ (s3 _ hb))).st (ckSs_ok body body' o4 k h4 fun ob hb => hm ob (s2 _ (s4 _ hb)))
      have e : isSkip c = false := by have := okR_some h1; simpa using this
      have e2 : denC D c = fun ρ' => bnd (denE D c ρ') truthM := by
        funext ρ'
        unfold denC
        rw [e]; rfl
      show SS X G _ (fun ρ => fun Q E h => ∃ n, whileN (fun ρ' => denC D c ρ') (fun ρ' => denSs D body ρ') n ρ Q E h)
      rw [show (fun ρ' => denC D c ρ') = fun ρ' => bnd (denE D c ρ') truthM from e2]
      exact S
    · cases h
  | .ret e, X, G, C, st, o, k, h, hm => by
    rw [ckS.eq_def] at h
    dsimp only at h
    split at h
    · rename_i e' p
      exact ss_ret (ckE_ok e _ o k.ck h fun t ob hb => hm ob hb).se
    · cases h
  | .retN, X, G, C, st, o, k, h, hm => by
    rw [ckS.eq_def] at h
    dsimp only at h
    split at h
    · exact ss_retN
    · cases h
  | .cont, X, G, C, st, o, k, h, hm => by
    rw [ckS.eq_def] at h
    dsimp only at h
    split at h
    · exact ss_cont
    · cases h
  | .pass, X, G, C, st, o, k, h, hm => by
    rw [ckS.eq_def] at h
    dsimp only at h
    split at h
    · exact ss_pass
    · exact ss_doc
    · cases h
  | .raise x c, X, G, C, st, o, k, h, hm => by
    rw [ckS.eq_def] at h
    dsimp only at h
    split at h
    · rename_i y p1 m j p2 p3 p4
      obtain ⟨g, g3⟩ := b2 (okR_some h)
      obtain ⟨g1, g2⟩ := b2 g
      have g1 := dt g1
      subst g1
      obtain ⟨a, b⟩ := k.ck.glo g2
      exact ss_raise k.ck.calm (k.exc x c (dt g3) a (okN_1 b))
    · cases h
  | .tryc i x c m j, X, G, C, st, o, k, h, hm => by
    rw [ckS.eq_def] at h
    dsimp only at h
    split at h
    · rename_i w p1 p2 p3 y p4 en v p5 en2 p6 p7 p8 p9
      obtain ⟨g, g13⟩ := b2 (okR_some h)
      obtain ⟨g, g12⟩ := b2 g
      obtain ⟨g, g11⟩ := b2 g
      obtain ⟨g, g10⟩ := b2 g
      obtain ⟨g, g9⟩ := b2 g
      obtain ⟨g, g8⟩ := b2 g
      obtain ⟨g, g7⟩ := b2 g
      obtain ⟨g, g6⟩ := b2 g
      obtain ⟨g, g5⟩ := b2 g
      obtain ⟨g, g4⟩ := b2 g
      obtain ⟨g, g3⟩ := b2 g
      obtain ⟨g1, g2⟩ := b2 g
      have g1 := dt g1
      have g12 := dt g12
      subst g1 g12
      obtain ⟨a, b⟩ := k.ck.glo g2
      obtain ⟨gx, ex⟩ := k.ck.gx k.top
      refine ss_tryc k.ck.hK k.ck.ok ex k.stk k.frm k.ck.nd (k.ck.nm g7) (k.ck.nm g8) (dt g11) (k.ck.loc g9) (k.ck.loc g10) ⟨a, okN_1 b, k.ck.cls x c (dt g3)⟩ (okN_1 g13) (okN_2 g13) (fun env => rfl) fun pn xe => ?_
      exact se_callc (X := X.tr pn xe) ⟨gx.h, gx.H, gx.fs⟩ ex (k.ck.lam k.top) k.ck.gd k.ck.room (k.ck.nm g4) (k.ck.vis g5) (okN_1 g6) (okN_2 g6)
    · cases h
  | .forlam i ls x f e r, X, G, C, st, o, k, h, hm => by
    rw [ckS.eq_def] at h
    dsimp only at h
    split at h
    · rename_i y p1 els p2 z p3 e' y' p4 p5 p6 r' p7 p8 p9
      obtain ⟨o1, o2, h1, h2, s1, s2⟩ := andR_some h
      obtain ⟨o3, o4, h3, h4, s3, s4⟩ := andR_some h2
      obtain ⟨o5, o6, h5, h6, s5, s6⟩ := andR_some h4
      obtain ⟨g, g12⟩ := b2 (okR_some h1)
      obtain ⟨g, g11⟩ := b2 g
      obtain ⟨g, g10⟩ := b2 g
      obtain ⟨g, g9⟩ := b2 g
      obtain ⟨g, g8⟩ := b2 g
      obtain ⟨g, g7⟩ := b2 g
      obtain ⟨g, g6⟩ := b2 g
      obtain ⟨g, g5⟩ := b2 g
      obtain ⟨g, g4⟩ := b2 g
      obtain ⟨g, g3⟩ := b2 g
      obtain ⟨g1, g2⟩ := b2 g
      have g1 := dt g1
      have g2 := dt g2
      subst g1 g2
      obtain ⟨w1, w2⟩ := k.ck.own g4
      obtain ⟨a, b⟩ := k.ck.glo g7
      have M := lams_ok h3 fun ob hb => hm ob (s2 _ (s3 _ hb))
      have hfn : ∀ y, X.fn y = true := by
        cases M with
        | nil => cases g12
        | cons m _ => exact m.fn
      have SE1 := (ckE_ok e _ o5 k.ck h5 fun t ob hb => hm ob (s2 _ (s4 _ (s5 _ hb)))).se
      have SE2 := (ckE_ok r _ o6 k.ck h6 fun t ob hb => hm ob (s2 _ (s4 _ (s6 _ hb)))).se
      exact ss_forlam k.pass k.ck.calm k.ck.nd (k.ck.nm g3) w1 w2 (k.ck.vis g5) (okN_1 g6) (okN_2 g6) hfn M (dt g11) (k.ck.fnT f _ (dt g9)) k.ck.gd k.ck.room a (k.ck.fns _ f (dt g8)) (okN_1 b) SE1 SE2 (star_cons g10) (by rfl)
    · cases h
theorem ckSs_ok : ∀ (irs : List S) {X : Cx} {G : Gm} {C : KC} (sts : List Stmt) (o : List LamOb), CSok X G C D n → ckSs C sts irs = some o → (∀ ob ∈ o, MkOb X G ob) → SSs X G sts (denSs D irs)
  | [], X, G, C, sts, o, k, h, hm => by
    have := okR_some (show okR sts.isEmpty = some o from h)
    cases sts with
    | nil => exact sss_nil
    | cons _ _ => cases this
  | i :: is, X, G, C, sts, o, k, h, hm => by
    cases sts with
    | nil => exact nomatch (show (none : R) = some o from h)
    | cons e r =>
      obtain ⟨o1, o2, h1, h2, s1, s2⟩ := andR_some (show andR (ckS C e i) (ckSs C r is) = some o from h)
      exact sss_cons (ckS_ok i e o1 k h1 fun ob hb => hm ob (s1 _ hb)) (ckSs_ok is r o2 k h2 fun ob hb => hm ob (s2 _ hb))
end
end
end Mi

set_option Elab.async false
set_option linter.all false
set_option maxRecDepth 100000
set_option maxHeartbeats 2000000
namespace Mi
open PySem PySem.Spec PyProof.Rows L2 LamX NdefX
/-- what all contexts of a run share -/
structure Wd (P : Program) (w : World) (K : PySem.W.Frag) (mg : Str → Option Value) (G : Gm) (ci : CI) (ar : Nat → Option Nat) (C : KC) : Prop where
  hK : K = G.c.K
  dar : ar = C.ar
  ok : CIok G ci
  fns : ∀ x f, C.fns.lookup x = some f → mg x = some (.ref (G.c.fa f))
  cls : ∀ x c, C.cls.lookup x = some c → mg x = some (.ref (G.c.ca c))
  gis : ∀ x i, C.gis.lookup x = some i → ∃ t, mg x = some (.int i t)
  free : ∀ x, C.free.contains x = true → mg x = none
section
variable {P : Program} {w : World} {K : PySem.W.Frag} {mg : Str → Option Value} {base : Heap} {G : Gm} {C : KC}
theorem ciok_at {I : CI} (h : CIok G I) {o : List Env} {b : Heap} {H : Hp} : CIok (G.at o b H) I := by
  cases h
  constructor <;> assumption
theorem ck_dcx {D : DG} (W : Wd P w K mg G D.ci D.ar C) {N : List Str} {qual : Str} {scope : Scope} {f : Addr} {cd : Value} {A : Around} {outer : List Env} {s : Shared} {H : Hp} {E : XK} {n : Nat} {ps : List Str}
    (S : FnScope N ps scope) (hN : N = C.N) (hsc : C.sc = scope.names) (hg : A.guards = some []) (hr : Room (n + 1) (A.deeper (envOfC qual scope s.heap.objs.size f cd)))
    (fnT : ∀ f' m, C.ar f' = some m → FnT (dcx P w K mg base N qual scope f cd A outer s H E) (G.at outer s.heap H) D.call (n + 1) f' m)
    (fnK : ∀ f' j ks ord, C.kb.contains (f', j, ks, ord) = true → FnK (dcx P w K mg base N qual scope f cd A outer s H E) (G.at outer s.heap H) D.call (n + 1) f' j ks ord)
    (lam : ∀ k ws Q E h, D.call k (vals ws) Q E h → ws.length = (G.lam k).fr.length → LamOk P w K mg base (G.at outer s.heap H) D.call n k) :
    CKok (dcx P w K mg base N qual scope f cd A outer s H E) (G.at outer s.heap H) C D n where
  hK := W.hK
  nd := S.nd
  hN := hN
  kind := S.kind
  sc := fun x k h => .inl (by rw [hsc] at h; exact h)
  fn := fun x h => rfl
  fns := W.fns
  cls := W.cls
  gis := W.gis
  free := W.free
  calm := rfl
  un := by have := hr.un; show (A.deeper (envOfC qual scope s.heap.objs.size f cd)).units + 128 < cLine; omega
  gd := deeper_guards hg
  room := hr
  ok := ciok_at W.ok
  dar := W.dar
  fnT := fnT
  fnK := fnK
  gx := fun _ => ⟨⟨rfl, rfl, rfl⟩, rfl⟩
  lam := fun _ k ws Q E h hc hl => lam k ws Q E h hc hl
theorem lookup_mem {l : List (Str × NameKind)} {x : Str} {k : NameKind} (h : l.lookup x = some k) : (x, k) ∈ l := PySem.mem_of_lookup h
theorem ck_ncx {D : DG} (W : Wd P w K mg G D.ci D.ar C) {N fr : List Str} {F : NF} {f : Addr} {A : Around} {outer : List Env} {s : Shared} {H : Hp} {E : XK} {n : Nat}
    (S : NScope N [] fr F.scope) (hN : N = C.N) (hsc : C.sc = F.scope.names) (ht : C.top = false) (hg : A.guards = some []) (hr : Room (n + 1) (A.deeper (envF F f s.heap.objs.size)))
    (fnT : ∀ f' m, C.ar f' = some m → FnT (ncx (L2.CX P w) P w K mg base N F f A outer s H E) (G.at outer s.heap H) D.call (n + 1) f' m)
    (fnK : ∀ f' j ks ord, C.kb.contains (f', j, ks, ord) = true → FnK (ncx (L2.CX P w) P w K mg base N F f A outer s H E) (G.at outer s.heap H) D.call (n + 1) f' j ks ord) :
    CKok (ncx (L2.CX P w) P w K mg base N F f A outer s H E) (G.at outer s.heap H) C D n where
  hK := W.hK
  nd := S.nd
  hN := hN
  kind := S.kind
  sc := fun x k h => .inl (by rw [hsc] at h; exact h)
  fn := fun x h => by
    rw [hsc] at h
    exact absurd rfl (S.nocell _ (lookup_mem h))
  fns := W.fns
  cls := W.cls
  gis := W.gis
  free := W.free
  calm := rfl
  un := by have := hr.un; show (A.deeper (envF F f s.heap.objs.size)).units + 128 < cLine; omega
  gd := deeper_guards hg
  room := hr
  ok := ciok_at W.ok
  dar := W.dar
  fnT := fnT
  fnK := fnK
  gx := fun h => by rw [ht] at h; cases h
  lam := fun h => by rw [ht] at h; cases h
end
end Mi

set_option Elab.async false
set_option linter.all false
set_option maxRecDepth 100000
set_option maxHeartbeats 2000000
namespace Mi
open PySem PySem.Spec PyProof.Rows L2 LamX NdefX
/-- the check's knowledge, at a def -/
def KC.at (C : KC) (N : List Str) (sc : List (Str × NameKind)) (top : Bool) : KC := { C with N := N, sc := sc, top := top }
/-- a def of the table, from its text -/
structure CodeOk (P : Program) (w : World) (K : PySem.W.Frag) (mg : Str → Option Value) (base : Heap) (G : Gm) (C : KC) (fd : FuncData) (ps : List Str) (f : Nat) (g : Fun) : Prop where
  ex : ∃ (name qual : Str) (params : Arguments) (body : List Stmt) (scope : Scope) (dvs : List V) (kws : List (Str × V)) (N : List Str) (o : List LamOb),
    FunD K name qual params body scope dvs kws (G.c.fa f) fd ∧ FnScope N ps scope ∧ g.ps = ps.length ∧ g.n = N.length ∧ ckSs (C.at N scope.names true) body g.body = some o ∧
    ∀ (cdv : Value) (A : Around) (outer : List Env) (s : Shared) (H : Hp) (E : XK), fd.code = cdv → ∀ ob ∈ o, MkOb (dcx P w K mg base N qual scope (G.c.fa f) cdv A outer s H E) (G.at outer s.heap H) ob
/-- .. a lambda -/
structure LamEnt (G : Gm) (C : KC) (k : Nat) (g : Fun) : Prop where
  T : LamT G k
  ps : g.ps = (G.lam k).fr.length
  n : g.n = (G.lam k).fr.length
  dr : g.drop = false
  ex : ∃ e, g.body = [.ret e] ∧ ∃ o, ckE (C.at (G.lam k).fr (G.lam k).scope.names false) (G.lam k).body e = some o
/-- the whole table -/
structure TabOk (P : Program) (w : World) (K : PySem.W.Frag) (mg : Str → Option Value) (base : Heap) (G : Gm) (T : Tab) (C : KC) (fdx : Nat → FuncData) (psx : Nat → List Str) (c : Nat) : Prop where
  wd : Wd P w K mg G T.ci T.ar C
  exc : ∀ x c, C.excs.lookup x = some c → mg x = some (.ref (G.c.ca c)) ∧ PySem.W.excIn K (G.c.ca c) [.type "ValueError", .type "Exception", .type "BaseException", .type "object"] "ValueError.__new__" = true ∧ PySem.W.keepIn K (.ref (G.c.ca c)) = true ∧ PySem.W.subIn K (.ref (G.c.ca c)) (.type "BaseException") = some true ∧ PySem.W.typeIn K (.ref (G.c.ca c)) = some (.type "type")
  ent : ∀ f g, T.fs[f]? = some (.code g) → CodeOk P w K mg base G C (fdx f) (psx f) f g ∨ LamEnt G C f g
  prim : ∀ f m, T.fs[f]? = some (.prim m) → FG P w K mg base (c + 1) (G.c.fa f) (fdx f) (psx f) (spD G (psx f).length m)
  ar : ∀ f m, C.ar f = some m → (psx f).length = m ∧ Binds K (fdx f) (psx f) [] ∧ PySem.W.keepIn K (.ref (G.c.fa f)) = true ∧ ∀ g, T.fs[f]? = some (.code g) → ¬ LamEnt G C f g
  kb : ∀ f j ks ord, C.kb.contains (f, j, ks, ord) = true → (psx f).length = ord.length ∧ PySem.W.keepIn K (.ref (G.c.fa f)) = true ∧ (∀ i ∈ ord, i < j + ks.length) ∧ (∀ g, T.fs[f]? = some (.code g) → ¬ LamEnt G C f g) ∧
    ∀ (s : Shared) (us ws : List Value), K.In s.heap → us.length = j → ws.length = ks.length → BindsTo s (fdx f) ⟨us, ks.zip ws⟩ ((psx f).zip (pickL ord (us ++ ws)))
  nolam : ∀ k g, T.fs[k]? = some (.code g) → LamEnt G C k g ∨ (G.lam k).fr.length ≠ g.ps
  noprim : ∀ k m, T.fs[k]? = some (.prim m) → ∀ ws Q E h, m (vals ws) Q E h → ws.length ≠ (G.lam k).fr.length
section
variable {P : Program} {w : World} {K : PySem.W.Frag} {mg : Str → Option Value} {base : Heap} {G : Gm} {T : Tab} {C : KC} {fdx : Nat → FuncData} {psx : Nat → List Str} {c : Nat}
/-- what the induction tells of one depth -/
def Fgs (P : Program) (w : World) (K : PySem.W.Frag) (mg : Str → Option Value) (base : Heap) (G : Gm) (T : Tab) (C : KC) (fdx : Nat → FuncData) (psx : Nat → List Str) (c d : Nat) : Prop :=
  ∀ f, (∀ g, T.fs[f]? = some (.code g) → ¬ LamEnt G C f g) → FG P w K mg base (c + 1 + d) (G.c.fa f) (fdx f) (psx f) (spD G (psx f).length (run T d f))
theorem fgs_zero : Fgs P w K mg base G T C fdx psx c 0 := fun f _ =>
  ⟨fun o h vs H Q E q => q.1, fun A outer s H args us vs Q E hg hr he hb hv ⟨_, _, _, _, _, _, _, _, w, _⟩ => w.elim⟩
theorem fnT_of {X : Cx} {d : Nat} {o : List Env} {b : Heap} {H : Hp} (B : TabOk P w K mg base G T C fdx psx c) (h1 : X.prog = P) (h2 : X.w = w) (h3 : X.K = K) (h4 : X.mg = mg) (h5 : X.base = base) (F : Fgs P w K mg base G T C fdx psx c d) {f m : Nat} (h : C.ar f = some m) : FnT X (G.at o b H) (run T d) (c + 1 + d) f m := by
  subst h1 h2 h3 h4 h5
  obtain ⟨a, bd, kp, nl⟩ := B.ar f m h
  have := F f nl
  rw [a] at this
  exact ⟨⟨_, _, this, bd, a⟩, kp⟩
theorem fnK_of {X : Cx} {d : Nat} {o : List Env} {b : Heap} {H : Hp} (B : TabOk P w K mg base G T C fdx psx c) (h1 : X.prog = P) (h2 : X.w = w) (h3 : X.K = K) (h4 : X.mg = mg) (h5 : X.base = base) (F : Fgs P w K mg base G T C fdx psx c d) {f j : Nat} {ks : List Str} {ord : List Nat} (h : C.kb.contains (f, j, ks, ord) = true) : FnK X (G.at o b H) (run T d) (c + 1 + d) f j ks ord := by
  subst h1 h2 h3 h4 h5
  obtain ⟨a, kp, ho, nl, bd⟩ := B.kb f j ks ord h
  have := F f nl
  rw [a] at this
  exact ⟨⟨_, _, this, a, bd⟩, kp, ho⟩
theorem ret_only {D : DG} {e : E} {ρ : Mi.Loc} {Q : Val → CH → Prop} {E : Nat → CH → Prop} {h : CH} (w : dropM false (bnd (denSs D [.ret e] ρ) fun o => match o with
      | .nx _ => ret .non
      | .rt v => ret v
      | .ct _ => stuck) Q E h) : denE D e ρ Q E h := w
theorem lamOk_of {d k : Nat} {g : Fun} {o : List Env} {b : Heap} {H : Hp} (B : TabOk P w K mg base G T C fdx psx c) (F : Fgs P w K mg base G T C fdx psx c d) (hg : T.fs[k]? = some (.code g)) (L : LamEnt G C k g) : LamOk P w K mg base (G.at o b H) (run T (d + 1)) (c + 1 + d) k := by
  obtain ⟨e, eb, o2, hc⟩ := L.ex
  refine ⟨⟨L.T.S, L.T.bind, L.T.dfl⟩, denE (T.dg (run T d)) e, fun Fn f A outer s H' E hs hq hgd hr => ?_, fun ws Q E h hl w => ?_⟩
  · have S : NScope (G.lam k).fr [] (G.lam k).fr Fn.scope := by rw [hs]; exact L.T.S
    have W2 : Wd P w K mg G T.ci T.ar (C.at (G.lam k).fr (G.lam k).scope.names false) := ⟨B.wd.hK, B.wd.dar, B.wd.ok, B.wd.fns, B.wd.cls, B.wd.gis, B.wd.free⟩
    have ck := ck_ncx (D := T.dg (run T d)) (base := base) (f := f) (A := A) (outer := outer) (s := s) (H := H') (E := E) (n := c + d) W2 S rfl (by rw [hs]; rfl) rfl hgd (by rw [show c + d + 1 = c + 1 + d by omega]; exact hr)
      (fun f' m hm => by rw [show c + d + 1 = c + 1 + d by omega]; exact fnT_of B rfl rfl rfl rfl rfl F hm)
      (fun f' j ks ord hm => by rw [show c + d + 1 = c + 1 + d by omega]; exact fnK_of B rfl rfl rfl rfl rfl F hm)
    exact (ckE_ok e _ o2 ck hc (fun z => nomatch (show false = true from z))).se
  · have w : (match T.fs[k]? with
      | some (.code g) => runFun (T.dg (run T d)) g (vals ws)
      | some (.prim m) => m (vals ws)
      | none => stuck) Q E h := w
    rw [hg] at w
    have w : runFun (T.dg (run T d)) g (vals ws) Q E h := w
    unfold runFun at w
    have hl : ws.length = (G.lam k).fr.length := hl
    rw [if_pos (by rw [L.ps, ← hl]; simp [vals]), L.dr, eb, L.n] at w
    exact ret_only w
theorem run_succ {d k : Nat} : run T (d + 1) k = fun args => match T.fs[k]? with
      | some (.code g) => runFun (T.dg (run T d)) g args
      | some (.prim m) => m args
      | none => stuck := rfl
theorem lam_all {d : Nat} {o : List Env} {b : Heap} {H : Hp} (B : TabOk P w K mg base G T C fdx psx c) (F : ∀ d', d' < d → Fgs P w K mg base G T C fdx psx c d') : ∀ k ws Q E h, run T d k (vals ws) Q E h → ws.length = (G.lam k).fr.length → LamOk P w K mg base (G.at o b H) (run T d) (c + d) k := by
  intro k ws Q E h w hl
  cases d with
  | zero => exact w.elim
  | succ d =>
    rw [run_succ] at w
    cases e : T.fs[k]? with
    | none => rw [e] at w; exact w.elim
    | some en =>
      rw [e] at w
      cases en with
      | prim m => exact absurd hl (B.noprim k m e ws Q E h w)
      | code g =>
        rcases B.nolam k g e with L | nl
        · rw [show c + (d + 1) = c + 1 + d by omega]
          exact lamOk_of B (F d (Nat.lt_succ_self d)) e L
        · have w : runFun (T.dg (run T d)) g (vals ws) Q E h := w
          unfold runFun at w
          rw [if_neg (by rw [show (vals ws).length = ws.length by simp [vals], hl]; exact nl)] at w
          exact w.elim
theorem fgs_succ {d : Nat} (B : TabOk P w K mg base G T C fdx psx c) (F : ∀ d', d' < d + 1 → Fgs P w K mg base G T C fdx psx c d') : Fgs P w K mg base G T C fdx psx c (d + 1) := by
  intro f nl
  rw [run_succ]
  cases e : T.fs[f]? with
  | none => exact ⟨fun o h vs H Q E q => q.1, fun A outer s H args us vs Q E hg hr he hb hv ⟨_, _, _, _, _, _, _, _, w, _⟩ => w.elim⟩
  | some en =>
    cases en with
    | prim m => exact (B.prim f m e).mono (by omega)
    | code g =>
      rcases B.ent f g e with ⟨name, qual, params, body, scope, dvs, kws, N, o, FD, S, hp, hn, hc, hm⟩ | L
      · refine fg_code (D := T.dg (run T d)) FD S hp hn fun cdv A outer s H E hcd hg hr => ?_
        have W2 : Wd P w K mg G T.ci T.ar (C.at N scope.names true) := ⟨B.wd.hK, B.wd.dar, B.wd.ok, B.wd.fns, B.wd.cls, B.wd.gis, B.wd.free⟩
        have hF := F d (Nat.lt_succ_self d)
        have ck := ck_dcx (D := T.dg (run T d)) (base := base) (f := G.c.fa f) (cd := cdv) (A := A) (outer := outer) (s := s) (H := H) (E := E) (n := c + d) (qual := qual) W2 S rfl rfl hg (by rw [show c + d + 1 = c + 1 + d by omega]; exact hr)
          (fun f' m hm => by rw [show c + d + 1 = c + 1 + d by omega]; exact fnT_of B rfl rfl rfl rfl rfl hF hm)
          (fun f' j ks ord hm => by rw [show c + d + 1 = c + 1 + d by omega]; exact fnK_of B rfl rfl rfl rfl rfl hF hm)
          (lam_all B fun d' h' => F d' (by omega))
        exact ckSs_ok g.body body o ⟨ck, passes_of rfl, rfl, rfl, rfl, fun x cc hx gl hd => by
          obtain ⟨a1, a2, a3, a4, a5⟩ := B.exc x cc hx
          exact ⟨gl, hd, a1, a2, a3, a4, a5⟩⟩ hc (hm cdv A outer s H E hcd)
      · exact absurd L (nl g e)
theorem fgs_all (B : TabOk P w K mg base G T C fdx psx c) (d : Nat) : Fgs P w K mg base G T C fdx psx c d := by
  induction d using Nat.strongRecOn with
  | ind d ih =>
    cases d with
    | zero => exact fgs_zero
    | succ d => exact fgs_succ B fun d' h => ih d' h
end
end Mi

set_option Elab.async false
set_option linter.all false
set_option maxRecDepth 100000
set_option maxHeartbeats 2000000
namespace Mi
open PySem PySem.Spec PyProof.Rows L2 LamX NdefX
/-- the heap's reading at the top: tables, the script -/
structure TopH (P : Program) (w : World) (K : PySem.W.Frag) (cs : List (Addr × Addr)) (h : Heap) (a : Addr) (xs : List V) (H : Hp) : Prop where
  tb : ∀ p ∈ cs, H p.2 = some (.tbl #[])
  sq : SqL K H a xs
  ok : HOk P w H h
  only : ∀ b u, H b = some u → ((∃ p ∈ cs, p.2 = b) ∧ u = .tbl #[]) ∨ (b = a ∧ K.lookup a = none ∧ ∃ o ys, u = .frz o (.lst ys))
section
variable {P : Program} {w : World} {K : PySem.W.Frag} {mg mb : Str → Option Value} {cs : List (Addr × Addr)} {a : Addr} {s₁ : Shared} {vs : List Value} {ns : List Int}
open Classical in
/-- there is such a reading -/
theorem top_H (KX : K.In s₁.heap) (hT : ∀ p ∈ cs, s₁.heap.get? p.2 = some { cls := .none, data := .fields #[] }) (ha : s₁.heap.get? a = some { cls := .type "list", data := .seq vs.toArray }) (hi : IntsAre vs ns) (hl : ns.length ≤ sizeLine) :
    ∃ H, TopH P w K cs s₁.heap a (ns.map V.int) H := by
  have rv := vals_ints hi
  have lenV := hi.length
  have aT : ∀ p ∈ cs, p.2 ≠ a := fun p hp z => by
    have q := hT p hp
    rw [z, ha] at q
    have z' : Data.seq vs.toArray _ = Data.fields #[] := congrArg Obj.data (Option.some.inj q)
    cases z'
  let T : Hp := fun b => if ∃ p ∈ cs, p.2 = b then some (.tbl #[]) else none
  have t1 : ∀ p ∈ cs, T p.2 = some (.tbl #[]) := fun p hp => if_pos ⟨p, hp, rfl⟩
  have t2 : ∀ b u, T b = some u → (∃ p ∈ cs, p.2 = b) ∧ u = .tbl #[] := fun b u z => by
    by_cases q : ∃ p ∈ cs, p.2 = b
    · exact ⟨q, (Option.some.inj ((if_pos q).symm.trans z)).symm⟩
    · exact nomatch (if_neg q).symm.trans z
  have tok : ∀ b u, T b = some u → s₁.heap.get? b = some { cls := .none, data := .fields #[] } ∧ u = .tbl #[] := fun b u z => by
    obtain ⟨⟨p, hp, e⟩, e2⟩ := t2 b u z
    rw [← e]
    exact ⟨hT p hp, e2⟩
  cases hk : K.lookup a with
  | some o =>
    have e := KX a o hk
    rw [ha] at e
    cases e
    refine ⟨T, t1, .inr ⟨_, vs.toArray, _, hk, rfl, rfl, rfl, by rw [List.size_toArray, lenV]; exact hl, by simpa using rv⟩, fun b u z => ?_, fun b u z => .inl (t2 b u z)⟩
    obtain ⟨e1, e2⟩ := tok b u z
    subst e2
    exact e1
  | none =>
    refine ⟨upd T a (.frz { cls := .type "list", data := .seq vs.toArray } (.lst (ns.map V.int))), fun p hp => ?_, .inl (.inr ⟨_, upd_same⟩), fun b u z => ?_, fun b u z => ?_⟩
    · rw [upd_ne (aT p hp)]
      exact t1 p hp
    · by_cases hb : b = a
      · subst hb
        rw [upd_same] at z
        cases z
        exact ⟨ha, by rw [List.length_map]; exact hl, vs, _, rv, ha⟩
      · rw [upd_ne hb] at z
        obtain ⟨e1, e2⟩ := tok b u z
        subst e2
        exact e1
    · by_cases hb : b = a
      · subst hb
        rw [upd_same] at z
        cases z
        exact .inr ⟨rfl, hk, _, _, rfl⟩
      · rw [upd_ne hb] at z
        exact .inl (t2 b u z)
/-- what is not of the reading stays in the ground -/
theorem top_out {H : Hp} (R : TopH P w K cs s₁.heap a (ns.map V.int) H) (hT : ∀ p ∈ cs, s₁.heap.get? p.2 = some { cls := .none, data := .fields #[] }) (ha : s₁.heap.get? a = some { cls := .type "list", data := .seq vs.toArray }) {b : Addr} {o : Obj} (e : s₁.heap.get? b = some o) (h1 : ∀ vs n, o.data ≠ .seq vs n) (h2 : o.data ≠ .fields #[]) : H b = none := by
  cases q : H b with
  | none => rfl
  | some u =>
    rcases R.only b u q with ⟨⟨p, hp, e'⟩, _⟩ | ⟨e', _⟩
    · rw [← e', hT p hp] at e
      cases e
      exact (h2 rfl).elim
    · rw [e', ha] at e
      cases e
      exact (h1 _ _ rfl).elim
theorem top_old {H H' : Hp} {s' : Shared} (R : TopH P w K cs s₁.heap a (ns.map V.int) H) (hT : ∀ p ∈ cs, s₁.heap.get? p.2 = some { cls := .none, data := .fields #[] }) (C : ∀ p ∈ cs, PySem.W.CodeHd s₁.heap p.1 p.2) (un : Un [] [] H H' s₁.heap s'.heap) (hok' : HOk P w H' s'.heap) : OldK s₁.heap s'.heap := by
  have key : ∀ b o, (¬ ∃ p ∈ cs, p.2 = b) → s₁.heap.get? b = some o → s'.heap.get? b = some o := fun b o nb e => by
    cases q : H b with
    | none => exact un.keep b o e q (by simp) (by simp)
    | some u =>
      rcases R.only b u q with ⟨z, _⟩ | ⟨_, _, ob, xs, z⟩
      · exact absurd z nb
      · subst z
        have z2 := un.frzs b ob _ q
        obtain ⟨e1, _⟩ := R.ok b _ q
        obtain ⟨e2, _⟩ := hok' b _ z2
        rw [e] at e1
        cases e1
        exact e2
  have grown : ∀ p ∈ cs, ∃ more : Array Value, s'.heap.get? p.2 = some { cls := .none, data := .fields more } := fun p hp => by
    obtain ⟨more, z⟩ := un.tbls p.2 #[] (R.tb p hp)
    exact ⟨_, hok' p.2 _ z⟩
  refine ⟨fun b o e => ?_, fun b o e => ?_⟩
  · by_cases hb : ∃ p ∈ cs, p.2 = b
    · obtain ⟨p, hp, ep⟩ := hb
      obtain ⟨more, hm⟩ := grown p hp
      rw [← ep] at e ⊢
      rw [hT p hp] at e
      cases e
      exact .inr (.inl ⟨((C p hp).tab (hT p hp)).isCodeTable, rfl, #[], more, rfl, by rw [Array.empty_append]; exact hm⟩)
    · exact .inl (key b o hb e)
  · by_cases hb : ∃ p ∈ cs, p.2 = b
    · obtain ⟨p, hp, ep⟩ := hb
      obtain ⟨more, hm⟩ := grown p hp
      rw [← ep]
      exact ⟨_, hm⟩
    · exact ⟨o, key b o hb e⟩
/-- a def at the top -/
theorem top_call {k : Nat} {fa : Addr} {fd : FuncData} {x : Str} {sp : SpG} (KX : K.In s₁.heap) (hns : s₁.heap.Ns mainGlobals mg) (hb : s₁.heap.Ns builtinsNs mb) (hbb : ∀ x : Str, x ≠ "__name__" → mb x = bootBuiltins x) (hlim : s₁.heap.NoLimit) (hg : s₁.gens = #[])
    (hT : ∀ p ∈ cs, s₁.heap.get? p.2 = some { cls := .none, data := .fields #[] }) (nT : ∀ p ∈ cs, K.lookup p.2 = none) (C : ∀ p ∈ cs, PySem.W.CodeHd s₁.heap p.1 p.2)
    (hbm : ∃ (bm : Addr) (ob : Obj), mg "__builtins__" = some (.ref bm) ∧ bm ≠ builtinsNs ∧ s₁.heap.get? bm = some ob ∧ ob.cls = .type "module" ∧ ob.dict = some builtinsNs ∧ ob.data = .plain)
    (ha : s₁.heap.get? a = some { cls := .type "list", data := .seq vs.toArray }) (hi : IntsAre vs ns) (hl : ns.length ≤ sizeLine) (hr : Room k callerA)
    (F : ∀ base : Heap, K.In base → base.Ns mainGlobals mg → (∀ p ∈ cs, TabB base mg p.1 p.2) → FG P w K mg base k fa fd [x] sp) (hbind : ∀ (s : Shared) (u : Value), BindsTo s fd ⟨[u], []⟩ [(x, u)])
    (hsp : ∀ H : Hp, TopH P w K cs s₁.heap a (ns.map V.int) H → sp [] s₁.heap [.ref a] H (fun v _ => v = .bl true) fun _ _ _ => False) :
    codeAny (model P w) callerA (.call (.ref fa) ⟨[.ref a], []⟩) (fun r s' => r = .ok (.ret (.bool true)) ∧ OldK s₁.heap s'.heap ∧ s'.os = s₁.os ∧ AllBare s'.gens) s₁ := by
  obtain ⟨H, R⟩ := top_H (P := P) (w := w) KX hT ha hi hl
  have inB : ∀ {b : Addr} {o : Obj}, s₁.heap.get? b = some o → (∀ vs n, o.data ≠ .seq vs n) → o.data ≠ .fields #[] → (hidT s₁.heap H).get? b = some o := fun e h1 h2 => hidT_get e (top_out R hT ha e h1 h2)
  have nsK : ∀ {b : Addr} {m : Str → Option Value}, s₁.heap.Ns b m → (hidT s₁.heap H).Ns b m := fun {b m} ⟨o, es, ep, e, d, r⟩ =>
    ⟨o, es, ep, inB e (fun _ _ z => by rw [d] at z; cases z) (fun z => by rw [d] at z; cases z), d, r⟩
  have hKb : K.In (hidT s₁.heap H) := fun b o e => hidT_get (KX b o e) (by
    cases q : H b with
    | none => rfl
    | some u =>
      rcases R.only b u q with ⟨⟨p, hp, ep⟩, _⟩ | ⟨e', e2, _⟩
      · rw [← ep, nT p hp] at e
        cases e
      · rw [e', e2] at e
        cases e)
  have hM : L2.Mod K mg (hidT s₁.heap H) := ⟨hKb, nsK hns, ⟨mb, nsK hb, hbb⟩, let ⟨mc, h1, h2⟩ := hlim; ⟨mc, nsK h1, h2⟩⟩
  have TB : ∀ p ∈ cs, TabB (hidT s₁.heap H) mg p.1 p.2 := fun p hp => by
    have hTp := hT p hp
    obtain ⟨g, es, ep, eg, hdg, _⟩ := hns
    obtain ⟨bm, ob, b1, b2, b3, b4, b5, b6⟩ := hbm
    refine ⟨?_, ⟨bm, ob, b1, b2, fun q => ?_, fun q => ?_, inB b3 (fun _ _ z => by rw [b6] at z; cases z) (fun z => by rw [b6] at z; cases z), b4, b5, b6⟩, fun z => ?_⟩
    · obtain ⟨o, us, file, tf, flags, tg, inF, text, tt, e1, r1, r2, r3, r4, r5, r6, r7, r8, hne⟩ := C p hp
      exact ⟨o, us, file, tf, flags, tg, inF, text, tt, inB e1 (fun _ _ z => by rw [r2] at z; cases z) (fun z => by rw [r2] at z; cases z; simp at r3), r1, r2, r3, r4, r5, r6, r7, r8, hne⟩
    · rw [q, eg] at b3
      cases b3
      rw [hdg] at b6
      cases b6
    · rw [q, hTp] at b3
      cases b3
      cases b6
    · rw [z, hTp] at eg
      cases eg
      cases hdg
  have e0 : Env0 P w K mg (hidT s₁.heap H) callerA [] s₁ H := ⟨rfl, hM, fun b o e => of_hidT e, Nat.le_of_eq (hidT_size _ _), trivial, fun b hb => absurd (show b ∈ ([] : List Addr) from hb) (by simp), R.ok, .of_eq hg⟩
  refine codeAny_mono ((F _ hKb (nsK hns) TB).run callerA [] s₁ H ⟨[.ref a], []⟩ [.ref a] [.ref a] _ _ rfl hr e0 (hbind s₁ (.ref a)) (.cons rfl .nil) (hsp H R)) fun r s' h => ?_
  cases r with
  | error e =>
    obtain ⟨_, _, _, _, _, _, _, _, _, _, _, _, z⟩ := h
    exact z.elim
  | ok fl =>
    cases fl with
    | next => exact False.elim h
    | brk => exact False.elim h
    | cont => exact False.elim h
    | ret u =>
      obtain ⟨v, H', os, bare, un, hok', r', q⟩ := h
      have q' : v = .bl true := q
      subst q'
      obtain rfl : u = Value.bool true := r'
      exact ⟨rfl, top_old R hT C un hok', os, bare⟩
end
end Mi

set_option Elab.async false
set_option linter.all false
set_option maxRecDepth 100000
set_option maxHeartbeats 2000000
namespace Mi
open PySem PySem.Spec PyProof.Rows L2 LamX NdefX
/-! ### the end of a law -/
/-- what the head and the walk must tell -/
def LawG (l : PySem.W.OpenLaw) (w : World) (K : PySem.W.Frag) (k n : Nat) (x : Str) (mg : Str → Option Value) (fa : Addr) (h : Heap) : Prop :=
  ∃ (fd : FuncData) (cs : List (Addr × Addr)) (sp : SpG), (∀ p ∈ cs, h.get? p.2 = some { cls := .none, data := .fields #[] }) ∧ (∀ p ∈ cs, K.lookup p.2 = none) ∧ (∀ p ∈ cs, PySem.W.CodeHd h p.1 p.2) ∧ (∀ (s : Shared) (u : Value), BindsTo s fd ⟨[u], []⟩ [(x, u)]) ∧
    (∀ (H : Hp) (a : Addr) (ob : Obj) (ns : List Int), h.get? a = some ob → ob.cls = .type "list" → ns.length ≤ n → TopH l.prog w K cs h a (ns.map V.int) H → sp [] h [.ref a] H (fun v _ => v = .bl true) fun _ _ _ => False) ∧
    ∀ base : Heap, K.In base → base.Ns mainGlobals mg → (∀ p ∈ cs, TabB base mg p.1 p.2) → FG l.prog w K mg base k fa fd [x] sp
theorem walk_G {l : PySem.W.OpenLaw} {n k : Nat} {q : Program} {loose : List Str} {XP : (Str → Option Value) → Heap → Prop} {YP : World → Heap → Prop} {d : DefRec} {x : Str}
    (hn : l.most = some n) (hn2 : n ≤ sizeLine) (hdf : d.params.defaults = []) (hr : Room k callerA)
    (F : ∀ (w : World) (mg : Str → Option Value) (fa : Addr) (h : Heap), YP w h → h.Ns mainGlobals mg → mg d.name = some (.ref fa) → ∃ K : PySem.W.Frag, K.In h ∧ LawG l w K k n x mg fa h) :
    PySem.W.WalkO q loose XP YP l.row.toRowW d [] (fun f vs => PySem.call f vs) := by
  refine Att.attach_callB hn hdf fun w s₀ s₁ mg mb fa o pm cd doc a vs ns G Y ho hd hcd hmg hobj hints hlen hbits hg => ?_
  obtain ⟨K, KX, fd, cs, sp, hT, nT, C, hb, hsp, hF⟩ := F w mg fa _ Y G.T.g hmg
  exact top_call KX G.T.g G.T.b G.T.builtins G.T.nolimit hg hT nT C G.T.bmain hobj hints (Nat.le_trans hlen hn2) hr hF hb fun H R => hsp H a _ ns hobj rfl hlen R
/-! ### the beginning: nothing but the script -/
def CH.nil : CH := ⟨fun _ => none, 0, fun _ _ => rfl⟩
theorem rel_ints {G : Gc} {H : Hp} : ∀ (ns : List Int), RelDs G H (ns.map Val.int) (ns.map V.int)
  | [] => .nil
  | n :: ns => .cons rfl (rel_ints ns)
/-- no list is of the head's -/
def noLst (K : PySem.W.Frag) : Bool := K.all fun q => match q.2.cls with
  | .type "list" => false
  | _ => true
theorem noLst_ok {K : PySem.W.Frag} (h : noLst K = true) {a : Addr} {o : Obj} (e : K.lookup a = some o) : o.cls ≠ .type "list" := fun z => by
  have := List.all_eq_true.mp h _ (He.lookup_mem e)
  simp only [z] at this
  cases this
theorem sp_begin {P : Program} {w : World} {K : PySem.W.Frag} {cs : List (Addr × Addr)} {h : Heap} {a : Addr} {ob : Obj} {ns : List Int} {H : Hp} {G : Gm} {m : List Sl → M Val} (R : TopH P w K cs h a (ns.map V.int) H) (KX : K.In h) (hl : noLst K = true) (ha : h.get? a = some ob) (hc : ob.cls = .type "list")
    (hT : ∀ p ∈ G.c.T, ∃ q ∈ cs, q.2 = p.1) (hm : m [.v (.lst (ns.map .int))] (fun v _ => v = .bl true) (fun _ _ => False) CH.nil) : spD G 1 m [] h [.ref a] H (fun v _ => v = .bl true) fun _ _ _ => False := by
  have hk : K.lookup a = none := by
    cases e : K.lookup a with
    | none => rfl
    | some o =>
      have := KX a o e
      rw [ha] at this
      cases this
      exact absurd hc (noLst_ok hl e)
  have hf : ∃ o xs, H a = some (.frz o (.lst xs)) ∧ xs = ns.map V.int := by
    rcases R.sq with (e | ⟨o, e⟩) | ⟨o, _, _, e, _⟩
    · rcases R.only a _ e with ⟨_, z⟩ | ⟨_, _, o, ys, z⟩ <;> cases z
    · exact ⟨o, _, e, rfl⟩
    · rw [hk] at e; cases e
  obtain ⟨o, xs, hf, rfl⟩ := hf
  refine ⟨rfl, fun _ => none, CH.nil, [.v (.lst (ns.map .int))], _, _, .cons ⟨a, o, _, rfl, hf, rel_ints ns⟩ .nil, ⟨fun p hp => ?_, fun _ => none, fun b => b, ⟨fun b o e => (nomatch e), fun b o e => (nomatch e), fun b A e => (nomatch e)⟩, fun b u e => (nomatch e)⟩, hm, fun v h' x H' _ rx _ q => ?_, fun _ _ _ _ _ q => q⟩
  · obtain ⟨q, hq, e⟩ := hT p hp
    refine ⟨#[], by rw [← e]; exact R.tb q hq, ?_⟩
    exact ⟨trivial, fun pos cv hc => by cases hc⟩
  · cases q
    exact rx
end Mi

set_option Elab.async false
set_option linter.all false
set_option maxRecDepth 100000
set_option maxHeartbeats 2000000
namespace Mi
open PySem PySem.Spec PyProof.Rows L2 LamX NdefX
/-! ### a law's table as data -/
/-- a def: the head's datum, its parameters, its names, its clean form; or a given meaning -/
structure EntI where
  d : He.DefD
  ps : List Str
  N : List Str
  g : Fun
  pr : Option (List Sl → M Val) := none
structure LayI where
  es : List EntI
  ls : List E
  cn : List Str
  up : List (List Nat)
  rs : List Nat
  gis : List (Str × Int)
  free : List Str
  kb : List (Nat × Nat × List Str × List Nat)
  tb : List Nat
namespace LayI
variable (L : LayI)
def nd : Nat := L.es.length
def anc (c d : Nat) : Bool := (L.up.getD c []).contains d
def sub (c d : Nat) : Option Bool := if (L.rs.contains c && decide (d < L.cn.length)) = true then some (L.anc c d) else none
def ci : CI := ⟨L.sub, L.sub, fun c => decide (c < L.cn.length), fun _ => false, fun c => L.rs.contains c, fun _ => none⟩
def ar (f : Nat) : Option Nat := (L.es[f]?).map (·.ps.length)
def C : KC := ⟨[], [], L.es.zipIdx.filterMap fun p => match p.1.d.at_ with
  | (x, none) => some (x, p.2)
  | _ => none, L.cn.zipIdx, L.rs.filterMap fun c => (L.cn[c]?).map (·, c), L.gis, L.free, L.ar, L.kb, true⟩
def ck (e : EntI) : R := match e.pr with
  | none => ckSs (L.C.at e.N e.d.scope.names true) e.d.body e.g.body
  | some _ => some []
def obsOf (e : EntI) : List LamOb := match L.ck e with
  | some o => o
  | none => []
def obs : List (EntI × LamOb) := L.es.flatMap fun e => (L.obsOf e).map (e, ·)
def emptyA : Arguments := ⟨[], [], none, [], [], none, []⟩
def lamQ (q : Str) : Str := q ++ ".<locals>." ++ "<lambda>"
def lamI (p : EntI × LamOb) : LamI := ⟨p.2.params, p.2.body, p.2.scope, lamQ p.1.d.qual, p.2.caps.filterMap (p.1.N[·]?)⟩
def lam (k : Nat) : LamI := match L.obs.find? (fun p => p.2.k == k) with
  | some p => lamI p
  | none => ⟨emptyA, .Constant .none 0 ⟨0, 0, 0, 0⟩, ⟨.function, [], false, false, []⟩, "", List.replicate 100 ""⟩
def lamG (k : Nat) (e : E) : Fun := ⟨(L.lam k).fr.length, (L.lam k).fr.length, [.ret e], false⟩
def T : Tab := ⟨(L.es.map fun e => match e.pr with
  | some m => Ent.prim m
  | none => Ent.code e.g) ++ L.ls.zipIdx.map fun p => Ent.code (L.lamG (L.nd + p.2) p.1), L.ar, fun _ _ => none, fun _ => none, L.ci⟩
/-! the checks -/
def fscB (N ps : List Str) (sc : Scope) : Bool :=
  decide (sc.kind = .function) && !sc.isCoroutine && !sc.isGenerator && decide N.Nodup && decide (N.take ps.length = ps) && ps.all (fun x => decide (sc.names.lookup x = some .local) || decide (sc.names.lookup x = some .cell)) && sc.names.all (fun y => !decide (y.2 = .free))
def emptyAB : Arguments → Bool
  | ⟨[], [], none, [], [], none, []⟩ => true
  | _ => false
/-- .. or one parameter with a default, an int -/
def oneAB : Arguments → Bool
  | ⟨[], [_], none, [], [], none, [.Constant (.int _) _ _]⟩ => true
  | _ => false
def parB (a : Arguments) (sc : Scope) : Bool := emptyAB a || (oneAB a && (dflOf a).all (fun d => decide (sc.names.lookup d.1 = some .local)))
def obB (e : EntI) (ob : LamOb) : Bool :=
  decide (L.nd ≤ ob.k) && parB ob.params ob.scope && decide (ob.caps.map (fun j => e.N[j]?) = (lamI (e, ob)).fr.map some) && (lamI (e, ob)).fr.all (fun y => ob.scope.names.contains (y, .free)) &&
    ob.scope.names.all (fun y => !decide (y.2 = .free) || (decide (e.d.scope.names.lookup y.1 = some .cell) || decide (e.d.scope.names.lookup y.1 = some .free)))
def entB (f : Nat) (e : EntI) : Bool := fscB e.N e.ps e.d.scope && decide (e.g.ps = e.ps.length) && decide (e.g.n = e.N.length) && decide (e.g.ps < 100) && e.d.dfl.isEmpty && e.d.kwd.isEmpty && (L.ck e).isSome && (L.obsOf e).all (L.obB e) && ((L.obsOf e).isEmpty || L.tb.contains f)
def lamB (k : Nat) (e : E) : Bool := nscB (L.lam k).fr [] (L.lam k).fr (L.lam k).scope && parB (L.lam k).params (L.lam k).scope && (ckE (L.C.at (L.lam k).fr (L.lam k).scope.names false) (L.lam k).body e).isSome
def kbB (b : Nat × Nat × List Str × List Nat) : Bool := match L.es[b.1]? with
  | some e => decide (e.ps.length = b.2.2.2.length) && b.2.2.2.all (fun i => decide (i < b.2.1 + b.2.2.1.length))
  | none => false
def chk : Bool := L.es.zipIdx.all (fun p => L.entB p.2 p.1) && (L.ls.zipIdx.all (fun p => L.lamB (L.nd + p.2) p.1) && (decide (L.obs.map (·.2.k)).Nodup && (L.kb.all L.kbB && decide (L.tb.length ≤ 1))))
/-- what the head must tell -/
def fas : List He.Fa := (L.es.filterMap fun e => match e.d.at_ with
  | (x, none) => some (He.Fa.glo x)
  | _ => none) ++ (L.cn.map He.Fa.glo ++ ((L.rs.filterMap fun c => (L.cn[c]?).map He.Fa.exc) ++ (L.gis.map (fun p => He.Fa.int p.1 p.2) ++ L.free.map He.Fa.free)))
def fn : List He.DefD := L.es.map (·.d)
def ca (K : PySem.W.Frag) (c : Nat) : Addr := He.ga K (L.cn.getD c "")
def ty6 : List String := ["int", "bool", "str", "tuple", "list", "dict"]
def clsB (K : PySem.W.Frag) : Bool :=
  (L.rs.all fun c => (List.range L.cn.length).all fun d => decide (PySem.W.kitOne K (.ref (L.ca K c)) (.ref (L.ca K d)) = some (L.anc c d)) && decide (PySem.W.exmOne K (.ref (L.ca K c)) (.ref (L.ca K d)) = some (L.anc c d))) &&
  ((List.range L.cn.length).all fun c => (ty6.all fun T => decide (PySem.W.kitOne K (.ref (L.ca K c)) (.type T) = some false)) && (("NoneType" :: ty6).all fun T => decide (PySem.W.kitOne K (.type T) (.ref (L.ca K c)) = some false)))
def excB (K : PySem.W.Frag) (D : Addr) : Bool :=
  decide (PySem.W.findIn K (.ref D) "__getattribute__" = some (some (.builtin "BaseException.__getattribute__"))) && decide (PySem.W.findIn K (.ref D) "__getattr__" = some none) && decide (PySem.W.subIn K (.ref D) (.type "BaseException") = some true) &&
  PySem.W.hasDictIn K D && decide (PySem.W.findIn K (.ref D) "__class__" = some (some (.builtin "object.__class__"))) && decide (PySem.W.specialIn K (.builtin "object.__class__") "__get__" = some (some (.builtin "getset_descriptor.__get__"))) &&
  decide (PySem.W.takesIn K (.builtin "object.__class__") = some true) && decide (PySem.W.mroIn K D (.type "object") = some true)
def ex (K : PySem.W.Frag) : Bool := noLst K && (L.clsB K && L.rs.all fun c => excB K (L.ca K c))
def tf : List He.Defn := L.tb.filterMap fun f => (L.es[f]?).map (·.d.at_)
end LayI
end Mi

set_option Elab.async false
set_option linter.all false
set_option maxRecDepth 100000
set_option maxHeartbeats 2000000
namespace Mi
open PySem PySem.Spec PyProof.Rows L2 LamX NdefX
namespace LayI
variable {L : LayI}
def psx (L : LayI) (f : Nat) : List Str := match L.es[f]? with
  | some e => e.ps
  | none => []
def G (L : LayI) (K : PySem.W.Frag) (h : Heap) : Gm := ⟨⟨K, fun f => match L.es[f]? with
  | some e => He.fAd K e.d.at_
  | none => 0, L.ca K, L.tb.filterMap fun f => (L.es[f]?).map fun e => ((He.cT K e.d.at_).2, lamQ e.d.qual)⟩, L.lam, h, fun _ => none, []⟩
theorem zip_all {α : Type} {p : α × Nat → Bool} {l : List α} (h : l.zipIdx.all p = true) {i : Nat} {a : α} (e : l[i]? = some a) : p (a, i) = true := by
  refine List.all_eq_true.mp h (a, i) ?_
  rw [List.mem_zipIdx_iff_getElem?]
  exact e
theorem lookup_mem {β : Type} {x : Str} {b : β} : ∀ {l : List (Str × β)}, l.lookup x = some b → (x, b) ∈ l
  | [], h => by cases h
  | (y, c) :: r, h => by
    rw [List.lookup_cons] at h
    split at h
    · rename_i q
      cases h
      rw [beq_iff_eq.mp q]
      exact List.mem_cons_self
    · exact List.mem_cons_of_mem _ (lookup_mem h)
theorem find_nodup {α : Type} {k : α → Nat} : ∀ {l : List α}, (l.map k).Nodup → ∀ {x : α}, x ∈ l → l.find? (fun p => k p == k x) = some x
  | [], _, _, h => by cases h
  | a :: l, n, x, h => by
    rw [List.find?_cons]
    rw [List.map_cons, List.nodup_cons] at n
    rcases List.mem_cons.mp h with rfl | h
    · simp
    · have : (k a == k x) = false := by
        rw [beq_eq_false_iff_ne]
        intro z
        exact n.1 (z ▸ List.mem_map_of_mem h)
      rw [this]
      exact find_nodup n.2 h
section
variable (hc : L.chk = true)
include hc
theorem c1 {f : Nat} {e : EntI} (h : L.es[f]? = some e) : L.entB f e = true := zip_all (He.ba hc).1 h
theorem c2 {j : Nat} {e : E} (h : L.ls[j]? = some e) : L.lamB (L.nd + j) e = true := zip_all (He.ba (He.ba hc).2).1 h
theorem c3 : (L.obs.map (·.2.k)).Nodup := of_decide_eq_true (He.ba (He.ba (He.ba hc).2).2).1
theorem c4 {b : Nat × Nat × List Str × List Nat} (h : b ∈ L.kb) : L.kbB b = true := List.all_eq_true.mp (He.ba (He.ba (He.ba (He.ba hc).2).2).2).1 b h
theorem c5 : L.tb.length ≤ 1 := of_decide_eq_true (He.ba (He.ba (He.ba (He.ba hc).2).2).2).2
end
structure EntOk (L : LayI) (f : Nat) (e : EntI) : Prop where
  sc : FnScope e.N e.ps e.d.scope
  ps : e.g.ps = e.ps.length
  n : e.g.n = e.N.length
  lt : e.g.ps < 100
  df : e.d.dfl = []
  kw : e.d.kwd = []
  ck : L.ck e = some (L.obsOf e)
  ob : ∀ o ∈ L.obsOf e, L.obB e o = true
  tb : L.obsOf e = [] ∨ f ∈ L.tb
theorem fsc_ok {N ps : List Str} {sc : Scope} (h : fscB N ps sc = true) : FnScope N ps sc := by
  unfold fscB at h
  obtain ⟨h, a7⟩ := He.ba h
  obtain ⟨h, a6⟩ := He.ba h
  obtain ⟨h, a5⟩ := He.ba h
  obtain ⟨h, a4⟩ := He.ba h
  obtain ⟨h, a3⟩ := He.ba h
  obtain ⟨a1, a2⟩ := He.ba h
  refine ⟨of_decide_eq_true a1, by simpa using a2, by simpa using a3, of_decide_eq_true a4, of_decide_eq_true a5, fun x hx => ?_, fun y hy => ?_⟩
  · have := List.all_eq_true.mp a6 x hx
    simpa using this
  · have := List.all_eq_true.mp a7 y hy
    simpa using this
theorem ent_ok (hc : L.chk = true) {f : Nat} {e : EntI} (h : L.es[f]? = some e) : EntOk L f e := by
  have z := c1 hc h
  unfold entB at z
  obtain ⟨z, a9⟩ := He.ba z
  obtain ⟨z, a8⟩ := He.ba z
  obtain ⟨z, a7⟩ := He.ba z
  obtain ⟨z, a6⟩ := He.ba z
  obtain ⟨z, a5⟩ := He.ba z
  obtain ⟨z, a4⟩ := He.ba z
  obtain ⟨z, a3⟩ := He.ba z
  obtain ⟨a1, a2⟩ := He.ba z
  refine ⟨fsc_ok a1, of_decide_eq_true a2, of_decide_eq_true a3, of_decide_eq_true a4, by simpa using a5, by simpa using a6, ?_, fun o ho => List.all_eq_true.mp a8 o ho, by simpa using a9⟩
  unfold obsOf
  cases q : L.ck e with
  | none => rw [q] at a7; cases a7
  | some o => rfl
theorem obs_mem {f : Nat} {e : EntI} (h : L.es[f]? = some e) {o : LamOb} (ho : o ∈ L.obsOf e) : (e, o) ∈ L.obs :=
  List.mem_flatMap.mpr ⟨e, List.mem_of_getElem? h, List.mem_map.mpr ⟨o, ho, rfl⟩⟩
theorem lam_at (hc : L.chk = true) {f : Nat} {e : EntI} (h : L.es[f]? = some e) {o : LamOb} (ho : o ∈ L.obsOf e) : L.lam o.k = lamI (e, o) := by
  unfold lam
  have := find_nodup (k := fun p : EntI × LamOb => p.2.k) (c3 hc) (obs_mem h ho)
  have : L.obs.find? (fun p => p.2.k == o.k) = some (e, o) := this
  rw [this]
theorem lam_lo (hc : L.chk = true) {k : Nat} (h : k < L.nd) : (L.lam k).fr.length = 100 := by
  unfold lam
  cases q : L.obs.find? (fun p => p.2.k == k) with
  | none => rfl
  | some p =>
    obtain ⟨e, o⟩ := p
    have e1 : o.k = k := by simpa using List.find?_some q
    obtain ⟨e', he, hp⟩ := List.mem_flatMap.mp (List.mem_of_find?_eq_some q)
    obtain ⟨o', ho, z⟩ := List.mem_map.mp hp
    cases z
    obtain ⟨f, hf⟩ := List.mem_iff_getElem?.mp he
    have z := (ent_ok hc hf).ob _ ho
    unfold obB at z
    have := (He.ba (He.ba (He.ba (He.ba z).1).1).1).1
    have := of_decide_eq_true this
    omega
theorem fs_cases {f : Nat} {en : Ent} (h : L.T.fs[f]? = some en) : (∃ e, L.es[f]? = some e ∧ en = (match e.pr with
  | some m => Ent.prim m
  | none => Ent.code e.g)) ∨ ∃ j e, f = L.nd + j ∧ L.ls[j]? = some e ∧ en = .code (L.lamG f e) := by
  have h : ((L.es.map fun e => match e.pr with
    | some m => Ent.prim m
    | none => Ent.code e.g) ++ L.ls.zipIdx.map fun p => Ent.code (L.lamG (L.nd + p.2) p.1))[f]? = some en := h
  by_cases q : f < L.es.length
  · rw [List.getElem?_append_left (by simpa using q), List.getElem?_map, List.getElem?_eq_getElem q] at h
    exact .inl ⟨L.es[f], List.getElem?_eq_getElem q, (Option.some.inj h).symm⟩
  · rw [List.getElem?_append_right (by simpa using q), List.getElem?_map, List.getElem?_zipIdx] at h
    simp only [List.length_map] at h
    refine .inr ⟨f - L.es.length, ?_⟩
    cases z : L.ls[f - L.es.length]? with
    | none => rw [z] at h; cases h
    | some e =>
      rw [z] at h
      have e2 : f = L.nd + (f - L.es.length) := by show f = L.es.length + _; omega
      refine ⟨e, e2, rfl, ?_⟩
      have := (Option.some.inj h).symm
      rw [this]
      show Ent.code (L.lamG (L.nd + (0 + (f - L.es.length))) e) = _
      rw [Nat.zero_add, ← e2]
theorem fs_es {f : Nat} {e : EntI} (h : L.es[f]? = some e) : L.T.fs[f]? = some (match e.pr with
  | some m => Ent.prim m
  | none => Ent.code e.g) := by
  show ((L.es.map fun e => match e.pr with
    | some m => Ent.prim m
    | none => Ent.code e.g) ++ L.ls.zipIdx.map fun p => Ent.code (L.lamG (L.nd + p.2) p.1))[f]? = _
  have q : f < L.es.length := (List.getElem?_eq_some_iff.mp h).1
  rw [List.getElem?_append_left (by simpa using q), List.getElem?_map, h] <;> rfl
theorem emptyA_ok {a : Arguments} (h : emptyAB a = true) : a = emptyA := by
  unfold emptyAB at h
  split at h
  · rfl
  · cases h
theorem oneA_ok {a : Arguments} (h : oneAB a = true) : ∃ p i j pp, a = ⟨[], [p], none, [], [], none, [.Constant (.int i) j pp]⟩ := by
  unfold oneAB at h
  split at h
  · exact ⟨_, _, _, _, rfl⟩
  · cases h
theorem par_dfl {a : Arguments} {sc : Scope} {env : Env} (h : parB a sc = true) : DflOk a env := by
  unfold parB at h
  rw [Bool.or_eq_true] at h
  rcases h with h | h
  · rw [emptyA_ok h]
    exact .inl ⟨rfl, rfl⟩
  · rw [Bool.and_eq_true] at h
    obtain ⟨p, i, j, pp, rfl⟩ := oneA_ok h.1
    exact .inr ⟨p.arg, i, j, pp, rfl, rfl⟩
theorem par_none {a : Arguments} {sc : Scope} (h : parB a sc = true) (d : dflOf a = []) : a = emptyA := by
  unfold parB at h
  rw [Bool.or_eq_true] at h
  rcases h with h | h
  · exact emptyA_ok h
  · rw [Bool.and_eq_true] at h
    obtain ⟨p, i, j, pp, rfl⟩ := oneA_ok h.1
    cases d
theorem par_one {a : Arguments} {sc : Scope} {y : Str} {i : Int} (h : parB a sc = true) (d : dflOf a = [(y, i)]) : ∃ p j pp, a = ⟨[], [p], none, [], [], none, [.Constant (.int i) j pp]⟩ ∧ p.arg = y ∧ sc.names.lookup y = some .local := by
  unfold parB at h
  rw [Bool.or_eq_true] at h
  rcases h with h | h
  · rw [emptyA_ok h] at d
    cases d
  · rw [Bool.and_eq_true] at h
    obtain ⟨p, i, j, pp, rfl⟩ := oneA_ok h.1
    cases d
    have := List.all_eq_true.mp h.2 (p.arg, i) (List.mem_singleton.mpr rfl)
    exact ⟨p, j, pp, rfl, rfl, of_decide_eq_true this⟩
theorem par_bind {p : Arg} {i : Int} {j : Nat} {pp : Pos} {bd : Expr} {sc : Scope} {ql : Str} {fr : List Str} {cl : List (Str × Addr)} {pm ctv doc : Value} {cv T : Addr} : ∃ f, bindArgs (lamF ⟨⟨[], [p], none, [], [], none, [.Constant (.int i) j pp]⟩, bd, sc, ql, fr⟩ cl pm cv ctv (.ref T) doc) ⟨[], []⟩ = seqItems? (.ref T) >>= f ∧ ∀ v, f (some #[v]) = pure [(p.arg, v)] := by
  refine ⟨_, rfl, fun v => ?_⟩
  simp
/-! what the head tells -/
structure Hd (L : LayI) (K : PySem.W.Frag) (h : Heap) (mg : Str → Option Value) (fdx : Nat → FuncData) : Prop where
  X : K.In h
  ns : h.Ns mainGlobals mg
  fn : ∀ f e, L.es[f]? = some e → FunD K e.d.name e.d.qual e.d.params e.d.body e.d.scope (e.d.dvs K) (e.d.kws K) (He.fAd K e.d.at_) (fdx f)
  fa : ∀ x ∈ L.fas, x.ok K = true
  ex : L.ex K = true
section
variable {K : PySem.W.Frag} {h : Heap} {mg : Str → Option Value} {fdx : Nat → FuncData} {P : Program} {w : World} {base : Heap}
theorem fas1 {f : Nat} {e : EntI} {x : Str} (h1 : L.es[f]? = some e) (h2 : e.d.at_ = (x, none)) : He.Fa.glo x ∈ L.fas := by
  refine List.mem_append_left _ (List.mem_filterMap.mpr ⟨e, List.mem_of_getElem? h1, ?_⟩)
  rw [h2]
theorem fas2 {x : Str} (h1 : x ∈ L.cn) : He.Fa.glo x ∈ L.fas := List.mem_append_right _ (List.mem_append_left _ (List.mem_map_of_mem h1))
theorem fas3 {x : Str} {c : Nat} (h1 : L.cn[c]? = some x) (h2 : c ∈ L.rs) : He.Fa.exc x ∈ L.fas :=
  List.mem_append_right _ (List.mem_append_right _ (List.mem_append_left _ (List.mem_filterMap.mpr ⟨c, h2, by rw [h1]; rfl⟩)))
theorem fas4 {x : Str} {i : Int} (h1 : (x, i) ∈ L.gis) : He.Fa.int x i ∈ L.fas :=
  List.mem_append_right _ (List.mem_append_right _ (List.mem_append_right _ (List.mem_append_left _ (List.mem_map.mpr ⟨(x, i), h1, rfl⟩))))
theorem fas5 {x : Str} (h1 : x ∈ L.free) : He.Fa.free x ∈ L.fas :=
  List.mem_append_right _ (List.mem_append_right _ (List.mem_append_right _ (List.mem_append_right _ (List.mem_map_of_mem h1))))
theorem cn_ga {c : Nat} {x : Str} (h1 : L.cn[c]? = some x) : L.ca K c = He.ga K x := by
  unfold ca
  rw [List.getD_eq_getElem?_getD, h1] <;> rfl
theorem ciok (D : Hd L K h mg fdx) : CIok (L.G K h) L.ci := by
  obtain ⟨e1, e2⟩ := He.ba D.ex
  obtain ⟨e2, e3⟩ := He.ba e2
  obtain ⟨e4, e5⟩ := He.ba e2
  have r : ∀ {c d : Nat} {b : Bool}, L.sub c d = some b → (c ∈ L.rs ∧ d < L.cn.length) ∧ b = L.anc c d := fun {c d b} z => by
    unfold sub at z
    split at z
    · rename_i q
      obtain ⟨q1, q2⟩ := He.ba q
      cases z
      exact ⟨⟨by simpa using q1, of_decide_eq_true q2⟩, rfl⟩
    · cases z
  have k : ∀ {c d : Nat}, c ∈ L.rs → d < L.cn.length → PySem.W.kitOne K (.ref (L.ca K c)) (.ref (L.ca K d)) = some (L.anc c d) ∧ PySem.W.exmOne K (.ref (L.ca K c)) (.ref (L.ca K d)) = some (L.anc c d) := fun {c d} h1 h2 => by
    have := List.all_eq_true.mp (List.all_eq_true.mp e4 c h1) d (List.mem_range.mpr h2)
    obtain ⟨q1, q2⟩ := He.ba this
    exact ⟨of_decide_eq_true q1, of_decide_eq_true q2⟩
  have o : ∀ {c : Nat}, decide (c < L.cn.length) = true → _ := fun {c} h1 => He.ba (List.all_eq_true.mp e5 c (List.mem_range.mpr (of_decide_eq_true h1)))
  refine ⟨fun c d b z => ?_, fun c d b z => ?_, fun c z T hT => ?_, fun c z T hT => ?_, fun c z => (nomatch z), fun c z => ?_⟩
  · obtain ⟨⟨q1, q2⟩, rfl⟩ := r z
    exact (k q1 q2).1
  · obtain ⟨⟨q1, q2⟩, rfl⟩ := r z
    exact (k q1 q2).2
  · exact of_decide_eq_true (List.all_eq_true.mp (o z).1 T hT)
  · exact of_decide_eq_true (List.all_eq_true.mp (o z).2 T hT)
  · have z : L.rs.contains c = true := z
    have := List.all_eq_true.mp e3 c (by simpa using z)
    unfold excB at this
    obtain ⟨q, a8⟩ := He.ba this
    obtain ⟨q, a7⟩ := He.ba q
    obtain ⟨q, a6⟩ := He.ba q
    obtain ⟨q, a5⟩ := He.ba q
    obtain ⟨q, a4⟩ := He.ba q
    obtain ⟨q, a3⟩ := He.ba q
    obtain ⟨a1, a2⟩ := He.ba q
    exact ⟨of_decide_eq_true a1, of_decide_eq_true a2, of_decide_eq_true a3, a4, of_decide_eq_true a5, of_decide_eq_true a6, of_decide_eq_true a7, of_decide_eq_true a8⟩
theorem wd (D : Hd L K h mg fdx) : Wd P w K mg (L.G K h) L.T.ci L.T.ar L.C where
  hK := rfl
  dar := rfl
  ok := ciok D
  fns := fun x f z => by
    have z := lookup_mem z
    obtain ⟨⟨e, i⟩, he, q⟩ := List.mem_filterMap.mp z
    rw [List.mem_zipIdx_iff_getElem?] at he
    have he : L.es[i]? = some e := he
    cases q2 : e.d.at_ with
    | mk y m =>
      have q : (match e.d.at_ with
        | (x, none) => some (x, i)
        | _ => none) = some (x, f) := q
      rw [q2] at q
      cases m with
      | some m => cases q
      | none =>
        cases q
        have := He.glo_ok D.X D.ns (D.fa _ (fas1 he q2))
        rw [this]
        show _ = some (Value.ref (match L.es[f]? with
          | some e => He.fAd K e.d.at_
          | none => 0))
        rw [he]
        show _ = some (Value.ref (He.fAd K e.d.at_))
        rw [q2] <;> rfl
  cls := fun x c z => by
    have z := lookup_mem z
    have z : (x, c) ∈ L.cn.zipIdx := z
    rw [List.mem_zipIdx_iff_getElem?] at z
    have z : L.cn[c]? = some x := z
    rw [He.glo_ok D.X D.ns (D.fa _ (fas2 (List.mem_of_getElem? z)))]
    show _ = some (Value.ref (L.ca K c))
    rw [cn_ga z]
  gis := fun x i z => He.int_ok D.X D.ns (D.fa _ (fas4 (lookup_mem z)))
  free := fun x z => He.free_ok D.X D.ns (D.fa _ (fas5 (by have z : L.free.contains x = true := z; simpa using z)))
theorem codeOf_fd (D : Hd L K h mg fdx) {f : Nat} {e : EntI} (he : L.es[f]? = some e) : (fdx f).code = .ref (He.cT K e.d.at_).1 := by
  obtain ⟨oc, od, dV, kV, doc, pm, an, cdv, ct, osl, e1, lk, hcd, _, _⟩ := (D.fn f e he).ex
  obtain ⟨c, e2⟩ := He.codeIn_ref hcd
  have e3 : (fdx f).code = .ref c := by rw [e1]; exact e2
  rw [e3]
  exact congrArg Value.ref (He.codeOf_eq lk e3).symm
theorem mk_ok (hc : L.chk = true) (D : Hd L K h mg fdx) (TB : ∀ p ∈ L.tf, TabB base mg (He.cT K p).1 (He.cT K p).2) {f : Nat} {e : EntI} (he : L.es[f]? = some e) {o : LamOb} (ho : o ∈ L.obsOf e) {cdv : Value} {A : Around} {outer : List Env} {s : Shared} {H : Hp} {E : XK} (hcd : (fdx f).code = cdv) :
    MkOb (dcx P w K mg base e.N e.d.qual e.d.scope ((L.G K h).c.fa f) cdv A outer s H E) ((L.G K h).at outer s.heap H) o := by
  have K1 := ent_ok hc he
  have z := K1.ob o ho
  have la := lam_at hc he ho
  unfold obB at z
  obtain ⟨z, a5⟩ := He.ba z
  obtain ⟨z, a4⟩ := He.ba z
  obtain ⟨z, a3⟩ := He.ba z
  obtain ⟨a1, a2⟩ := He.ba z
  have hf : f ∈ L.tb := by
    rcases K1.tb with q | q
    · rw [q] at ho; cases ho
    · exact q
  have htf : e.d.at_ ∈ L.tf := List.mem_filterMap.mpr ⟨f, hf, by rw [he]; rfl⟩
  have hp : ((He.cT K e.d.at_).2, lamQ e.d.qual) ∈ (L.G K h).c.T := List.mem_filterMap.mpr ⟨f, hf, by rw [he]; rfl⟩
  have gl : ((L.G K h).at outer s.heap H).lam o.k = lamI (e, o) := la
  refine ⟨⟨(He.cT K e.d.at_).1, (He.cT K e.d.at_).2, TB _ htf, ?_, hp, fun p hp2 _ => ?_⟩, by rw [gl]; rfl, by rw [gl]; rfl, by rw [gl]; rfl, by rw [gl]; rfl, ?_, fun y hy hfr => ?_, fun y hy => ?_, ?_, fun y => rfl⟩
  · rw [← codeOf_fd D he]
    exact hcd.symm
  · have len : (L.G K h).c.T.length ≤ 1 := Nat.le_trans (List.length_filterMap_le _ _) (c5 hc)
    have one : ∀ {l : List (Addr × Str)} {p q : Addr × Str}, l.length ≤ 1 → p ∈ l → q ∈ l → p = q := fun {l p q} hl hp hq => by
      match l, hl with
      | [], _ => cases hp
      | [a], _ =>
        rw [List.mem_singleton] at hp hq
        rw [hp, hq]
    have := one len hp2 hp
    rw [this] <;> rfl
  · exact par_dfl a2
  · have := List.all_eq_true.mp a5 y hy
    rw [hfr] at this
    have z : e.d.scope.names.lookup y.1 = some .cell ∨ e.d.scope.names.lookup y.1 = some .free := by simpa using this
    exact z
  · rw [gl] at hy
    have := List.all_eq_true.mp a4 y hy
    simpa using this
  · rw [gl]
    exact of_decide_eq_true a3
theorem lamEnt (hc : L.chk = true) {j : Nat} {e : E} (he : L.ls[j]? = some e) : LamEnt (L.G K h) L.C (L.nd + j) (L.lamG (L.nd + j) e) := by
  have z := c2 hc he
  unfold lamB at z
  obtain ⟨z, a3⟩ := He.ba z
  obtain ⟨a1, a2⟩ := He.ba z
  refine ⟨⟨nscope_by a1, fun d0 cl pm ctv doc cv => ?_, fun y i d1 => ?_⟩, rfl, rfl, rfl, e, rfl, ?_⟩
  · show bindArgs (lamF (L.lam (L.nd + j)) cl pm cv ctv .none doc) ⟨[], []⟩ = pure []
    have d0 : dflOf (L.lam (L.nd + j)).params = [] := d0
    generalize L.lam (L.nd + j) = l at a2 d0 ⊢
    obtain ⟨ps, bd, sc, ql, fr⟩ := l
    have a2 : parB ps sc = true := a2
    have d0 : dflOf ps = [] := d0
    rw [par_none a2 d0] <;> rfl
  · show (L.lam (L.nd + j)).scope.names.lookup y = some .local ∧ _
    have d1 : dflOf (L.lam (L.nd + j)).params = [(y, i)] := d1
    show _ ∧ ∀ (cl : List (Str × Addr)) (pm ctv doc : Value) (cv T : Addr), ∃ f, bindArgs (lamF (L.lam (L.nd + j)) cl pm cv ctv (.ref T) doc) ⟨[], []⟩ = seqItems? (.ref T) >>= f ∧ ∀ v, f (some #[v]) = pure [(y, v)]
    generalize L.lam (L.nd + j) = l at a2 d1 ⊢
    obtain ⟨ps, bd, sc, ql, fr⟩ := l
    have a2 : parB ps sc = true := a2
    have d1 : dflOf ps = [(y, i)] := d1
    obtain ⟨p, jj, pp, e1, e2, e3⟩ := par_one a2 d1
    subst e1
    rw [← e2] at e3 ⊢
    exact ⟨e3, fun cl pm ctv doc cv T => par_bind⟩
  · exact Option.isSome_iff_exists.mp a3
theorem tabOk {c : Nat} (hc : L.chk = true) (D : Hd L K h mg fdx) (TB : ∀ p ∈ L.tf, TabB base mg (He.cT K p).1 (He.cT K p).2)
    (bnd : ∀ e ∈ L.es, ∀ (kV doc pm : Value) (an : Option Addr) (cdv ct : Value) (us : List Value), us.length = e.ps.length → bindArgs (PySem.W.fnOf e.d.name e.d.qual e.d.params e.d.body e.d.scope .none kV doc pm an cdv ct) ⟨us, []⟩ = pure (e.ps.zip us))
    (bkw : ∀ b ∈ L.kb, ∀ e, L.es[b.1]? = some e → ∀ (kV doc pm : Value) (an : Option Addr) (cdv ct : Value) (us ws : List Value), us.length = b.2.1 → ws.length = b.2.2.1.length →
      bindArgs (PySem.W.fnOf e.d.name e.d.qual e.d.params e.d.body e.d.scope .none kV doc pm an cdv ct) ⟨us, b.2.2.1.zip ws⟩ = pure (e.ps.zip (pickL b.2.2.2 (us ++ ws))))
    (prim : ∀ f e m, L.es[f]? = some e → e.pr = some m → FG P w K mg base (c + 1) (He.fAd K e.d.at_) (fdx f) e.ps (spD (L.G K h) e.ps.length m))
    (plt : ∀ e ∈ L.es, ∀ m, e.pr = some m → ∀ ss Q E h, m ss Q E h → ss.length < 100) : TabOk P w K mg base (L.G K h) L.T L.C fdx L.psx c := by
  have ps_at : ∀ {f : Nat} {e : EntI}, L.es[f]? = some e → L.psx f = e.ps := fun {f e} he => by unfold psx; rw [he]
  have fa_at : ∀ {f : Nat} {e : EntI}, L.es[f]? = some e → (L.G K h).c.fa f = He.fAd K e.d.at_ := fun {f e} he => by
    show (match L.es[f]? with
      | some e => He.fAd K e.d.at_
      | none => 0) = _
    rw [he]
  have lo : ∀ {f : Nat} {e : EntI}, L.es[f]? = some e → f < L.nd := fun he => (List.getElem?_eq_some_iff.mp he).1
  have nolm : ∀ {f : Nat} {e : EntI}, L.es[f]? = some e → ∀ g, L.T.fs[f]? = some (.code g) → ¬ LamEnt (L.G K h) L.C f g := fun {f e} he g hg z => by
    rcases fs_cases hg with ⟨e', he', q⟩ | ⟨j, e', hj, _, _⟩
    · have hl := (ent_ok hc he').lt
      have h1 := z.ps
      have h2 : (L.lam f).fr.length = 100 := lam_lo hc (lo he)
      have h1 : g.ps = (L.lam f).fr.length := h1
      cases q3 : e'.pr with
      | some m => rw [q3] at q; cases q
      | none =>
        rw [q3] at q
        cases q
        omega
    · have := lo he
      omega
  have fd0 : ∀ {f : Nat} {e : EntI}, L.es[f]? = some e → FunD K e.d.name e.d.qual e.d.params e.d.body e.d.scope [] (e.d.kws K) (He.fAd K e.d.at_) (fdx f) := fun {f e} he => by
    have := D.fn f e he
    have q : e.d.dvs K = [] := by unfold He.DefD.dvs; rw [(ent_ok hc he).df] <;> rfl
    rw [q] at this
    exact this
  refine ⟨wd D, fun x cc hx => ?_, fun f g hg => ?_, fun f m hm => ?_, fun f m hm => ?_, fun f j ks ord hk => ?_, fun k g hg => ?_, fun k m hm ws Q E h' hw => ?_⟩
  · have hx := lookup_mem hx
    obtain ⟨c2, h1, h2⟩ := List.mem_filterMap.mp hx
    cases q : L.cn[c2]? with
    | none => rw [q] at h2; cases h2
    | some y =>
      rw [q] at h2
      cases h2
      have g := He.exc_ok (D.fa _ (fas3 q h1))
      have m := He.glo_ok D.X D.ns (D.fa _ (fas2 (List.mem_of_getElem? q)))
      have e : (L.G K h).c.ca cc = He.ga K x := cn_ga q
      rw [e]
      exact ⟨m, g.1, g.2.1, g.2.2.1, g.2.2.2⟩
  · rcases fs_cases hg with ⟨e, he, q⟩ | ⟨j, e, rfl, he, q⟩
    · cases q3 : e.pr with
      | some m => rw [q3] at q; cases q
      | none =>
        rw [q3] at q
        cases q
        have k := ent_ok hc he
        refine .inl ⟨_, _, _, _, _, _, _, e.N, L.obsOf e, by rw [fa_at he]; exact D.fn f e he, by rw [ps_at he]; exact k.sc, by rw [ps_at he]; exact k.ps, k.n, ?_, fun cdv A outer s H E hcd ob hob => mk_ok hc D TB he hob hcd⟩
        have := k.ck
        unfold ck at this
        rw [q3] at this
        exact this
    · cases q
      exact .inr (lamEnt hc he)
  · rcases fs_cases hm with ⟨e, he, q⟩ | ⟨j, e, rfl, he, q⟩
    · cases q3 : e.pr with
      | some m' =>
        rw [q3] at q
        cases q
        rw [fa_at he, ps_at he]
        exact prim f e m he q3
      | none => rw [q3] at q; cases q
    · cases q
  · have hm : (L.es[f]?).map (·.ps.length) = some m := hm
    cases he : L.es[f]? with
    | none => rw [he] at hm; cases hm
    | some e =>
      rw [he] at hm
      cases hm
      rw [ps_at he, fa_at he]
      exact ⟨rfl, (fd0 he).bindsN (bnd e (List.mem_of_getElem? he)), (D.fn f e he).kp, nolm he⟩
  · have hk : (f, j, ks, ord) ∈ L.kb := by have hk : L.kb.contains (f, j, ks, ord) = true := hk; simpa using hk
    have z := c4 hc hk
    unfold kbB at z
    cases he : L.es[f]? with
    | none =>
      have z : (match L.es[f]? with
        | some e => decide (e.ps.length = ord.length) && ord.all (fun i => decide (i < j + ks.length))
        | none => false) = true := z
      rw [he] at z
      cases z
    | some e =>
      have z : (match L.es[f]? with
        | some e => decide (e.ps.length = ord.length) && ord.all (fun i => decide (i < j + ks.length))
        | none => false) = true := z
      rw [he] at z
      obtain ⟨z1, z2⟩ := He.ba z
      rw [ps_at he, fa_at he]
      refine ⟨of_decide_eq_true z1, (D.fn f e he).kp, fun i hi => of_decide_eq_true (List.all_eq_true.mp z2 i hi), nolm he, fun s us ws _ h1 h2 => ?_⟩
      obtain ⟨oc, od, dV, kV, doc, pm, an, cdv, ct, osl, e1, lk, hcd, hD, hK⟩ := (fd0 he).ex
      rcases hD with ⟨_, rfl⟩ | ⟨q, _⟩
      · rw [e1]
        exact .of_eq (bkw _ hk e he kV doc pm an cdv ct us ws h1 h2)
      · exact absurd rfl q
  · rcases fs_cases hg with ⟨e, he, q⟩ | ⟨j, e, rfl, he, q⟩
    · cases q3 : e.pr with
      | some m => rw [q3] at q; cases q
      | none =>
        rw [q3] at q
        cases q
        have h2 : (L.lam k).fr.length = 100 := lam_lo hc (lo he)
        have := (ent_ok hc he).lt
        refine .inr ?_
        show (L.lam k).fr.length ≠ _
        omega
    · cases q
      exact .inl (lamEnt hc he)
  · rcases fs_cases hm with ⟨e, he, q⟩ | ⟨j, e, rfl, he, q⟩
    · cases q3 : e.pr with
      | some m' =>
        rw [q3] at q
        cases q
        have h2 : (L.lam k).fr.length = 100 := lam_lo hc (lo he)
        have := plt e (List.mem_of_getElem? he) m q3 _ _ _ _ hw
        have e2 : (vals ws).length = ws.length := by simp [vals]
        show ws.length ≠ (L.lam k).fr.length
        omega
      | none => rw [q3] at q; cases q
    · cases q
end
end LayI
end Mi

set_option Elab.async false
set_option linter.all false
set_option maxRecDepth 100000
set_option maxHeartbeats 2000000
namespace Mi
open PySem PySem.Spec PyProof.Rows L2 LamX NdefX
namespace LayI
variable {L : LayI}
/-- how positional, keyword arguments are bound -/
def Bnd (L : LayI) : Prop := ∀ e ∈ L.es, ∀ (kV doc pm : Value) (an : Option Addr) (cdv ct : Value) (us : List Value), us.length = e.ps.length → bindArgs (PySem.W.fnOf e.d.name e.d.qual e.d.params e.d.body e.d.scope .none kV doc pm an cdv ct) ⟨us, []⟩ = pure (e.ps.zip us)
def Bkw (L : LayI) : Prop := ∀ b ∈ L.kb, ∀ e, L.es[b.1]? = some e → ∀ (kV doc pm : Value) (an : Option Addr) (cdv ct : Value) (us ws : List Value), us.length = b.2.1 → ws.length = b.2.2.1.length →
      bindArgs (PySem.W.fnOf e.d.name e.d.qual e.d.params e.d.body e.d.scope .none kV doc pm an cdv ct) ⟨us, b.2.2.1.zip ws⟩ = pure (e.ps.zip (pickL b.2.2.2 (us ++ ws)))
/-- what is proved of the given meanings -/
def Prims (L : LayI) (c : Nat) : Prop := ∀ (P : Program) (w : World) (K : PySem.W.Frag) (h : Heap) (mg : Str → Option Value) (fdx : Nat → FuncData) (base : Heap), Hd L K h mg fdx → K.In base → base.Ns mainGlobals mg →
    ∀ f e m, L.es[f]? = some e → e.pr = some m → FG P w K mg base (c + 1) (He.fAd K e.d.at_) (fdx f) e.ps (spD (L.G K h) e.ps.length m)
theorem hd_of {w : World} {h : Heap} {K : PySem.W.Frag} {mg : Str → Option Value} (X : K.In h) (G : h.Ns mainGlobals mg) (S : He.SaysX L.fas L.fn [] L.tf L.ex w h K) : ∃ fdx, Hd L K h mg fdx := by
  have d := S.t.d
  have : ∀ f : Nat, ∃ fd : FuncData, ∀ e, L.es[f]? = some e → FunD K e.d.name e.d.qual e.d.params e.d.body e.d.scope (e.d.dvs K) (e.d.kws K) (He.fAd K e.d.at_) fd := fun f => by
    cases he : L.es[f]? with
    | none => exact ⟨⟨"", "", emptyA, .stmts [], ⟨.function, [], false, false, []⟩, 0, [], .none, .none, .none, .none, none, .none, .none, 0⟩, fun e z => nomatch z⟩
    | some e =>
      obtain ⟨fd, q⟩ := d.defs (d := e.d) (List.mem_map_of_mem (List.mem_of_getElem? he))
      exact ⟨fd, fun e' z => by cases z; exact q⟩
  obtain ⟨fdx, q⟩ := Classical.axiomOfChoice this
  exact ⟨fdx, X, G, fun f e he => q f e he, fun x hx => d.facts hx, S.more⟩
theorem law (hc : L.chk = true) (bnd : L.Bnd) (bkw : L.Bkw) {c : Nat} (pr : L.Prims c) (plt : ∀ e ∈ L.es, ∀ m, e.pr = some m → ∀ ss Q E h, m ss Q E h → ss.length < 100)
    {l : PySem.W.OpenLaw} {i d n : Nat} {e : EntI} {x : Str} (hi : L.es[i]? = some e) (hp : e.ps = [x]) (hat : e.d.at_ = (x0, none)) (hnm : e.pr = none)
    (plain : ∀ ns : List Int, ns.length ≤ n → run L.T d i [.v (.lst (ns.map .int))] (fun v _ => v = .bl true) (fun _ _ => False) CH.nil)
    {w : World} {h : Heap} {K : PySem.W.Frag} {mg : Str → Option Value} {fa : Addr} (X : K.In h) (G : h.Ns mainGlobals mg) (S : He.SaysX L.fas L.fn [] L.tf L.ex w h K) (hfa : mg x0 = some (.ref fa)) : LawG l w K (c + 1 + d) n x mg fa h := by
  obtain ⟨fdx, D⟩ := hd_of X G S
  have fae : fa = He.fAd K e.d.at_ := by
    have := He.glo_ok X G (D.fa _ (fas1 hi hat))
    rw [hfa] at this
    cases this
    rw [hat] <;> rfl
  have ps_at : L.psx i = [x] := by unfold psx; rw [hi]; exact hp
  have df : e.d.dvs K = [] := by unfold He.DefD.dvs; rw [(ent_ok hc hi).df] <;> rfl
  have F0 := D.fn i e hi
  rw [df] at F0
  refine ⟨fdx i, L.tf.map (He.cT K), spD (L.G K h) 1 (run L.T d i), fun p hp => ?_, fun p hp => ?_, fun p hp => ?_, fun s u => ?_, fun H a ob ns ha hcl hl R => ?_, fun base hK hN TB => ?_⟩
  · obtain ⟨q, hq, rfl⟩ := List.mem_map.mp hp
    exact S.empty q hq
  · obtain ⟨q, hq, rfl⟩ := List.mem_map.mp hp
    exact S.out q hq
  · obtain ⟨q, hq, rfl⟩ := List.mem_map.mp hp
    exact PySem.W.codeHd_of_K X (S.hd q hq)
  · have := F0.bindsA (ps := e.ps) (bnd e (List.mem_of_getElem? hi)) s [u] (by rw [hp]; rfl)
    rw [hp] at this
    exact this
  · refine sp_begin R X (He.ba D.ex).1 ha hcl (fun p hp => ?_) (plain ns hl)
    obtain ⟨f, hf, q⟩ := List.mem_filterMap.mp hp
    cases he : L.es[f]? with
    | none => rw [he] at q; cases q
    | some e' =>
      rw [he] at q
      cases q
      exact ⟨_, List.mem_map_of_mem (List.mem_filterMap.mpr ⟨f, hf, by rw [he]; rfl⟩), rfl⟩
  · have B : TabOk l.prog w K mg base (L.G K h) L.T L.C fdx L.psx c := tabOk hc D (fun p hp => TB _ (List.mem_map_of_mem hp)) bnd bkw (pr l.prog w K h mg fdx base D hK hN) plt
    have nl : ∀ g, L.T.fs[i]? = some (.code g) → ¬ LamEnt (L.G K h) L.C i g := (B.ar i 1 (by show (L.es[i]?).map (·.ps.length) = some 1; rw [hi]; show some e.ps.length = some 1; rw [hp]; rfl)).2.2.2
    have := fgs_all B d i nl
    rw [ps_at] at this
    have fa2 : (L.G K h).c.fa i = fa := by
      show (match L.es[i]? with
        | some e => He.fAd K e.d.at_
        | none => 0) = _
      rw [hi, fae]
    rw [fa2] at this
    exact this
end LayI
end Mi

set_option Elab.async false
set_option linter.all false
set_option maxRecDepth 100000
set_option maxHeartbeats 2000000
namespace Mi
open PySem PySem.Spec PyProof.Rows L2 LamX NdefX
/-! ### the source of draws, closed and open -/
abbrev drawD (g c : Addr) (l t : Int) : CO := .dict false [(.str "great", .ref g), (.str "cells", .ref c), (.str "left", .int l), (.str "turn", .int t)]
theorem rep_pack {G : Gc} {F : Frm} {h2 h' : CH} {H : Hp} {a g c : Addr} {l t : Int} {n : Nat} {gs cs : List Int} (r : Rep G F h2 H) (e1 : h2 a = some (drawD g c l t)) (e2 : h2 g = some (.list (gs.map .int))) (e3 : h2 c = some (.list (cs.map .int)))
    (n1 : g ≠ a) (n2 : c ≠ a) (n3 : g ≠ c) (hl : 0 ≤ l) (ht : 0 ≤ t) (htn : t ≤ n) (hg : ∀ x ∈ gs, 0 ≤ x) (hcs : ∀ x ∈ cs, 0 ≤ x) (hh : ∀ b, h' b = if b = a then some (.ab (.draws n)) else if b = g ∨ b = c then none else h2 b) : Rep G F h' H := by
  obtain ⟨tb, hc, own, r, f⟩ := r
  have o1 := r.top _ _ e1
  have o2 := r.top _ _ e2
  have o3 := r.top _ _ e3
  refine ⟨tb, hc, fun b => if b = g ∨ b = c then a else own b, ⟨r.co, fun b o e => ?_, fun b A e => ?_⟩, f⟩
  · rw [hh] at e
    by_cases q : b = a
    · rw [if_pos q] at e
      cases e
      subst q
      have z : ¬ (b = g ∨ b = c) := by rintro (z | z) <;> simp_all
      simp only [if_neg z]
      exact ⟨o1.1, fun z => nomatch z⟩
    · rw [if_neg q] at e
      by_cases q2 : b = g ∨ b = c
      · rw [if_pos q2] at e; cases e
      · rw [if_neg q2] at e
        simp only [if_neg q2]
        exact r.top _ _ e
  · rw [hh] at e
    by_cases q : b = a
    · rw [if_pos q] at e
      cases e
      subst q
      exact ⟨g, c, l, t, gs, cs, o1.2 rfl, o2.2 rfl, o3.2 rfl, by simp, by simp, n1, n2, n3, hl, ht, htn, hg, hcs⟩
    · rw [if_neg q] at e
      by_cases q2 : b = g ∨ b = c
      · rw [if_pos q2] at e; cases e
      · rw [if_neg q2] at e
        refine (r.ab b A e).imp fun d x e1 w => ⟨e1, ?_⟩
        have : ¬ (d = g ∨ d = c) := by
          rintro (z | z)
          · subst z
            rcases w with w | w
            · exact q2 (.inl w.symm)
            · rw [o2.1] at w; exact q2 (.inl w.symm)
          · subst z
            rcases w with w | w
            · exact q2 (.inr w.symm)
            · rw [o3.1] at w; exact q2 (.inr w.symm)
        simp only [if_neg this]
theorem rep_unpack {G : Gc} {F : Frm} {h : CH} {H : Hp} {a : Addr} {n : Nat} (r : Rep G F h H) (e : h a = some (.ab (.draws n))) : ∃ (g c : Addr) (l t : Int) (gs cs : List Int), h g = none ∧ h c = none ∧ g ≠ a ∧ c ≠ a ∧ g ≠ c ∧ 0 ≤ l ∧ 0 ≤ t ∧ t ≤ n ∧ (∀ x ∈ gs, 0 ≤ x) ∧ (∀ x ∈ cs, 0 ≤ x) ∧
    Rep G F (((h.set a (drawD g c l t)).set g (.list (gs.map .int))).set c (.list (cs.map .int))) H := by
  obtain ⟨tb, hc, own, r, f⟩ := r
  obtain ⟨g, c, l, t, gs, cs, e1, e2, e3, o1, o2, n1, n2, n3, hl, ht, htn, hg, hcs⟩ := r.ab a _ e
  have free : ∀ d, own d = a → d ≠ a → h d = none := fun d w n => by
    cases q : h d with
    | none => rfl
    | some o =>
      have := (r.top _ _ q).1
      rw [w] at this
      exact absurd this.symm n
  have oa := (r.top _ _ e).1
  refine ⟨g, c, l, t, gs, cs, free g o1 n1, free c o2 n2, n1, n2, n3, hl, ht, htn, hg, hcs, tb, hc, fun b => if b = g then g else if b = c then c else own b, ⟨r.co, fun b o q => ?_, fun b A q => ?_⟩, f⟩
  · rw [CH.set_at] at q
    by_cases z : b = c
    · rw [if_pos z] at q
      cases q
      subst z
      simp only [if_neg (Ne.symm n3), if_true]
      exact ⟨trivial, fun _ => e3⟩
    · rw [if_neg z, CH.set_at] at q
      by_cases z2 : b = g
      · rw [if_pos z2] at q
        cases q
        subst z2
        simp only [if_true]
        exact ⟨trivial, fun _ => e2⟩
      · rw [if_neg z2, CH.set_at] at q
        simp only [if_neg z, if_neg z2]
        by_cases z3 : b = a
        · rw [if_pos z3] at q
          cases q
          subst z3
          exact ⟨oa, fun _ => e1⟩
        · rw [if_neg z3] at q
          exact r.top _ _ q
  · rw [CH.set_at] at q
    by_cases z : b = c
    · rw [if_pos z] at q; cases q
    · rw [if_neg z, CH.set_at] at q
      by_cases z2 : b = g
      · rw [if_pos z2] at q; cases q
      · rw [if_neg z2, CH.set_at] at q
        by_cases z3 : b = a
        · rw [if_pos z3] at q; cases q
        · rw [if_neg z3] at q
          refine (r.ab b A q).imp fun d x e1 w => ⟨e1, ?_⟩
          have d1 : d ≠ g := by
            rintro rfl
            rcases w with w | w
            · exact z2 w.symm
            · rw [o1] at w; exact z3 w.symm
          have d2 : d ≠ c := by
            rintro rfl
            rcases w with w | w
            · exact z w.symm
            · rw [o2] at w; exact z3 w.symm
          simp only [if_neg d1, if_neg d2]
end Mi

set_option Elab.async false
set_option linter.all false
set_option maxRecDepth 100000
set_option maxHeartbeats 4000000
namespace Mi
open PySem L2
/-! ### the clean form's value where nothing is written: an evaluator -/
abbrev Xv (α : Type) := Option (Except Nat α)
def xb {α β : Type} (m : Xv α) (k : α → Xv β) : Xv β := match m with
  | some (.ok a) => k a
  | some (.error c) => some (.error c)
  | none => none
@[reducible] def xr {α : Type} (a : α) : Xv α := some (.ok a)
def xo {α : Type} : Option α → Xv α
  | some a => some (.ok a)
  | none => none
/-- r is what m does at h -/
def XOk {α : Type} (m : M α) (h : CH) (r : Xv α) : Prop := match r with
  | some (.ok a) => ∀ Q E, Q a h → m Q E h
  | some (.error c) => ∀ Q E, E c h → m Q E h
  | none => True
section
variable {α β : Type} {h : CH}
theorem XOk.bnd {m : M α} {k : α → M β} {r : Xv α} {kr : α → Xv β} (a : XOk m h r) (b : ∀ x, r = xr x → XOk (k x) h (kr x)) : XOk (Mi.bnd m k) h (xb r kr) := by
  match r, a, b with
  | none, _, _ => exact trivial
  | some (.error c), a, _ => exact fun Q E q => a _ E q
  | some (.ok x), a, b =>
    have := b x rfl
    show XOk (Mi.bnd m k) h (kr x)
    match q : kr x, this with
    | none, _ => exact trivial
    | some (.ok y), t => exact fun Q E z => a _ E (t Q E z)
    | some (.error c), t => exact fun Q E z => a _ E (t Q E z)
theorem XOk.ret {a : α} : XOk (Mi.ret a) h (xr a) := fun Q E q => q
theorem XOk.none {m : M α} : XOk m h none := trivial
theorem XOk.err {c : Nat} : XOk (raiseM c : M α) h (some (.error c)) := fun Q E q => q
theorem XOk.opt {o : Option α} {k : α → M β} {kr : α → Xv β} (b : ∀ x, XOk (k x) h (kr x)) : XOk (Mi.opt o k) h (xb (xo o) kr) := by
  cases o with
  | none => exact trivial
  | some x => exact b x
theorem XOk.xo {m : M α} {o : Option α} (b : ∀ a, o = some a → ∀ Q E, Q a h → m Q E h) : XOk m h (xo o) := by
  cases o with
  | none => exact trivial
  | some x => exact b x rfl
theorem XOk.ite {b : Bool} {m k : M α} {r s : Xv α} (a : XOk m h r) (c : XOk k h s) : XOk (if b = true then m else k) h (if b = true then r else s) := by
  cases b
  · exact c
  · exact a
end
/-! the single steps -/
instance {i j : Int} : Decidable (CMul i j) := by unfold CMul; infer_instance
instance {i j : Int} : Decidable (CDiv i j) := by unfold CDiv; infer_instance
instance {i j : Int} : Decidable (CPow i j) := by unfold CPow; infer_instance
def grd {α : Type} (b : Bool) (a : α) : Option α := if b = true then some a else none
theorem grd_some {α : Type} {b : Bool} {a x : α} (h : grd b a = some x) : b = true ∧ a = x := by
  unfold grd at h
  split at h
  · exact ⟨by assumption, Option.some.inj h⟩
  · cases h
def nwL (m : Bool) (l : List Val) : Option Val := if m = true then none else some (.lst l)
theorem nwL_some {m : Bool} {l : List Val} {v : Val} (h : nwL m l = some v) : m = false ∧ v = .lst l := by
  unfold nwL at h
  cases m
  · exact ⟨rfl, (Option.some.inj h).symm⟩
  · cases h
theorem newL_of {m : Bool} {l : List Val} {v : Val} {Q : Val → CH → Prop} {E : Nat → CH → Prop} {h : CH} (e : nwL m l = some v) (q : Q v h) : newL m l Q E h := by
  obtain ⟨rfl, rfl⟩ := nwL_some e
  exact q
@[irreducible] def addP (h : CH) (m : Bool) (x y : Val) : Option Val := match lstOf h x, lstOf h y with
  | some l, some r => if l.length + r.length ≤ sizeLine then nwL m (l ++ r) else none
  | _, _ => none
theorem addP_ok {h : CH} {m : Bool} {x y z : Val} {Q : Val → CH → Prop} {E : Nat → CH → Prop} (q : Q z h) (e : addP h m x y = some z) : (match lstOf h x, lstOf h y with
    | some l, some r => l.length + r.length ≤ sizeLine ∧ newL m (l ++ r) Q E h
    | _, _ => False) := by
  unfold addP at e
  split at e
  · split at e
    · exact ⟨by assumption, newL_of e q⟩
    · cases e
  · cases e
def cutPL (h : CH) (m : Bool) (x : Val) (lo hi : Option Int) : Option Val := match lstOf h x with
  | some l => nwL m (cutL l lo hi)
  | none => none
theorem cutPL_ok {h : CH} {m : Bool} {x v : Val} {lo hi : Option Int} {Q : Val → CH → Prop} {E : Nat → CH → Prop} (q : Q v h) (e : cutPL h m x lo hi = some v) : (match lstOf h x with
    | some l => newL m (cutL l lo hi) Q E h
    | none => False) := by
  unfold cutPL at e
  split at e
  · exact newL_of e q
  · cases e
def revPL (h : CH) (m : Bool) (x : Val) : Option Val := match lstOf h x with
  | some l => nwL m l.reverse
  | none => none
theorem revPL_ok {h : CH} {m : Bool} {x v : Val} {Q : Val → CH → Prop} {E : Nat → CH → Prop} (q : Q v h) (e : revPL h m x = some v) : (match lstOf h x with
    | some l => newL m l.reverse Q E h
    | none => False) := by
  unfold revPL at e
  split at e
  · exact newL_of e q
  · cases e
section
def binP (h : CH) (op : Op) (m : Bool) (x y : Val) : Option Val := match op, x, y with
  | .add, .int i, .int j => some (.int (i + j))
  | .sub, .int i, .int j => some (.int (i - j))
  | .mul, .int i, .int j => grd (decide (CMul i j)) (.int (i * j))
  | .fdiv, .int i, .int j => grd (decide (CDiv i j)) (.int (i / j))
  | .mod, .int i, .int j => grd (decide (0 < j)) (.int (i % j))
  | .pow, .int i, .int j => grd (decide (CPow i j)) (.int (i ^ j.toNat))
  | .add, .tup l, .tup r => grd (decide (l.length + r.length ≤ sizeLine)) (.tup (l ++ r))
  | .add, x, y => addP h m x y
  | .mul, .tup l, .int k => grd (!l.isEmpty && decide (2 ≤ k ∧ k ≤ 1000 ∧ l.length ≤ 1000)) (.tup (List.replicate k.toNat l).flatten)
  | _, _, _ => none
theorem binP_ok {h : CH} {op : Op} {m : Bool} {x y z : Val} {Q : Val → CH → Prop} {E : Nat → CH → Prop} (e : binP h op m x y = some z) (q : Q z h) : binM op m x y Q E h := by
  cases op <;> cases x <;> cases y <;> first
    | (cases e; exact q)
    | exact absurd (show (none : Option Val) = some z from e) (fun w => nomatch w)
    | (have w := addP_ok (Q := Q) (E := E) q e; exact w)
    | (obtain ⟨g, rfl⟩ := grd_some e; exact ⟨of_decide_eq_true g, q⟩)
    | (obtain ⟨g, rfl⟩ := grd_some e
       rw [Bool.and_eq_true] at g
       obtain ⟨g1, g2⟩ := g
       obtain ⟨g3, g4, g5⟩ := of_decide_eq_true g2
       exact ⟨(by intro w; rw [w] at g1; cases g1), g3, g4, g5, q⟩)
def eqP (h : CH) (x y : Val) : Option Bool := match toD (deref h x), toD (deref h y) with
  | some d, some e => grd (decide (min d.depth e.depth ≤ 64)) (PyData.eqv d e)
  | _, _ => none
theorem eqP_ok {h : CH} {x y : Val} {b : Bool} {Q : Bool → CH → Prop} {E : Nat → CH → Prop} (e : eqP h x y = some b) (q : Q b h) : eqM x y Q E h := by
  unfold eqP at e
  unfold eqM
  split at e
  · rename_i d f h1 h2
    obtain ⟨g, rfl⟩ := grd_some e
    try rw [h1, h2]
    exact ⟨of_decide_eq_true g, q⟩
  · cases e
def inP (h : CH) (x y : Val) : Option Bool := match toD (deref h x), seqOf h y with
  | some d, some l => (match toDs l with
    | some ds => grd (ds.all fun e => decide (min d.depth e.depth ≤ 64)) (ds.any fun e => PyData.eqv e d)
    | none => none)
  | _, _ => none
theorem inP_ok {h : CH} {x y : Val} {b : Bool} {Q : Bool → CH → Prop} {E : Nat → CH → Prop} (e : inP h x y = some b) (q : Q b h) : inM x y Q E h := by
  unfold inP at e
  unfold inM
  split at e
  · rename_i d l h1 h2
    try rw [h1, h2]
    split at e
    · rename_i ds h3
      obtain ⟨g, rfl⟩ := grd_some e
      try dsimp only
      try rw [h3]
      exact ⟨fun e he => of_decide_eq_true (List.all_eq_true.mp g e he), q⟩
    · cases e
  · cases e
def ordP (op : Cm) (i j : Int) : Bool := match op with
  | .lt => decide (i < j)
  | .le => decide (i ≤ j)
  | .gt => decide (j < i)
  | _ => decide (j ≤ i)
def cmpP (h : CH) (op : Cm) (x y : Val) : Option Bool := match op with
  | .eq => eqP h x y
  | .ne => (eqP h x y).map (!·)
  | .inn => inP h x y
  | .nin => (inP h x y).map (!·)
  | .is => (match x, y with
    | x, .non => some (isNonV x)
    | .bl a, .bl b => some (a == b)
    | _, _ => none)
  | .isn => (match x, y with
    | x, .non => some (!isNonV x)
    | .bl a, .bl b => some (!(a == b))
    | _, _ => none)
  | op => (match x, y with
    | .int i, .int j => some (ordP op i j)
    | _, _ => none)
theorem map_some {α β : Type} {f : α → β} {o : Option α} {b : β} (e : o.map f = some b) : ∃ a, o = some a ∧ b = f a := by
  cases o with
  | none => cases e
  | some a => exact ⟨a, rfl, (Option.some.inj e).symm⟩
theorem cmpP_ok {h : CH} {op : Cm} {x y : Val} {b : Bool} {Q : Bool → CH → Prop} {E : Nat → CH → Prop} (e : cmpP h op x y = some b) (q : Q b h) : cmpM op x y Q E h := by
  cases op with
  | eq => exact eqP_ok (E := E) e q
  | ne =>
    obtain ⟨a, e2, rfl⟩ := map_some e
    exact eqP_ok (Q := fun b h' => Q (!b) h') (E := E) e2 q
  | inn => exact inP_ok (E := E) e q
  | nin =>
    obtain ⟨a, e2, rfl⟩ := map_some e
    exact inP_ok (Q := fun b h' => Q (!b) h') (E := E) e2 q
  | is => cases y <;> first | (cases e; exact q) | (cases x <;> first | (cases e; exact q) | exact absurd (show (none : Option Bool) = some b from e) (fun w => nomatch w))
  | isn => cases y <;> first | (cases e; exact q) | (cases x <;> first | (cases e; exact q) | exact absurd (show (none : Option Bool) = some b from e) (fun w => nomatch w))
  | lt => cases x <;> cases y <;> first | (cases e; exact q) | exact absurd (show (none : Option Bool) = some b from e) (fun w => nomatch w)
  | le => cases x <;> cases y <;> first | (cases e; exact q) | exact absurd (show (none : Option Bool) = some b from e) (fun w => nomatch w)
  | gt => cases x <;> cases y <;> first | (cases e; exact q) | exact absurd (show (none : Option Bool) = some b from e) (fun w => nomatch w)
  | ge => cases x <;> cases y <;> first | (cases e; exact q) | exact absurd (show (none : Option Bool) = some b from e) (fun w => nomatch w)
def ixP (h : CH) (x y : Val) : Option Val := match y with
  | .int i => (match seqOf h x with
    | some l => atI l i
    | none => (match x with
      | .ref a => (match h a with
        | some (.dict _ kvs) => valAt kvs (.inl i)
        | _ => none)
      | _ => none))
  | .str s => (match x with
    | .ref a => (match h a with
      | some (.dict _ kvs) => valAt kvs (.inr s)
      | _ => none)
    | _ => none)
  | _ => none
theorem ixP_ok {h : CH} {x y v : Val} {Q : Val → CH → Prop} {E : Nat → CH → Prop} (e : ixP h x y = some v) (q : Q v h) : ixM x y Q E h := by
  unfold ixP at e
  unfold ixM
  cases y with
  | int i =>
    dsimp only at e ⊢
    cases h1 : seqOf h x with
    | some l => rw [h1] at e; dsimp only at e ⊢; rw [e]; exact q
    | none =>
      rw [h1] at e
      dsimp only at e ⊢
      cases x <;> first
        | exact absurd (show (none : Option Val) = some v from e) (fun w => nomatch w)
        | skip
      rename_i a
      dsimp only at e ⊢
      split at e
      · rename_i d kvs h2
        try rw [h2]
        try dsimp only
        try rw [e]
        exact q
      · cases e
  | str s =>
    dsimp only at e ⊢
    cases x <;> first
      | exact absurd (show (none : Option Val) = some v from e) (fun w => nomatch w)
      | skip
    rename_i a
    dsimp only at e ⊢
    split at e
    · rename_i d kvs h2
      try rw [h2]
      try dsimp only
      try rw [e]
      exact q
    · cases e
  | _ => exact absurd (show (none : Option Val) = some v from e) (fun w => nomatch w)
def cutP (h : CH) (m : Bool) (x : Val) (lo hi : Option Int) : Option Val := match x with
  | .tup l => some (.tup (cutL l lo hi))
  | x => cutPL h m x lo hi
theorem cutP_ok {h : CH} {m : Bool} {x v : Val} {lo hi : Option Int} {Q : Val → CH → Prop} {E : Nat → CH → Prop} (e : cutP h m x lo hi = some v) (q : Q v h) : cutM m x lo hi Q E h := by
  match x, e with
  | .tup l, e => cases e; exact q
  | .non, e => exact cutPL_ok (m := m) (lo := lo) (hi := hi) (x := .non) (Q := Q) (E := E) q e
  | .bl b, e => exact cutPL_ok (m := m) (lo := lo) (hi := hi) (x := .bl b) (Q := Q) (E := E) q e
  | .int b, e => exact cutPL_ok (m := m) (lo := lo) (hi := hi) (x := .int b) (Q := Q) (E := E) q e
  | .str b, e => exact cutPL_ok (m := m) (lo := lo) (hi := hi) (x := .str b) (Q := Q) (E := E) q e
  | .lst b, e => exact cutPL_ok (m := m) (lo := lo) (hi := hi) (x := .lst b) (Q := Q) (E := E) q e
  | .ref b, e => exact cutPL_ok (m := m) (lo := lo) (hi := hi) (x := .ref b) (Q := Q) (E := E) q e
  | .fn b, e => exact cutPL_ok (m := m) (lo := lo) (hi := hi) (x := .fn b) (Q := Q) (E := E) q e
  | .exc b, e => exact cutPL_ok (m := m) (lo := lo) (hi := hi) (x := .exc b) (Q := Q) (E := E) q e
  | .emp, e => exact cutPL_ok (m := m) (lo := lo) (hi := hi) (x := .emp) (Q := Q) (E := E) q e
def revP (h : CH) (m : Bool) (x : Val) : Option Val := match x with
  | .tup l => some (.tup l.reverse)
  | x => revPL h m x
theorem revP_ok {h : CH} {m : Bool} {x v : Val} {Q : Val → CH → Prop} {E : Nat → CH → Prop} (e : revP h m x = some v) (q : Q v h) : revM m x Q E h := by
  match x, e with
  | .tup l, e => cases e; exact q
  | .non, e => exact revPL_ok (m := m) (x := .non) (Q := Q) (E := E) q e
  | .bl b, e => exact revPL_ok (m := m) (x := .bl b) (Q := Q) (E := E) q e
  | .int b, e => exact revPL_ok (m := m) (x := .int b) (Q := Q) (E := E) q e
  | .str b, e => exact revPL_ok (m := m) (x := .str b) (Q := Q) (E := E) q e
  | .lst b, e => exact revPL_ok (m := m) (x := .lst b) (Q := Q) (E := E) q e
  | .ref b, e => exact revPL_ok (m := m) (x := .ref b) (Q := Q) (E := E) q e
  | .fn b, e => exact revPL_ok (m := m) (x := .fn b) (Q := Q) (E := E) q e
  | .exc b, e => exact revPL_ok (m := m) (x := .exc b) (Q := Q) (E := E) q e
  | .emp, e => exact revPL_ok (m := m) (x := .emp) (Q := Q) (E := E) q e
end
def isiP (I : CI) (h : CH) (t : Ty) (x : Val) : Option Bool := (kdOf I h x).bind fun k => kdIs I k t
theorem isiP_ok {I : CI} {h : CH} {t : Ty} {x : Val} {b : Bool} {Q : Val → CH → Prop} {E : Nat → CH → Prop} (e : isiP I h t x = some b) (q : Q (.bl b) h) : isiM I t x Q E h := by
  unfold isiM
  rw [show ((kdOf I h x).bind fun k => kdIs I k t) = some b from e]
  exact q
/-- the ascending list of some numbers without repetition -/
def insU (x : Int) : List Int → List Int
  | [] => [x]
  | y :: r => if x < y then x :: y :: r else if x = y then y :: r else y :: insU x r
def sset : List Int → List Int
  | [] => []
  | x :: r => insU x (sset r)
theorem insU_mem {x z : Int} : ∀ {l : List Int}, z ∈ insU x l ↔ z = x ∨ z ∈ l
  | [] => by simp [insU]
  | y :: r => by
    unfold insU
    split
    · simp
    · split
      · rename_i h; subst h; simp
      · rw [List.mem_cons, insU_mem, List.mem_cons]
        constructor
        · rintro (h | h | h) <;> simp [h]
        · rintro (h | h | h) <;> simp [h]
theorem insU_pw {x : Int} : ∀ {l : List Int}, l.Pairwise (· < ·) → (insU x l).Pairwise (· < ·)
  | [], _ => by simp [insU]
  | y :: r, h => by
    rw [List.pairwise_cons] at h
    unfold insU
    split
    · rename_i q
      rw [List.pairwise_cons, List.pairwise_cons]
      exact ⟨fun z hz => by
        rcases List.mem_cons.mp hz with rfl | hz
        · exact q
        · exact Int.lt_trans q (h.1 z hz), h.1, h.2⟩
    · split
      · rw [List.pairwise_cons]; exact h
      · rw [List.pairwise_cons]
        refine ⟨fun z hz => ?_, insU_pw h.2⟩
        rcases insU_mem.mp hz with rfl | hz
        · omega
        · exact h.1 z hz
theorem sset_mem {z : Int} : ∀ {l : List Int}, z ∈ sset l ↔ z ∈ l
  | [] => Iff.rfl
  | x :: r => by unfold sset; rw [insU_mem, sset_mem, List.mem_cons]
theorem sset_pw : ∀ {l : List Int}, (sset l).Pairwise (· < ·)
  | [] => .nil
  | x :: r => insU_pw sset_pw
theorem pw_unique : ∀ {r s : List Int}, r.Pairwise (· < ·) → s.Pairwise (· < ·) → (∀ k, k ∈ r ↔ k ∈ s) → r = s
  | [], [], _, _, _ => rfl
  | [], b :: s, _, _, h => by have := (h b).mpr (by simp); cases this
  | a :: r, [], _, _, h => by have := (h a).mp (by simp); cases this
  | a :: r, b :: s, h1, h2, h => by
    rw [List.pairwise_cons] at h1 h2
    have e : a = b := by
      have x := (h a).mp (by simp)
      have y := (h b).mpr (by simp)
      rcases List.mem_cons.mp x with x | x
      · exact x
      · rcases List.mem_cons.mp y with y | y
        · exact y.symm
        · have := h2.1 a x; have := h1.1 b y; omega
    subst e
    congr 1
    refine pw_unique h1.2 h2.2 fun k => ?_
    constructor
    · intro hk
      have := (h k).mp (by simp [hk])
      rcases List.mem_cons.mp this with z | z
      · have := h1.1 k hk; omega
      · exact z
    · intro hk
      have := (h k).mpr (by simp [hk])
      rcases List.mem_cons.mp this with z | z
      · have := h2.1 k hk; omega
      · exact z
def maxI : Int → List Int → Int
  | m, [] => m
  | m, x :: r => maxI (if x > m then x else m) r
def minI : Int → List Int → Int
  | m, [] => m
  | m, x :: r => minI (if x < m then x else m) r
theorem maxI_spec : ∀ (l : List Int) (m : Int), (maxI m l = m ∨ maxI m l ∈ l) ∧ m ≤ maxI m l ∧ ∀ y ∈ l, y ≤ maxI m l
  | [], m => ⟨.inl rfl, Int.le_refl _, fun y h => nomatch h⟩
  | x :: r, m => by
    obtain ⟨h1, h2, h3⟩ := maxI_spec r (if x > m then x else m)
    have e : maxI m (x :: r) = maxI (if x > m then x else m) r := rfl
    rw [e]
    refine ⟨?_, ?_, fun y hy => ?_⟩
    · rcases h1 with h1 | h1
      · rw [h1]
        split
        · exact .inr (by simp)
        · exact .inl rfl
      · exact .inr (by simp [h1])
    · exact Int.le_trans (by split <;> omega) h2
    · rcases List.mem_cons.mp hy with rfl | hy
      · exact Int.le_trans (by split <;> omega) h2
      · exact h3 y hy
theorem minI_spec : ∀ (l : List Int) (m : Int), (minI m l = m ∨ minI m l ∈ l) ∧ minI m l ≤ m ∧ ∀ y ∈ l, minI m l ≤ y
  | [], m => ⟨.inl rfl, Int.le_refl _, fun y h => nomatch h⟩
  | x :: r, m => by
    obtain ⟨h1, h2, h3⟩ := minI_spec r (if x < m then x else m)
    have e : minI m (x :: r) = minI (if x < m then x else m) r := rfl
    rw [e]
    refine ⟨?_, ?_, fun y hy => ?_⟩
    · rcases h1 with h1 | h1
      · rw [h1]
        split
        · exact .inr (by simp)
        · exact .inl rfl
      · exact .inr (by simp [h1])
    · exact Int.le_trans h2 (by split <;> omega)
    · rcases List.mem_cons.mp hy with rfl | hy
      · exact Int.le_trans h2 (by split <;> omega)
      · exact h3 y hy
end Mi

set_option Elab.async false
set_option linter.all false
set_option maxRecDepth 100000
set_option maxHeartbeats 4000000
namespace Mi
open PySem L2
def bi1P (h : CH) (b : Bi) (x : Val) : Option Val := match b with
  | .maxD => none
  | .sortSet m => (match (tupOf x).bind intsOf with
    | some ns => if ns.length < 64 then nwL m ((sset ns).map .int) else none
    | none => none)
  | .len => (lenO h x).map fun n : Nat => .int n
  | .all => ((lstOf h x).bind boolsOf).map fun bs => .bl (bs.all id)
  | .any => ((lstOf h x).bind boolsOf).map fun bs => .bl (bs.any id)
  | .abs => (intOf x).map fun i => .int (if i < 0 then -i else i)
  | .int => (intOf x).map fun i => .int i
  | .tuple => (seqOf h x).map .tup
  | .list m => (seqOf h x).bind (nwL m)
  | .sum => ((seqOf h x).bind intsOf).map fun ns => .int ns.sum
  | .max => ((lstOf h x).bind intsOf).bind fun ns => match ns with
    | n :: r => some (.int (maxI n r))
    | [] => none
  | .min => ((lstOf h x).bind intsOf).bind fun ns => match ns with
    | n :: r => some (.int (minI n r))
    | [] => none
  | .sorted m => ((lstOf h x).bind intsOf).bind fun ns => nwL m ((ns.mergeSort (fun a b => decide (a ≤ b))).map .int)
theorem intsOf_map : ∀ {l : List Val} {ns : List Int}, intsOf l = some ns → l = ns.map .int
  | [], ns, h => by cases h; rfl
  | .int i :: r, ns, h => by
    obtain ⟨a, h1, rfl⟩ := map_some (show (intsOf r).map (i :: ·) = some ns from h)
    rw [intsOf_map h1]; rfl
  | .non :: _, _, h => nomatch h
  | .bl _ :: _, _, h => nomatch h
  | .str _ :: _, _, h => nomatch h
  | .tup _ :: _, _, h => nomatch h
  | .lst _ :: _, _, h => nomatch h
  | .ref _ :: _, _, h => nomatch h
  | .fn _ :: _, _, h => nomatch h
  | .exc _ :: _, _, h => nomatch h
  | .emp :: _, _, h => nomatch h
theorem toDs_ints : ∀ (ns : List Int), toDs (ns.map .int) = some (ns.map .int)
  | [] => rfl
  | n :: r => by show (match toD (.int n), toDs (r.map .int) with | some d, some ds => some (d :: ds) | _, _ => none) = _; rw [toDs_ints r]; rfl
theorem sorted_ints (ns : List Int) : (ns.map Val.int).mergeSort (PySem.W.dataLe false encV) = (ns.mergeSort (fun a b => decide (a ≤ b))).map .int := by
  rw [List.map_mergeSort]
  intro a _ b _
  have := congrFun (congrFun (PySem.W.dataLe_int (fun b : Int => b)) a) b
  exact this.symm
theorem bind_some {α β : Type} {f : α → Option β} {o : Option α} {b : β} (e : o.bind f = some b) : ∃ a, o = some a ∧ f a = some b := by
  cases o with
  | none => cases e
  | some a => exact ⟨a, rfl, e⟩
theorem bi1P_ok {h : CH} {b : Bi} {x v : Val} {Q : Val → CH → Prop} {E : Nat → CH → Prop} (e : bi1P h b x = some v) (q : Q v h) : bi1 b x Q E h := by
  cases b with
  | maxD => exact absurd (show (none : Option Val) = some v from e) (fun w => nomatch w)
  | sortSet m =>
    unfold bi1P at e
    unfold bi1
    dsimp only at e ⊢
    split at e
    · rename_i ns h1
      try rw [h1]
      try dsimp only
      split at e
      · rename_i h2
        refine ⟨h2, fun r p1 p2 => ?_⟩
        have : r = sset ns := pw_unique p1 sset_pw fun k => (p2 k).trans sset_mem.symm
        rw [this]
        exact newL_of e q
      · cases e
    · cases e
  | len =>
    obtain ⟨n, h1, rfl⟩ := map_some (show (lenO h x).map (fun n : Nat => Val.int n) = some v from e)
    unfold bi1
    dsimp only
    rw [h1]
    exact q
  | all =>
    obtain ⟨n, h1, rfl⟩ := map_some (show ((lstOf h x).bind boolsOf).map (fun bs => Val.bl (bs.all id)) = some v from e)
    unfold bi1
    dsimp only
    rw [h1]
    exact q
  | any =>
    obtain ⟨n, h1, rfl⟩ := map_some (show ((lstOf h x).bind boolsOf).map (fun bs => Val.bl (bs.any id)) = some v from e)
    unfold bi1
    dsimp only
    rw [h1]
    exact q
  | abs =>
    obtain ⟨n, h1, rfl⟩ := map_some (show (intOf x).map (fun i => Val.int (if i < 0 then -i else i)) = some v from e)
    cases x <;> first | (cases h1; exact q) | cases h1
  | int =>
    obtain ⟨n, h1, rfl⟩ := map_some (show (intOf x).map (fun i => Val.int i) = some v from e)
    cases x <;> first | (cases h1; exact q) | cases h1
  | tuple =>
    obtain ⟨n, h1, rfl⟩ := map_some (show (seqOf h x).map Val.tup = some v from e)
    unfold bi1
    dsimp only
    rw [h1]
    exact q
  | list m =>
    obtain ⟨n, h1, h2⟩ := bind_some (show (seqOf h x).bind (nwL m) = some v from e)
    unfold bi1
    dsimp only
    rw [h1]
    exact newL_of h2 q
  | sum =>
    obtain ⟨n, h1, rfl⟩ := map_some (show ((seqOf h x).bind intsOf).map (fun ns => Val.int ns.sum) = some v from e)
    unfold bi1
    dsimp only
    rw [h1]
    exact q
  | max =>
    obtain ⟨n, h1, h2⟩ := bind_some (show ((lstOf h x).bind intsOf).bind _ = some v from e)
    unfold bi1
    dsimp only
    rw [h1]
    cases n with
    | nil => cases h2
    | cons a r =>
      cases h2
      refine ⟨by simp, fun n hn hm => ?_⟩
      obtain ⟨s1, s2, s3⟩ := maxI_spec r a
      have e1 : n ≤ maxI a r := by
        rcases List.mem_cons.mp hn with rfl | z
        · exact s2
        · exact s3 n z
      have e2 : maxI a r ≤ n := by
        rcases s1 with z | z
        · rw [z]; exact hm a (by simp)
        · exact hm _ (by simp [z])
      rw [show n = maxI a r by omega]
      exact q
  | min =>
    obtain ⟨n, h1, h2⟩ := bind_some (show ((lstOf h x).bind intsOf).bind _ = some v from e)
    unfold bi1
    dsimp only
    rw [h1]
    cases n with
    | nil => cases h2
    | cons a r =>
      cases h2
      refine ⟨by simp, fun n hn hm => ?_⟩
      obtain ⟨s1, s2, s3⟩ := minI_spec r a
      have e1 : minI a r ≤ n := by
        rcases List.mem_cons.mp hn with rfl | z
        · exact s2
        · exact s3 n z
      have e2 : n ≤ minI a r := by
        rcases s1 with z | z
        · rw [z]; exact hm a (by simp)
        · exact hm _ (by simp [z])
      rw [show n = minI a r by omega]
      exact q
  | sorted m =>
    obtain ⟨ns, h1, h2⟩ := bind_some (show ((lstOf h x).bind intsOf).bind _ = some v from e)
    obtain ⟨l, h3, h4⟩ := bind_some h1
    have := intsOf_map h4
    subst this
    unfold bi1
    dsimp only
    rw [h3]
    dsimp only
    rw [toDs_ints]
    refine ⟨fun d hd d' hd' => ?_, .inr fun d hd => ?_, fun d hd => ?_, ?_⟩
    · obtain ⟨i, _, rfl⟩ := List.mem_map.mp hd
      obtain ⟨j, _, rfl⟩ := List.mem_map.mp hd'
      rfl
    · obtain ⟨i, _, rfl⟩ := List.mem_map.mp hd
      exact ⟨by simp, by simp⟩
    · obtain ⟨i, _, rfl⟩ := List.mem_map.mp hd
      exact Nat.le_trans (Nat.le_of_eq (show (PyData.int i).depth = 0 from rfl)) (by decide)
    · rw [sorted_ints]
      exact newL_of h2 q
def bi2P (b : Bi) (x y : Val) : Option Val := match b, x, y with
  | .max, .int i, .int j => some (.int (if j > i then j else i))
  | .min, .int i, .int j => some (.int (if j < i then j else i))
  | _, _, _ => none
def biP (h : CH) (b : Bi) (vs : List Val) : Option Val := match vs with
  | [x] => bi1P h b x
  | [x, y] => bi2P b x y
  | _ => none
theorem biP_ok {h : CH} {b : Bi} {vs : List Val} {v : Val} {Q : Val → CH → Prop} {E : Nat → CH → Prop} (e : biP h b vs = some v) (q : Q v h) : biM b vs Q E h := by
  match vs, e with
  | [x], e => exact bi1P_ok e q
  | [x, y], e =>
    show bi2 b x y Q E h
    have e : bi2P b x y = some v := e
    unfold bi2P at e
    split at e
    · cases e; exact q
    · cases e; exact q
    · cases e
end Mi

set_option Elab.async false
set_option linter.all false
set_option maxRecDepth 100000
set_option maxHeartbeats 4000000
namespace Mi
open PySem L2
/-- what the evaluator knows of the defs -/
structure PG where
  call : CH → Nat → List Sl → Xv Val
  ar : Nat → Option Nat
  ci : CI
instance {i : Int} : Decidable (smallR i) := by unfold smallR; infer_instance
instance {i j : Int} : Decidable (L2.RgOk i j) := by unfold L2.RgOk; infer_instance
def srcP (h : CH) (x : Val) : Option (List Val) := (srcOf h x).map (·.2)
def walkP (h : CH) (k : ItK) (vs : List Val) : Option (List Val) := match k, vs with
  | .seq, [x] => srcP h x
  | .enum, [x] => (lstOf h x).map enumL
  | .zip, [.tup l, .tup r] => some (zipL l r)
  | .zip, [x, y] => (match lstOf h x, lstOf h y with
    | some l, some r => some (zipL l r)
    | _, _ => none)
  | .range, [.int j] => grd (decide (smallR 0 ∧ smallR j)) (rangeL 0 j)
  | .range, [.int i, .int j] => grd (decide (smallR i ∧ smallR j)) (rangeL i j)
  | _, _ => none
def compP (tg : List Nat) (cond : Loc → Xv Bool) (elt : Loc → Xv Val) (ρ : Loc) : List Val → Xv (List Val)
  | [] => xr []
  | v :: vs => xb (xo (bindTg tg v ρ)) fun ρ' => xb (cond ρ') fun b => if b = true then xb (elt ρ') fun x => xb (compP tg cond elt ρ vs) fun r => xr (x :: r) else compP tg cond elt ρ vs
/-- no exception -/
def nx {α : Type} : Xv α → Xv α
  | some (.ok a) => some (.ok a)
  | _ => none
def rkP : Option Bool → Int → Int → Option Val
  | none => fun a b => grd (decide (L2.RgOk a b)) (.tup (rangeL a b))
  | some m => fun a b => if L2.RgOk a b then nwL m (rangeL a b) else none
def negP : Val → Option Val
  | .int i => some (.int (-i))
  | _ => none
/-- what is shown -/
def smallB : PyData → Bool
  | .int i => decide (i.natAbs.log2 < 1920)
  | .str z => decide ((reprText z).length ≤ sizeLine)
  | .list xs => PyProof.Rows.isDisplay (.list xs) && (PyData.list xs).showable && !(PyData.list xs).hasDict && decide ((PyData.list xs).depth ≤ 64) && decide ((PyData.list xs).shown.length ≤ sizeLine)
  | .tuple xs => (PyData.tuple xs).showable && !(PyData.tuple xs).hasDict && decide ((PyData.tuple xs).depth ≤ 64) && decide ((PyData.tuple xs).shown.length ≤ sizeLine)
  | .none => true
  | .bool _ => true
  | .dict _ => false
theorem smallB_ok {d : PyData} (h : smallB d = true) : smallD d := by
  cases d with
  | int i => exact (show i.natAbs.log2 < 1920 from of_decide_eq_true h)
  | str z => exact (show (reprText z).length ≤ sizeLine from of_decide_eq_true h)
  | list xs =>
    have h : (PyProof.Rows.isDisplay (.list xs) && (PyData.list xs).showable && !(PyData.list xs).hasDict && decide ((PyData.list xs).depth ≤ 64) && decide ((PyData.list xs).shown.length ≤ sizeLine)) = true := h
    simp only [Bool.and_eq_true, Bool.not_eq_true', decide_eq_true_eq] at h
    obtain ⟨⟨⟨⟨h1, h2⟩, h3⟩, h4⟩, h5⟩ := h
    exact ⟨h1, h2, h3, h4, h5⟩
  | tuple xs =>
    have h : ((PyData.tuple xs).showable && !(PyData.tuple xs).hasDict && decide ((PyData.tuple xs).depth ≤ 64) && decide ((PyData.tuple xs).shown.length ≤ sizeLine)) = true := h
    simp only [Bool.and_eq_true, Bool.not_eq_true', decide_eq_true_eq] at h
    obtain ⟨⟨⟨h2, h3⟩, h4⟩, h5⟩ := h
    exact ⟨h2, h3, h4, h5⟩
  | none => exact trivial
  | bool b => exact trivial
  | dict _ => cases h
def smD (h : CH) (x : Val) : Option PyData := (toD (deref h x)).bind fun d => if smallB d = true then some d else none
theorem smD_some {h : CH} {x : Val} {d : PyData} (e : smD h x = some d) : toD (deref h x) = some d ∧ smallD d := by
  unfold smD at e
  cases q : toD (deref h x) with
  | none => rw [q] at e; cases e
  | some d' =>
    rw [q] at e
    have e : (if smallB d' = true then some d' else none) = some d := e
    split at e
    · cases e
      exact ⟨rfl, smallB_ok (by assumption)⟩
    · cases e
mutual
def evE (G : PG) (h : CH) : E → Loc → Xv Val
  | .skip, _ => xr .non
  | .var i, ρ => xo (getV ρ i)
  | .con v, _ => xr v
  | .gint _ i, _ => xr (.int i)
  | .fn _ f, _ => xr (.fn f)
  | .bin op m a b, ρ => xb (evE G h a ρ) fun x => xb (evE G h b ρ) fun y => xo (binP h op m x y)
  | .neg a, ρ => xb (evE G h a ρ) fun x => xo (negP x)
  | .cmp op a b, ρ => xb (evE G h a ρ) fun x => xb (evE G h b ρ) fun y => xb (xo (cmpP h op x y)) fun c => xr (.bl c)
  | .chain o1 o2 a b c, ρ => xb (evE G h a ρ) fun x => xb (evE G h b ρ) fun y => xb (xo (cmpP h o1 x y)) fun k =>
      if k = true then xb (evE G h c ρ) fun z => xb (xo (cmpP h o2 y z)) fun l => xr (.bl l) else xr (.bl false)
  | .band es, ρ => evAnd G h es ρ
  | .bor es, ρ => evOr G h es ρ
  | .not a, ρ => xb (evE G h a ρ) fun x => xb (xo (truthO h x)) fun b => xr (.bl (!b))
  | .ite c a b, ρ => xb (evE G h c ρ) fun x => xb (xo (truthO h x)) fun k => if k = true then evE G h a ρ else evE G h b ρ
  | .tup es, ρ => xb (evEs G h es ρ) fun vs => xr (.tup vs)
  | .list m es, ρ => xb (evEs G h es ρ) fun vs => xo (nwL m vs)
  | .dict _ _, _ => none
  | .emp, _ => xr .emp
  | .ix a i, ρ => xb (evE G h a ρ) fun x => xb (evE G h i ρ) fun y => xo (ixP h x y)
  | .cut m a lo hi, ρ => xb (evE G h a ρ) fun x => xb (if isSkip lo = true then xr none else xb (evE G h lo ρ) fun v => xb (xo (partO v)) xr) fun l => xb (if isSkip hi = true then xr none else xb (evE G h hi ρ) fun v => xb (xo (partO v)) xr) fun u => xo (cutP h m x l u)
  | .rev m a, ρ => xb (evE G h a ρ) fun x => xo (revP h m x)
  | .comp m tg k its cond elt, ρ => xb (xb (evEs G h its ρ) fun vs => xo (walkP h k vs)) fun l =>
      if l.length ≤ sizeLine then xb (nx (compP tg (fun ρ' => if isSkip cond = true then xr true else xb (evE G h cond ρ') fun x => xo (truthO h x)) (fun ρ' => evE G h elt ρ') (wipeL ρ tg) l)) fun r => xo (nwL m r) else none
  | .call _ f es, ρ => xb (evEs G h es ρ) fun vs => G.call h f (vals vs)
  | .callk _ f es _ kes ord, ρ => xb (evEs G h es ρ) fun vs => xb (evEs G h kes ρ) fun ws => G.call h f (vals (pickL ord (vs ++ ws)))
  | .callc _ f es c, ρ => xb (evEs G h es ρ) fun vs => xb (xo (cloOf ρ c)) fun k => G.call h f (vals vs ++ [k])
  | .callv i [], ρ => xb (xo (cloAt ρ i)) fun p => G.call h p.1 (vals p.2)
  | .callv i (e :: es), ρ => xb (xo (fnAt ρ i)) fun f => if G.ar f = some (e :: es).length then xb (evEs G h (e :: es) ρ) fun vs => G.call h f (vals vs) else none
  | .meth _ _ _, _ => none
  | .make _ _ _, _ => none
  | .bi b es, ρ => xb (evEs G h es ρ) fun vs => xo (biP h b vs)
  | .rng1 k a, ρ => xb (evE G h a ρ) fun x => xb (xo (intOf x)) fun n => xo (rkP k 0 n)
  | .rng2 k a b, ρ => xb (evE G h a ρ) fun x => xb (evE G h b ρ) fun y => xb (xo (intOf x)) fun i => xb (xo (intOf y)) fun j => xo (rkP k i j)
  | .sset _ _, _ => none
  | .lset _, _ => none
  | .bm _ _ _, _ => none
  | .attr _ _, _ => none
  | .isi a t, ρ => xb (evE G h a ρ) fun x => xb (xo (isiP G.ci h t x)) fun b => xr (.bl b)
  | .reprEq n a b, ρ => xb (evE G h a ρ) fun x => xb (xo (smD h x)) fun d => xb (evE G h b ρ) fun y => xb (xo (smD h y)) fun e => xr (.bl (if n then !decide (d.shown = e.shown) else decide (d.shown = e.shown)))
def evEs (G : PG) (h : CH) : List E → Loc → Xv (List Val)
  | [], _ => xr []
  | e :: es, ρ => xb (evE G h e ρ) fun v => xb (evEs G h es ρ) fun vs => xr (v :: vs)
def evAnd (G : PG) (h : CH) : List E → Loc → Xv Val
  | [], _ => none
  | [e], ρ => evE G h e ρ
  | e :: es, ρ => xb (evE G h e ρ) fun x => xb (xo (truthO h x)) fun b => if b = true then evAnd G h es ρ else xr x
def evOr (G : PG) (h : CH) : List E → Loc → Xv Val
  | [], _ => none
  | [e], ρ => evE G h e ρ
  | e :: es, ρ => xb (evE G h e ρ) fun x => xb (xo (truthO h x)) fun b => if b = true then xr x else evOr G h es ρ
end
/-- the two agree -/
structure PGok (D : DG) (G : PG) : Prop where
  call : ∀ h f ss, XOk (D.call f ss) h (G.call h f ss)
  ar : G.ar = D.ar
  ci : G.ci = D.ci
theorem truthP_ok {h : CH} {x : Val} : XOk (truthM x) h (xo (truthO h x)) := .xo fun b e Q E q => by unfold truthM; rw [e]; exact q
theorem walkP_ok {h : CH} {k : ItK} {vs l : List Val} (e : walkP h k vs = some l) : ∃ s : Src, s.ok h ∧ ∀ Q E, Q (s, l) h → walkM k vs Q E h := by
  have sr : ∀ {x : Val} {s : Src} {l : List Val}, srcOf h x = some (s, l) → s.ok h := fun {x s l} e => by
    cases x with
    | tup l => cases e; exact trivial
    | lst l => cases e; exact trivial
    | ref a =>
      have e : (match h a with
        | some (.list l) => some (Src.live a l, l)
        | _ => none) = some (s, l) := e
      split at e
      · rename_i l' h1
        cases e
        exact h1
      · cases e
    | _ => cases e
  have ls : ∀ {x : Val} {l : List Val}, lstOf h x = some l → ∃ s, srcOf h x = some (s, l) := fun {x l} e => by
    cases x with
    | lst l => cases e; exact ⟨_, rfl⟩
    | ref a =>
      have e : (match h a with
        | some (.list l) => some l
        | _ => none) = some l := e
      split at e
      · rename_i l' h1
        cases e
        refine ⟨.live a l, ?_⟩
        show (match h a with
          | some (.list l) => some (Src.live a l, l)
          | _ => none) = _
        rw [h1]
      · cases e
    | _ => cases e
  unfold walkP at e
  split at e
  · rename_i x
    obtain ⟨p, h1, rfl⟩ := map_some e
    obtain ⟨s, l⟩ := p
    refine ⟨s, sr h1, fun Q E q => ?_⟩
    show seqW x Q E h
    unfold seqW
    rw [h1]
    exact q
  · rename_i x
    obtain ⟨p, h1, rfl⟩ := map_some e
    obtain ⟨s, h2⟩ := ls h1
    refine ⟨s, sr h2, fun Q E q => ?_⟩
    show enumW x Q E h
    unfold enumW
    rw [h1, h2]
    exact q
  · cases e
    exact ⟨.fixed, trivial, fun Q E q => q⟩
  · rename_i x y hn
    split at e
    · rename_i l r h1 h2
      cases e
      obtain ⟨s, h3⟩ := ls h1
      obtain ⟨t, h4⟩ := ls h2
      refine ⟨.both s t, ⟨sr h3, sr h4⟩, fun Q E q => ?_⟩
      show zipW x y Q E h
      unfold zipW
      split
      · rename_i l' r'
        exact (hn l' r' rfl rfl).elim
      · rw [h1, h2, h3, h4]
        exact q
    · cases e
  · rename_i j
    obtain ⟨g, rfl⟩ := grd_some e
    obtain ⟨g1, g2⟩ := of_decide_eq_true g
    exact ⟨.fixed, trivial, fun Q E q => ⟨g1, g2, q⟩⟩
  · rename_i i j
    obtain ⟨g, rfl⟩ := grd_some e
    obtain ⟨g1, g2⟩ := of_decide_eq_true g
    exact ⟨.fixed, trivial, fun Q E q => ⟨g1, g2, q⟩⟩
  · cases e
theorem compP_ok {h : CH} {s : Src} {tg : List Nat} {cond : Loc → M Bool} {elt : Loc → M Val} {c' : Loc → Xv Bool} {e' : Loc → Xv Val} {ρ : Loc} (hs : s.ok h) (hc : ∀ ρ, XOk (cond ρ) h (c' ρ)) (he : ∀ ρ, XOk (elt ρ) h (e' ρ)) :
    ∀ (l : List Val) (r : List Val), compP tg c' e' ρ l = xr r → ∀ Q E, Q r h → compGo s tg cond elt ρ l Q E h
  | [], r, e, Q, E, q => by cases e; exact ⟨hs, q⟩
  | v :: vs, r, e, Q, E, q => by
    have e : xb (xo (bindTg tg v ρ)) (fun ρ' => xb (c' ρ') fun b => if b = true then xb (e' ρ') fun x => xb (compP tg c' e' ρ vs) fun r => xr (x :: r) else compP tg c' e' ρ vs) = xr r := e
    refine ⟨hs, ?_⟩
    cases h1 : bindTg tg v ρ with
    | none => rw [h1] at e; cases e
    | some ρ' =>
      rw [h1] at e
      have e : xb (c' ρ') (fun b => if b = true then xb (e' ρ') fun x => xb (compP tg c' e' ρ vs) fun r => xr (x :: r) else compP tg c' e' ρ vs) = xr r := e
      have hc' := hc ρ'
      match q1 : c' ρ', e, hc' with
      | none, e, _ => cases e
      | some (.error c), e, _ => cases e
      | some (.ok false), e, k =>
        exact k _ E (compP_ok hs hc he vs r e Q E q)
      | some (.ok true), e, k =>
        refine k _ E ?_
        have e : xb (e' ρ') (fun x => xb (compP tg c' e' ρ vs) fun r => xr (x :: r)) = xr r := e
        have he' := he ρ'
        show elt ρ' _ E h
        match q2 : e' ρ', e, he' with
        | none, e, _ => cases e
        | some (.error c), e, _ => cases e
        | some (.ok x), e, k2 =>
          refine k2 _ E ?_
          have e : xb (compP tg c' e' ρ vs) (fun r => xr (x :: r)) = xr r := e
          match q3 : compP tg c' e' ρ vs, e with
          | none, e => cases e
          | some (.error c), e => cases e
          | some (.ok r'), e =>
            cases e
            exact compP_ok hs hc he vs r' q3 _ E q
theorem rkP_ok {k : Option Bool} {i j : Int} {v : Val} {h : CH} {Q : Val → CH → Prop} {E : Nat → CH → Prop} (e : rkP k i j = some v) (q : Q v h) : rkM k i j Q E h := by
  cases k with
  | none =>
    obtain ⟨g, rfl⟩ := grd_some (show grd (decide (L2.RgOk i j)) (Val.tup (rangeL i j)) = some v from e)
    exact ⟨of_decide_eq_true g, q⟩
  | some m =>
    have e : (if L2.RgOk i j then nwL m (rangeL i j) else none) = some v := e
    split at e
    · exact ⟨by assumption, newL_of e q⟩
    · cases e
section
variable {D : DG} {G : PG} {h : CH} (ok : PGok D G)
include ok
mutual
theorem evE_ok : ∀ (e : E) (ρ : Loc), XOk (denE D e ρ) h (evE G h e ρ)
  | .skip, ρ => by rw [evE, denE]; exact .ret
  | .var i, ρ => by rw [evE, denE]; exact .xo fun a e Q E q => by rw [e]; exact q
  | .con v, ρ => by rw [evE, denE]; exact .ret
  | .gint _ i, ρ => by rw [evE, denE]; exact .ret
  | .fn _ f, ρ => by rw [evE, denE]; exact .ret
  | .bin op m a b, ρ => by rw [evE, denE]; exact .bnd (evE_ok a ρ) fun x _ => .bnd (evE_ok b ρ) fun y _ => .xo fun z e Q E q => binP_ok e q
  | .neg a, ρ => by
    rw [evE, denE]
    refine .bnd (evE_ok a ρ) fun x _ => .xo fun z e Q E q => ?_
    cases x <;> first | (cases e; exact q) | cases e
  | .cmp op a b, ρ => by rw [evE, denE]; exact .bnd (evE_ok a ρ) fun x _ => .bnd (evE_ok b ρ) fun y _ => .bnd (.xo fun z e Q E q => cmpP_ok e q) fun c _ => .ret
  | .chain o1 o2 a b c, ρ => by
    rw [evE, denE]
    exact .bnd (evE_ok a ρ) fun x _ => .bnd (evE_ok b ρ) fun y _ => .bnd (.xo fun z e Q E q => cmpP_ok e q) fun k _ => .ite (.bnd (evE_ok c ρ) fun z _ => .bnd (.xo fun z e Q E q => cmpP_ok e q) fun l _ => .ret) .ret
  | .band es, ρ => by rw [evE, denE]; exact evAnd_ok es ρ
  | .bor es, ρ => by rw [evE, denE]; exact evOr_ok es ρ
  | .not a, ρ => by rw [evE, denE]; exact .bnd (evE_ok a ρ) fun x _ => .bnd truthP_ok fun b _ => .ret
  | .ite c a b, ρ => by rw [evE, denE]; exact .bnd (evE_ok c ρ) fun x _ => .bnd truthP_ok fun k _ => .ite (evE_ok a ρ) (evE_ok b ρ)
  | .tup es, ρ => by rw [evE, denE]; exact .bnd (evEs_ok es ρ) fun vs _ => .ret
  | .list m es, ρ => by rw [evE, denE]; exact .bnd (evEs_ok es ρ) fun vs _ => .xo fun v e Q E q => newL_of e q
  | .dict _ _, ρ => by rw [evE]; exact .none
  | .emp, ρ => by rw [evE, denE]; exact .ret
  | .ix a i, ρ => by rw [evE, denE]; exact .bnd (evE_ok a ρ) fun x _ => .bnd (evE_ok i ρ) fun y _ => .xo fun z e Q E q => ixP_ok e q
  | .cut m a lo hi, ρ => by
    rw [evE, denE]
    refine .bnd (evE_ok a ρ) fun x _ => .bnd (.ite .ret (.bnd (evE_ok lo ρ) fun v _ => .opt fun x => .ret)) fun l _ => .bnd (.ite .ret (.bnd (evE_ok hi ρ) fun v _ => .opt fun x => .ret)) fun u _ => .xo fun z e Q E q => cutP_ok e q
  | .rev m a, ρ => by rw [evE, denE]; exact .bnd (evE_ok a ρ) fun x _ => .xo fun z e Q E q => revP_ok e q
  | .comp m tg k its cond elt, ρ => by
    rw [evE, denE]
    have hc : ∀ ρ, XOk (if isSkip cond = true then ret true else bnd (denE D cond ρ) truthM) h (if isSkip cond = true then xr true else xb (evE G h cond ρ) fun x => xo (truthO h x)) := fun ρ => .ite .ret (.bnd (evE_ok cond ρ) fun x _ => truthP_ok)
    have he : ∀ ρ, XOk (denE D elt ρ) h (evE G h elt ρ) := fun ρ => evE_ok elt ρ
    have ev := evEs_ok its ρ
    match q1 : evEs G h its ρ, ev with
    | none, _ => exact .none
    | some (.error c), ev => exact fun Q E q => ev _ E q
    | some (.ok vs), ev =>
      show XOk _ h (xb (xo (walkP h k vs)) _)
      cases q2 : walkP h k vs with
      | none => exact .none
      | some l =>
        obtain ⟨s, hs, hw⟩ := walkP_ok q2
        show XOk _ h (if l.length ≤ sizeLine then _ else none)
        by_cases hl : l.length ≤ sizeLine
        · rw [if_pos hl]
          match q3 : compP tg (fun ρ' => if isSkip cond = true then xr true else xb (evE G h cond ρ') fun x => xo (truthO h x)) (fun ρ' => evE G h elt ρ') (wipeL ρ tg) l with
          | none => exact .none
          | some (.error c) => exact .none
          | some (.ok r) =>
            show XOk _ h (xo (nwL m r))
            refine .xo fun v e Q E q => ev _ E (hw _ _ ?_)
            exact ⟨hl, compP_ok hs hc he l r q3 _ _ (newL_of e q)⟩
        · rw [if_neg hl]
          exact .none
  | .call _ f es, ρ => by rw [evE, denE]; exact .bnd (evEs_ok es ρ) fun vs _ => ok.call _ _ _
  | .callk _ f es _ kes ord, ρ => by rw [evE, denE]; exact .bnd (evEs_ok es ρ) fun vs _ => .bnd (evEs_ok kes ρ) fun ws _ => ok.call _ _ _
  | .callc _ f es c, ρ => by rw [evE, denE]; exact .bnd (evEs_ok es ρ) fun vs _ => .opt fun k => ok.call _ _ _
  | .callv i [], ρ => by rw [evE, denE]; exact .opt fun p => ok.call _ _ _
  | .callv i (e :: es), ρ => by
    rw [evE, denE]
    refine .opt fun f => ?_
    split
    · rename_i ha
      have b : XOk (bnd (denEs D (e :: es) ρ) fun vs => D.call f (vals vs)) h (xb (evEs G h (e :: es) ρ) fun vs => G.call h f (vals vs)) := .bnd (evEs_ok (e :: es) ρ) fun vs _ => ok.call _ _ _
      rw [ok.ar] at ha
      match q1 : (xb (evEs G h (e :: es) ρ) fun vs => G.call h f (vals vs)), b with
      | none, _ => exact .none
      | some (.ok v), b => exact fun Q E q => ⟨ha, b Q E q⟩
      | some (.error c), b => exact fun Q E q => ⟨ha, b Q E q⟩
    · exact .none
  | .meth _ _ _, ρ => by rw [evE]; exact .none
  | .make _ _ _, ρ => by rw [evE]; exact .none
  | .bi b es, ρ => by rw [evE, denE]; exact .bnd (evEs_ok es ρ) fun vs _ => .xo fun z e Q E q => biP_ok e q
  | .rng1 k a, ρ => by rw [evE, denE]; exact .bnd (evE_ok a ρ) fun x _ => .opt fun n => .xo fun z e Q E q => rkP_ok e q
  | .rng2 k a b, ρ => by rw [evE, denE]; exact .bnd (evE_ok a ρ) fun x _ => .bnd (evE_ok b ρ) fun y _ => .opt fun i => .opt fun j => .xo fun z e Q E q => rkP_ok e q
  | .sset _ _, ρ => by rw [evE]; exact .none
  | .lset _, ρ => by rw [evE]; exact .none
  | .bm _ _ _, ρ => by rw [evE]; exact .none
  | .attr _ _, ρ => by rw [evE]; exact .none
  | .isi a t, ρ => by
    rw [evE, denE, ok.ci]
    refine .bnd (evE_ok a ρ) fun x _ => ?_
    cases q1 : isiP D.ci h t x with
    | none => exact .none
    | some b => exact fun Q E q => isiP_ok q1 q
  | .reprEq n a b, ρ => by
    rw [evE, denE]
    unfold reprEqM
    refine .bnd (evE_ok a ρ) fun x _ => ?_
    cases q1 : smD h x with
    | none => exact .none
    | some d =>
      obtain ⟨d1, d2⟩ := smD_some q1
      have k : XOk (bnd (denE D b ρ) fun y => fun Q _ h => ∃ e, toD (deref h y) = some e ∧ smallD e ∧ Q (Val.bl (if n then !decide (d.shown = e.shown) else decide (d.shown = e.shown))) h) h
          (xb (evE G h b ρ) fun y => xb (xo (smD h y)) fun e => xr (Val.bl (if n then !decide (d.shown = e.shown) else decide (d.shown = e.shown)))) := by
        refine .bnd (evE_ok b ρ) fun y _ => ?_
        cases q2 : smD h y with
        | none => exact .none
        | some e =>
          obtain ⟨e1, e2⟩ := smD_some q2
          exact fun Q E q => ⟨e, e1, e2, q⟩
      show XOk (fun Q E h => ∃ d, toD (deref h x) = some d ∧ smallD d ∧ (bnd (denE D b ρ) fun y => fun Q _ h => ∃ e, toD (deref h y) = some e ∧ smallD e ∧ Q (Val.bl (if n then !decide (d.shown = e.shown) else decide (d.shown = e.shown))) h) Q E h) h (xb (evE G h b ρ) fun y => xb (xo (smD h y)) fun e => xr (Val.bl (if n then !decide (d.shown = e.shown) else decide (d.shown = e.shown))))
      match (xb (evE G h b ρ) fun y => xb (xo (smD h y)) fun e => xr (Val.bl (if n then !decide (d.shown = e.shown) else decide (d.shown = e.shown)))), k with
      | none, _ => exact .none
      | some (.ok v), k => exact fun Q E q => ⟨d, d1, d2, k Q E q⟩
      | some (.error c), k => exact fun Q E q => ⟨d, d1, d2, k Q E q⟩
theorem evEs_ok : ∀ (es : List E) (ρ : Loc), XOk (denEs D es ρ) h (evEs G h es ρ)
  | [], ρ => by rw [evEs, denEs]; exact .ret
  | e :: es, ρ => by rw [evEs, denEs]; exact .bnd (evE_ok e ρ) fun v _ => .bnd (evEs_ok es ρ) fun vs _ => .ret
theorem evAnd_ok : ∀ (es : List E) (ρ : Loc), XOk (denAnd D es ρ) h (evAnd G h es ρ)
  | [], ρ => by rw [evAnd]; exact .none
  | [e], ρ => by rw [evAnd, denAnd]; exact evE_ok e ρ
  | e :: f :: es, ρ => by 
    rw [evAnd, denAnd]
    · exact .bnd (evE_ok e ρ) fun x _ => .bnd truthP_ok fun b _ => .ite (evAnd_ok (f :: es) ρ) .ret
    all_goals (intro z; cases z)
theorem evOr_ok : ∀ (es : List E) (ρ : Loc), XOk (denOr D es ρ) h (evOr G h es ρ)
  | [], ρ => by rw [evOr]; exact .none
  | [e], ρ => by rw [evOr, denOr]; exact evE_ok e ρ
  | e :: f :: es, ρ => by 
    rw [evOr, denOr]
    · exact .bnd (evE_ok e ρ) fun x _ => .bnd truthP_ok fun b _ => .ite .ret (evOr_ok (f :: es) ρ)
    all_goals (intro z; cases z)
end
end
end Mi

set_option Elab.async false
set_option linter.all false
set_option maxRecDepth 100000
set_option maxHeartbeats 4000000
namespace Mi
open PySem L2
def forP (tg : List Nat) (body : Loc → Xv Out) : List Val → Loc → Xv Out
  | [], ρ => xr (.nx ρ)
  | v :: vs, ρ => xb (xo (bindTg tg v ρ)) fun ρ' => xb (body ρ') fun o => match o with
    | .nx ρ2 => forP tg body vs ρ2
    | .ct ρ2 => forP tg body vs ρ2
    | .rt v => xr (.rt v)
def trycP (I : CI) (c n j : Nat) (r : Xv Val) (ρ : Loc) : Xv Out := match r with
  | some (.ok _) => xr (.nx (ρ.set n none))
  | some (.error d) => (match I.exm d c with
    | some true => xr (.nx ((setV ρ j (.exc d)).set n none))
    | some false => some (.error d)
    | none => none)
  | none => none
mutual
def evS (G : PG) (h : CH) : S → Loc → Xv Out
  | .set i e, ρ => xb (evE G h e ρ) fun v => xr (.nx (setV ρ i v))
  | .setT is e, ρ => xb (evE G h e ρ) fun v => xb (xo ((tupOf v).bind (setVs ρ is))) fun ρ' => xr (.nx ρ')
  | .par is es, ρ => xb (evEs G h es ρ) fun vs => xb (xo (setVs ρ is vs)) fun ρ' => xr (.nx ρ')
  | .setI _ _ _, _ => none
  | .setA _ _ _, _ => none
  | .ex e, ρ => xb (evE G h e ρ) fun _ => xr (.nx ρ)
  | .ite c a b, ρ => xb (evE G h c ρ) fun x => xb (xo (truthO h x)) fun k => if k = true then evSs G h a ρ else evSs G h b ρ
  | .for tg k its body, ρ => xb (evEs G h its ρ) fun vs => xb (xo (walkP h k vs)) fun l => forP tg (fun ρ' => evSs G h body ρ') l ρ
  | .while _ _, _ => none
  | .ret e, ρ => xb (evE G h e ρ) fun v => xr (.rt v)
  | .retN, _ => xr (.rt .non)
  | .cont, ρ => xr (.ct ρ)
  | .pass, ρ => xr (.nx ρ)
  | .raise _ c, _ => some (.error c)
  | .tryc i _ c n j, ρ => trycP G.ci c n j (xb (xo (cloAt ρ i)) fun p => G.call h p.1 (vals p.2)) ρ
  | .forlam _ _ _ _ _ _, _ => none
def evSs (G : PG) (h : CH) : List S → Loc → Xv Out
  | [], ρ => xr (.nx ρ)
  | s :: ss, ρ => xb (evS G h s ρ) fun o => match o with
    | .nx ρ' => evSs G h ss ρ'
    | o => xr o
end
def evFun (G : PG) (h : CH) (f : Fun) (args : List Sl) : Xv Val := if args.length = f.ps then xb (evSs G h f.body (start f.n args)) fun o => match o with
  | .nx _ => xr .non
  | .rt v => xr v
  | .ct _ => none
  else none
def evR (T : Tab) : Nat → CH → Nat → List Sl → Xv Val
  | 0, _, _, _ => none
  | n + 1, h, f, args => match T.fs[f]? with
    | some (.code g) => evFun ⟨evR T n, T.ar, T.ci⟩ h g args
    | _ => none
theorem forP_ok {h : CH} {s : Src} {tg : List Nat} {body : Loc → M Out} {b' : Loc → Xv Out} (hs : s.ok h) (hb : ∀ ρ, XOk (body ρ) h (b' ρ)) : ∀ (l : List Val) (ρ : Loc), XOk (forGo s tg body l ρ) h (forP tg b' l ρ)
  | [], ρ => fun Q E q => ⟨hs, q⟩
  | v :: vs, ρ => by
    show XOk _ h (xb (xo (bindTg tg v ρ)) fun ρ' => xb (b' ρ') fun o => match o with
      | .nx ρ2 => forP tg b' vs ρ2
      | .ct ρ2 => forP tg b' vs ρ2
      | .rt v => xr (.rt v))
    cases q1 : bindTg tg v ρ with
    | none => exact .none
    | some ρ' =>
      show XOk _ h (xb (b' ρ') fun o => match o with
        | .nx ρ2 => forP tg b' vs ρ2
        | .ct ρ2 => forP tg b' vs ρ2
        | .rt v => xr (.rt v))
      have k : XOk (bnd (body ρ') fun o => match o with
        | .nx ρ2 => forGo s tg body vs ρ2
        | .ct ρ2 => forGo s tg body vs ρ2
        | .rt v => ret (.rt v)) h (xb (b' ρ') fun o => match o with
        | .nx ρ2 => forP tg b' vs ρ2
        | .ct ρ2 => forP tg b' vs ρ2
        | .rt v => xr (.rt v)) := .bnd (hb ρ') fun o _ => match o with
        | .nx ρ2 => forP_ok hs hb vs ρ2
        | .ct ρ2 => forP_ok hs hb vs ρ2
        | .rt v => .ret
      have conv : ∀ Q E, (bnd (body ρ') fun o => match o with
        | .nx ρ2 => forGo s tg body vs ρ2
        | .ct ρ2 => forGo s tg body vs ρ2
        | .rt v => ret (.rt v)) Q E h → forGo s tg body (v :: vs) ρ Q E h := fun Q E w => by
        refine ⟨hs, ?_⟩
        rw [q1]
        have e : (fun o h1 => (match o with
          | .nx ρ2 => forGo s tg body vs ρ2
          | .ct ρ2 => forGo s tg body vs ρ2
          | .rt v => ret (.rt v) : M Out) Q E h1) = fun (o : Out) h1 => match o with
          | .nx ρ2 => forGo s tg body vs ρ2 Q E h1
          | .ct ρ2 => forGo s tg body vs ρ2 Q E h1
          | .rt v => Q (.rt v) h1 := by
          funext o h1
          cases o <;> rfl
        have w : body ρ' (fun o h1 => (match o with
          | .nx ρ2 => forGo s tg body vs ρ2
          | .ct ρ2 => forGo s tg body vs ρ2
          | .rt v => ret (.rt v) : M Out) Q E h1) E h := w
        rw [e] at w
        exact w
      match q2 : (xb (b' ρ') fun o => match o with
        | .nx ρ2 => forP tg b' vs ρ2
        | .ct ρ2 => forP tg b' vs ρ2
        | .rt v => xr (.rt v)), k with
      | none, _ => exact .none
      | some (.ok v), k => exact fun Q E q => conv Q E (k Q E q)
      | some (.error c), k => exact fun Q E q => conv Q E (k Q E q)
section
variable {D : DG} {G : PG} {h : CH} (ok : PGok D G)
include ok
mutual
theorem evS_ok : ∀ (s : S) (ρ : Loc), XOk (denS D s ρ) h (evS G h s ρ)
  | .set i e, ρ => by rw [evS, denS]; exact .bnd (evE_ok ok e ρ) fun v _ => .ret
  | .setT is e, ρ => by rw [evS, denS]; exact .bnd (evE_ok ok e ρ) fun v _ => .opt fun ρ' => .ret
  | .par is es, ρ => by rw [evS, denS]; exact .bnd (evEs_ok ok es ρ) fun v _ => .opt fun ρ' => .ret
  | .setI _ _ _, ρ => by rw [evS]; exact .none
  | .setA _ _ _, ρ => by rw [evS]; exact .none
  | .ex e, ρ => by rw [evS, denS]; exact .bnd (evE_ok ok e ρ) fun v _ => .ret
  | .ite c a b, ρ => by rw [evS, denS]; exact .bnd (evE_ok ok c ρ) fun v _ => .bnd truthP_ok fun k _ => .ite (evSs_ok a ρ) (evSs_ok b ρ)
  | .for tg k its body, ρ => by
    rw [evS, denS]
    refine .bnd (evEs_ok ok its ρ) fun vs _ => ?_
    cases q : walkP h k vs with
    | none => exact .none
    | some l =>
      obtain ⟨s, hs, hw⟩ := walkP_ok q
      have := forP_ok (tg := tg) (body := fun ρ' => denSs D body ρ') (b' := fun ρ' => evSs G h body ρ') hs (fun ρ => evSs_ok body ρ) l ρ
      show XOk _ h (forP tg (fun ρ' => evSs G h body ρ') l ρ)
      match q2 : forP tg (fun ρ' => evSs G h body ρ') l ρ, this with
      | none, _ => exact .none
      | some (.ok v), k => exact fun Q E q => hw _ E (k Q E q)
      | some (.error c), k => exact fun Q E q => hw _ E (k Q E q)
  | .while _ _, ρ => by rw [evS]; exact .none
  | .ret e, ρ => by rw [evS, denS]; exact .bnd (evE_ok ok e ρ) fun v _ => .ret
  | .retN, ρ => by rw [evS, denS]; exact .ret
  | .cont, ρ => by rw [evS, denS]; exact .ret
  | .pass, ρ => by rw [evS, denS]; exact .ret
  | .raise _ c, ρ => by rw [evS, denS]; exact .err
  | .tryc i _ c n j, ρ => by
    rw [evS, denS, ok.ci]
    have k : XOk (callcM D.call i ρ) h (xb (xo (cloAt ρ i)) fun p => G.call h p.1 (vals p.2)) := .opt fun p => ok.call _ _ _
    match q : (xb (xo (cloAt ρ i)) fun p => G.call h p.1 (vals p.2)), k with
    | none, _ => exact .none
    | some (.ok v), k => exact fun Q E q => k _ _ q
    | some (.error d), k =>
      show XOk _ h (match D.ci.exm d c with
        | some true => xr (Out.nx ((setV ρ j (.exc d)).set n none))
        | some false => some (.error d)
        | none => none)
      cases q2 : D.ci.exm d c with
      | none => exact .none
      | some b =>
        cases b with
        | true => exact fun Q E q => k _ _ (by rw [q2]; exact q)
        | false => exact fun Q E q => k _ _ (by rw [q2]; exact q)
  | .forlam _ _ _ _ _ _, ρ => by rw [evS]; exact .none
theorem evSs_ok : ∀ (ss : List S) (ρ : Loc), XOk (denSs D ss ρ) h (evSs G h ss ρ)
  | [], ρ => by rw [evSs, denSs]; exact .ret
  | s :: ss, ρ => by
    rw [evSs, denSs]
    refine .bnd (evS_ok s ρ) fun o _ => ?_
    cases o with
    | nx ρ' => exact evSs_ok ss ρ'
    | rt v => exact .ret
    | ct ρ' => exact .ret
end
end
theorem evFun_ok {D : DG} {G : PG} {h : CH} (ok : PGok D G) (f : Fun) (args : List Sl) : XOk (runFun D f args) h (evFun G h f args) := by
  unfold evFun runFun
  by_cases hl : args.length = f.ps
  · rw [if_pos hl, if_pos hl]
    have k : XOk (bnd (denSs D f.body (start f.n args)) fun o => match o with
      | .nx _ => ret .non
      | .rt v => ret v
      | .ct _ => stuck) h (xb (evSs G h f.body (start f.n args)) fun o => match o with
      | .nx _ => xr .non
      | .rt v => xr v
      | .ct _ => none) := .bnd (evSs_ok ok f.body _) fun (o : Out) _ => match o with
      | .nx _ => .ret
      | .rt v => .ret
      | .ct _ => .none
    match q : (xb (evSs G h f.body (start f.n args)) fun o => match o with
      | .nx _ => xr .non
      | .rt v => xr v
      | .ct _ => none), k with
    | none, _ => exact .none
    | some (.ok v), k =>
      intro Q E q
      unfold dropM
      split
      · exact k _ _ (by rw [CH.keep_self]; exact q)
      · exact k _ _ q
    | some (.error c), k =>
      intro Q E q
      unfold dropM
      split
      · exact k _ _ (by rw [CH.keep_self]; exact q)
      · exact k _ _ q
  · rw [if_neg hl, if_neg hl]
    exact .none
theorem evR_ok (T : Tab) : ∀ (n : Nat) (h : CH) (f : Nat) (args : List Sl), XOk (run T n f args) h (evR T n h f args)
  | 0, h, f, args => .none
  | n + 1, h, f, args => by
    have ok : PGok (T.dg (run T n)) ⟨evR T n, T.ar, T.ci⟩ := ⟨fun h f ss => evR_ok T n h f ss, rfl, rfl⟩
    show XOk (match T.fs[f]? with
      | some (.code g) => runFun (T.dg (run T n)) g args
      | some (.prim m) => m args
      | none => stuck) h (match T.fs[f]? with
      | some (.code g) => evFun ⟨evR T n, T.ar, T.ci⟩ h g args
      | _ => none)
    cases T.fs[f]? with
    | none => exact .none
    | some en =>
      cases en with
      | code g => exact evFun_ok ok g args
      | prim m => exact .none
theorem pgok (T : Tab) (n : Nat) : PGok (T.dg (run T n)) ⟨evR T n, T.ar, T.ci⟩ := ⟨fun h f ss => evR_ok T n h f ss, rfl, rfl⟩
end Mi

set_option Elab.async false
set_option linter.all false
set_option maxRecDepth 100000
set_option maxHeartbeats 4000000
namespace Mi
open PySem L2
/-! ### steps -/
section
variable {D : DG} {G : PG} {h : CH} {ρ ρ' : Loc} {ss : List S} {s : S} {e : E} {v : Val} {c : Nat} {Q : Out → CH → Prop} {Qv : Val → CH → Prop} {E : Nat → CH → Prop}
theorem e_ev (ok : PGok D G) (he : evE G h e ρ = xr v) (q : Qv v h) : denE D e ρ Qv E h := by
  have k := evE_ok ok (h := h) e ρ
  rw [he] at k
  exact k Qv E q
theorem s_ev (ok : PGok D G) (he : evS G h s ρ = xr (.nx ρ')) (w : denSs D ss ρ' Q E h) : denSs D (s :: ss) ρ Q E h := by
  have k := evS_ok ok (h := h) s ρ
  rw [he] at k
  rw [denSs]
  exact k _ E w
theorem s_set {i : Nat} (w : denE D e ρ (fun v h' => denSs D ss (setV ρ i v) Q E h') E h) : denSs D (.set i e :: ss) ρ Q E h := by
  rw [denSs, denS]; exact w
theorem s_ex (w : denE D e ρ (fun v h' => denSs D ss ρ Q E h') E h) : denSs D (.ex e :: ss) ρ Q E h := by
  rw [denSs, denS]; exact w
theorem s_ret (w : denE D e ρ (fun v h' => Q (.rt v) h') E h) : denSs D (.ret e :: ss) ρ Q E h := by
  rw [denSs, denS]; exact w
theorem denSs_app (D : DG) (ss : List S) : ∀ (a : List S) (ρ : Loc), denSs D (a ++ ss) ρ = bnd (denSs D a ρ) fun o => match o with
    | .nx ρ' => denSs D ss ρ'
    | o => ret o
  | [], ρ => by rw [List.nil_append, denSs]
  | s :: a, ρ => by
    have ih := denSs_app D ss a
    rw [List.cons_append, denSs, denSs]
    have e : (fun o : Out => match o with
      | .nx ρ' => denSs D (a ++ ss) ρ'
      | o => ret o) = fun o : Out => bnd (match o with
      | .nx ρ' => denSs D a ρ'
      | o => ret o) (fun o : Out => match o with
      | .nx ρ' => denSs D ss ρ'
      | o => ret o) := by
      funext o
      cases o with
      | nx ρ' => exact ih ρ'
      | _ => rfl
    exact (congrArg (fun k => bnd (denS D s ρ) k) e).trans rfl
theorem s_ite {a b : List S} (w : denE D e ρ (fun x h' => truthM x (fun k h2 => (if k = true then denSs D (a ++ ss) ρ else denSs D (b ++ ss) ρ) Q E h2) E h') E h) : denSs D (.ite e a b :: ss) ρ Q E h := by
  rw [denSs, denS]
  have e3 : (fun k : Bool => if k = true then denSs D (a ++ ss) ρ else denSs D (b ++ ss) ρ) = fun k : Bool => bnd (if k = true then denSs D a ρ else denSs D b ρ) (fun o : Out => match o with
    | .nx ρ' => denSs D ss ρ'
    | o => ret o) := by
    funext k
    cases k
    · exact denSs_app D ss b ρ
    · exact denSs_app D ss a ρ
  have w2 : denE D e ρ (fun x h' => truthM x (fun k h2 => (fun k : Bool => if k = true then denSs D (a ++ ss) ρ else denSs D (b ++ ss) ρ) k Q E h2) E h') E h := w
  rw [e3] at w2
  exact w2
/-- a test that is evaluated -/
theorem s_if {a b : List S} {k : Bool} (ok : PGok D G) (he : evE G h e ρ = xr v) (ht : truthO h v = some k) (w : denSs D ((if k = true then a else b) ++ ss) ρ Q E h) : denSs D (.ite e a b :: ss) ρ Q E h := by
  refine s_ite (e_ev ok he ?_)
  unfold truthM
  rw [ht]
  cases k
  · exact w
  · exact w
theorem s_ev_rt (ok : PGok D G) (he : evS G h s ρ = xr (.rt v)) (w : Q (.rt v) h) : denSs D (s :: ss) ρ Q E h := by
  have k := evS_ok ok (h := h) s ρ
  rw [he] at k
  rw [denSs]
  exact k _ E w
theorem ss_ev {o : Out} (ok : PGok D G) (he : evSs G h ss ρ = xr o) (w : Q o h) : denSs D ss ρ Q E h := by
  have k := evSs_ok ok (h := h) ss ρ
  rw [he] at k
  exact k _ E w
theorem s_setI {o i : Mi.E} (w : denE D e ρ (fun v h1 => denE D o ρ (fun x h2 => denE D i ρ (fun y h3 => setIM x y v (fun _ h4 => denSs D ss ρ Q E h4) E h3) E h2) E h1) E h) : denSs D (.setI o i e :: ss) ρ Q E h := by
  rw [denSs, denS]; exact w
end
/-! expressions that write -/
section
variable {D : DG} {G : PG} {h : CH} {ρ ρ' : Loc} {e a b i o : Mi.E} {es kes : List Mi.E} {v : Val} {m : Bool} {Q : Val → CH → Prop} {Qs : List Val → CH → Prop} {E : Nat → CH → Prop}
theorem es_ev {vs : List Val} (ok : PGok D G) (he : evEs G h es ρ = xr vs) (q : Qs vs h) : denEs D es ρ Qs E h := by
  have k := evEs_ok ok (h := h) es ρ
  rw [he] at k
  exact k Qs E q
theorem es_nil (q : Qs [] h) : denEs D [] ρ Qs E h := by rw [denEs]; exact q
theorem es_cons (w : denE D e ρ (fun v h1 => denEs D es ρ (fun vs h2 => Qs (v :: vs) h2) E h1) E h) : denEs D (e :: es) ρ Qs E h := by rw [denEs]; exact w
theorem e_var {i : Nat} (he : getV ρ i = some v) (q : Q v h) : denE D (.var i) ρ Q E h := by rw [denE, he]; exact q
theorem e_con (q : Q v h) : denE D (.con v) ρ Q E h := by rw [denE]; exact q
theorem e_bin {op : Op} (w : denE D a ρ (fun x h1 => denE D b ρ (fun y h2 => binM op m x y Q E h2) E h1) E h) : denE D (.bin op m a b) ρ Q E h := by rw [denE]; exact w
theorem e_cmp {op : Cm} (w : denE D a ρ (fun x h1 => denE D b ρ (fun y h2 => cmpM op x y (fun c h3 => Q (.bl c) h3) E h2) E h1) E h) : denE D (.cmp op a b) ρ Q E h := by rw [denE]; exact w
theorem e_not (w : denE D a ρ (fun x h1 => truthM x (fun c h3 => Q (.bl (!c)) h3) E h1) E h) : denE D (.not a) ρ Q E h := by rw [denE]; exact w
theorem e_ite {k : Bool} (ok : PGok D G) (he : evE G h e ρ = xr v) (ht : truthO h v = some k) (w : denE D (if k = true then a else b) ρ Q E h) : denE D (.ite e a b) ρ Q E h := by
  rw [denE]
  refine e_ev ok he ?_
  show truthM v _ E h
  unfold truthM
  rw [ht]
  cases k <;> exact w
theorem e_tup (w : denEs D es ρ (fun vs h1 => Q (.tup vs) h1) E h) : denE D (.tup es) ρ Q E h := by rw [denE]; exact w
theorem e_list (w : denEs D es ρ (fun vs h1 => newL m vs Q E h1) E h) : denE D (.list m es) ρ Q E h := by rw [denE]; exact w
theorem e_ix (w : denE D a ρ (fun x h1 => denE D i ρ (fun y h2 => ixM x y Q E h2) E h1) E h) : denE D (.ix a i) ρ Q E h := by rw [denE]; exact w
theorem e_call {x : Str} {f : Nat} (w : denEs D es ρ (fun vs h1 => D.call f (vals vs) Q E h1) E h) : denE D (.call x f es) ρ Q E h := by rw [denE]; exact w
theorem e_callk {x : Str} {f : Nat} {ks : List Str} {ord : List Nat} (w : denEs D es ρ (fun vs h1 => denEs D kes ρ (fun ws h2 => D.call f (vals (pickL ord (vs ++ ws))) Q E h2) E h1) E h) : denE D (.callk x f es ks kes ord) ρ Q E h := by rw [denE]; exact w
theorem e_callc {x : Str} {f : Nat} {c : Clo} {k : Sl} (hk : cloOf ρ c = some k) (w : denEs D es ρ (fun vs h1 => D.call f (vals vs ++ [k]) Q E h1) E h) : denE D (.callc x f es c) ρ Q E h := by
  rw [denE, hk]; exact w
theorem e_bi {x : Bi} (w : denEs D es ρ (fun vs h1 => biM x vs Q E h1) E h) : denE D (.bi x es) ρ Q E h := by rw [denE]; exact w
theorem e_bm {x : Bm} (w : denE D o ρ (fun y h1 => recvOk h1 x y ∧ denEs D es ρ (fun vs h2 => bmM x y vs Q E h2) E h1) E h) : denE D (.bm x o es) ρ Q E h := by rw [denE]; exact w
theorem e_comp {tg : List Nat} {k : ItK} {its : List Mi.E} {cond elt : Mi.E} {vs l r : List Val} (ok : PGok D G) (hi : evEs G h its ρ = xr vs) (hw : walkP h k vs = some l) (hl : l.length ≤ sizeLine)
    (hc : compP tg (fun ρ' => if isSkip cond = true then xr true else xb (evE G h cond ρ') fun x => xo (truthO h x)) (fun ρ' => evE G h elt ρ') (wipeL ρ tg) l = xr r) (w : newL m r Q E h) : denE D (.comp m tg k its cond elt) ρ Q E h := by
  rw [denE]
  have k1 := evEs_ok ok (h := h) its ρ
  rw [hi] at k1
  obtain ⟨s, hs, h2⟩ := walkP_ok hw
  refine k1 _ E (h2 _ E ⟨hl, compP_ok hs (fun ρ => ?_) (fun ρ => evE_ok ok elt ρ) l r hc _ _ ?_⟩)
  · exact .ite .ret (.bnd (evE_ok ok cond ρ) fun x _ => truthP_ok)
  · cases m
    · exact w
    · exact w
theorem e_dict {es : List Mi.E} (w : ∀ p, h p = none → denEs D es ρ (fun r h1 => h1 p = some (.dict false []) ∧ dispM p r Q h1) E (h.set p (.dict false []))) : denE D (.dict false es) ρ Q E h := by
  rw [denE]; exact fun p hp => ⟨rfl, w p hp⟩
end
/-! a def's body -/
theorem run_code {T : Tab} {n f : Nat} {g : Fun} {args : List Sl} {Q : Val → CH → Prop} {E : Nat → CH → Prop} {h : CH} (hf : T.fs[f]? = some (.code g)) (hl : args.length = g.ps) (hd : g.drop = false)
    (w : denSs (T.dg (run T n)) g.body (start g.n args) (fun o h' => match o with
      | .nx _ => Q .non h'
      | .rt v => Q v h'
      | .ct _ => False) E h) : run T (n + 1) f args Q E h := by
  show (match T.fs[f]? with
    | some (.code g) => runFun (T.dg (run T n)) g args
    | some (.prim m) => m args
    | none => stuck) Q E h
  rw [hf]
  show runFun (T.dg (run T n)) g args Q E h
  unfold runFun
  rw [if_pos hl, hd]
  show denSs (T.dg (run T n)) g.body (start g.n args) (fun o h' => (match o with
      | .nx _ => ret .non
      | .rt v => ret v
      | .ct _ => stuck : M Val) Q E h') E h
  have e : (fun o h' => (match o with
      | .nx _ => ret .non
      | .rt v => ret v
      | .ct _ => stuck : M Val) Q E h') = fun (o : Out) h' => match o with
      | .nx _ => Q .non h'
      | .rt v => Q v h'
      | .ct _ => False := by
    funext o h'
    cases o <;> rfl
  rw [e]
  exact w
theorem evR_code {T : Tab} {n f : Nat} {g : Fun} {args : List Sl} {h : CH} (hf : T.fs[f]? = some (.code g)) : evR T (n + 1) h f args = evFun ⟨evR T n, T.ar, T.ci⟩ h g args := by
  show (match T.fs[f]? with
    | some (.code g) => evFun ⟨evR T n, T.ar, T.ci⟩ h g args
    | _ => none) = _
  rw [hf]
theorem run_ev {T : Tab} {n f : Nat} {args : List Sl} {v : Val} {Q : Val → CH → Prop} {E : Nat → CH → Prop} {h : CH} (he : evR T n h f args = xr v) (q : Q v h) : run T n f args Q E h := by
  have k := evR_ok T n h f args
  rw [he] at k
  exact k Q E q
theorem run_er {T : Tab} {n f : Nat} {args : List Sl} {c : Nat} {Q : Val → CH → Prop} {E : Nat → CH → Prop} {h : CH} (he : evR T n h f args = some (.error c)) (q : E c h) : run T n f args Q E h := by
  have k := evR_ok T n h f args
  rw [he] at k
  exact k Q E q
/-! single steps -/
theorem bin_mulr {h : CH} {m : Bool} {i j : Int} (h1 : -(2 ^ 64) < j) (h2 : j < 2 ^ 64) : binP h .mul m (.int i) (.int j) = some (.int (i * j)) := by
  show grd (decide (CMul i j)) _ = _
  rw [decide_eq_true (.inr ⟨h1, h2⟩)] <;> rfl
theorem bin_mull {h : CH} {m : Bool} {i j : Int} (h1 : -(2 ^ 64) < i) (h2 : i < 2 ^ 64) : binP h .mul m (.int i) (.int j) = some (.int (i * j)) := by
  show grd (decide (CMul i j)) _ = _
  rw [decide_eq_true (.inl ⟨h1, h2⟩)] <;> rfl
theorem bin_fdiv {h : CH} {m : Bool} {i j : Int} (h1 : 0 < j) (h2 : j < 1073741824) : binP h .fdiv m (.int i) (.int j) = some (.int (i / j)) := by
  show grd (decide (CDiv i j)) _ = _
  rw [decide_eq_true (show CDiv i j from ⟨h1, h2⟩)] <;> rfl
theorem bin_mod {h : CH} {m : Bool} {i j : Int} (h1 : 0 < j) : binP h .mod m (.int i) (.int j) = some (.int (i % j)) := by
  show grd (decide (0 < j)) _ = _
  rw [decide_eq_true h1] <;> rfl
theorem bin_pow {h : CH} {m : Bool} {i j : Int} (h1 : 0 ≤ j) (h2 : j ≤ 1000000) (h3 : i.natAbs < 2 ^ 64) : binP h .pow m (.int i) (.int j) = some (.int (i ^ j.toNat)) := by
  show grd (decide (CPow i j)) _ = _
  rw [decide_eq_true (show CPow i j from ⟨h1, h2, h3⟩)] <;> rfl
theorem bin_add {h : CH} {m : Bool} {i j : Int} : binP h .add m (.int i) (.int j) = some (.int (i + j)) := rfl
theorem bin_sub {h : CH} {m : Bool} {i j : Int} : binP h .sub m (.int i) (.int j) = some (.int (i - j)) := rfl
/-! loops with an invariant of what is done -/
theorem forP_inv {tg : List Nat} {body : Loc → Xv Out} (I : List Val → Loc → Prop) : ∀ (l done : List Val) (ρ : Loc), (∀ p v r ρ, done ++ l = p ++ v :: r → I p ρ → ∃ ρ1 ρ2, bindTg tg v ρ = some ρ1 ∧ (body ρ1 = xr (.nx ρ2) ∨ body ρ1 = xr (.ct ρ2)) ∧ I (p ++ [v]) ρ2) → I done ρ → ∃ ρ', forP tg body l ρ = xr (.nx ρ') ∧ I (done ++ l) ρ'
  | [], done, ρ, _, hI => ⟨ρ, rfl, by rw [List.append_nil]; exact hI⟩
  | v :: l, done, ρ, st, hI => by
    obtain ⟨ρ1, ρ2, h1, h2, h3⟩ := st done v l ρ rfl hI
    obtain ⟨ρ', h4, h5⟩ := forP_inv I l (done ++ [v]) ρ2 (fun p w r ρ e => st p w r ρ (by rw [← e]; simp)) h3
    refine ⟨ρ', ?_, by simpa using h5⟩
    unfold forP
    rw [h1]
    show xb (body ρ1) _ = _
    rcases h2 with h2 | h2 <;> (rw [h2]; exact h4)
/-- .. told of the items only -/
theorem forP_all {tg : List Nat} {body : Loc → Xv Out} (I : Loc → Prop) (l : List Val) (ρ : Loc) (st : ∀ v ∈ l, ∀ ρ, I ρ → ∃ ρ1 ρ2, bindTg tg v ρ = some ρ1 ∧ (body ρ1 = xr (.nx ρ2) ∨ body ρ1 = xr (.ct ρ2)) ∧ I ρ2) (hI : I ρ) : ∃ ρ', forP tg body l ρ = xr (.nx ρ') ∧ I ρ' :=
  forP_inv (fun _ => I) l [] ρ (fun p v r ρ e => st v (by have : l = p ++ v :: r := e; rw [this]; simp) ρ) hI
/-! comprehensions -/
theorem compP_all {tg : List Nat} {cond : Loc → Xv Bool} {elt : Loc → Xv Val} {ρ : Loc} (c : Val → Bool) (f : Val → Val) : ∀ (l : List Val), (∀ v ∈ l, ∃ ρ', bindTg tg v ρ = some ρ' ∧ cond ρ' = xr (c v) ∧ (c v = true → elt ρ' = xr (f v))) → compP tg cond elt ρ l = xr ((l.filter c).map f)
  | [], _ => rfl
  | v :: l, h => by
    obtain ⟨ρ', h1, h2, h3⟩ := h v (by simp)
    have ih := compP_all c f l fun w hw => h w (by simp [hw])
    unfold compP
    rw [h1]
    show xb (cond ρ') _ = _
    rw [h2]
    show (if c v = true then xb (elt ρ') fun x => xb (compP tg cond elt ρ l) fun r => xr (x :: r) else compP tg cond elt ρ l) = _
    cases q : c v with
    | true =>
      rw [if_pos rfl, h3 q, ih, List.filter_cons_of_pos (by simpa using q)]
      rfl
    | false =>
      rw [if_neg (by simp), ih, List.filter_cons_of_neg (by simp [q])]
end Mi

set_option Elab.async false
set_option linter.all false
set_option maxRecDepth 100000
set_option maxHeartbeats 4000000
namespace Mi
open PySem L2
/-! ### the source of draws: its texts -/
def f_law_begun : Fun := ⟨1, 3, [.set 1 (.comp true [2] .seq [.var 0] (.cmp .ge (.bi .abs [.var 2]) (.bin .pow false (.con (.int 10)) (.con (.int 18)))) (.bin .sub false (.bi .abs [.var 2]) (.bin .pow false (.con (.int 10)) (.con (.int 18))))), .ret (.dict false [.con (.str "great"), .var 1, .con (.str "cells"), .comp true [2] .seq [.var 0] (.skip) (.bi .abs [.var 2]), .con (.str "left"), .con (.int 0), .con (.str "turn"), .con (.int 0)])], false⟩
def f_law_draw : Fun := ⟨2, 3, [.ite (.cmp .eq (.ix (.var 0) (.con (.str "left"))) (.con (.int 0))) [.setI (.var 0) (.con (.str "left")) (.ite (.cmp .ne (.ix (.var 0) (.con (.str "great"))) (.list false [])) (.bm .pop (.ix (.var 0) (.con (.str "great"))) [.con (.int 0)]) (.call "_law_blended" 2 [.var 0]))] [], .set 2 (.bin .mod false (.bi .int [.ix (.var 0) (.con (.str "left"))]) (.var 1)), .setI (.var 0) (.con (.str "left")) (.bin .fdiv false (.ix (.var 0) (.con (.str "left"))) (.var 1)), .ret (.var 2)], false⟩
def f_law_blended : Fun := ⟨1, 6, [.setT [1, 2] (.tup [.bin .add false (.ix (.var 0) (.con (.str "turn"))) (.con (.int 1)), .con (.int 0)]), .setI (.var 0) (.con (.str "turn")) (.var 1), .for [3] .seq [.list false [.con (.int 2147483249), .con (.int 2147483237), .con (.int 2147483179)]] [.set 4 (.bin .add false (.bin .mul false (.con (.int 39373)) (.var 1)) (.bin .fdiv false (.var 3) (.con (.int 73)))), .for [5] .seq [.ix (.var 0) (.con (.str "cells"))] [.set 4 (.bin .mod false (.bi .int [.bin .add false (.bin .add false (.bin .mul false (.var 4) (.con (.int 69621))) (.var 5)) (.var 1)]) (.var 3))], .set 2 (.bin .add false (.bin .mul false (.var 2) (.con (.int 2147483647))) (.bin .mod false (.bi .int [.bin .pow false (.var 4) (.con (.int 5))]) (.var 3)))], .ret (.var 2)], false⟩
theorem ix_draw {h : CH} {a g c : Addr} {l t : Int} (ha : h a = some (drawD g c l t)) : ixP h (.ref a) (.str "great") = some (.ref g) ∧ ixP h (.ref a) (.str "cells") = some (.ref c) ∧ ixP h (.ref a) (.str "left") = some (.int l) ∧ ixP h (.ref a) (.str "turn") = some (.int t) := by
  refine ⟨?_, ?_, ?_, ?_⟩ <;> (unfold ixP; dsimp only; rw [show h.f a = some (drawD g c l t) from ha]; rfl)
abbrev blendB : List S := [.set 4 (.bin .mod false (.bi .int [.bin .add false (.bin .add false (.bin .mul false (.var 4) (.con (.int 69621))) (.var 5)) (.var 1)]) (.var 3))]
theorem blend_step {G : PG} {h : CH} {a : Addr} {t f p b x : Int} (hp : 0 < p) : evSs G h blendB [some (.v (.ref a)), some (.v (.int t)), some (.v (.int f)), some (.v (.int p)), some (.v (.int b)), some (.v (.int x))] = xr (.nx [some (.v (.ref a)), some (.v (.int t)), some (.v (.int f)), some (.v (.int p)), some (.v (.int ((b * 69621 + x + t) % p))), some (.v (.int x))]) := by
  simp only [evSs, evS, evE, evEs, getV, setV, xb, xo, xr, List.getElem?_cons_zero, List.getElem?_cons_succ, List.set_cons_zero, List.set_cons_succ, bin_add, bin_mulr (show (-(2 ^ 64) : Int) < 69621 by decide) (show (69621 : Int) < 2 ^ 64 by decide), bin_mod hp, biP, bi1P, intOf, Option.map_some]
theorem blend_in {G : PG} {h : CH} {a : Addr} {t f p : Int} (hp : 0 < p) (cs : List Int) (b : Int) (s : Option Sl) : ∃ (b' : Int) (s' : Option Sl), (b' = b ∨ (0 ≤ b' ∧ b' < p)) ∧
    forP [5] (fun ρ' => evSs G h blendB ρ') (cs.map .int) [some (.v (.ref a)), some (.v (.int t)), some (.v (.int f)), some (.v (.int p)), some (.v (.int b)), s] = xr (.nx [some (.v (.ref a)), some (.v (.int t)), some (.v (.int f)), some (.v (.int p)), some (.v (.int b')), s']) := by
  obtain ⟨ρ', h1, b', s', h2, rfl⟩ := forP_all (tg := [5]) (body := fun ρ' => evSs G h blendB ρ') (fun ρ => ∃ (b' : Int) (s' : Option Sl), (b' = b ∨ (0 ≤ b' ∧ b' < p)) ∧ ρ = [some (.v (.ref a)), some (.v (.int t)), some (.v (.int f)), some (.v (.int p)), some (.v (.int b')), s']) (cs.map .int) _ (fun v hv ρ hI => by
    obtain ⟨x, _, rfl⟩ := List.mem_map.mp hv
    obtain ⟨b', s', _, rfl⟩ := hI
    exact ⟨_, _, rfl, .inl (blend_step hp), _, _, .inr ⟨Int.emod_nonneg _ (by omega), Int.emod_lt_of_pos _ hp⟩, rfl⟩) ⟨b, s, .inl rfl, rfl⟩
  exact ⟨b', s', h2, h1⟩
abbrev blendO : List S := [.set 4 (.bin .add false (.bin .mul false (.con (.int 39373)) (.var 1)) (.bin .fdiv false (.var 3) (.con (.int 73)))), .for [5] .seq [.ix (.var 0) (.con (.str "cells"))] blendB, .set 2 (.bin .add false (.bin .mul false (.var 2) (.con (.int 2147483647))) (.bin .mod false (.bi .int [.bin .pow false (.var 4) (.con (.int 5))]) (.var 3)))]
theorem blend_out {G : PG} {h : CH} {a g c : Addr} {l t f p : Int} {cs : List Int} {s4 s5 : Option Sl} (ha : h a = some (drawD g c l t)) (hc : h c = some (.list (cs.map .int))) (hp : 0 < p) (hp2 : p < 2 ^ 31) (ht : 0 ≤ t) (ht2 : t < 2 ^ 41) (hf : 0 ≤ f) :
    ∃ (f' : Int) (s4' s5' : Option Sl), 0 ≤ f' ∧ evSs G h blendO [some (.v (.ref a)), some (.v (.int t)), some (.v (.int f)), some (.v (.int p)), s4, s5] = xr (.nx [some (.v (.ref a)), some (.v (.int t)), some (.v (.int f')), some (.v (.int p)), s4', s5']) := by
  obtain ⟨b', s5', hb, e⟩ := blend_in (G := G) (h := h) (a := a) (t := t) (f := f) hp cs (39373 * t + p / 73) s5
  have p1 : p / 73 ≤ p := by omega
  have p0 : 0 ≤ p / 73 := by omega
  have bb : 0 ≤ b' ∧ b' < 2 ^ 60 := by omega
  refine ⟨f * 2147483647 + b' ^ 5 % p, some (.v (.int b')), s5', ?_, ?_⟩
  · have := Int.emod_nonneg (b' ^ 5) (show p ≠ 0 by omega)
    omega
  · have w : walkP h .seq [.ref c] = some (cs.map .int) := by
      show (srcOf h (.ref c)).map (·.2) = _
      unfold srcOf
      dsimp only
      rw [show h.f c = some (.list (cs.map .int)) from hc]
      rfl
    have e5 : ((5 : Int).toNat) = 5 := rfl
    rw [evSs]
    have s1 : evS G h (.set 4 (.bin .add false (.bin .mul false (.con (.int 39373)) (.var 1)) (.bin .fdiv false (.var 3) (.con (.int 73))))) [some (.v (.ref a)), some (.v (.int t)), some (.v (.int f)), some (.v (.int p)), s4, s5] = xr (.nx [some (.v (.ref a)), some (.v (.int t)), some (.v (.int f)), some (.v (.int p)), some (.v (.int (39373 * t + p / 73))), s5]) := by
      simp only [evSs, evS, evE, evEs, getV, setV, setVs, tupOf, Option.bind_some, xb, xo, xr, bindTg, List.getElem?_cons_zero, List.getElem?_cons_succ, List.set_cons_zero, List.set_cons_succ, bin_add, bin_sub, biP, bi1P, intOf, Option.map_some, bin_mull (show (-(2 ^ 64) : Int) < 39373 by decide) (show (39373 : Int) < 2 ^ 64 by decide), bin_fdiv (show (0 : Int) < 73 by decide) (show (73 : Int) < 1073741824 by decide)]
    rw [s1]
    show evSs G h [.for [5] .seq [.ix (.var 0) (.con (.str "cells"))] blendB, .set 2 (.bin .add false (.bin .mul false (.var 2) (.con (.int 2147483647))) (.bin .mod false (.bi .int [.bin .pow false (.var 4) (.con (.int 5))]) (.var 3)))] _ = _
    rw [evSs, evS]
    have s2 : evEs G h [.ix (.var 0) (.con (.str "cells"))] [some (.v (.ref a)), some (.v (.int t)), some (.v (.int f)), some (.v (.int p)), some (.v (.int (39373 * t + p / 73))), s5] = xr [.ref c] := by
      simp only [evEs, evE, getV, xb, xo, xr, List.getElem?_cons_zero, (ix_draw ha).2.1]
    rw [s2]
    show xb (xb (xo (walkP h .seq [.ref c])) _) _ = _
    rw [w]
    show xb (forP [5] (fun ρ' => evSs G h blendB ρ') (cs.map .int) _) _ = _
    rw [e]
    show evSs G h [.set 2 (.bin .add false (.bin .mul false (.var 2) (.con (.int 2147483647))) (.bin .mod false (.bi .int [.bin .pow false (.var 4) (.con (.int 5))]) (.var 3)))] _ = _
    have h64 : b'.natAbs < 2 ^ 64 := by omega
    simp only [evSs, evS, evE, evEs, getV, setV, setVs, tupOf, Option.bind_some, xb, xo, xr, bindTg, List.getElem?_cons_zero, List.getElem?_cons_succ, List.set_cons_zero, List.set_cons_succ, bin_add, bin_sub, biP, bi1P, intOf, Option.map_some, bin_mulr (show (-(2 ^ 64) : Int) < 2147483647 by decide) (show (2147483647 : Int) < 2 ^ 64 by decide), bin_mod hp, bin_pow (show (0 : Int) ≤ 5 by decide) (show (5 : Int) ≤ 1000000 by decide) h64, e5]
theorem blend_all {G : PG} {h : CH} {a g c : Addr} {l t : Int} {cs : List Int} {s3 s4 s5 : Option Sl} (ha : h a = some (drawD g c l t)) (hc : h c = some (.list (cs.map .int))) (ht : 0 ≤ t) (ht2 : t < 2 ^ 41) :
    ∃ (f' : Int) (s3' s4' s5' : Option Sl), 0 ≤ f' ∧ evS G h (.for [3] .seq [.list false [.con (.int 2147483249), .con (.int 2147483237), .con (.int 2147483179)]] blendO) [some (.v (.ref a)), some (.v (.int t)), some (.v (.int 0)), s3, s4, s5] = xr (.nx [some (.v (.ref a)), some (.v (.int t)), some (.v (.int f')), s3', s4', s5']) := by
  obtain ⟨ρ', h1, f', s3', s4', s5', h2, rfl⟩ := forP_all (tg := [3]) (body := fun ρ' => evSs G h blendO ρ') (fun ρ => ∃ (f' : Int) (s3' s4' s5' : Option Sl), 0 ≤ f' ∧ ρ = [some (.v (.ref a)), some (.v (.int t)), some (.v (.int f')), s3', s4', s5']) [.int 2147483249, .int 2147483237, .int 2147483179] [some (.v (.ref a)), some (.v (.int t)), some (.v (.int 0)), s3, s4, s5] (fun v hv ρ hI => by
    obtain ⟨f', s3', s4', s5', hf, rfl⟩ := hI
    have : ∃ p : Int, v = .int p ∧ 0 < p ∧ p < 2 ^ 31 := by
      rcases List.mem_cons.mp hv with rfl | hv
      · exact ⟨_, rfl, by decide, by decide⟩
      · rcases List.mem_cons.mp hv with rfl | hv
        · exact ⟨_, rfl, by decide, by decide⟩
        · rcases List.mem_cons.mp hv with rfl | hv
          · exact ⟨_, rfl, by decide, by decide⟩
          · cases hv
    obtain ⟨p, rfl, hp, hp2⟩ := this
    obtain ⟨f2, a4, a5, q1, q2⟩ := blend_out (G := G) (s4 := s4') (s5 := s5') ha hc hp hp2 ht ht2 hf
    exact ⟨_, _, rfl, .inl q2, f2, _, a4, a5, q1, rfl⟩) ⟨0, s3, s4, s5, Int.le_refl _, rfl⟩
  refine ⟨f', s3', s4', s5', h2, ?_⟩
  rw [evS]
  exact h1
theorem run_blended {T : Tab} (hT : T.fs[2]? = some (.code f_law_blended)) {d : Nat} {h : CH} {a g c : Addr} {l t : Int} {cs : List Int} {Q : Val → CH → Prop} {E : Nat → CH → Prop} (ha : h a = some (drawD g c l t)) (hc : h c = some (.list (cs.map .int))) (nc : c ≠ a) (ht : 0 ≤ t) (ht2 : t < 2 ^ 40)
    (q : ∀ r : Int, 0 ≤ r → Q (.int r) (h.set a (drawD g c l (t + 1)))) : run T (d + 1) 2 [.v (.ref a)] Q E h := by
  refine run_code hT rfl rfl ?_
  have ok := pgok T d
  refine s_ev (ρ' := [some (.v (.ref a)), some (.v (.int (t + 1))), some (.v (.int 0)), none, none, none]) ok ?_ ?_
  · show evS ⟨evR T d, T.ar, T.ci⟩ h _ [some (.v (.ref a)), none, none, none, none, none] = _
    simp only [evSs, evS, evE, evEs, getV, setV, setVs, tupOf, Option.bind_some, xb, xo, xr, bindTg, List.getElem?_cons_zero, List.getElem?_cons_succ, List.set_cons_zero, List.set_cons_succ, bin_add, bin_sub, biP, bi1P, intOf, Option.map_some, (ix_draw ha).2.2.2]
  · have ha1 : h.set a (drawD g c l (t + 1)) a = some (drawD g c l (t + 1)) := CH.set_same
    have hc1 : h.set a (drawD g c l (t + 1)) c = some (.list (cs.map .int)) := by rw [CH.set_ne nc]; exact hc
    obtain ⟨f', s3, s4, s5, h2, h3⟩ := blend_all (G := ⟨evR T d, T.ar, T.ci⟩) (s3 := none) (s4 := none) (s5 := none) ha1 hc1 (show 0 ≤ t + 1 by omega) (by omega)
    refine s_setI (e_ev ok (v := .int (t + 1)) rfl (e_ev ok (v := .ref a) rfl (e_ev ok (v := .str "turn") rfl ?_)))
    show setIM (.ref a) (.str "turn") (.int (t + 1)) _ _ h
    unfold setIM
    show (match h a with
      | some (.list l) => _
      | some (.dict false kvs) => _
      | _ => False)
    rw [ha]
    refine ⟨by show 4 < sizeLine; decide, ?_⟩
    show denSs _ _ _ _ _ (h.set a (drawD g c l (t + 1)))
    refine s_ev ok h3 (s_ret (e_ev ok (v := .int f') rfl (q f' h2)))
end Mi

set_option Elab.async false
set_option linter.all false
set_option maxRecDepth 100000
set_option maxHeartbeats 4000000
namespace Mi
open PySem L2
theorem eqP_int {h : CH} {i j : Int} : eqP h (.int i) (.int j) = some (i == j) := rfl
theorem eqvAll_nil : ∀ (ds : List PyData), PyData.eqvAll ds [] = ds.isEmpty
  | [] => rfl
  | _ :: _ => rfl
theorem toDs_isEmpty : ∀ {l : List Val} {ds : List PyData}, toDs l = some ds → ds.isEmpty = l.isEmpty
  | [], ds, h => by cases h; rfl
  | v :: l, ds, h => by
    have h : (match toD v, toDs l with
      | some d, some ds => some (d :: ds)
      | _, _ => none) = some ds := h
    split at h
    · cases h; rfl
    · cases h
theorem eqP_nil {h : CH} {x : Val} {l : List Val} {ds : List PyData} (e1 : deref h x = .lst l) (e2 : toDs l = some ds) : eqP h x (.lst []) = some l.isEmpty := by
  have e3 : toD (.lst l) = some (.list ds) := by show (toDs l).map PyData.list = _; rw [e2]; rfl
  unfold eqP
  rw [e1, e3]
  show grd (decide (min (PyData.list ds).depth (PyData.list []).depth ≤ 64)) (PyData.eqv (.list ds) (.list [])) = _
  have e4 : (PyData.list []).depth = 1 := rfl
  have e5 : PyData.eqv (.list ds) (.list []) = PyData.eqvAll ds [] := by rw [PyData.eqv]
  rw [e4, e5, eqvAll_nil, toDs_isEmpty e2, decide_eq_true (show min (PyData.list ds).depth 1 ≤ 64 by omega)]
  rfl
theorem deref_ref {h : CH} {a : Addr} {l : List Val} (e : h a = some (.list l)) : deref h (.ref a) = .lst l := by
  unfold deref
  dsimp only
  rw [show h.f a = some (.list l) from e]
/-- state["left"] = e and the like -/
theorem setI_draw {h : CH} {a g c : Addr} {l t v : Int} {Q : Unit → CH → Prop} {E : Nat → CH → Prop} (ha : h a = some (drawD g c l t)) (q : Q () (h.set a (drawD g c v t))) : setIM (.ref a) (.str "left") (.int v) Q E h := by
  unfold setIM
  show (match h a with
    | some (.list l) => _
    | some (.dict false kvs) => _
    | _ => False)
  rw [ha]
  exact ⟨by show 4 < sizeLine; decide, q⟩
section
variable {T : Tab} {d : Nat} {h : CH} {a g c : Addr} {l t n : Int} {gs cs : List Int} {Q : Val → CH → Prop} {E : Nat → CH → Prop}
abbrev drawRest : List S := [.set 2 (.bin .mod false (.bi .int [.ix (.var 0) (.con (.str "left"))]) (.var 1)), .setI (.var 0) (.con (.str "left")) (.bin .fdiv false (.ix (.var 0) (.con (.str "left"))) (.var 1)), .ret (.var 2)]
theorem draw_rest {Q : Out → CH → Prop} (ha : h a = some (drawD g c l t)) (hn : 0 < n) (hn2 : n < 2 ^ 30) (q : Q (.rt (.int (l % n))) (h.set a (drawD g c (l / n) t))) : denSs (T.dg (run T d)) drawRest [some (.v (.ref a)), some (.v (.int n)), none] Q E h := by
  have ok := pgok T d
  refine s_ev (ρ' := [some (.v (.ref a)), some (.v (.int n)), some (.v (.int (l % n)))]) (h := h) ok ?_ ?_
  · simp only [evSs, evS, evE, evEs, getV, setV, xb, xo, xr, List.getElem?_cons_zero, List.getElem?_cons_succ, List.set_cons_zero, List.set_cons_succ, biP, bi1P, intOf, Option.map_some, (ix_draw ha).2.2.1, bin_mod hn]
  · refine s_setI (e_ev (h := h) (v := .int (l / n)) ok ?_ (e_ev ok (v := .ref a) rfl (e_ev ok (v := .str "left") rfl ?_)))
    · simp only [evSs, evS, evE, evEs, getV, setV, xb, xo, xr, List.getElem?_cons_zero, List.getElem?_cons_succ, (ix_draw ha).2.2.1, bin_fdiv hn (show n < 1073741824 by omega)]
    · exact setI_draw ha (s_ret (e_ev ok (v := .int (l % n)) rfl q))
theorem run_draw (hT1 : T.fs[1]? = some (.code f_law_draw)) (hT : T.fs[2]? = some (.code f_law_blended)) (ha : h a = some (drawD g c l t)) (hg : h g = some (.list (gs.map .int))) (hc : h c = some (.list (cs.map .int))) (n1 : g ≠ a) (n2 : c ≠ a) (n3 : g ≠ c)
    (hl : 0 ≤ l) (ht : 0 ≤ t) (ht2 : t < 2 ^ 40) (hgs : ∀ x ∈ gs, 0 ≤ x) (hn : 0 < n) (hn2 : n < 2 ^ 30)
    (q : ∀ (r l' t' : Int) (gs' : List Int) (h' : CH), 0 ≤ r → r < n → 0 ≤ l' → 0 ≤ t' → t' ≤ t + 1 → (∀ x ∈ gs', 0 ≤ x) → h' a = some (drawD g c l' t') → h' g = some (.list (gs'.map .int)) → (∀ b, b ≠ a → b ≠ g → h' b = h b) → Q (.int r) h') : run T (d + 2) 1 [.v (.ref a), .v (.int n)] Q E h := by
  refine run_code hT1 rfl rfl ?_
  have ok := pgok T (d + 1)
  have fin : ∀ (l1 t1 : Int) (gs1 : List Int) (h1 : CH), 0 ≤ l1 → 0 ≤ t1 → t1 ≤ t + 1 → (∀ x ∈ gs1, 0 ≤ x) → h1 a = some (drawD g c l1 t1) → h1 g = some (.list (gs1.map .int)) → (∀ b, b ≠ a → b ≠ g → h1 b = h b) →
      denSs (T.dg (run T (d + 1))) drawRest [some (.v (.ref a)), some (.v (.int n)), none] (fun o h' => match o with
      | .nx _ => Q .non h'
      | .rt v => Q v h'
      | .ct _ => False) E h1 := fun l1 t1 gs1 h1 z1 z2 z3 z4 z5 z6 z7 => by
    refine draw_rest z5 hn hn2 (q (l1 % n) (l1 / n) t1 gs1 _ (Int.emod_nonneg _ (by omega)) (Int.emod_lt_of_pos _ hn) (Int.ediv_nonneg z1 (by omega)) z2 z3 z4 CH.set_same ?_ fun b b1 b2 => ?_)
    · rw [CH.set_ne n1]; exact z6
    · rw [CH.set_ne b1]; exact z7 b b1 b2
  have et : evE ⟨evR T (d + 1), T.ar, T.ci⟩ h (.cmp .eq (.ix (.var 0) (.con (.str "left"))) (.con (.int 0))) [some (.v (.ref a)), some (.v (.int n)), none] = xr (.bl (l == 0)) := by
    simp only [evE, getV, xb, xo, xr, List.getElem?_cons_zero, (ix_draw ha).2.2.1, cmpP, eqP_int]
  refine s_if (k := (l == 0)) ok et rfl ?_
  by_cases h0 : l = 0
  · have : (l == 0) = true := by simp [h0]
    rw [this, if_pos rfl]
    show denSs _ (.setI (.var 0) (.con (.str "left")) (.ite (.cmp .ne (.ix (.var 0) (.con (.str "great"))) (.list false [])) (.bm .pop (.ix (.var 0) (.con (.str "great"))) [.con (.int 0)]) (.call "_law_blended" 2 [.var 0])) :: drawRest) [some (.v (.ref a)), some (.v (.int n)), none] _ E h
    refine s_setI ?_
    have eg : evE ⟨evR T (d + 1), T.ar, T.ci⟩ h (.cmp .ne (.ix (.var 0) (.con (.str "great"))) (.list false [])) [some (.v (.ref a)), some (.v (.int n)), none] = xr (.bl (!gs.isEmpty)) := by
      have e1 : eqP h (.ref g) (.lst []) = some gs.isEmpty := by
        rw [eqP_nil (deref_ref hg) (toDs_ints gs)]
        cases gs <;> rfl
      simp only [evE, evEs, getV, xb, xo, xr, List.getElem?_cons_zero, (ix_draw ha).1, cmpP, nwL, if_neg (show ¬ (false = true) by decide), e1, Option.map_some]
    refine e_ite ok eg rfl ?_
    cases gs with
    | nil =>
      show denE _ (.call "_law_blended" 2 [.var 0]) _ _ E h
      refine e_call (es_ev ok (vs := [.ref a]) rfl ?_)
      refine run_blended hT ha hc n2 ht ht2 fun r hr => ?_
      have a2 : h.set a (drawD g c l (t + 1)) a = some (drawD g c l (t + 1)) := CH.set_same
      refine e_ev ok (v := .ref a) rfl (e_ev ok (v := .str "left") rfl (setI_draw a2 ?_))
      refine fin r (t + 1) [] _ hr (by omega) (by omega) (fun x hx => nomatch hx) CH.set_same ?_ fun b b1 b2 => ?_
      · rw [CH.set_ne n1, CH.set_ne n1]; exact hg
      · rw [CH.set_ne b1, CH.set_ne b1]
    | cons x gs =>
      show denE _ (.bm .pop (.ix (.var 0) (.con (.str "great"))) [.con (.int 0)]) _ _ E h
      refine e_bm ?_
      refine e_ev ok (v := .ref g) (by simp only [evE, getV, xb, xo, xr, List.getElem?_cons_zero, (ix_draw ha).1]) ⟨⟨_, hg⟩, ?_⟩
      refine es_ev ok (vs := [.int 0]) rfl ?_
      show popAtM g 0 _ E h
      unfold popAtM
      rw [hg]
      refine ⟨by unfold smallI; omega, ?_⟩
      have si : seqIndex? 0 (List.map Val.int (x :: gs)).length = some 0 := by
        rw [List.length_map, List.length_cons]
        unfold seqIndex?
        simp
      rw [si]
      show denE _ _ _ _ E (h.set g (.list (gs.map .int)))
      have a2 : h.set g (.list (gs.map .int)) a = some (drawD g c l t) := by rw [CH.set_ne (Ne.symm n1)]; exact ha
      refine e_ev ok (v := .ref a) rfl (e_ev ok (v := .str "left") rfl (setI_draw a2 ?_))
      refine fin x t gs _ (hgs x (by simp)) ht (by omega) (fun y hy => hgs y (by simp [hy])) CH.set_same ?_ fun b b1 b2 => ?_
      · rw [CH.set_ne n1, CH.set_same]
      · rw [CH.set_ne b1, CH.set_ne b2]
  · have : (l == 0) = false := by simp [h0]
    rw [this, if_neg (by decide)]
    exact fin l t gs h hl ht (by omega) hgs ha hg fun _ _ _ => rfl
end
end Mi

set_option Elab.async false
set_option linter.all false
set_option maxRecDepth 100000
set_option maxHeartbeats 4000000
namespace Mi
open PySem L2
def absI (i : Int) : Int := if i < 0 then -i else i
theorem absI_nn (i : Int) : 0 ≤ absI i := by unfold absI; split <;> omega
abbrev pow18 : E := .bin .pow false (.con (.int 10)) (.con (.int 18))
theorem pow18_ev {G : PG} {h : CH} {ρ : Loc} : evE G h pow18 ρ = xr (.int 1000000000000000000) := rfl
section
variable {T : Tab} {d : Nat} {h : CH} {Q : Val → CH → Prop} {E : Nat → CH → Prop}
theorem run_begun (hT : T.fs[0]? = some (.code f_law_begun)) {ns : List Int} (hn : ns.length ≤ sizeLine)
    (q : ∀ (p g c : Addr) (gs cs : List Int) (h' : CH), h p = none → h g = none → h c = none → g ≠ p → c ≠ p → g ≠ c → (∀ x ∈ gs, 0 ≤ x) → (∀ x ∈ cs, 0 ≤ x) → h' p = some (drawD g c 0 0) → h' g = some (.list (gs.map .int)) → h' c = some (.list (cs.map .int)) →
      (∀ b, b ≠ p → b ≠ g → b ≠ c → h' b = h b) → Q (.ref p) h') : run T (d + 1) 0 [.v (.lst (ns.map .int))] Q E h := by
  refine run_code hT rfl rfl ?_
  have ok := pgok T d
  have hl : (ns.map Val.int).length ≤ sizeLine := by rw [List.length_map]; exact hn
  refine s_set ?_
  let cf : Val → Bool := fun v => match v with
    | .int i => decide (1000000000000000000 ≤ absI i)
    | _ => false
  let ff : Val → Val := fun v => match v with
    | .int i => .int (absI i - 1000000000000000000)
    | _ => .non
  let f2 : Val → Val := fun v => match v with
    | .int i => .int (absI i)
    | _ => .non
  let gs : List Int := (ns.filter fun i => decide (1000000000000000000 ≤ absI i)).map fun i => absI i - 1000000000000000000
  have e1 : ((ns.map Val.int).filter cf).map ff = gs.map .int := by
    show _ = List.map _ (List.map _ _)
    rw [List.filter_map, List.map_map, List.map_map]
    rfl
  have e2 : ((ns.map Val.int).filter fun _ => true).map f2 = (ns.map absI).map .int := by
    rw [List.filter_eq_self.mpr (by simp), List.map_map, List.map_map]
    rfl
  have g0 : ∀ x ∈ gs, 0 ≤ x := fun x hx => by
    obtain ⟨i, hi, rfl⟩ := List.mem_map.mp hx
    have := of_decide_eq_true (List.mem_filter.mp hi).2
    show 0 ≤ absI i - 1000000000000000000
    omega
  have c0 : ∀ x ∈ ns.map absI, 0 ≤ x := fun x hx => by
    obtain ⟨i, hi, rfl⟩ := List.mem_map.mp hx
    exact absI_nn i
  refine e_comp (vs := [.lst (ns.map .int)]) (l := ns.map .int) (r := gs.map .int) ok rfl rfl hl ?_ ?_
  · rw [← e1]
    refine compP_all cf ff _ fun v hv => ?_
    obtain ⟨i, _, rfl⟩ := List.mem_map.mp hv
    exact ⟨_, rfl, rfl, fun _ => rfl⟩
  · intro g hg
    refine s_ret (e_dict fun p hp => ?_)
    have hg' : h g = none := hg
    have ngp : g ≠ p := by
      rintro rfl
      rw [CH.set_same] at hp
      cases hp
    have hp' : h p = none := by rw [CH.set_ne (Ne.symm ngp)] at hp; exact hp
    refine es_cons (e_con (es_cons (e_var (v := .ref g) rfl (es_cons (e_con (es_cons ?_))))))
    refine e_comp (vs := [.lst (ns.map .int)]) (l := ns.map .int) (r := (ns.map absI).map .int) ok rfl rfl hl ?_ ?_
    · rw [← e2]
      refine compP_all (fun _ => true) f2 _ fun v hv => ?_
      obtain ⟨i, _, rfl⟩ := List.mem_map.mp hv
      exact ⟨_, rfl, rfl, fun _ => rfl⟩
    · intro c hc
      have ncp : c ≠ p := by
        rintro rfl
        rw [CH.set_same] at hc
        cases hc
      have hc1 : h.set g (.list (gs.map .int)) c = none := by rw [CH.set_ne ncp] at hc; exact hc
      have ngc : g ≠ c := by
        rintro rfl
        rw [CH.set_same] at hc1
        cases hc1
      have hc2 : h c = none := by rw [CH.set_ne (Ne.symm ngc)] at hc1; exact hc1
      refine es_cons (e_con (es_cons (e_con (es_cons (e_con (es_cons (e_con (es_nil ?_))))))))
      refine ⟨by rw [CH.set_ne (Ne.symm ncp), CH.set_same], ?_⟩
      show _ ∧ _ ∧ _
      refine ⟨show ([some (.inr "great"), some (.inr "cells"), some (.inr "left"), some (.inr "turn")] : List (Option Key)).Nodup by decide, show 4 ≤ 15 by decide, ?_⟩
      refine q p g c gs (ns.map absI) _ hp' hg' hc2 ngp ncp ngc g0 c0 CH.set_same ?_ ?_ fun b b1 b2 b3 => ?_
      · rw [CH.set_ne ngp, CH.set_ne ngc, CH.set_ne ngp, CH.set_same]
      · rw [CH.set_ne ncp, CH.set_same]
      · rw [CH.set_ne b1, CH.set_ne b3, CH.set_ne b1, CH.set_ne b2]
end
/-! ### as given meanings -/
def begunM : List Sl → M Val := fun ss => match ss with
  | [.v (.lst l)] => fun Q _ h => ∃ ns : List Int, l = ns.map .int ∧ ns.length ≤ sizeLine ∧ ∀ p, h p = none → Q (.ref p) (h.set p (.ab (.draws 0)))
  | _ => stuck
def drawM : List Sl → M Val := fun ss => match ss with
  | [.v (.ref a), .v (.int s)] => fun Q _ h => ∃ n : Nat, h a = some (.ab (.draws n)) ∧ n < 2 ^ 40 ∧ 0 < s ∧ s < 2 ^ 30 ∧ ∀ r : Int, 0 ≤ r → r < s → Q (.int r) (h.set a (.ab (.draws (n + 1))))
  | _ => stuck
theorem begunM_inv {ss : List Sl} {Q : Val → CH → Prop} {E : Nat → CH → Prop} {h : CH} (w : begunM ss Q E h) : ∃ ns : List Int, ss = [.v (.lst (ns.map .int))] ∧ ns.length ≤ sizeLine ∧ ∀ p, h p = none → Q (.ref p) (h.set p (.ab (.draws 0))) := by
  cases ss with
  | nil => exact (show False from w).elim
  | cons s r =>
    cases s with
    | c k ws => exact (show False from w).elim
    | v x =>
      cases x with
      | lst l =>
        cases r with
        | nil =>
          obtain ⟨ns, rfl, h1, h2⟩ := w
          exact ⟨ns, rfl, h1, h2⟩
        | cons _ _ => exact (show False from w).elim
      | _ => exact (show False from w).elim
theorem drawM_inv {ss : List Sl} {Q : Val → CH → Prop} {E : Nat → CH → Prop} {h : CH} (w : drawM ss Q E h) : ∃ (a : Addr) (s : Int) (n : Nat), ss = [.v (.ref a), .v (.int s)] ∧ h a = some (.ab (.draws n)) ∧ n < 2 ^ 40 ∧ 0 < s ∧ s < 2 ^ 30 ∧ ∀ r : Int, 0 ≤ r → r < s → Q (.int r) (h.set a (.ab (.draws (n + 1)))) := by
  cases ss with
  | nil => exact (show False from w).elim
  | cons s r =>
    cases s with
    | c k ws => exact (show False from w).elim
    | v x =>
      cases x with
      | ref a =>
        cases r with
        | nil => exact (show False from w).elim
        | cons s r =>
          cases s with
          | c k ws => exact (show False from w).elim
          | v y =>
            cases y with
            | int s =>
              cases r with
              | nil =>
                obtain ⟨n, h1⟩ := w
                exact ⟨a, s, n, rfl, h1⟩
              | cons _ _ => exact (show False from w).elim
            | _ => exact (show False from w).elim
      | _ => exact (show False from w).elim
theorem begunM_lt : ∀ ss Q E h, begunM ss Q E h → ss.length < 100 := fun ss Q E h w => by
  obtain ⟨ns, rfl, _⟩ := begunM_inv w
  exact show 1 < 100 by decide
theorem drawM_lt : ∀ ss Q E h, drawM ss Q E h → ss.length < 100 := fun ss Q E h w => by
  obtain ⟨a, s, n, rfl, _⟩ := drawM_inv w
  exact show 2 < 100 by decide
section
variable {P : Program} {w : World} {K : PySem.W.Frag} {mg : Str → Option Value} {base : Heap} {k : Nat} {f : Addr} {fd : FuncData} {ps : List Str} {G : Gm} {T : Tab} {d : Nat}
theorem fg_begun (hT : T.fs[0]? = some (.code f_law_begun)) (F : FG P w K mg base k f fd ps (spD G ps.length (run T (d + 1) 0))) : FG P w K mg base k f fd ps (spD G ps.length begunM) := by
  refine F.imp fun o b vs H Q E ⟨hl, Fr, h, ss, Q', E', rs, rep, hm, kQ, kE⟩ => ?_
  · obtain ⟨ns, rfl, hn, q⟩ := begunM_inv hm
    refine ⟨hl, Fr, h, _, fun v h2 => ∃ (p g c : Addr) (gs cs : List Int), v = .ref p ∧ h p = none ∧ h g = none ∧ h c = none ∧ g ≠ p ∧ c ≠ p ∧ g ≠ c ∧ (∀ x ∈ gs, 0 ≤ x) ∧ (∀ x ∈ cs, 0 ≤ x) ∧ h2 p = some (drawD g c 0 0) ∧ h2 g = some (.list (gs.map .int)) ∧ h2 c = some (.list (cs.map .int)) ∧
      (∀ b, b ≠ p → b ≠ g → b ≠ c → h2 b = h b), fun _ _ => False, rs, rep, run_begun hT hn fun p g c gs cs h' z1 z2 z3 z4 z5 z6 z7 z8 z9 z10 z11 z12 => ⟨p, g, c, gs, cs, rfl, z1, z2, z3, z4, z5, z6, z7, z8, z9, z10, z11, z12⟩, fun v h2 x H' le rx r2 z => ?_, fun c h2 H' le r2 z => z.elim⟩
    obtain ⟨p, g, c, gs, cs, rfl, z1, z2, z3, z4, z5, z6, z7, z8, z9, z10, z11, z12⟩ := z
    refine kQ _ (h.set p (.ab (.draws 0))) x H' le rx (rep_pack (n := 0) r2 z9 z10 z11 z4 z5 z6 (Int.le_refl _) (Int.le_refl _) (Int.le_refl _) z7 z8 fun b => ?_) (q p z1)
    rw [CH.set_at]
    by_cases q1 : b = p
    · rw [if_pos q1, if_pos q1]
    · rw [if_neg q1, if_neg q1]
      by_cases q2 : b = g ∨ b = c
      · rw [if_pos q2]
        rcases q2 with rfl | rfl
        · exact z2
        · exact z3
      · rw [if_neg q2]
        exact (z12 b q1 (fun z => q2 (.inl z)) (fun z => q2 (.inr z))).symm
theorem fg_draw (hT1 : T.fs[1]? = some (.code f_law_draw)) (hT : T.fs[2]? = some (.code f_law_blended)) (F : FG P w K mg base k f fd ps (spD G ps.length (run T (d + 2) 1))) : FG P w K mg base k f fd ps (spD G ps.length drawM) := by
  refine F.imp fun o b vs H Q E ⟨hl, Fr, h, ss, Q', E', rs, rep, hm, kQ, kE⟩ => ?_
  · obtain ⟨a, s, n, rfl, ha, hn, hs, hs2, q⟩ := drawM_inv hm
    obtain ⟨g, c, l, t, gs, cs, y1, y2, n1, n2, n3, hl0, ht, htn, hgs, hcs, r2⟩ := rep_unpack rep ha
    have a2 : (((h.set a (drawD g c l t)).set g (.list (gs.map .int))).set c (.list (cs.map .int))) a = some (drawD g c l t) := by
      rw [CH.set_ne (Ne.symm n2), CH.set_ne (Ne.symm n1), CH.set_same]
    have g2 : (((h.set a (drawD g c l t)).set g (.list (gs.map .int))).set c (.list (cs.map .int))) g = some (.list (gs.map .int)) := by
      rw [CH.set_ne n3, CH.set_same]
    refine ⟨hl, Fr, _, _, fun v h2 => ∃ (r l' t' : Int) (gs' : List Int), v = .int r ∧ 0 ≤ r ∧ r < s ∧ 0 ≤ l' ∧ 0 ≤ t' ∧ t' ≤ t + 1 ∧ (∀ x ∈ gs', 0 ≤ x) ∧ h2 a = some (drawD g c l' t') ∧ h2 g = some (.list (gs'.map .int)) ∧
      (∀ b, b ≠ a → b ≠ g → h2 b = (((h.set a (drawD g c l t)).set g (.list (gs.map .int))).set c (.list (cs.map .int))) b), fun _ _ => False, rs, r2,
      run_draw hT1 hT a2 g2 CH.set_same n1 n2 n3 hl0 ht (by omega) hgs hs hs2 fun r l' t' gs' h' z1 z2 z3 z4 z5 z6 z7 z8 z9 => ⟨r, l', t', gs', rfl, z1, z2, z3, z4, z5, z6, z7, z8, z9⟩, fun v h2 x H' le rx r3 z => ?_, fun c h2 H' le r2 z => z.elim⟩
    obtain ⟨r, l', t', gs', rfl, z1, z2, z3, z4, z5, z6, z7, z8, z9⟩ := z
    have c2 : h2 c = some (.list (cs.map .int)) := by rw [z9 c n2 (Ne.symm n3), CH.set_same]
    refine kQ _ (h.set a (.ab (.draws (n + 1)))) x H' le rx (rep_pack (n := n + 1) r3 z7 z8 c2 n1 n2 n3 z3 z4 (by omega) z6 hcs fun b => ?_) (q r z1 z2)
    rw [CH.set_at]
    by_cases q1 : b = a
    · rw [if_pos q1, if_pos q1]
    · rw [if_neg q1, if_neg q1]
      by_cases q2 : b = g ∨ b = c
      · rw [if_pos q2]
        rcases q2 with rfl | rfl
        · exact y1
        · exact y2
      · rw [if_neg q2, z9 b q1 (fun z => q2 (.inl z)), CH.set_ne (fun z => q2 (.inr z)), CH.set_ne (fun z => q2 (.inl z)), CH.set_ne q1]
end
end Mi

set_option Elab.async false
set_option linter.all false
set_option maxRecDepth 100000
set_option maxHeartbeats 4000000
namespace Mi
open PySem PySem.Spec PyProof.Rows L2 LamX NdefX
namespace LayI
variable {L : LayI}
/-- the layout of the source of draws alone -/
def L0 (L : LayI) : LayI := ⟨(L.es.take 3).map (fun e => { e with pr := none }), [], [], [], [], [], L.free, [], []⟩
structure HasDraw (L : LayI) : Prop where
  ex : ∃ e0 e1 e2 rest, L.es = e0 :: e1 :: e2 :: rest ∧ e0.g = f_law_begun ∧ e0.pr = some begunM ∧ e1.g = f_law_draw ∧ e1.pr = some drawM ∧ e2.g = f_law_blended ∧ ∀ e ∈ e2 :: rest, e.pr = none
theorem hd0 {K : PySem.W.Frag} {h : Heap} {mg : Str → Option Value} {fdx : Nat → FuncData} (D : Hd L K h mg fdx) : Hd L.L0 K h mg fdx := by
  have at_ : ∀ {f : Nat} {e : EntI}, L.L0.es[f]? = some e → ∃ e', L.es[f]? = some e' ∧ e'.d = e.d := fun {f e} he => by
    have he : ((L.es.take 3).map (fun e => { e with pr := none }))[f]? = some e := he
    rw [List.getElem?_map, List.getElem?_take] at he
    split at he
    · cases q : L.es[f]? with
      | none => rw [q] at he; cases he
      | some e' => rw [q] at he; cases he; exact ⟨e', rfl, rfl⟩
    · cases he
  refine ⟨D.X, D.ns, fun f e he => ?_, fun x hx => ?_, ?_⟩
  · obtain ⟨e', h1, h2⟩ := at_ he
    have := D.fn f e' h1
    rw [h2] at this
    exact this
  · unfold fas at hx
    rcases List.mem_append.mp hx with hx | hx
    · obtain ⟨e, he, q⟩ := List.mem_filterMap.mp hx
      obtain ⟨f, hf⟩ := List.mem_iff_getElem?.mp he
      obtain ⟨e', h1, h2⟩ := at_ hf
      cases q2 : e.d.at_ with
      | mk y m =>
        rw [q2] at q
        cases m with
        | some m => cases q
        | none =>
          cases q
          exact D.fa _ (fas1 h1 (by rw [h2]; exact q2))
    · have hx : x ∈ ([] : List He.Fa) ++ ([] ++ ([] ++ L.free.map He.Fa.free)) := hx
      have hx : x ∈ L.free.map He.Fa.free := by simpa using hx
      obtain ⟨y, hy, rfl⟩ := List.mem_map.mp hx
      exact D.fa _ (fas5 hy)
  · have n := (He.ba D.ex).1
    show (noLst K && (L.L0.clsB K && L.L0.rs.all fun c => excB K (L.L0.ca K c))) = true
    rw [n]
    rfl
theorem at0 {f : Nat} {e : EntI} (he : L.L0.es[f]? = some e) : ∃ e', L.es[f]? = some e' ∧ e = { e' with pr := none } := by
  have he : ((L.es.take 3).map (fun e => { e with pr := none }))[f]? = some e := he
  rw [List.getElem?_map, List.getElem?_take] at he
  split at he
  · cases q : L.es[f]? with
    | none => rw [q] at he; cases he
    | some e' => rw [q] at he; cases he; exact ⟨e', rfl, rfl⟩
  · cases he
theorem tab0 {P : Program} {w : World} {K : PySem.W.Frag} {h : Heap} {mg : Str → Option Value} {fdx : Nat → FuncData} {base : Heap} (hc : L.chk = true) (hc0 : L.L0.chk = true) (bnd : L.Bnd) (D : Hd L K h mg fdx) : TabOk P w K mg base (L.G K h) L.L0.T L.L0.C fdx L.psx 0 := by
  have D0 := hd0 D
  have ps_at : ∀ {f : Nat} {e : EntI}, L.L0.es[f]? = some e → L.psx f = e.ps := fun {f e} he => by
    obtain ⟨e', h1, rfl⟩ := at0 he
    unfold psx
    rw [h1]
  have fa_at : ∀ {f : Nat} {e : EntI}, L.L0.es[f]? = some e → (L.G K h).c.fa f = He.fAd K e.d.at_ := fun {f e} he => by
    obtain ⟨e', h1, rfl⟩ := at0 he
    show (match L.es[f]? with
      | some e => He.fAd K e.d.at_
      | none => 0) = _
    rw [h1]
  have lo : ∀ {f : Nat} {e : EntI}, L.L0.es[f]? = some e → (L.lam f).fr.length = 100 := fun {f e} he => by
    obtain ⟨e', h1, rfl⟩ := at0 he
    exact lam_lo hc (List.getElem?_eq_some_iff.mp h1).1
  have cs : ∀ {f : Nat} {en : Ent}, L.L0.T.fs[f]? = some en → ∃ e, L.L0.es[f]? = some e ∧ e.pr = none ∧ en = .code e.g := fun {f en} he => by
    rcases fs_cases he with ⟨e, h1, h2⟩ | ⟨j, e, _, h2, _⟩
    · obtain ⟨e', h3, rfl⟩ := at0 h1
      exact ⟨_, h1, rfl, h2⟩
    · cases h2
  have nolm : ∀ {f : Nat} {e : EntI}, L.L0.es[f]? = some e → ∀ g, L.L0.T.fs[f]? = some (.code g) → ¬ LamEnt (L.G K h) L.L0.C f g := fun {f e} he g hg z => by
    obtain ⟨e2, h1, _, h2⟩ := cs hg
    cases h2
    have h3 : e2.g.ps = (L.lam f).fr.length := z.ps
    have := (ent_ok hc0 h1).lt
    have := lo h1
    omega
  have fd0 : ∀ {f : Nat} {e : EntI}, L.L0.es[f]? = some e → FunD K e.d.name e.d.qual e.d.params e.d.body e.d.scope [] (e.d.kws K) (He.fAd K e.d.at_) (fdx f) := fun {f e} he => by
    have := D0.fn f e he
    have q : e.d.dvs K = [] := by unfold He.DefD.dvs; rw [(ent_ok hc0 he).df] <;> rfl
    rw [q] at this
    exact this
  refine ⟨⟨rfl, rfl, ⟨fun c d b z => ?_, fun c d b z => ?_, fun c z => ?_, fun c z => ?_, fun c z => (nomatch z), fun c z => ?_⟩, fun x f z => ?_, fun x c z => (nomatch z), fun x i z => (nomatch z), fun x z => ?_⟩, fun x cc hx => (nomatch hx), fun f g hg => ?_, fun f m hm => ?_, fun f m hm => ?_, fun f j ks ord hk => (nomatch hk), fun k g hg => ?_, fun k m hm => ?_⟩
  · exact absurd (show (none : Option Bool) = some b from z) (fun w => nomatch w)
  · exact absurd (show (none : Option Bool) = some b from z) (fun w => nomatch w)
  · exact absurd (show decide (c < 0) = true from z) (by simp)
  · exact absurd (show decide (c < 0) = true from z) (by simp)
  · exact absurd (show false = true from z) (fun w => nomatch w)
  · have z := lookup_mem z
    obtain ⟨⟨e, i⟩, he, q⟩ := List.mem_filterMap.mp z
    rw [List.mem_zipIdx_iff_getElem?] at he
    have he : L.L0.es[i]? = some e := he
    cases q2 : e.d.at_ with
    | mk y m =>
      have q : (match e.d.at_ with
        | (x, none) => some (x, i)
        | _ => none) = some (x, f) := q
      rw [q2] at q
      cases m with
      | some m => cases q
      | none =>
        cases q
        rw [He.glo_ok D.X D.ns (D0.fa _ (fas1 he q2)), fa_at he, q2] <;> rfl
  · exact He.free_ok D.X D.ns (D0.fa _ (fas5 (L := L.L0) (by have z : L.free.contains x = true := z; show x ∈ L.free; simpa using z)))
  · obtain ⟨e, he, hp, q⟩ := cs hg
    cases q
    have k := ent_ok hc0 he
    have oe : L.L0.obsOf e = [] := by
      rcases k.tb with z | z
      · exact z
      · cases z
    refine .inl ⟨_, _, _, _, _, _, _, e.N, [], by rw [fa_at he]; exact D0.fn f e he, by rw [ps_at he]; exact k.sc, by rw [ps_at he]; exact k.ps, k.n, ?_, fun cdv A outer s H E hcd ob hob => nomatch hob⟩
    have := k.ck
    rw [oe] at this
    unfold ck at this
    rw [hp] at this
    exact this
  · obtain ⟨e, he, hp, q⟩ := cs hm
    cases q
  · have hm : (L.L0.es[f]?).map (·.ps.length) = some m := hm
    cases he : L.L0.es[f]? with
    | none => rw [he] at hm; cases hm
    | some e =>
      rw [he] at hm
      cases hm
      rw [ps_at he, fa_at he]
      obtain ⟨e', h1, h2⟩ := at0 he
      have b := bnd e' (List.mem_of_getElem? h1)
      refine ⟨rfl, (fd0 he).bindsN ?_, (D0.fn f e he).kp, nolm he⟩
      rw [h2]
      exact b
  · obtain ⟨e, he, hp, q⟩ := cs hg
    cases q
    have := (ent_ok hc0 he).lt
    have := lo he
    refine .inr ?_
    show (L.lam k).fr.length ≠ _
    omega
  · obtain ⟨e, he, hp, q⟩ := cs hm
    cases q
theorem prims (hc : L.chk = true) (hc0 : L.L0.chk = true) (hd : L.HasDraw) (bnd : L.Bnd) : L.Prims 2 := by
  intro P w K h mg fdx base D hK hN f e m he hm
  obtain ⟨e0, e1, e2, rest, hes, g0, p0, g1, p1, g2, hr⟩ := hd.ex
  have es0 : L.L0.es = [{ e0 with pr := none }, { e1 with pr := none }, { e2 with pr := none }] := by
    show (L.es.take 3).map (fun e => { e with pr := none }) = _
    rw [hes]
    rfl
  have B : TabOk P w K mg base (L.G K h) L.L0.T L.L0.C fdx L.psx 0 := tab0 hc hc0 bnd D
  have t0 : L.L0.T.fs[0]? = some (.code f_law_begun) := by
    have := fs_es (L := L.L0) (f := 0) (e := { e0 with pr := none }) (by rw [es0]; rfl)
    rw [this]
    show some (Ent.code e0.g) = _
    rw [g0]
  have t1 : L.L0.T.fs[1]? = some (.code f_law_draw) := by
    have := fs_es (L := L.L0) (f := 1) (e := { e1 with pr := none }) (by rw [es0]; rfl)
    rw [this]
    show some (Ent.code e1.g) = _
    rw [g1]
  have t2 : L.L0.T.fs[2]? = some (.code f_law_blended) := by
    have := fs_es (L := L.L0) (f := 2) (e := { e2 with pr := none }) (by rw [es0]; rfl)
    rw [this]
    show some (Ent.code e2.g) = _
    rw [g2]
  have nl : ∀ f, f < 3 → ∀ g, L.L0.T.fs[f]? = some (.code g) → ¬ LamEnt (L.G K h) L.L0.C f g := fun f hf => by
    have : ∃ e, L.L0.es[f]? = some e := by
      rw [es0]
      match f, hf with
      | 0, _ => exact ⟨_, rfl⟩
      | 1, _ => exact ⟨_, rfl⟩
      | 2, _ => exact ⟨_, rfl⟩
    obtain ⟨e, he⟩ := this
    exact (B.ar f e.ps.length (by show (L.L0.es[f]?).map (·.ps.length) = _; rw [he]; rfl)).2.2.2
  have ps_at : L.psx f = e.ps := by unfold psx; rw [he]
  have fa_at : (L.G K h).c.fa f = He.fAd K e.d.at_ := by
    show (match L.es[f]? with
      | some e => He.fAd K e.d.at_
      | none => 0) = _
    rw [he]
  have fg := fun q => fgs_all B 2 f q
  rw [ps_at, fa_at] at fg
  rw [hes] at he
  match f, he with
  | 0, he =>
    cases he
    rw [p0] at hm
    cases hm
    exact fg_begun t0 (fg (nl 0 (by decide)))
  | 1, he =>
    cases he
    rw [p1] at hm
    cases hm
    exact fg_draw t1 t2 (fg (nl 1 (by decide)))
  | n + 2, he =>
    have : e ∈ e2 :: rest := by
      have he : (e2 :: rest)[n]? = some e := he
      exact List.mem_of_getElem? he
    rw [hr e this] at hm
    cases hm
theorem prims_lt (hd : L.HasDraw) : ∀ e ∈ L.es, ∀ m, e.pr = some m → ∀ ss Q E h, m ss Q E h → ss.length < 100 := fun e he m hm => by
  obtain ⟨e0, e1, e2, rest, hes, g0, p0, g1, p1, g2, hr⟩ := hd.ex
  rw [hes] at he
  rcases List.mem_cons.mp he with rfl | he
  · rw [p0] at hm
    cases hm
    exact begunM_lt
  · rcases List.mem_cons.mp he with rfl | he
    · rw [p1] at hm
      cases hm
      exact drawM_lt
    · rw [hr e he] at hm
      cases hm
end LayI
end Mi

set_option Elab.async false
set_option linter.all false
set_option maxRecDepth 100000
set_option maxHeartbeats 4000000
namespace Mi
open PySem L2
/-! ### plain values: no objects, no defs, no exceptions; tuples of at most b items -/
mutual
def pl (b : Nat) : Val → Bool
  | .non => true
  | .bl _ => true
  | .int _ => true
  | .str _ => true
  | .emp => true
  | .tup l => decide (l.length ≤ b) && pls b l
  | .lst l => decide (l.length ≤ b) && pls b l
  | .ref _ => false
  | .fn _ => false
  | .exc _ => false
def pls (b : Nat) : List Val → Bool
  | [] => true
  | v :: l => pl b v && pls b l
end
theorem pls_all {b : Nat} : ∀ {l : List Val}, pls b l = true ↔ ∀ v ∈ l, pl b v = true
  | [] => by simp [pls]
  | v :: l => by rw [pls, Bool.and_eq_true, pls_all]; simp
theorem pl_tup {b : Nat} {l : List Val} : pl b (.tup l) = true ↔ l.length ≤ b ∧ ∀ v ∈ l, pl b v = true := by
  rw [pl, Bool.and_eq_true, decide_eq_true_eq, pls_all]
theorem pl_lst {b : Nat} {l : List Val} : pl b (.lst l) = true ↔ l.length ≤ b ∧ ∀ v ∈ l, pl b v = true := by
  rw [pl, Bool.and_eq_true, decide_eq_true_eq, pls_all]
mutual
theorem pl_mono {b c : Nat} (h : b ≤ c) : ∀ (v : Val), pl b v = true → pl c v = true
  | .non, _ => rfl
  | .bl _, _ => rfl
  | .int _, _ => rfl
  | .str _, _ => rfl
  | .emp, _ => rfl
  | .tup l, q => by
    rw [pl, Bool.and_eq_true, decide_eq_true_eq] at q ⊢
    exact ⟨Nat.le_trans q.1 h, pls_mono h l q.2⟩
  | .lst l, q => by
    rw [pl, Bool.and_eq_true, decide_eq_true_eq] at q ⊢
    exact ⟨Nat.le_trans q.1 h, pls_mono h l q.2⟩
  | .ref _, q => by rw [pl] at q; cases q
  | .fn _, q => by rw [pl] at q; cases q
  | .exc _, q => by rw [pl] at q; cases q
theorem pls_mono {b c : Nat} (h : b ≤ c) : ∀ (l : List Val), pls b l = true → pls c l = true
  | [], _ => rfl
  | v :: l, q => by
    rw [pls, Bool.and_eq_true] at q ⊢
    exact ⟨pl_mono h v q.1, pls_mono h l q.2⟩
end
theorem pl_int (b : Nat) (i : Int) : pl b (.int i) = true := by rw [pl]
theorem pl_ints {b : Nat} {ns : List Int} (h : ns.length ≤ b) : pl b (.tup (ns.map .int)) = true := pl_tup.mpr ⟨by simpa using h, fun v hv => by
  obtain ⟨i, _, rfl⟩ := List.mem_map.mp hv
  exact pl_int b i⟩
theorem pl_lints {b : Nat} {ns : List Int} (h : ns.length ≤ b) : pl b (.lst (ns.map .int)) = true := pl_lst.mpr ⟨by simpa using h, fun v hv => by
  obtain ⟨i, _, rfl⟩ := List.mem_map.mp hv
  exact pl_int b i⟩
/-! ### comprehensions and what is asked of them -/
section
variable {G : PG} {h : CH} {ρ : Loc} {tg : List Nat} {k : ItK} {its : List E} {cond elt e : E} {vs l r : List Val}
def condX (G : PG) (h : CH) (cond : E) : Loc → Xv Bool := fun ρ' => if isSkip cond = true then xr true else xb (evE G h cond ρ') fun x => xo (truthO h x)
theorem evE_comp (hi : evEs G h its ρ = xr vs) (hw : walkP h k vs = some l) (hl : l.length ≤ sizeLine) (hc : compP tg (condX G h cond) (fun ρ' => evE G h elt ρ') (wipeL ρ tg) l = xr r) : evE G h (.comp false tg k its cond elt) ρ = xr (.lst r) := by
  rw [evE, hi]
  show xb (xo (walkP h k vs)) _ = _
  rw [hw]
  show (if l.length ≤ sizeLine then _ else none) = _
  rw [if_pos hl]
  show xb (nx (compP tg (condX G h cond) (fun ρ' => evE G h elt ρ') (wipeL ρ tg) l)) _ = _
  rw [hc]
  rfl
theorem boolsOf_map (g : Val → Bool) : ∀ (l : List Val), boolsOf (l.map fun v => .bl (g v)) = some (l.map g)
  | [] => rfl
  | v :: l => by
    show (boolsOf (l.map fun v => .bl (g v))).map (g v :: ·) = _
    rw [boolsOf_map g l] <;> rfl
/-- all([..]) -/
theorem evE_all (g : Val → Bool) (hi : evEs G h its ρ = xr vs) (hw : walkP h k vs = some l) (hl : l.length ≤ sizeLine) (hc : ∀ v ∈ l, ∃ ρ', bindTg tg v (wipeL ρ tg) = some ρ' ∧ evE G h elt ρ' = xr (.bl (g v))) : evE G h (.bi .all [.comp false tg k its .skip elt]) ρ = xr (.bl (l.all g)) := by
  have c : evE G h (.comp false tg k its .skip elt) ρ = xr (.lst ((l.filter fun _ => true).map fun v => .bl (g v))) := evE_comp hi hw hl (compP_all (fun _ => true) _ l fun v hv => by
    obtain ⟨ρ', h1, h2⟩ := hc v hv
    exact ⟨ρ', h1, rfl, fun _ => h2⟩)
  rw [List.filter_eq_self.mpr (by simp)] at c
  rw [evE, evEs, c]
  show xo (biP h .all [.lst (l.map fun v => .bl (g v))]) = _
  show xo (((some (l.map fun v => Val.bl (g v))).bind boolsOf).map fun bs => Val.bl (bs.all id)) = _
  rw [Option.bind_some, boolsOf_map]
  show xr (Val.bl ((l.map g).all id)) = _
  rw [List.all_map] <;> rfl
/-- [x for .. if ..] -/
theorem evE_filter (c : Val → Bool) (f : Val → Val) (hi : evEs G h its ρ = xr vs) (hw : walkP h k vs = some l) (hl : l.length ≤ sizeLine) (hc : ∀ v ∈ l, ∃ ρ', bindTg tg v (wipeL ρ tg) = some ρ' ∧ condX G h cond ρ' = xr (c v) ∧ (c v = true → evE G h elt ρ' = xr (f v))) : evE G h (.comp false tg k its cond elt) ρ = xr (.lst ((l.filter c).map f)) :=
  evE_comp hi hw hl (compP_all c f l hc)
theorem toDs_one : ∀ (l : List Val) (c : Val → Bool), ∃ ds, toDs ((l.filter c).map fun _ => Val.int 1) = some ds
  | [], c => ⟨_, rfl⟩
  | v :: l, c => by
    obtain ⟨ds, h⟩ := toDs_one l c
    by_cases q : c v = true
    · rw [List.filter_cons_of_pos q, List.map_cons]
      exact ⟨_, by show (match toD (.int 1), toDs ((l.filter c).map fun _ => Val.int 1) with | some d, some ds => some (d :: ds) | _, _ => none) = _; rw [h]; rfl⟩
    · rw [List.filter_cons_of_neg q]
      exact ⟨ds, h⟩
theorem any_filter {c : Val → Bool} {f : Val → Val} : ∀ (l : List Val), (!((l.filter c).map f).isEmpty) = l.any c
  | [] => rfl
  | v :: l => by
    by_cases q : c v = true
    · rw [List.filter_cons_of_pos q, List.any_cons, q]; rfl
    · have q2 : c v = false := by simpa using q
      rw [List.filter_cons_of_neg q, List.any_cons, q2, Bool.false_or, any_filter l]
/-- [1 for .. if ..] != [] -/
theorem evE_any (c : Val → Bool) (hi : evEs G h its ρ = xr vs) (hw : walkP h k vs = some l) (hl : l.length ≤ sizeLine) (hc : ∀ v ∈ l, ∃ ρ', bindTg tg v (wipeL ρ tg) = some ρ' ∧ condX G h cond ρ' = xr (c v)) : evE G h (.cmp .ne (.comp false tg k its cond (.con (.int 1))) (.list false [])) ρ = xr (.bl (l.any c)) := by
  have q := evE_filter (elt := .con (.int 1)) c (fun _ => .int 1) hi hw hl fun v hv => by
    obtain ⟨ρ', h1, h2⟩ := hc v hv
    exact ⟨ρ', h1, h2, fun _ => rfl⟩
  rw [evE, q]
  show xb (xo ((eqP h (.lst ((l.filter c).map fun _ => .int 1)) (.lst [])).map (!·))) _ = _
  obtain ⟨ds, hd⟩ := toDs_one l c
  rw [eqP_nil (l := (l.filter c).map fun _ => .int 1) rfl hd]
  show xr (Val.bl (!((l.filter c).map fun _ => Val.int 1).isEmpty)) = xr (Val.bl (l.any c))
  rw [any_filter]
end
theorem evR_rt {T : Tab} {n f : Nat} {g : Fun} {args : List Sl} {h : CH} {v : Val} (hf : T.fs[f]? = some (.code g)) (hl : args.length = g.ps) (e : evSs ⟨evR T n, T.ar, T.ci⟩ h g.body (start g.n args) = xr (.rt v)) : evR T (n + 1) h f args = xr v := by
  rw [evR_code hf]
  unfold evFun
  rw [if_pos hl, e] <;> rfl
theorem evR_er {T : Tab} {n f : Nat} {g : Fun} {args : List Sl} {h : CH} {c : Nat} (hf : T.fs[f]? = some (.code g)) (hl : args.length = g.ps) (e : evSs ⟨evR T n, T.ar, T.ci⟩ h g.body (start g.n args) = some (.error c)) : evR T (n + 1) h f args = some (.error c) := by
  rw [evR_code hf]
  unfold evFun
  rw [if_pos hl, e] <;> rfl
theorem evR_nx {T : Tab} {n f : Nat} {g : Fun} {args : List Sl} {h : CH} {ρ : Loc} (hf : T.fs[f]? = some (.code g)) (hl : args.length = g.ps) (e : evSs ⟨evR T n, T.ar, T.ci⟩ h g.body (start g.n args) = xr (.nx ρ)) : evR T (n + 1) h f args = xr .non := by
  rw [evR_code hf]
  unfold evFun
  rw [if_pos hl, e] <;> rfl
section
variable {G : PG} {h : CH} {ρ ρ' : Loc} {ss : List S} {s : S} {e : E} {v : Val} {o : Out}
/-! statement by statement -/
theorem x_cons (h1 : evS G h s ρ = xr (.nx ρ')) (h2 : evSs G h ss ρ' = xr o) : evSs G h (s :: ss) ρ = xr o := by
  rw [evSs, h1]; exact h2
theorem x_consr {r : Xv Out} (h1 : evS G h s ρ = xr (.nx ρ')) (h2 : evSs G h ss ρ' = r) : evSs G h (s :: ss) ρ = r := by
  rw [evSs, h1]; exact h2
theorem x_rt (h1 : evS G h s ρ = xr (.rt v)) : evSs G h (s :: ss) ρ = xr (.rt v) := by
  rw [evSs, h1]; rfl
theorem x_er {c : Nat} (h1 : evS G h s ρ = some (.error c)) : evSs G h (s :: ss) ρ = some (.error c) := by
  rw [evSs, h1]; rfl
theorem x_set {i : Nat} (h1 : evE G h e ρ = xr v) : evS G h (.set i e) ρ = xr (.nx (setV ρ i v)) := by
  rw [evS, h1]; rfl
theorem x_ret (h1 : evE G h e ρ = xr v) : evSs G h (.ret e :: ss) ρ = xr (.rt v) := by
  rw [evSs, evS, h1]; rfl
theorem x_if {a b : List S} {k : Bool} (h1 : evE G h e ρ = xr (.bl k)) : evS G h (.ite e a b) ρ = if k = true then evSs G h a ρ else evSs G h b ρ := by
  rw [evS, h1]; rfl
/-- if e: return False, else go on -/
theorem x_iff {f : E} {u : Val} {k : Bool} {r : Xv Out} (h1 : evE G h e ρ = xr (.bl k)) (h2 : evE G h f ρ = xr u) (h3 : k = true → r = xr (.rt u)) (h4 : k = false → evSs G h ss ρ = r) : evSs G h (.ite e [.ret f] [] :: ss) ρ = r := by
  rw [evSs, x_if h1]
  cases k
  · rw [if_neg (by simp), evSs]
    exact h4 rfl
  · rw [if_pos rfl, x_ret h2, h3 rfl]
    rfl
/-! tests -/
theorem e_or1 {es : List E} {f : E} (h1 : evE G h e ρ = xr (.bl true)) : evOr G h (e :: f :: es) ρ = xr (.bl true) := by
  rw [evOr]
  · rw [h1]; rfl
  · intro z; cases z
theorem e_or0 {es : List E} {f : E} (h1 : evE G h e ρ = xr (.bl false)) : evOr G h (e :: f :: es) ρ = evOr G h (f :: es) ρ := by
  rw [evOr]
  · rw [h1]; rfl
  · intro z; cases z
theorem e_orl : evOr G h [e] ρ = evE G h e ρ := by rw [evOr]
theorem e_and0 {es : List E} {f : E} (h1 : evE G h e ρ = xr (.bl false)) : evAnd G h (e :: f :: es) ρ = xr (.bl false) := by
  rw [evAnd]
  · rw [h1]; rfl
  · intro z; cases z
theorem e_and1 {es : List E} {f : E} (h1 : evE G h e ρ = xr (.bl true)) : evAnd G h (e :: f :: es) ρ = evAnd G h (f :: es) ρ := by
  rw [evAnd]
  · rw [h1]; rfl
  · intro z; cases z
theorem e_andl : evAnd G h [e] ρ = evE G h e ρ := by rw [evAnd]
/-- a and b, where b matters only if a -/
theorem e_and2 {f : E} {a b : Bool} (h1 : evE G h e ρ = xr (.bl a)) (h2 : a = true → evE G h f ρ = xr (.bl b)) : evE G h (.band [e, f]) ρ = xr (.bl (a && b)) := by
  rw [evE]
  cases a
  · exact e_and0 h1
  · rw [e_and1 h1, e_andl, h2 rfl]; rfl
theorem e_and3 {f g : E} {a b c : Bool} (h1 : evE G h e ρ = xr (.bl a)) (h2 : a = true → evE G h f ρ = xr (.bl b)) (h3 : a = true → b = true → evE G h g ρ = xr (.bl c)) : evE G h (.band [e, f, g]) ρ = xr (.bl (a && (b && c))) := by
  rw [evE]
  cases a
  · exact e_and0 h1
  · rw [e_and1 h1]
    cases b
    · exact e_and0 (h2 rfl)
    · rw [e_and1 (h2 rfl), e_andl, h3 rfl rfl]; rfl
theorem e_or2 {f : E} {a b : Bool} (h1 : evE G h e ρ = xr (.bl a)) (h2 : a = false → evE G h f ρ = xr (.bl b)) : evE G h (.bor [e, f]) ρ = xr (.bl (a || b)) := by
  rw [evE]
  cases a
  · rw [e_or0 h1, e_orl, h2 rfl]; rfl
  · exact e_or1 h1
theorem e_or3 {f g : E} {a b c : Bool} (h1 : evE G h e ρ = xr (.bl a)) (h2 : a = false → evE G h f ρ = xr (.bl b)) (h3 : a = false → b = false → evE G h g ρ = xr (.bl c)) : evE G h (.bor [e, f, g]) ρ = xr (.bl (a || (b || c))) := by
  rw [evE]
  cases a
  · rw [e_or0 h1]
    cases b
    · rw [e_or0 (h2 rfl), e_orl, h3 rfl rfl]; rfl
    · exact e_or1 (h2 rfl)
  · exact e_or1 h1
theorem x_not {a : Bool} (h1 : evE G h e ρ = xr (.bl a)) : evE G h (.not e) ρ = xr (.bl (!a)) := by
  rw [evE, h1]; rfl
theorem x_cmp {op : Cm} {a b : E} {x y : Val} {c : Bool} (h1 : evE G h a ρ = xr x) (h2 : evE G h b ρ = xr y) (h3 : cmpP h op x y = some c) : evE G h (.cmp op a b) ρ = xr (.bl c) := by
  rw [evE, h1]
  show xb (evE G h b ρ) _ = _
  rw [h2]
  show xb (xo (cmpP h op x y)) _ = _
  rw [h3]
  rfl
theorem x_chain {o1 o2 : Cm} {a b c : E} {x y z : Val} {k l : Bool} (h1 : evE G h a ρ = xr x) (h2 : evE G h b ρ = xr y) (h3 : cmpP h o1 x y = some k) (h4 : k = true → evE G h c ρ = xr z) (h5 : k = true → cmpP h o2 y z = some l) : evE G h (.chain o1 o2 a b c) ρ = xr (.bl (k && l)) := by
  rw [evE, h1]
  show xb (evE G h b ρ) _ = _
  rw [h2]
  show xb (xo (cmpP h o1 x y)) _ = _
  rw [h3]
  show (if k = true then _ else _) = _
  cases k
  · rfl
  · rw [if_pos rfl, h4 rfl]
    show xb (xo (cmpP h o2 y z)) _ = _
    rw [h5 rfl]
    rfl
theorem x_call {x : Str} {f : Nat} {es : List E} {vs : List Val} {r : Xv Val} (h1 : evEs G h es ρ = xr vs) (h2 : G.call h f (vals vs) = r) : evE G h (.call x f es) ρ = r := by
  rw [evE, h1]; exact h2
theorem x_callk {x : Str} {f : Nat} {es kes : List E} {ks : List Str} {ord : List Nat} {vs ws : List Val} {r : Xv Val} (h1 : evEs G h es ρ = xr vs) (h3 : evEs G h kes ρ = xr ws) (h2 : G.call h f (vals (pickL ord (vs ++ ws))) = r) : evE G h (.callk x f es ks kes ord) ρ = r := by
  rw [evE, h1]
  show xb (evEs G h kes ρ) _ = _
  rw [h3]
  exact h2
theorem x_bin {op : Op} {m : Bool} {a b : E} {x y z : Val} (h1 : evE G h a ρ = xr x) (h2 : evE G h b ρ = xr y) (h3 : binP h op m x y = some z) : evE G h (.bin op m a b) ρ = xr z := by
  rw [evE, h1]
  show xb (evE G h b ρ) _ = _
  rw [h2]
  show xo (binP h op m x y) = _
  rw [h3]
  rfl
theorem x_bi {b : Bi} {es : List E} {vs : List Val} (h1 : evEs G h es ρ = xr vs) (h2 : biP h b vs = some v) : evE G h (.bi b es) ρ = xr v := by
  rw [evE, h1]
  show xo (biP h b vs) = _
  rw [h2]
  rfl
theorem x_es1 {a : E} {x : Val} (h1 : evE G h a ρ = xr x) : evEs G h [a] ρ = xr [x] := by
  rw [evEs, h1]; rfl
theorem x_esc {a : E} {es : List E} {x : Val} {vs : List Val} (h1 : evE G h a ρ = xr x) (h2 : evEs G h es ρ = xr vs) : evEs G h (a :: es) ρ = xr (x :: vs) := by
  rw [evEs, h1]
  show xb (evEs G h es ρ) _ = _
  rw [h2]
  rfl
theorem x_tup {es : List E} {vs : List Val} (h1 : evEs G h es ρ = xr vs) : evE G h (.tup es) ρ = xr (.tup vs) := by
  rw [evE, h1]; rfl
theorem x_list {es : List E} {vs : List Val} (h1 : evEs G h es ρ = xr vs) : evE G h (.list false es) ρ = xr (.lst vs) := by
  rw [evE, h1]; rfl
theorem x_ite {a b : E} {k : Bool} (h1 : evE G h e ρ = xr (.bl k)) : evE G h (.ite e a b) ρ = if k = true then evE G h a ρ else evE G h b ρ := by
  rw [evE, h1]; rfl
theorem x_setT {is : List Nat} {vs : List Val} (h1 : evE G h e ρ = xr (.tup vs)) (h2 : setVs ρ is vs = some ρ') : evS G h (.setT is e) ρ = xr (.nx ρ') := by
  rw [evS, h1]
  show xb (xo (setVs ρ is vs)) _ = _
  rw [h2]
  rfl
theorem x_ex {u : Val} (h1 : evE G h e ρ = xr u) : evS G h (.ex e) ρ = xr (.nx ρ) := by
  rw [evS, h1]; rfl
theorem x_exr {c : Nat} (h1 : evE G h e ρ = some (.error c)) : evS G h (.ex e) ρ = some (.error c) := by
  rw [evS, h1]; rfl
end
end Mi

set_option Elab.async false
set_option linter.all false
set_option maxRecDepth 100000
set_option maxHeartbeats 4000000
namespace Mi
open PySem L2
/-! ### what draws do to the heap: the source counts, all else stays -/
def Dr (a : Addr) (m : Nat) (h : CH) : Prop := ∃ n, n ≤ m ∧ h a = some (.ab (.draws n))
structure Xt (a : Addr) (k : Nat) (h h' : CH) : Prop where
  dr : ∀ n, h a = some (.ab (.draws n)) → ∃ n', n' ≤ n + k ∧ h' a = some (.ab (.draws n'))
  keep : ∀ b o, b ≠ a → h b = some o → h' b = some o
section
variable {a : Addr} {m k l : Nat} {h h' h1 h2 : CH}
theorem Xt.refl : Xt a 0 h h := ⟨fun n e => ⟨n, by omega, e⟩, fun b o _ e => e⟩
theorem Xt.trans (x : Xt a k h h1) (y : Xt a l h1 h2) : Xt a (k + l) h h2 := ⟨fun n e => by
  obtain ⟨n1, e1, e2⟩ := x.dr n e
  obtain ⟨n2, e3, e4⟩ := y.dr n1 e2
  exact ⟨n2, by omega, e4⟩, fun b o nb e => y.keep b o nb (x.keep b o nb e)⟩
theorem Xt.mono (x : Xt a k h h1) (e : k ≤ l) : Xt a l h h1 := ⟨fun n q => by
  obtain ⟨n1, e1, e2⟩ := x.dr n q
  exact ⟨n1, by omega, e2⟩, x.keep⟩
theorem Dr.mono (d : Dr a m h) (e : m ≤ k) : Dr a k h := by
  obtain ⟨n, e1, e2⟩ := d
  exact ⟨n, by omega, e2⟩
theorem Dr.next (d : Dr a m h) (x : Xt a k h h') : Dr a (m + k) h' := by
  obtain ⟨n, e1, e2⟩ := d
  obtain ⟨n', e3, e4⟩ := x.dr n e2
  exact ⟨n', by omega, e4⟩
theorem Dr.at_ (d : Dr a m h) : ∃ n, h a = some (.ab (.draws n)) := by
  obtain ⟨n, _, e⟩ := d
  exact ⟨n, e⟩
/-- something new beside -/
theorem Xt.new {p : Addr} {o : CO} (n : h p = none) (d : Dr a m h) : Xt a 0 h (h.set p o) := by
  have ne : ∀ {b u}, h b = some u → b ≠ p := fun {b u} e z => by rw [z, n] at e; cases e
  exact ⟨fun n e => ⟨n, by omega, by rw [CH.set_ne (ne e)]; exact e⟩, fun b u _ e => by rw [CH.set_ne (ne e)]; exact e⟩
/-- what is new since h is written -/
theorem Xt.write {p : Addr} {o : CO} (x : Xt a k h h1) (n : h p = none) (np : p ≠ a) : Xt a k h (h1.set p o) :=
  ⟨fun n e => by
    obtain ⟨n', e1, e2⟩ := x.dr n e
    exact ⟨n', e1, by rw [CH.set_ne (Ne.symm np)]; exact e2⟩, fun b u nb e => by
    have : b ≠ p := fun z => by rw [z, n] at e; cases e
    rw [CH.set_ne this]
    exact x.keep b u nb e⟩
theorem new_ne {p : Addr} (n : h p = none) (d : Dr a m h) : p ≠ a := by
  obtain ⟨k, _, e⟩ := d
  rintro rfl
  rw [n] at e
  cases e
end
/-! ### the prims -/
section
variable {T : Tab} {d : Nat} {h : CH} {a : Addr} {m : Nat} {Q : Val → CH → Prop} {E : Nat → CH → Prop}
theorem run_prim {f : Nat} {pm : List Sl → M Val} {args : List Sl} (hT : T.fs[f]? = some (.prim pm)) (w : pm args Q E h) : run T (d + 1) f args Q E h := by
  show (match T.fs[f]? with
    | some (.code g) => runFun (T.dg (run T d)) g args
    | some (.prim m) => m args
    | none => stuck) Q E h
  rw [hT]
  exact w
theorem p_draw (hT : T.fs[1]? = some (.prim drawM)) {s : Int} (hd : Dr a m h) (hm : m < 2 ^ 40) (h1 : 0 < s) (h2 : s < 2 ^ 30) (q : ∀ (r : Int) (h' : CH), 0 ≤ r → r < s → Xt a 1 h h' → Q (.int r) h') : run T (d + 1) 1 [.v (.ref a), .v (.int s)] Q E h := by
  obtain ⟨n, e1, e2⟩ := hd
  refine run_prim hT ⟨n, e2, by omega, h1, h2, fun r r1 r2 => q r _ r1 r2 ⟨fun n' e => ?_, fun b o nb e => by rw [CH.set_ne nb]; exact e⟩⟩
  rw [e2] at e
  cases e
  exact ⟨n + 1, Nat.le_refl _, CH.set_same⟩
theorem p_begun (hT : T.fs[0]? = some (.prim begunM)) {ns : List Int} (hn : ns.length ≤ sizeLine) (q : ∀ p, h p = none → Q (.ref p) (h.set p (.ab (.draws 0)))) : run T (d + 1) 0 [.v (.lst (ns.map .int))] Q E h :=
  run_prim hT ⟨ns, rfl, hn, q⟩
end
/-! ### more steps -/
section
variable {D : DG} {G : PG} {h : CH} {ρ ρ' : Loc} {ss body : List S} {s : S} {e o : Mi.E} {es : List Mi.E} {v : Val} {Q : Out → CH → Prop} {E : Nat → CH → Prop}
theorem s_setT {is : List Nat} (w : denE D e ρ (fun v h' => ∃ ρ', (tupOf v).bind (setVs ρ is) = some ρ' ∧ denSs D ss ρ' Q E h') E h) : denSs D (.setT is e :: ss) ρ Q E h := by
  rw [denSs, denS]
  have f : (fun v h' => ∃ ρ', (tupOf v).bind (setVs ρ is) = some ρ' ∧ denSs D ss ρ' Q E h') = fun (v : Val) (h' : CH) => opt ((tupOf v).bind (setVs ρ is)) (fun ρ' => ret (Out.nx ρ')) (fun (o : Out) h'' => (match o with
      | .nx ρ' => denSs D ss ρ'
      | o => ret o : M Out) Q E h'') E h' := by
    funext v h'
    cases (tupOf v).bind (setVs ρ is) with
    | none => exact propext ⟨fun ⟨_, z, _⟩ => (nomatch z), fun z => (show False from z).elim⟩
    | some ρ' => exact propext ⟨fun ⟨_, z, w⟩ => by cases z; exact w, fun w => ⟨ρ', rfl, w⟩⟩
  rw [f] at w
  exact w
theorem s_while {c : Mi.E} (n : Nat) (w : whileN (fun ρ' => denC D c ρ') (fun ρ' => denSs D body ρ') n ρ (fun o h' => match o with
    | .nx ρ' => denSs D ss ρ' Q E h'
    | .rt v => Q (.rt v) h'
    | .ct ρ' => Q (.ct ρ') h') E h) : denSs D (.while c body :: ss) ρ Q E h := by
  rw [denSs, denS]
  refine ⟨n, ?_⟩
  have f : (fun (o : Out) h' => match o with
    | .nx ρ' => denSs D ss ρ' Q E h'
    | .rt v => Q (.rt v) h'
    | .ct ρ' => Q (.ct ρ') h') = fun (o : Out) h' => (match o with
      | .nx ρ' => denSs D ss ρ'
      | o => ret o : M Out) Q E h' := by
    funext o h'
    cases o <;> rfl
  rw [f] at w
  exact w
/-- a for -/
theorem s_for {tg : List Nat} {k : ItK} {its : List Mi.E} (w : denEs D its ρ (fun vs h1 => walkM k vs (fun p h2 => forGo p.1 tg (fun ρ' => denSs D body ρ') p.2 ρ (fun (o : Out) h' => match o with
    | .nx ρ' => denSs D ss ρ' Q E h'
    | .rt v => Q (.rt v) h'
    | .ct ρ' => Q (.ct ρ') h') E h2) E h1) E h) : denSs D (.for tg k its body :: ss) ρ Q E h := by
  rw [denSs, denS]
  have f : (fun (o : Out) h' => match o with
    | .nx ρ' => denSs D ss ρ' Q E h'
    | .rt v => Q (.rt v) h'
    | .ct ρ' => Q (.ct ρ') h') = fun (o : Out) h' => (match o with
      | .nx ρ' => denSs D ss ρ'
      | o => ret o : M Out) Q E h' := by
    funext o h'
    cases o <;> rfl
  rw [f] at w
  exact w
end
/-! calls in a table's run -/
section
variable {T : Tab} {n f : Nat} {h : CH} {ρ : Loc} {es kes : List Mi.E} {x : Str} {Q : Val → CH → Prop} {E : Nat → CH → Prop}
theorem e_callR (w : denEs (T.dg (run T n)) es ρ (fun vs h1 => run T n f (vals vs) Q E h1) E h) : denE (T.dg (run T n)) (.call x f es) ρ Q E h := e_call w
theorem e_callkR {ks : List Str} {ord : List Nat} (w : denEs (T.dg (run T n)) es ρ (fun vs h1 => denEs (T.dg (run T n)) kes ρ (fun ws h2 => run T n f (vals (pickL ord (vs ++ ws))) Q E h2) E h1) E h) : denE (T.dg (run T n)) (.callk x f es ks kes ord) ρ Q E h := e_callk w
theorem e_callcR {c : Clo} {k : Sl} (hk : cloOf ρ c = some k) (w : denEs (T.dg (run T n)) es ρ (fun vs h1 => run T n f (vals vs ++ [k]) Q E h1) E h) : denE (T.dg (run T n)) (.callc x f es c) ρ Q E h := e_callc hk w
end
section
variable {D : DG} {G : PG} {h : CH} {ρ : Loc} {a hi : Mi.E} {m : Bool} {Q : Val → CH → Prop} {E : Nat → CH → Prop}
theorem e_cutto (hs : isSkip hi = false) (w : denE D a ρ (fun x h1 => denE D hi ρ (fun v h2 => opt (partO v) (fun u => cutM m x none u) Q E h2) E h1) E h) : denE D (.cut m a .skip hi) ρ Q E h := by
  rw [denE, hs]
  have f : ∀ x : Val, (fun (u : Option Int) => cutM m x none u) = fun u => cutM m x none u := fun x => rfl
  show denE D a ρ (fun x h1 => denE D hi ρ (fun v h2 => opt (partO v) (fun u => ret u) (fun u h3 => cutM m x none u Q E h3) E h2) E h1) E h
  have g : (fun x h1 => denE D hi ρ (fun v h2 => opt (partO v) (fun u => ret u) (fun u h3 => cutM m x none u Q E h3) E h2) E h1) = fun (x : Val) (h1 : CH) => denE D hi ρ (fun v h2 => opt (partO v) (fun u => cutM m x none u) Q E h2) E h1 := by
    funext x h1
    congr 1
    funext v h2
    cases partO v <;> rfl
  rw [g]
  exact w
end
theorem toDs_of : ∀ {l : List Val}, (∀ v ∈ l, ∃ d, toD v = some d) → ∃ ds, toDs l = some ds
  | [], _ => ⟨[], rfl⟩
  | v :: l, h => by
    obtain ⟨d, hd⟩ := h v (by simp)
    obtain ⟨ds, hds⟩ := toDs_of (l := l) fun u hu => h u (by simp [hu])
    exact ⟨d :: ds, by show (match toD v, toDs l with | some d, some ds => some (d :: ds) | _, _ => none) = _; rw [hd, hds]⟩
theorem perm_ints {l : List Val} {ns : List Int} (h : l.Perm (ns.map .int)) : ∃ ms : List Int, l = ms.map .int ∧ (∀ i ∈ ms, i ∈ ns) ∧ ms.length = ns.length := by
  have all : ∀ {k : List Val}, (∀ v ∈ k, v ∈ ns.map Val.int) → ∃ ms : List Int, k = ms.map .int ∧ ∀ i ∈ ms, i ∈ ns := fun {k} => by
    induction k with
    | nil => exact fun _ => ⟨[], rfl, fun i hi => nomatch hi⟩
    | cons v k ih =>
      intro hv
      obtain ⟨ms, e1, e2⟩ := ih fun u hu => hv u (by simp [hu])
      obtain ⟨i, hi, e⟩ := List.mem_map.mp (hv v (by simp))
      refine ⟨i :: ms, by rw [e1, ← e]; rfl, fun j hj => ?_⟩
      rcases List.mem_cons.mp hj with rfl | hj
      · exact hi
      · exact e2 j hj
  obtain ⟨ms, e1, e2⟩ := all fun v hv => h.mem_iff.mp hv
  refine ⟨ms, e1, e2, ?_⟩
  have := h.length_eq
  rw [e1, List.length_map, List.length_map] at this
  exact this
section
variable {D : DG} {G : PG} {h : CH} {ρ : Loc} {c : Mi.E} {body : Loc → M Out} {n : Nat} {Q : Out → CH → Prop} {E : Nat → CH → Prop}
theorem w_false (ok : PGok D G) (hs : isSkip c = false) (he : evE G h c ρ = xr (.bl false)) (w : Q (.nx ρ) h) : whileN (fun ρ' => denC D c ρ') body (n + 1) ρ Q E h := by
  have e : denC D c ρ = bnd (denE D c ρ) truthM := if_neg (by rw [hs]; decide)
  show denC D c ρ _ E h
  rw [e]
  exact e_ev ok he w
theorem w_true (ok : PGok D G) (hs : isSkip c = false) (he : evE G h c ρ = xr (.bl true)) (w : body ρ (fun o h2 => match o with
      | .nx ρ2 => whileN (fun ρ' => denC D c ρ') body n ρ2 Q E h2
      | .ct ρ2 => whileN (fun ρ' => denC D c ρ') body n ρ2 Q E h2
      | .rt v => Q (.rt v) h2) E h) : whileN (fun ρ' => denC D c ρ') body (n + 1) ρ Q E h := by
  have e : denC D c ρ = bnd (denE D c ρ) truthM := if_neg (by rw [hs]; decide)
  show denC D c ρ _ E h
  rw [e]
  exact e_ev ok he w
end
theorem bm_append {h : CH} {a : Addr} {l : List Val} {v : Val} {Q : Val → CH → Prop} {E : Nat → CH → Prop} (e : h a = some (.list l)) (hl : l.length < sizeLine) (q : Q .non (h.set a (.list (l ++ [v])))) : bmM .append (.ref a) [v] Q E h := by
  have w : appendM a v Q E h := by
    unfold appendM
    rw [e]
    exact ⟨hl, q⟩
  exact w
theorem bm_popAt {h : CH} {a : Addr} {l : List Val} {r : Int} {Q : Val → CH → Prop} {E : Nat → CH → Prop} (e : h a = some (.list l)) (r0 : 0 ≤ r) (r1 : r < l.length) (hl : l.length ≤ sizeLine) (q : ∀ hi : r.toNat < l.length, Q l[r.toNat] (h.set a (.list (l.eraseIdx r.toNat)))) : bmM .pop (.ref a) [.int r] Q E h := by
  have hi : r.toNat < l.length := by omega
  have sz : sizeLine = 16777216 := rfl
  have w : popAtM a r Q E h := by
    unfold popAtM
    rw [e]
    refine ⟨by unfold smallI; omega, ?_⟩
    have si : seqIndex? r l.length = some r.toNat := by
      have hr : ¬ r < 0 := by omega
      have hr2 : r < (l.length : Int) := r1
      unfold seqIndex?
      simp [hr, hr2]
      try omega
    rw [si]
    show (match l[r.toNat]? with
      | some v => _
      | none => False)
    rw [List.getElem?_eq_getElem hi]
    exact q hi
  exact w
theorem idx_perm {α : Type} : ∀ {l : List α} {i : Nat} (h : i < l.length), (l[i] :: l.eraseIdx i).Perm l
  | a :: l, 0, _ => List.Perm.refl _
  | a :: l, i + 1, h => by
    have hi : i < l.length := by simpa using h
    have ih := idx_perm (l := l) (i := i) hi
    exact (List.Perm.swap a l[i] (l.eraseIdx i)).trans (List.Perm.cons a ih)
/-! tests that write -/
section
variable {D : DG} {G : PG} {h : CH} {ρ : Loc} {e f : Mi.E} {es : List Mi.E} {Q : Val → CH → Prop} {E : Nat → CH → Prop}
theorem e_bor (w : denOr D es ρ Q E h) : denE D (.bor es) ρ Q E h := by rw [denE]; exact w
theorem e_band (w : denAnd D es ρ Q E h) : denE D (.band es) ρ Q E h := by rw [denE]; exact w
theorem o_false (ok : PGok D G) (he : evE G h e ρ = xr (.bl false)) (w : denOr D (f :: es) ρ Q E h) : denOr D (e :: f :: es) ρ Q E h := by
  rw [denOr]
  · exact e_ev ok he w
  · intro z; cases z
theorem o_last (w : denE D e ρ Q E h) : denOr D [e] ρ Q E h := by rw [denOr]; exact w
theorem a_true (ok : PGok D G) (he : evE G h e ρ = xr (.bl true)) (w : denAnd D (f :: es) ρ Q E h) : denAnd D (e :: f :: es) ρ Q E h := by
  rw [denAnd]
  · exact e_ev ok he w
  · intro z; cases z
theorem a_step (w : denE D e ρ (fun x h1 => truthM x (fun b h2 => (if b = true then denAnd D (f :: es) ρ else ret x) Q E h2) E h1) E h) : denAnd D (e :: f :: es) ρ Q E h := by
  rw [denAnd]
  · exact w
  · intro z; cases z
theorem e_repr {n : Bool} {a b : Mi.E} (w : reprEqM n (denE D a) (denE D b) ρ Q E h) : denE D (.reprEq n a b) ρ Q E h := by rw [denE]; exact w
theorem a_last (w : denE D e ρ Q E h) : denAnd D [e] ρ Q E h := by rw [denAnd]; exact w
theorem bin_tadd {l r : List Val} {m : Bool} (hl : l.length + r.length ≤ sizeLine) : binP h .add m (.tup l) (.tup r) = some (.tup (l ++ r)) := by
  show grd (decide (l.length + r.length ≤ sizeLine)) _ = _
  rw [decide_eq_true hl] <;> rfl
theorem bin_ladd {l r : List Val} (hl : l.length + r.length ≤ sizeLine) : binP h .add false (.lst l) (.lst r) = some (.lst (l ++ r)) := by
  show addP h false (.lst l) (.lst r) = _
  unfold addP
  exact if_pos hl
theorem eqP_tnil {l : List Val} {ds : List PyData} (e2 : toDs l = some ds) : eqP h (.tup l) (.tup []) = some l.isEmpty := by
  have e3 : toD (.tup l) = some (.tuple ds) := by show (toDs l).map PyData.tuple = _; rw [e2]; rfl
  unfold eqP
  show (match toD (.tup l), toD (.tup []) with
    | some d, some e => _
    | _, _ => none) = _
  rw [e3]
  show grd (decide (min (PyData.tuple ds).depth (PyData.tuple []).depth ≤ 64)) (PyData.eqv (.tuple ds) (.tuple [])) = _
  have e4 : (PyData.tuple []).depth = 1 := rfl
  have e5 : PyData.eqv (.tuple ds) (.tuple []) = PyData.eqvAll ds [] := by rw [PyData.eqv]
  rw [e4, e5, eqvAll_nil, toDs_isEmpty e2, decide_eq_true (show min (PyData.tuple ds).depth 1 ≤ 64 by omega)]
  rfl
end
/-- a loop by an invariant of what is done; the body's proof is told its own continuation -/
theorem forGo_inv {s : Src} {tg : List Nat} {body : Loc → M Out} {E : Nat → CH → Prop} {R : Val → CH → Prop} {C : Loc → CH → Prop} (I : List Val → Loc → CH → Prop) (K : Loc → CH → Prop) : ∀ (l done : List Val) (ρ : Loc) (h : CH),
    (∀ p v r ρ h, done ++ l = p ++ v :: r → I p ρ h → s.ok h ∧ ∃ ρ1, bindTg tg v ρ = some ρ1 ∧ ∀ K' : Loc → CH → Prop, (∀ ρ2 h2, I (p ++ [v]) ρ2 h2 → K' ρ2 h2) → body ρ1 (fun o h1 => match o with
      | .nx ρ2 => K' ρ2 h1
      | .ct ρ2 => K' ρ2 h1
      | .rt v => R v h1) E h) →
    (∀ ρ h, I (done ++ l) ρ h → s.ok h ∧ K ρ h) → I done ρ h → forGo s tg body l ρ (fun o h' => match o with
      | .nx ρ' => K ρ' h'
      | .rt v => R v h'
      | .ct ρ' => C ρ' h') E h
  | [], done, ρ, h, _, fin, hI => fin ρ h (by rw [List.append_nil]; exact hI)
  | v :: l, done, ρ, h, st, fin, hI => by
    obtain ⟨h1, ρ1, h2, h3⟩ := st done v l ρ h rfl hI
    refine ⟨h1, ?_⟩
    rw [h2]
    have w := h3 (fun ρ2 h2 => forGo s tg body l ρ2 (fun o h' => match o with
      | .nx ρ' => K ρ' h'
      | .rt v => R v h'
      | .ct ρ' => C ρ' h') E h2) fun ρ2 h2 hI2 => forGo_inv I K l (done ++ [v]) ρ2 h2 (fun p w r ρ h e => st p w r ρ h (by rw [← e]; simp)) (fun ρ h hI => fin ρ h (by simpa using hI)) hI2
    exact w
end Mi

set_option Elab.async false
set_option linter.all false
set_option maxRecDepth 100000
set_option maxHeartbeats 4000000
namespace Mi
open PySem L2
/-! ### lists of ints -/
def rgI (lo hi : Int) : List Int := (List.range (hi - lo).toNat).map fun i => lo + (i : Nat)
theorem rangeL_eq (lo hi : Int) : rangeL lo hi = (rgI lo hi).map .int := by
  unfold rangeL rgI
  rw [List.map_map]
  rfl
theorem rgI_mem {lo hi k : Int} : k ∈ rgI lo hi ↔ lo ≤ k ∧ k < hi := by
  unfold rgI
  rw [List.mem_map]
  constructor
  · rintro ⟨i, hi, rfl⟩
    rw [List.mem_range] at hi
    omega
  · intro h
    exact ⟨(k - lo).toNat, by rw [List.mem_range]; omega, by omega⟩
theorem rgI_len {lo hi : Int} : (rgI lo hi).length = (hi - lo).toNat := by
  unfold rgI
  rw [List.length_map, List.length_range]
theorem rgI_pw {lo hi : Int} : (rgI lo hi).Pairwise (· < ·) := by
  unfold rgI
  rw [List.pairwise_map]
  refine List.Pairwise.imp ?_ List.pairwise_lt_range
  intro a b h
  omega
theorem inP_int {h : CH} {m : Int} {ns : List Int} : inP h (.int m) (.tup (ns.map .int)) = some (ns.any fun e => e == m) := by
  unfold inP
  show (match some (PyData.int m), some (ns.map Val.int) with
    | some d, some l => _
    | _, _ => none) = _
  show (match toDs (ns.map Val.int) with
    | some ds => _
    | none => none) = _
  rw [toDs_ints]
  show grd ((ns.map PyData.int).all fun e => decide (min (PyData.int m).depth e.depth ≤ 64)) ((ns.map PyData.int).any fun e => PyData.eqv e (.int m)) = _
  have e1 : ((ns.map PyData.int).all fun e => decide (min (PyData.int m).depth e.depth ≤ 64)) = true := by
    rw [List.all_eq_true]
    intro e he
    obtain ⟨i, _, rfl⟩ := List.mem_map.mp he
    rfl
  rw [e1, List.any_map]
  rfl
theorem any_mem {ns : List Int} {m : Int} : (ns.any fun e => e == m) = ns.contains m := by
  induction ns with
  | nil => rfl
  | cons a r ih =>
    rw [List.any_cons, List.contains_cons, ih]
    congr 1
    rw [Bool.eq_iff_iff]
    simp
    exact eq_comm
theorem cutL_to {α : List Val} {k : Int} (hk : 0 ≤ k) : cutL α none (some k) = α.take k.toNat := by
  unfold cutL HT.sIx
  dsimp only
  rw [if_neg (by omega), List.drop_zero, Nat.sub_zero, List.take_eq_take_iff]
  omega
theorem cutL_from {α : List Val} {k : Int} (hk : 0 ≤ k) : cutL α (some k) none = α.drop k.toNat := by
  unfold cutL HT.sIx
  dsimp only
  rw [if_neg (by omega)]
  rw [List.take_of_length_le (by rw [List.length_drop]; exact Nat.le_refl _)]
  by_cases q : k.toNat ≤ α.length
  · rw [Nat.min_eq_left q]
  · rw [Nat.min_eq_right (by omega), List.drop_length, List.drop_eq_nil_of_le (by omega)]
def ascB : List Int → Bool
  | [] => true
  | [_] => true
  | a :: b :: r => decide (a < b) && ascB (b :: r)
theorem ascB_pw : ∀ {l : List Int}, ascB l = true ↔ l.Pairwise (· < ·)
  | [] => by simp [ascB]
  | [a] => by simp [ascB]
  | a :: b :: r => by
    rw [ascB, Bool.and_eq_true, decide_eq_true_eq, ascB_pw, List.pairwise_cons (a := a)]
    constructor
    · rintro ⟨h1, h2⟩
      refine ⟨fun c hc => ?_, h2⟩
      rcases List.mem_cons.mp hc with rfl | hc
      · exact h1
      · exact Int.lt_trans h1 ((List.pairwise_cons.mp h2).1 c hc)
    · rintro ⟨h1, h2⟩
      exact ⟨h1 b (by simp), h2⟩
theorem asc_sset {l : List Int} : ascB l = true ↔ l = sset l := by
  rw [ascB_pw]
  constructor
  · intro h
    exact pw_unique h sset_pw fun k => sset_mem.symm
  · intro h
    rw [h]
    exact sset_pw
def ltB (v : Val) : Bool := match v with
  | .tup [.int a, .int b] => decide (a < b)
  | _ => false
theorem zip_asc : ∀ (ns : List Int), (zipL (ns.map Val.int) ((ns.map Val.int).drop 1)).all ltB = ascB ns
  | [] => rfl
  | [a] => rfl
  | a :: b :: r => by
    have := zip_asc (b :: r)
    show (ltB (.tup [.int a, .int b]) && (zipL ((b :: r).map Val.int) (((b :: r).map Val.int).drop 1)).all ltB) = _
    rw [this]
    rfl
def inB (p : Int) (v : Val) : Bool := match v with
  | .int i => decide (0 ≤ i) && decide (i < p)
  | _ => false
theorem inB_int {p : Int} {v : Val} (h : inB p v = true) : ∃ i, v = .int i ∧ 0 ≤ i ∧ i < p := by
  cases v with
  | int i =>
    have h : (decide (0 ≤ i) && decide (i < p)) = true := h
    rw [Bool.and_eq_true, decide_eq_true_eq, decide_eq_true_eq] at h
    exact ⟨i, rfl, h⟩
  | _ => cases h
theorem all_ints {p : Int} : ∀ {xs : List Val}, xs.all (inB p) = true → ∃ ns : List Int, xs = ns.map .int ∧ (∀ i ∈ ns, 0 ≤ i ∧ i < p) ∧ intsOf xs = some ns
  | [], _ => ⟨[], rfl, fun i h => (nomatch h), rfl⟩
  | v :: xs, h => by
    rw [List.all_cons, Bool.and_eq_true] at h
    obtain ⟨i, rfl, h1⟩ := inB_int h.1
    obtain ⟨ns, rfl, h2, h3⟩ := all_ints h.2
    refine ⟨i :: ns, rfl, fun j hj => ?_, ?_⟩
    · rcases List.mem_cons.mp hj with rfl | hj
      · exact h1
      · exact h2 j hj
    · show (intsOf (ns.map .int)).map (i :: ·) = _
      rw [h3]
      rfl
def lotI (p : Int) (x : Val) : Option (List Int) := match x with
  | .tup xs => (intsOf xs).bind fun ns => if (xs.all (inB p) && ascB ns) = true then some ns else none
  | _ => none
theorem lotI_spec {p : Int} {x : Val} {ns : List Int} (h : lotI p x = some ns) : x = .tup (ns.map .int) ∧ (∀ i ∈ ns, 0 ≤ i ∧ i < p) ∧ ns.Pairwise (· < ·) := by
  unfold lotI at h
  cases x with
  | tup xs =>
    dsimp only at h
    obtain ⟨ms, h1, h2⟩ := bind_some h
    split at h2
    · rename_i h3
      cases h2
      rw [Bool.and_eq_true] at h3
      obtain ⟨ks, rfl, h4, h5⟩ := all_ints h3.1
      rw [h1] at h5
      cases h5
      exact ⟨rfl, h4, ascB_pw.mp h3.2⟩
    · cases h2
  | _ => cases h
theorem lotI_of {p : Int} {ns : List Int} (h1 : ∀ i ∈ ns, 0 ≤ i ∧ i < p) (h2 : ns.Pairwise (· < ·)) : lotI p (.tup (ns.map .int)) = some ns := by
  have e : (ns.map Val.int).all (inB p) = true := by
    rw [List.all_eq_true]
    intro v hv
    obtain ⟨i, hi, rfl⟩ := List.mem_map.mp hv
    have := h1 i hi
    show (decide (0 ≤ i) && decide (i < p)) = true
    simp [this]
  have e2 : intsOf (ns.map Val.int) = some ns := by
    obtain ⟨ms, h3, _, h4⟩ := all_ints e
    have : ns = ms := by
      have f : ∀ {a b : List Int}, a.map Val.int = b.map Val.int → a = b := fun {a b} h => by
        induction a generalizing b with
        | nil => cases b with
          | nil => rfl
          | cons _ _ => cases h
        | cons x a ih => cases b with
          | nil => cases h
          | cons y b =>
            rw [List.map_cons, List.map_cons] at h
            injection h with h1 h2
            injection h1 with h1
            rw [h1, ih h2]
      exact f h3
    rw [h4, this]
  unfold lotI
  dsimp only
  rw [e2]
  show (if _ then _ else _) = _
  rw [if_pos (by rw [e, ascB_pw.mpr h2]; rfl)]
section
variable {h : CH}
theorem len_ne {l : List Val} {k : Int} : cmpP h .ne (.int l.length) (.int k) = some (!((l.length : Int) == k)) := rfl
theorem tup_len {l : List Val} {G : PG} {ρ : Mi.Loc} {i : Nat} (e : getV ρ i = some (.tup l)) : evE G h (.bi .len [.var i]) ρ = xr (.int l.length) := by
  refine x_bi (vs := [.tup l]) (x_es1 ?_) rfl
  rw [evE, e] <;> rfl
end
section
variable {h : CH}
theorem depth_ints : ∀ (ns : List Int), PyData.depthAll (ns.map .int) = 0
  | [] => rfl
  | a :: r => by
    rw [List.map_cons, PyData.depthAll, depth_ints r]
    rfl
theorem eqvAll_ints : ∀ (a b : List Int), PyData.eqvAll (a.map .int) (b.map .int) = decide (a = b)
  | [], [] => rfl
  | [], b :: bs => rfl
  | a :: as, [] => rfl
  | a :: as, b :: bs => by
    rw [List.map_cons, List.map_cons, PyData.eqvAll, eqvAll_ints as bs]
    show ((a == b) && decide (as = bs)) = _
    rw [Bool.eq_iff_iff]
    simp
theorem eqP_lints {a b : List Int} : eqP h (.lst (a.map .int)) (.lst (b.map .int)) = some (decide (a = b)) := by
  have t : ∀ ns : List Int, toD (.lst (ns.map .int)) = some (.list (ns.map .int)) := fun ns => by
    show (toDs (ns.map .int)).map PyData.list = _
    rw [toDs_ints] <;> rfl
  unfold eqP
  show (match toD (.lst (a.map .int)), toD (.lst (b.map .int)) with
    | some d, some e => _
    | _, _ => none) = _
  rw [t, t]
  show grd (decide (min (PyData.list (a.map .int)).depth (PyData.list (b.map .int)).depth ≤ 64)) (PyData.eqv (.list (a.map .int)) (.list (b.map .int))) = _
  rw [PyData.eqv, eqvAll_ints, PyData.depth, PyData.depth, depth_ints, depth_ints]
  rfl
theorem isn_tup_len {G : PG} {ρ : Mi.Loc} {i : Nat} {l : List Val} {k : Int} (e : getV ρ i = some (.tup l)) : evE G h (.cmp .ne (.bi .len [.var i]) (.con (.int k))) ρ = xr (.bl (!((l.length : Int) == k))) := x_cmp (tup_len e) rfl len_ne
theorem ints_len {ns : List Int} : ((ns.map Val.int).length : Int) = ns.length := by rw [List.length_map]
theorem len_int {G : PG} {ρ : Mi.Loc} {i : Nat} {ns : List Int} (e : getV ρ i = some (.tup (ns.map .int))) : evE G h (.bi .len [.var i]) ρ = xr (.int ns.length) := by
  have := tup_len (h := h) (G := G) e
  rw [ints_len] at this
  exact this
theorem len_lint {G : PG} {ρ : Mi.Loc} {i : Nat} {ns : List Int} (e : getV ρ i = some (.lst (ns.map .int))) : evE G h (.bi .len [.var i]) ρ = xr (.int ns.length) := by
  refine x_bi (vs := [.lst (ns.map .int)]) (x_es1 ?_) ?_
  · rw [evE, e] <;> rfl
  · show some (Val.int ((ns.map Val.int).length : Int)) = _
    rw [ints_len]
theorem four {l : List Val} (h : l.length = 4) : ∃ a b c d, l = [a, b, c, d] := by
  match l, h with
  | [a, b, c, d], _ => exact ⟨a, b, c, d, rfl⟩
end
theorem condX_of {G : PG} {h : CH} {e : E} {ρ : Mi.Loc} {b : Bool} (h1 : evE G h e ρ = xr (.bl b)) (h2 : isSkip e = false) : condX G h e ρ = xr b := by
  unfold condX
  rw [h2, if_neg (by decide), h1]
  rfl
/-- a for that returns at an item -/
theorem forP_any {tg : List Nat} {body : Mi.Loc → Xv Out} {u : Val} (I : Mi.Loc → Prop) (c : Val → Bool) : ∀ (l : List Val) (ρ : Mi.Loc), (∀ v ∈ l, ∀ ρ, I ρ → ∃ ρ1, bindTg tg v ρ = some ρ1 ∧ (c v = true → body ρ1 = xr (.rt u)) ∧ (c v = false → ∃ ρ2, body ρ1 = xr (.nx ρ2) ∧ I ρ2)) → I ρ →
    (l.any c = true → forP tg body l ρ = xr (.rt u)) ∧ (l.any c = false → ∃ ρ', forP tg body l ρ = xr (.nx ρ') ∧ I ρ')
  | [], ρ, _, hI => by
    refine ⟨fun z => ?_, fun _ => ⟨ρ, rfl, hI⟩⟩
    cases z
  | v :: l, ρ, st, hI => by
    obtain ⟨ρ1, h1, h2, h3⟩ := st v (by simp) ρ hI
    cases q : c v with
    | true =>
      refine ⟨fun _ => ?_, fun z => by rw [List.any_cons, q] at z; cases z⟩
      unfold forP
      rw [h1]
      show xb (body ρ1) _ = _
      rw [h2 q]
      rfl
    | false =>
      obtain ⟨ρ2, h4, h5⟩ := h3 q
      have ih := forP_any I c l ρ2 (fun w hw => st w (by simp [hw])) h5
      have e : forP tg body (v :: l) ρ = forP tg body l ρ2 := by
        conv => lhs; unfold forP
        rw [h1]
        show xb (body ρ1) _ = _
        rw [h4]
        rfl
      rw [e, List.any_cons, q, Bool.false_or]
      exact ih
theorem intsOf_ints : ∀ (ns : List Int), intsOf (ns.map .int) = some ns
  | [] => rfl
  | a :: r => by
    show (intsOf (r.map .int)).map (a :: ·) = _
    rw [intsOf_ints r] <;> rfl
theorem int_toD {ns : List Int} : ∀ v ∈ ns.map Val.int, ∃ d, toD v = some d := fun v hv => by
  obtain ⟨i, _, rfl⟩ := List.mem_map.mp hv
  exact ⟨_, rfl⟩
theorem bin_ref {h : CH} {f : Addr} {l r : List Val} {Q : Val → CH → Prop} {E : Nat → CH → Prop} (hf : h f = some (.list l)) (hl : l.length + r.length ≤ sizeLine) (q : ∀ p, h p = none → Q (.ref p) (h.set p (.list (l ++ r)))) : binM .add true (.ref f) (.lst r) Q E h := by
  have w : (match lstOf h (.ref f), lstOf h (.lst r) with
    | some l, some r => l.length + r.length ≤ sizeLine ∧ newL true (l ++ r) Q E h
    | _, _ => False) := by
    have e : lstOf h (.ref f) = some l := by
      unfold lstOf
      show (match h f with
        | some (.list l) => some l
        | _ => none) = _
      rw [hf]
    rw [e]
    exact ⟨hl, q⟩
  exact w
section
variable {h : CH} {a : Addr}
theorem fresh_of {h hx : CH} {a g : Addr} {k : Nat} (n : hx g = none) (na : g ≠ a) (x : Xt a k h hx) : h g = none := by
  cases e : h g with
  | none => rfl
  | some o =>
    have := x.keep g o na e
    rw [n] at this
    cases this
end
section
variable {h : CH}
theorem walk_ref {l : List Val} {f : Addr} {Q : Src × List Val → CH → Prop} {E : Nat → CH → Prop} (e : h f = some (.list l)) (q : Q (.live f l, l) h) : walkM .seq [.ref f] Q E h := by
  have w : seqW (.ref f) Q E h := by
    unfold seqW
    have es : srcOf h (.ref f) = some (.live f l, l) := by
      show (match h f with
        | some (.list l) => some (Src.live f l, l)
        | _ => none) = _
      rw [e]
    rw [es]
    exact q
  exact w
theorem lst_len {l : List Val} {G : PG} {ρ : Mi.Loc} {i : Nat} (e : getV ρ i = some (.lst l)) : evE G h (.bi .len [.var i]) ρ = xr (.int l.length) := by
  refine x_bi (vs := [.lst l]) (x_es1 ?_) rfl
  rw [evE, e] <;> rfl
end
theorem atI_nat {l : List Val} {r : Int} (h0 : 0 ≤ r) (h1 : r < l.length) : ∃ v, atI l r = some v ∧ v ∈ l := by
  have hi : r.toNat < l.length := by omega
  refine ⟨l[r.toNat], ?_, List.getElem_mem hi⟩
  unfold atI ixN
  rw [if_pos h0, if_pos h1]
  show l[r.toNat]? = _
  rw [List.getElem?_eq_getElem hi]
theorem cut_tup {x y : Option Int} {l : List Val} {b : Nat} (h : ∀ v ∈ l, pl b v = true) : ∀ v ∈ cutL l x y, pl b v = true := fun v hv => h v (List.mem_of_mem_drop (List.mem_of_mem_take hv))
theorem pl_app {b : Nat} {l r : List Val} (h1 : l.length + r.length ≤ b + 1) (h2 : ∀ v ∈ l, pl (b + 1) v = true) (h3 : ∀ v ∈ r, pl (b + 1) v = true) : pl (b + 1) (.tup (l ++ r)) = true := pl_tup.mpr ⟨by rw [List.length_append]; exact h1, fun v hv => by
  rcases List.mem_append.mp hv with hv | hv
  · exact h2 v hv
  · exact h3 v hv⟩
theorem frz {l : List Val} {h : CH} {Q : Val → CH → Prop} {E : Nat → CH → Prop} (q : Q (.lst l) h) : newL false l Q E h := q
end Mi

set_option Elab.async false
set_option linter.all false
set_option maxRecDepth 100000
set_option maxHeartbeats 4000000
namespace Mi
open PySem L2
/-! ### the defs that all laws share -/
abbrev gNum : Fun := ⟨2, 2, [.ret (.band [.isi (.var 0) .int, .not (.isi (.var 0) .bool), .chain .le .lt (.var 1) (.var 0) (.gint "MOST_NUMBER" 1000000000000000000)])], false⟩
abbrev gPick : Fun := ⟨2, 2, [.ret (.ix (.var 1) (.call "_law_draw" 1 [.var 0, .bi .len [.var 1]]))], false⟩
abbrev gMixed : Fun := ⟨2, 4, [.setT [2, 3] (.tup [.bi (.list true) [.var 1], .list true []]), .while (.cmp .ne (.var 2) (.list false [])) [.ex (.bm .append (.var 3) [.bm .pop (.var 2) [.call "_law_draw" 1 [.var 0, .bi .len [.var 2]]]])], .ret (.var 3)], false⟩
abbrev gTruth : Fun := ⟨2, 2, [.ret (.ite (.var 1) (.cmp .is (.var 0) (.con (.bl true))) (.cmp .is (.var 0) (.con (.bl false))))], false⟩
abbrev gWhole : Fun := ⟨1, 1, [.ret (.band [.isi (.var 0) .int, .not (.isi (.var 0) .bool)])], false⟩
abbrev gOdd (pick : Nat) : Fun := ⟨1, 2, [.set 1 (.list false [.con .non, .con (.int 0), .neg (.con (.int 1)), .con (.bl true), .con (.str "1"), .con (.str "name"), .tup [], .list false [], .emp, .tup [.con (.str "name")], .tup [.con (.str "name"), .neg (.con (.int 1))], .tup [.con (.str "name"), .con (.bl true)], .tup [.con (.int 1), .con (.int 2)]]), .ret (.call "_law_pick" pick [.var 0, .var 1])], false⟩
abbrev gBent (pick whole odd bent : Nat) : Fun := ⟨2, 4, [.ite (.bor [.not (.isi (.var 1) .tup), .cmp .eq (.var 1) (.tup []), .cmp .eq (.call "_law_draw" 1 [.var 0, .con (.int 9)]) (.con (.int 0))]) [.ret (.call "_law_pu_odd" odd [.var 0])] [], .setT [2, 3] (.tup [.call "_law_draw" 1 [.var 0, .bi .len [.var 1]], .call "_law_draw" 1 [.var 0, .con (.int 8)]]), .ite (.cmp .lt (.var 3) (.con (.int 4))) [.ret (.bin .add false (.bin .add false (.cut false (.var 1) (.skip) (.var 2)) (.tup [.call "_law_pu_bent" bent [.var 0, .ix (.var 1) (.var 2)]])) (.cut false (.var 1) (.bin .add false (.var 2) (.con (.int 1))) (.skip)))] [], .ite (.cmp .eq (.var 3) (.con (.int 4))) [.ret (.bin .add false (.cut false (.var 1) (.skip) (.var 2)) (.cut false (.var 1) (.bin .add false (.var 2) (.con (.int 1))) (.skip)))] [], .ite (.cmp .eq (.var 3) (.con (.int 5))) [.ret (.bin .add false (.bin .add false (.cut false (.var 1) (.skip) (.var 2)) (.cut false (.var 1) (.var 2) (.bin .add false (.var 2) (.con (.int 1))))) (.cut false (.var 1) (.var 2) (.skip)))] [], .ite (.band [.cmp .eq (.var 3) (.con (.int 6)), .call "_law_is_whole" whole [.ix (.var 1) (.var 2)]]) [.ret (.bin .add false (.bin .add false (.cut false (.var 1) (.skip) (.var 2)) (.tup [.bin .add false (.ix (.var 1) (.var 2)) (.call "_law_pick" pick [.var 0, .list false [.con (.int 1), .neg (.con (.int 1))]])])) (.cut false (.var 1) (.bin .add false (.var 2) (.con (.int 1))) (.skip)))] [], .ret (.ite (.cmp .eq (.var 3) (.con (.int 7))) (.bi .tuple [.bin .add false (.bi (.list false) [.rev false (.cut false (.var 1) (.skip) (.var 2))]) (.bi (.list false) [.cut false (.var 1) (.var 2) (.skip)])]) (.bi (.list false) [.var 1]))], false⟩
abbrev gCaught : Fun := ⟨1, 3, [.set 1 (.con .non), .tryc 0 "PurseError" 0 2 1, .ret (.var 1)], false⟩
abbrev gRefused (kind caught : Nat) : Fun := ⟨2, 2, [.ret (.cmp .eq (.call "_law_ch_kind" kind [.callc "_law_caught" caught [] (.var 1)]) (.var 0))], false⟩
/-- where they stand -/
structure Shr (T : Tab) where
  iPick : Nat
  iMixed : Nat
  iTruth : Nat
  iWhole : Nat
  iOdd : Nat
  iBent : Nat
  iNum : Nat
  iCaught : Nat
  iKind : Nat
  iRefused : Nat
  t0 : T.fs[0]? = some (.prim begunM)
  t1 : T.fs[1]? = some (.prim drawM)
  tpick : T.fs[iPick]? = some (.code gPick)
  tmixed : T.fs[iMixed]? = some (.code gMixed)
  ttruth : T.fs[iTruth]? = some (.code gTruth)
  twhole : T.fs[iWhole]? = some (.code gWhole)
  todd : T.fs[iOdd]? = some (.code (gOdd iPick))
  tbent : T.fs[iBent]? = some (.code (gBent iPick iWhole iOdd iBent))
  tnum : T.fs[iNum]? = some (.code gNum)
  tcaught : T.fs[iCaught]? = some (.code gCaught)
  trefused : T.fs[iRefused]? = some (.code (gRefused iKind iCaught))
abbrev gp (T : Tab) (n : Nat) : PG := ⟨evR T n, T.ar, T.ci⟩
theorem pg (T : Tab) (d : Nat) : PGok (T.dg (run T d)) (gp T d) := pgok T d
def isNum (x : Val) (lo : Int) : Bool := match x with
  | .int i => decide (lo ≤ i) && decide (i < 1000000000000000000)
  | _ => false
def whole : Val → Bool
  | .int _ => true
  | _ => false
namespace Shr
variable {T : Tab} (Z : Shr T)
section
variable {n : Nat} {h : CH}
theorem ev_is_number {x : Val} {lo : Int} {b : Nat} (hx : pl b x = true) : evR T (n + 1) h Z.iNum [.v x, .v (.int lo)] = xr (.bl (isNum x lo)) := by
  cases x with
  | int i => exact evR_rt Z.tnum rfl (x_ret (e_and3 (a := true) (b := true) (c := decide (lo ≤ i) && decide (i < 1000000000000000000)) rfl (fun _ => rfl) fun _ _ => x_chain (x := .int lo) (y := .int i) (z := .int 1000000000000000000) rfl rfl rfl (fun _ => rfl) (fun _ => rfl)))
  | ref a => rw [pl] at hx; cases hx
  | fn a => rw [pl] at hx; cases hx
  | exc a => rw [pl] at hx; cases hx
  | _ => rw [evR_code Z.tnum]; rfl
theorem ev_is_whole {x : Val} {b : Nat} (hx : pl b x = true) : evR T (n + 1) h Z.iWhole [.v x] = xr (.bl (whole x)) := by
  rw [evR_code Z.twhole]
  cases x with
  | ref a => rw [pl] at hx; cases hx
  | fn a => rw [pl] at hx; cases hx
  | exc a => rw [pl] at hx; cases hx
  | _ => rfl
/-- found is True if due else found is False -/
theorem ev_is_truth {a b : Bool} : evR T (n + 1) h Z.iTruth [.v (.bl a), .v (.bl b)] = xr (.bl (a == b)) := by
  rw [evR_code Z.ttruth]
  cases a <;> cases b <;> rfl

end
section
variable {d : Nat} {h : CH} {a : Addr} {m : Nat} {Q : Val → CH → Prop} {E : Nat → CH → Prop}
theorem p_pick {l : List Val} (hd : Dr a m h) (hm : m < 2 ^ 40) (h1 : l ≠ []) (h2 : l.length ≤ 1000) (q : ∀ v ∈ l, ∀ h', Xt a 1 h h' → Q v h') : run T (d + 2) Z.iPick [.v (.ref a), .v (.lst l)] Q E h := by
  have hl : 0 < l.length := List.length_pos_iff.mpr h1
  refine run_code Z.tpick rfl rfl (s_ret (e_ix (e_var (v := .lst l) rfl (e_callR (es_ev (pg T (d + 1)) (vs := [.ref a, .int l.length]) (x_esc rfl (x_es1 (lst_len rfl))) ?_)))))
  refine p_draw (d := d) (s := l.length) Z.t1 hd hm (by omega) (by omega) fun r h' r0 r1 x => ?_
  obtain ⟨v, e, hv⟩ := atI_nat r0 r1
  show ixM (.lst l) (.int r) _ _ _
  unfold ixM
  show (match atI l r with
    | some v => _
    | none => False)
  rw [e]
  exact q v hv h' x
theorem p_odd (hd : Dr a m h) (hm : m < 2 ^ 40) (q : ∀ v h', pl 3 v = true → Xt a 1 h h' → Q v h') : run T (d + 3) Z.iOdd [.v (.ref a)] Q E h := by
  refine run_code Z.todd rfl rfl ?_
  refine s_ev (ρ' := [some (.v (.ref a)), some (.v (.lst [.non, .int 0, .int (-1), .bl true, .str "1", .str "name", .tup [], .lst [], .emp, .tup [.str "name"], .tup [.str "name", .int (-1)], .tup [.str "name", .bl true], .tup [.int 1, .int 2]]))]) (pg T (d + 2)) rfl ?_
  refine s_ret (e_callR (es_ev (pg T (d + 2)) (vs := [.ref a, .lst [.non, .int 0, .int (-1), .bl true, .str "1", .str "name", .tup [], .lst [], .emp, .tup [.str "name"], .tup [.str "name", .int (-1)], .tup [.str "name", .bl true], .tup [.int 1, .int 2]]]) rfl ?_))
  refine Z.p_pick hd hm (by decide) (by decide) fun v hv h' x => q v h' ?_ x
  exact pls_all.mp (by rfl : pls 3 [.non, .int 0, .int (-1), .bl true, .str "1", .str "name", .tup [], .lst [], .emp, .tup [.str "name"], .tup [.str "name", .int (-1)], .tup [.str "name", .bl true], .tup [.int 1, .int 2]] = true) v hv
/-! bent -/
/-- what _law_pu_bent promises of an item: c draws at most -/
def BentOk (b c d : Nat) (v : Val) : Prop := ∀ (a : Addr) (m : Nat) (h : CH) (Q : Val → CH → Prop) (E : Nat → CH → Prop), Dr a m h → m + c < 2 ^ 40 → (∀ r h', pl (b + 1) r = true → Xt a c h h' → Q r h') → run T d Z.iBent [.v (.ref a), .v v] Q E h
theorem bent_odd {v : Val} {b c : Nat} (hv : ∀ l, v ≠ .tup l) (hp : pl b v = true) (h3 : 3 ≤ b) (hc : 1 ≤ c) : Z.BentOk b c (d + 4) v := by
  intro a m h Q E hd hm q
  refine run_code Z.tbent rfl rfl ?_
  have e0 : evE (gp T (d + 3)) h (.bor [.not (.isi (.var 1) .tup), .cmp .eq (.var 1) (.tup []), .cmp .eq (.call "_law_draw" 1 [.var 0, .con (.int 9)]) (.con (.int 0))]) [some (.v (.ref a)), some (.v v), none, none] = xr (.bl true) := by
    rw [evE]
    refine e_or1 (x_not (a := false) ?_)
    cases v with
    | tup l => exact absurd rfl (hv l)
    | ref a => rw [pl] at hp; cases hp
    | fn a => rw [pl] at hp; cases hp
    | exc a => rw [pl] at hp; cases hp
    | _ => rfl
  refine s_if (k := true) (pg T (d + 3)) e0 rfl ?_
  refine s_ret (e_callR (es_ev (pg T (d + 3)) (vs := [.ref a]) rfl ?_))
  exact Z.p_odd (d := d) hd (by omega) fun r h' hr x => q r h' (pl_mono (by omega) r hr) (x.mono (by omega))

theorem bent_tup {l : List Val} {ds : List PyData} {b c : Nat} (hp : pl b (.tup l) = true) (hds : toDs l = some ds) (h3 : 3 ≤ b) (hb : b ≤ 1000) (hrec : ∀ v ∈ l, Z.BentOk b c (d + 3) v) : Z.BentOk b (c + 4) (d + 4) (.tup l) := by
  obtain ⟨hl, hq⟩ := pl_tup.mp hp
  have hq1 : ∀ v ∈ l, pl (b + 1) v = true := fun v hv => pl_mono (Nat.le_succ _) v (hq v hv)
  have sz : ∀ {k : Nat}, k ≤ 3000 → k ≤ sizeLine := fun h => Nat.le_trans h (by decide)
  intro a m h Q E hd hm q
  have ok := pg T (d + 3)
  refine run_code Z.tbent rfl rfl ?_
  have odd : ∀ (h' : CH) (k : Nat), Xt a k h h' → k ≤ 1 → denSs (T.dg (run T (d + 3))) (.ret (.call "_law_pu_odd" Z.iOdd [.var 0]) :: (gBent Z.iPick Z.iWhole Z.iOdd Z.iBent).body.drop 1) [some (.v (.ref a)), some (.v (.tup l)), none, none] (fun o h' => match o with
      | .nx _ => Q .non h'
      | .rt v => Q v h'
      | .ct _ => False) E h' := fun h' k x hk => by
    refine s_ret (e_callR (es_ev ok (vs := [.ref a]) rfl ?_))
    exact Z.p_odd (d := d) (hd.next x) (by omega) fun r h2 hr x2 => q r h2 (pl_mono (by omega) r hr) ((x.trans x2).mono (by omega))
  have ee : evE (gp T (d + 3)) h (.cmp .eq (.var 1) (.tup [])) [some (.v (.ref a)), some (.v (.tup l)), none, none] = xr (.bl l.isEmpty) := x_cmp (x := .tup l) (y := .tup []) rfl rfl (eqP_tnil hds)
  have en : evE (gp T (d + 3)) h (.not (.isi (.var 1) .tup)) [some (.v (.ref a)), some (.v (.tup l)), none, none] = xr (.bl false) := rfl
  by_cases hl0 : l.isEmpty = true
  · refine s_if (v := .bl true) (k := true) ok ?_ rfl (odd h 0 .refl (by omega))
    rw [evE]
    exact (e_or0 en).trans (e_or1 (ee.trans (by rw [hl0])))
  · have hl0 : l.isEmpty = false := by simpa using hl0
    have hlen : 0 < l.length := by
      cases l with
      | nil => cases hl0
      | cons _ _ => simp
    refine s_ite (e_bor (o_false ok en (o_false ok (ee.trans (by rw [hl0])) (o_last (e_cmp (e_callR (es_ev ok (vs := [.ref a, .int 9]) rfl ?_)))))))
    refine p_draw (d := d + 2) (s := 9) Z.t1 hd (by omega) (by decide) (by decide) fun r0 h1 _ _ x1 => ?_
    refine e_con (cmpP_ok (b := r0 == 0) rfl ?_)
    show (if (r0 == 0) = true then denSs _ ([.ret (.call "_law_pu_odd" Z.iOdd [.var 0])] ++ (gBent Z.iPick Z.iWhole Z.iOdd Z.iBent).body.drop 1) _ else denSs _ ([] ++ (gBent Z.iPick Z.iWhole Z.iOdd Z.iBent).body.drop 1) _) _ E h1
    cases (r0 == 0) with
    | true => exact odd h1 1 x1 (Nat.le_refl _)
    | false =>
      show denSs (T.dg (run T (d + 3))) ((gBent Z.iPick Z.iWhole Z.iOdd Z.iBent).body.drop 1) _ _ E h1
      refine s_setT (e_tup (es_cons (e_callR (es_ev ok (vs := [.ref a, .int l.length]) (x_esc rfl (x_es1 (tup_len rfl))) ?_))))
      refine p_draw (d := d + 2) (s := l.length) Z.t1 (hd.next x1) (by omega) (by omega) (by omega) fun t h2 t0' t1' x2 => ?_
      refine es_cons (e_callR (es_ev ok (vs := [.ref a, .int 8]) rfl ?_))
      refine p_draw (d := d + 2) (s := 8) Z.t1 ((hd.next x1).next x2) (by omega) (by decide) (by decide) fun w h3 _ _ x3 => ?_
      refine es_nil ⟨_, rfl, ?_⟩
      show denSs (T.dg (run T (d + 3))) ((gBent Z.iPick Z.iWhole Z.iOdd Z.iBent).body.drop 2) [some (.v (.ref a)), some (.v (.tup l)), some (.v (.int t)), some (.v (.int w))] _ E h3
      have xx := (x1.trans x2).trans x3
      have d3 := hd.next xx
      have cto : evE (gp T (d + 3)) h3 (.cut false (.var 1) .skip (.var 2)) [some (.v (.ref a)), some (.v (.tup l)), some (.v (.int t)), some (.v (.int w))] = xr (.tup (l.take t.toNat)) := by
        have : evE (gp T (d + 3)) h3 (.cut false (.var 1) .skip (.var 2)) [some (.v (.ref a)), some (.v (.tup l)), some (.v (.int t)), some (.v (.int w))] = xr (.tup (cutL l none (some t))) := rfl
        rw [cutL_to t0'] at this
        exact this
      have cfr : ∀ (h' : CH), evE (gp T (d + 3)) h' (.cut false (.var 1) (.bin .add false (.var 2) (.con (.int 1))) .skip) [some (.v (.ref a)), some (.v (.tup l)), some (.v (.int t)), some (.v (.int w))] = xr (.tup (l.drop (t.toNat + 1))) := fun h' => by
        have : evE (gp T (d + 3)) h' (.cut false (.var 1) (.bin .add false (.var 2) (.con (.int 1))) .skip) [some (.v (.ref a)), some (.v (.tup l)), some (.v (.int t)), some (.v (.int w))] = xr (.tup (cutL l (some (t + 1)) none)) := rfl
        rw [cutL_from (by omega), show (t + 1).toNat = t.toNat + 1 by omega] at this
        exact this
      have cfr0 : evE (gp T (d + 3)) h3 (.cut false (.var 1) (.var 2) .skip) [some (.v (.ref a)), some (.v (.tup l)), some (.v (.int t)), some (.v (.int w))] = xr (.tup (l.drop t.toNat)) := by
        have : evE (gp T (d + 3)) h3 (.cut false (.var 1) (.var 2) .skip) [some (.v (.ref a)), some (.v (.tup l)), some (.v (.int t)), some (.v (.int w))] = xr (.tup (cutL l (some t) none)) := rfl
        rw [cutL_from t0'] at this
        exact this
      obtain ⟨item, hat, hmem⟩ := atI_nat (l := l) t0' t1'
      have eix : ∀ (h' : CH), evE (gp T (d + 3)) h' (.ix (.var 1) (.var 2)) [some (.v (.ref a)), some (.v (.tup l)), some (.v (.int t)), some (.v (.int w))] = xr item := fun h' => by
        rw [evE]
        show xo (ixP h' (.tup l) (.int t)) = _
        show xo (atI l t) = _
        rw [hat] <;> rfl
      have tk : ∀ v ∈ l.take t.toNat, pl (b + 1) v = true := fun v hv => hq1 v (List.mem_of_mem_take hv)
      have dp : ∀ (k : Nat), ∀ v ∈ l.drop k, pl (b + 1) v = true := fun k v hv => hq1 v (List.mem_of_mem_drop hv)
      have lt : (l.take t.toNat).length = t.toNat := by rw [List.length_take]; omega
      have ld : ∀ k, (l.drop k).length = l.length - k := fun k => List.length_drop
      refine s_if (k := decide (w < 4)) ok (x_cmp (x := .int w) (y := .int 4) rfl rfl rfl) rfl ?_
      by_cases w4 : w < 4
      · rw [decide_eq_true w4, if_pos rfl]
        show denSs _ (.ret _ :: _) _ _ E h3
        refine s_ret (e_bin (e_bin (e_ev ok cto (e_tup (es_cons (e_callR (es_ev ok (vs := [.ref a, item]) (x_esc rfl (x_es1 (eix h3))) ?_)))))))
        refine hrec item hmem a (m + (1 + 1 + 1)) h3 _ E d3 (by omega) fun r h4 hr x4 => es_nil ?_
        refine binP_ok (bin_tadd (sz (by rw [lt, List.length_singleton]; omega))) ?_
        refine e_ev ok (cfr h4) (binP_ok (bin_tadd (sz (by rw [List.length_append, lt, List.length_singleton, ld]; omega))) ?_)
        refine q _ h4 (pl_app ?_ (fun v hv => ?_) (dp _)) ((xx.trans x4).mono (by omega))
        · rw [List.length_append, lt, List.length_singleton, ld]; omega
        · rcases List.mem_append.mp hv with hv | hv
          · exact tk v hv
          · rw [List.mem_singleton.mp hv]; exact hr
      · rw [decide_eq_false w4, if_neg (by decide)]
        show denSs (T.dg (run T (d + 3))) ((gBent Z.iPick Z.iWhole Z.iOdd Z.iBent).body.drop 3) _ _ E h3
        refine s_if (k := decide (w = 4)) ok (x_cmp (x := .int w) (y := .int 4) rfl rfl (by show eqP h3 (.int w) (.int 4) = _; rw [eqP_int]; congr 1)) rfl ?_
        by_cases w5 : w = 4
        · rw [decide_eq_true w5, if_pos rfl]
          show denSs _ (.ret _ :: _) _ _ E h3
          refine s_ret (e_ev ok (x_bin cto (cfr h3) (bin_tadd (sz (by rw [lt, ld]; omega)))) (q _ h3 (pl_app (by rw [lt, ld]; omega) tk (dp _)) (xx.mono (by omega))))
        · rw [decide_eq_false w5, if_neg (by decide)]
          show denSs (T.dg (run T (d + 3))) ((gBent Z.iPick Z.iWhole Z.iOdd Z.iBent).body.drop 4) _ _ E h3
          refine s_if (k := decide (w = 5)) ok (x_cmp (x := .int w) (y := .int 5) rfl rfl (by show eqP h3 (.int w) (.int 5) = _; rw [eqP_int]; congr 1)) rfl ?_
          by_cases w6 : w = 5
          · rw [decide_eq_true w6, if_pos rfl]
            show denSs _ (.ret _ :: _) _ _ E h3
            have cmid : evE (gp T (d + 3)) h3 (.cut false (.var 1) (.var 2) (.bin .add false (.var 2) (.con (.int 1)))) [some (.v (.ref a)), some (.v (.tup l)), some (.v (.int t)), some (.v (.int w))] = xr (.tup (cutL l (some t) (some (t + 1)))) := rfl
            have lm : (cutL l (some t) (some (t + 1))).length ≤ 1 := by
              unfold cutL HT.sIx
              dsimp only
              rw [List.length_take]
              split <;> split <;> omega
            refine s_ret (e_ev ok (x_bin (x_bin cto cmid (bin_tadd (sz (by rw [lt]; omega)))) cfr0 (bin_tadd (sz (by rw [List.length_append, lt, ld]; omega)))) (q _ h3 (pl_app (by rw [List.length_append, lt, ld]; omega) (fun v hv => ?_) (dp _)) (xx.mono (by omega))))
            rcases List.mem_append.mp hv with hv | hv
            · exact tk v hv
            · exact cut_tup hq1 v hv
          · rw [decide_eq_false w6, if_neg (by decide)]
            show denSs (T.dg (run T (d + 3))) ((gBent Z.iPick Z.iWhole Z.iOdd Z.iBent).body.drop 5) _ _ E h3
            have ew : evE (gp T (d + 3)) h3 (.band [.cmp .eq (.var 3) (.con (.int 6)), .call "_law_is_whole" Z.iWhole [.ix (.var 1) (.var 2)]]) [some (.v (.ref a)), some (.v (.tup l)), some (.v (.int t)), some (.v (.int w))] = xr (.bl (decide (w = 6) && whole item)) :=
              e_and2 (x_cmp (x := .int w) (y := .int 6) rfl rfl (by show eqP h3 (.int w) (.int 6) = _; rw [eqP_int]; congr 1)) fun _ => x_call (vs := [item]) (x_es1 (eix h3)) (Z.ev_is_whole (n := d + 2) (hq item hmem))
            refine s_if (k := (decide (w = 6) && whole item)) ok ew rfl ?_
            cases hw : (decide (w = 6) && whole item) with
            | true =>
              rw [if_pos rfl]
              rw [Bool.and_eq_true] at hw
              obtain ⟨i, rfl⟩ : ∃ i, item = .int i := by
                have := hw.2
                cases item <;> first | exact ⟨_, rfl⟩ | cases this
              show denSs _ (.ret _ :: _) _ _ E h3
              refine s_ret (e_bin (e_bin (e_ev ok cto (e_tup (es_cons (e_bin (e_ev ok (eix h3) (e_callR (es_ev ok (vs := [.ref a, .lst [.int 1, .int (-1)]]) rfl ?_)))))))))
              refine Z.p_pick (d := d + 1) d3 (by omega) (by decide) (by decide) fun v hv h4 x4 => ?_
              have hv : ∃ j : Int, v = .int j := by
                rcases List.mem_cons.mp hv with rfl | hv
                · exact ⟨_, rfl⟩
                · rcases List.mem_cons.mp hv with rfl | hv
                  · exact ⟨_, rfl⟩
                  · cases hv
              obtain ⟨j, rfl⟩ := hv
              refine binP_ok (z := .int (i + j)) rfl (es_nil ?_)
              refine binP_ok (bin_tadd (sz (by rw [lt, List.length_singleton]; omega))) ?_
              refine e_ev ok (cfr h4) (binP_ok (bin_tadd (sz (by rw [List.length_append, lt, List.length_singleton, ld]; omega))) ?_)
              refine q _ h4 (pl_app ?_ (fun v hv => ?_) (dp _)) ((xx.trans x4).mono (by omega))
              · rw [List.length_append, lt, List.length_singleton, ld]; omega
              · rcases List.mem_append.mp hv with hv | hv
                · exact tk v hv
                · rw [List.mem_singleton.mp hv]; exact pl_int _ _
            | false =>
              rw [if_neg (by decide)]
              show denSs (T.dg (run T (d + 3))) [.ret (.ite (.cmp .eq (.var 3) (.con (.int 7))) (.bi .tuple [.bin .add false (.bi (.list false) [.rev false (.cut false (.var 1) .skip (.var 2))]) (.bi (.list false) [.cut false (.var 1) (.var 2) .skip])]) (.bi (.list false) [.var 1]))] _ _ E h3
              have e7 : evE (gp T (d + 3)) h3 (.cmp .eq (.var 3) (.con (.int 7))) [some (.v (.ref a)), some (.v (.tup l)), some (.v (.int t)), some (.v (.int w))] = xr (.bl (decide (w = 7))) := x_cmp (x := .int w) (y := .int 7) rfl rfl (by show eqP h3 (.int w) (.int 7) = _; rw [eqP_int]; congr 1)
              refine s_ret (e_ite ok e7 rfl ?_)
              by_cases w7 : w = 7
              · rw [decide_eq_true w7, if_pos rfl]
                have er : evE (gp T (d + 3)) h3 (.bi (.list false) [.rev false (.cut false (.var 1) .skip (.var 2))]) [some (.v (.ref a)), some (.v (.tup l)), some (.v (.int t)), some (.v (.int w))] = xr (.lst (l.take t.toNat).reverse) := by
                  refine x_bi (vs := [.tup (l.take t.toNat).reverse]) (x_es1 ?_) rfl
                  rw [evE, cto] <;> rfl
                have el : evE (gp T (d + 3)) h3 (.bi (.list false) [.cut false (.var 1) (.var 2) .skip]) [some (.v (.ref a)), some (.v (.tup l)), some (.v (.int t)), some (.v (.int w))] = xr (.lst (l.drop t.toNat)) := x_bi (x_es1 cfr0) rfl
                refine e_ev ok (x_bi (x_es1 (x_bin er el (bin_ladd (sz (by rw [List.length_reverse, lt, ld]; omega))))) rfl) (q _ h3 (pl_app (by rw [List.length_reverse, lt, ld]; omega) (fun v hv => tk v (List.mem_reverse.mp hv)) (dp _)) (xx.mono (by omega)))
              · rw [decide_eq_false w7, if_neg (by decide)]
                exact e_ev ok (v := .lst l) rfl (q _ h3 (pl_lst.mpr ⟨by omega, hq1⟩) (xx.mono (by omega)))
end
section
variable {d : Nat} {h : CH} {a : Addr} {m : Nat} {Q : Val → CH → Prop} {E : Nat → CH → Prop}
abbrev mixC : Mi.E := .cmp .ne (.var 2) (.list false [])
abbrev mixB : List S := [.ex (.bm .append (.var 3) [.bm .pop (.var 2) [.call "_law_draw" 1 [.var 0, .bi .len [.var 2]]]])]
theorem mix_loop (Z : Shr T) {p q : Addr} {x : Val} {l : List Val} {K : Out → CH → Prop} (hl : l.length ≤ 1000) (hD : ∀ v ∈ l, ∃ d, toD v = some d) (hd : Dr a m h) (hm : m + l.length < 2 ^ 40) (npq : p ≠ q) (npa : p ≠ a) (nqa : q ≠ a) (np : h p = none) (nq : h q = none)
    (fin : ∀ (l' : List Val) (h' : CH), l'.Perm l → h' q = some (.list l') → Xt a l.length h h' → K (.nx [some (.v (.ref a)), some (.v x), some (.v (.ref p)), some (.v (.ref q))]) h') :
    ∀ (n : Nat) (left found : List Val) (k : Nat) (h1 : CH), left.length = n → h1 p = some (.list left) → h1 q = some (.list found) → (found ++ left).Perm l → Xt a k h h1 → k + left.length ≤ l.length →
      whileN (fun ρ' => denC (T.dg (run T (d + 1))) mixC ρ') (fun ρ' => denSs (T.dg (run T (d + 1))) mixB ρ') (n + 1) [some (.v (.ref a)), some (.v x), some (.v (.ref p)), some (.v (.ref q))] K E h1 := by
  intro n
  have ok := pg T (d + 1)
  induction n with
  | zero =>
    intro left found k h1 hn hp hq pm xt hk
    have := List.eq_nil_of_length_eq_zero hn
    subst this
    have ec : evE (gp T (d + 1)) h1 mixC [some (.v (.ref a)), some (.v x), some (.v (.ref p)), some (.v (.ref q))] = xr (.bl false) := x_cmp (x := .ref p) (y := .lst []) rfl rfl (by show (eqP h1 (.ref p) (.lst [])).map (!·) = _; rw [eqP_nil (deref_ref hp) (by rfl : toDs [] = some [])]; rfl)
    refine w_false ok rfl ec ?_
    rw [List.append_nil] at pm
    exact fin found h1 pm hq (xt.mono (by omega))
  | succ n ih =>
    intro left found k h1 hn hp hq pm xt hk
    have hD2 : ∀ v ∈ left, ∃ d, toD v = some d := fun v hv => hD v (pm.mem_iff.mp (List.mem_append_right _ hv))
    obtain ⟨ds, hds⟩ := toDs_of hD2
    have hle : left.isEmpty = false := by cases left with
      | nil => cases hn
      | cons _ _ => rfl
    have ec : evE (gp T (d + 1)) h1 mixC [some (.v (.ref a)), some (.v x), some (.v (.ref p)), some (.v (.ref q))] = xr (.bl true) := x_cmp (x := .ref p) (y := .lst []) rfl rfl (by show (eqP h1 (.ref p) (.lst [])).map (!·) = _; rw [eqP_nil (deref_ref hp) hds, hle]; rfl)
    refine w_true ok rfl ec ?_
    show denSs (T.dg (run T (d + 1))) mixB _ _ E h1
    refine s_ex (e_bm (e_var (v := .ref q) rfl ⟨⟨found, hq⟩, es_cons (e_bm (e_var (v := .ref p) rfl ⟨⟨left, hp⟩, es_cons (e_callR (es_ev ok (vs := [.ref a, .int left.length]) (x_esc rfl (x_es1 ?_)) ?_))⟩))⟩))
    · refine x_bi (vs := [.ref p]) rfl ?_
      show (lenO h1 (.ref p)).map (fun n : Nat => Val.int n) = _
      unfold lenO
      show ((match h1 p with
        | some (.list l) => some l.length
        | some (.dict _ kvs) => some kvs.length
        | _ => none) : Option Nat).map (fun n : Nat => Val.int n) = _
      rw [hp]
      rfl
    · refine p_draw (s := left.length) Z.t1 (hd.next xt) (by omega) (by omega) (by omega) fun r h2 r0 r1 x2 => ?_
      have hp2 := x2.keep p _ npa hp
      have hq2 := x2.keep q _ nqa hq
      have hf : found.length ≤ 1000 := by
        have := pm.length_eq
        rw [List.length_append] at this
        omega
      refine es_nil (bm_popAt hp2 r0 r1 (Nat.le_trans (show left.length ≤ 1000 by omega) (by decide)) fun hi => ?_)
      refine es_nil (bm_append (l := found) (by rw [CH.set_ne (Ne.symm npq)]; exact hq2) (Nat.lt_of_le_of_lt hf (by decide)) ?_)
      have hle2 : (left.eraseIdx r.toNat).length = n := by rw [List.length_eraseIdx_of_lt hi]; omega
      have pm2 : ((found ++ [left[r.toNat]]) ++ left.eraseIdx r.toNat).Perm l := by
        refine List.Perm.trans ?_ pm
        rw [List.append_assoc]
        exact List.Perm.append_left found (idx_perm hi)
      refine ih (left.eraseIdx r.toNat) (found ++ [left[r.toNat]]) (k + 1) _ hle2 (by rw [CH.set_ne npq, CH.set_same]) CH.set_same pm2 (((xt.trans x2).write np npa).write nq nqa) ?_
      omega
theorem p_mixed {l : List Val} (hd : Dr a m h) (hm : m + l.length < 2 ^ 40) (hl : l.length ≤ 1000) (hD : ∀ v ∈ l, ∃ d, toD v = some d) (q : ∀ (p : Addr) (l' : List Val) (h' : CH), l'.Perm l → h p = none → h' p = some (.list l') → Xt a l.length h h' → Q (.ref p) h') : run T (d + 2) Z.iMixed [.v (.ref a), .v (.lst l)] Q E h := by
  have ok := pg T (d + 1)
  refine run_code Z.tmixed rfl rfl ?_
  refine s_setT (e_tup (es_cons (e_bi (es_ev ok (vs := [.lst l]) rfl ?_))))
  intro p np
  have nph : h p = none := np
  refine es_cons (e_list (es_nil ?_))
  intro r nr
  have npr : p ≠ r := by
    rintro rfl
    rw [CH.set_same] at nr
    cases nr
  have nr0 : h r = none := by rw [CH.set_ne (Ne.symm npr)] at nr; exact nr
  refine es_nil ⟨_, rfl, ?_⟩
  show denSs (T.dg (run T (d + 1))) [.while mixC mixB, .ret (.var 3)] [some (.v (.ref a)), some (.v (.lst l)), some (.v (.ref p)), some (.v (.ref r))] _ E _
  have x0 : Xt a 0 h ((h.set p (.list l)).set r (.list [])) := ((Xt.refl).write nph (new_ne nph hd)).write nr0 (new_ne nr0 hd)
  refine s_while (l.length + 1) ?_
  refine Z.mix_loop hl hD hd hm npr (new_ne nph hd) (new_ne nr0 hd) nph nr0 (fun l' h' pm hq xt => ?_) l.length l [] 0 _ rfl (by rw [CH.set_ne npr, CH.set_same]) CH.set_same (List.Perm.refl _) x0 (by omega)
  exact s_ret (e_var (v := .ref r) rfl (q r l' h' pm nr0 hq xt))
end
section
variable {d : Nat} {h : CH} {a : Addr} {m : Nat} {Q : Val → CH → Prop} {E : Nat → CH → Prop}
theorem pick_ints {ns : List Int} (hd : Dr a m h) (hm : m < 2 ^ 40) (h1 : ns ≠ []) (h2 : ns.length ≤ 1000) (q : ∀ i ∈ ns, ∀ h', Xt a 1 h h' → Q (.int i) h') : run T (d + 2) Z.iPick [.v (.ref a), .v (.lst (ns.map .int))] Q E h :=
  Z.p_pick hd hm (by intro z; exact h1 (by simpa using z)) (by simpa using h2) fun v hv h' x => by
    obtain ⟨i, hi, rfl⟩ := List.mem_map.mp hv
    exact q i hi h' x
end
end Shr
end Mi

set_option Elab.async false
set_option linter.all false
set_option maxRecDepth 100000
set_option maxHeartbeats 4000000
namespace Mi
open PySem L2
theorem x_retr {G : PG} {h : CH} {ρ : Loc} {ss : List S} {e : E} {c : Nat} (h1 : evE G h e ρ = some (.error c)) : evSs G h (.ret e :: ss) ρ = some (.error c) := by
  rw [evSs, evS, h1]; rfl
theorem x_var {G : PG} {h : CH} {ρ : Loc} {i : Nat} {v : Val} (e : getV ρ i = some v) : evE G h (.var i) ρ = xr v := by
  rw [evE, e] <;> rfl
theorem x_ix {G : PG} {h : CH} {ρ : Loc} {a i : E} {x y z : Val} (h1 : evE G h a ρ = xr x) (h2 : evE G h i ρ = xr y) (h3 : ixP h x y = some z) : evE G h (.ix a i) ρ = xr z := by
  rw [evE, h1]
  show xb (evE G h i ρ) _ = _
  rw [h2]
  show xo (ixP h x y) = _
  rw [h3]
  rfl
theorem x_repr {G : PG} {h : CH} {ρ : Loc} {n : Bool} {a b : E} {x y : Val} {d e : PyData} (h1 : evE G h a ρ = xr x) (h2 : evE G h b ρ = xr y) (h3 : smD h x = some d) (h4 : smD h y = some e) : evE G h (.reprEq n a b) ρ = xr (.bl (if n then !decide (d.shown = e.shown) else decide (d.shown = e.shown))) := by
  rw [evE, h1]
  show xb (xo (smD h x)) _ = _
  rw [h3]
  show xb (evE G h b ρ) _ = _
  rw [h2]
  show xb (xo (smD h y)) _ = _
  rw [h4] <;> rfl
/-- repr(x) != repr(x) -/
theorem x_repr_ne {G : PG} {h : CH} {ρ : Loc} {a b : E} {x : Val} {d : PyData} (h1 : evE G h a ρ = xr x) (h2 : evE G h b ρ = xr x) (h3 : smD h x = some d) : evE G h (.reprEq true a b) ρ = xr (.bl false) := by
  rw [x_repr h1 h2 h3 h3]
  simp
namespace Shr
variable {T : Tab} (Z : Shr T)
section
variable {n : Nat} {h : CH}
theorem x_truth {ρ : Loc} {e f : Mi.E} {x y : Bool} {s : Str} (h1 : evE (gp T (n + 1)) h e ρ = xr (.bl x)) (h2 : evE (gp T (n + 1)) h f ρ = xr (.bl y)) : evE (gp T (n + 1)) h (.call s Z.iTruth [e, f]) ρ = xr (.bl (x == y)) :=
  x_call (vs := [.bl x, .bl y]) (x_esc h1 (x_es1 h2)) Z.ev_is_truth
theorem ev_caught {k c : Nat} {ws : List Val} (hx : T.ci.exm c 0 = some true) (hk : evR T n h k (vals ws) = some (.error c)) : evR T (n + 1) h Z.iCaught [.c k ws] = xr (.exc c) := by
  refine evR_rt Z.tcaught rfl ?_
  show evSs (gp T n) h gCaught.body [some (.c k ws), none, none] = _
  refine x_consr (x_set (v := .non) rfl) ?_
  refine x_consr (ρ' := [some (.c k ws), some (.v (.exc c)), none]) ?_ rfl
  rw [evS]
  show trycP T.ci 0 2 1 (evR T n h k (vals ws)) _ = _
  rw [hk]
  show (match T.ci.exm c 0 with
    | some true => _
    | some false => _
    | none => _) = _
  rw [hx]
  rfl
theorem eqP_str {a b : Str} : eqP h (.str a) (.str b) = some (a == b) := rfl
theorem ev_refused {k c : Nat} {w : Str} {ws : List Val} (hx : T.ci.exm c 0 = some true) (hw : evR T (n + 1) h Z.iKind [.v (.exc c)] = xr (.str w)) (hk : evR T n h k (vals ws) = some (.error c)) : evR T (n + 2) h Z.iRefused [.v (.str w), .c k ws] = xr (.bl true) := by
  refine evR_rt Z.trefused rfl ?_
  show evSs (gp T (n + 1)) h (gRefused Z.iKind Z.iCaught).body [some (.v (.str w)), some (.c k ws)] = _
  have e1 : evE (gp T (n + 1)) h (.callc "_law_caught" Z.iCaught [] (.var 1)) [some (.v (.str w)), some (.c k ws)] = xr (.exc c) := by
    rw [evE]
    exact Z.ev_caught hx hk
  refine x_ret (x_cmp (x := .str w) (y := .str w) (x_call (vs := [.exc c]) (x_es1 e1) hw) rfl ?_)
  show eqP h (.str w) (.str w) = _
  rw [eqP_str]
  simp
theorem x_refused {ρ : Loc} {k : Nat} {caps : List Nat} {ws : List Val} {b : Bool} {w s : Str} (hc : capsOf ρ caps = some ws) (hk : evR T n h Z.iRefused [.v (.str w), .c k ws] = xr (.bl b)) : evE (gp T n) h (.callc s Z.iRefused [.con (.str w)] (.lam k caps)) ρ = xr (.bl b) := by
  rw [evE]
  show xb (xo ((capsOf ρ caps).map (Sl.c k))) _ = _
  rw [hc]
  exact hk
end
section
variable {d : Nat} {h : CH} {a : Addr} {m : Nat} {Q : Val → CH → Prop} {E : Nat → CH → Prop}
/-- tuple(sorted(_law_mixed(state, eX)[:eK])) -/
theorem sorted_cut {s : Str} {eX eK : Mi.E} {ρ : Mi.Loc} {kx kk B : Nat} (hB : B ≤ 1000) (h0 : getV ρ 0 = some (.ref a)) (hs : isSkip eK = false) (hd : Dr a m h) (hm : m + kx + B + kk < 2 ^ 40)
    (hX : ∀ Q' : Val → CH → Prop, (∀ (ns : List Int) (h1 : CH), ns.length ≤ B → Xt a kx h h1 → Q' (.lst (ns.map .int)) h1) → denE (T.dg (run T (d + 2))) eX ρ Q' E h)
    (hK : ∀ (Q' : Val → CH → Prop) (h1 : CH), Xt a (kx + B) h h1 → (∀ (k : Int) (h2 : CH), 0 ≤ k → Xt a kk h1 h2 → Q' (.int k) h2) → denE (T.dg (run T (d + 2))) eK ρ Q' E h1)
    (q : ∀ (ms : List Int) (k : Int) (h' : CH), ms.length ≤ B → ms.length ≤ k.toNat → Xt a (kx + B + kk) h h' → Q (.tup (ms.map .int)) h') : denE (T.dg (run T (d + 2))) (.bi .tuple [.bi (.sorted false) [.cut false (.call s Z.iMixed [.var 0, eX]) .skip eK]]) ρ Q E h := by
  refine e_bi (es_cons (e_bi (es_cons (e_cutto hs (e_callR (es_cons (e_var h0 (es_cons (hX _ fun ns h1 hn x1 => es_nil ?_)))))))))
  refine Z.p_mixed (d := d) (hd.next x1) (by rw [List.length_map]; omega) (by rw [List.length_map]; omega) int_toD fun p l' h2 pm np hp x2 => ?_
  rw [List.length_map] at x2
  obtain ⟨ms, rfl, _, hl⟩ := perm_ints pm
  refine hK _ h2 ((x1.trans x2).mono (by omega)) fun k h3 hk x3 => ?_
  have npa : p ≠ a := new_ne np (hd.next x1)
  have hp3 := x3.keep p _ npa hp
  show cutM false (.ref p) none (some k) _ E h3
  refine cutP_ok (v := .lst ((ms.take k.toNat).map .int)) ?_ ?_
  · show cutPL h3 false (.ref p) none (some k) = _
    unfold cutPL
    show (match (match h3 p with
      | some (.list l) => some l
      | _ => none : Option (List Val)) with
      | some l => nwL false (cutL l none (some k))
      | none => none) = _
    rw [hp3]
    show some (Val.lst (cutL (ms.map .int) none (some k))) = _
    rw [cutL_to hk, List.map_take]
  · refine es_nil (biP_ok (v := .lst (((ms.take k.toNat).mergeSort (fun a b => decide (a ≤ b))).map .int)) ?_ (es_nil (biP_ok (v := .tup (((ms.take k.toNat).mergeSort (fun a b => decide (a ≤ b))).map .int)) rfl ?_)))
    · show ((some ((ms.take k.toNat).map Val.int)).bind intsOf).bind _ = _
      rw [Option.bind_some, intsOf_ints]
      rfl
    · refine q _ k h3 ?_ ?_ (((x1.trans x2).trans x3).mono (by omega))
      · rw [List.length_mergeSort, List.length_take]
        omega
      · rw [List.length_mergeSort, List.length_take]
        omega
theorem bent_ints {b : Nat} {ns : List Int} (hb : b ≤ 1000) (h3 : 3 ≤ b) (hn : ns.length ≤ b) : Z.BentOk b 5 (d + 5) (.tup (ns.map .int)) := by
  obtain ⟨ds, hds⟩ := toDs_of (int_toD (ns := ns))
  exact Z.bent_tup (d := d + 1) (c := 1) (pl_ints hn) hds h3 hb fun v hv => by
    obtain ⟨i, _, rfl⟩ := List.mem_map.mp hv
    exact Z.bent_odd (d := d) (fun l => nofun) (pl_int _ _) h3 (by omega)
theorem BentOk.mono {b c c' d : Nat} {v : Val} (k : Z.BentOk b c d v) (hc : c ≤ c') : Z.BentOk b c' d v := fun a m h Q E hd hm q => k a m h Q E hd (by omega) fun r h' hr x => q r h' hr (x.mono hc)
end
end Shr
end Mi

set_option Elab.async false
set_option linter.all false
set_option maxRecDepth 100000
set_option maxHeartbeats 0
namespace X0
open PySem PySem.Spec PyProof.Rows L2 Mi
def top (i : Nat) : Stmt := PySem.Challenge.pw_pursespassed_k00_staffs_and_lines.main.body.getD i (.Pass ⟨0, 0, 0, 0⟩)
def f_is_number : Fun := ⟨2, 2, [.ret (.band [.isi (.var 0) .int, .not (.isi (.var 0) .bool), .chain .le .lt (.var 1) (.var 0) (.gint "MOST_NUMBER" 1000000000000000000)])], false⟩
def f_is_bank : Fun := ⟨1, 5, [.ite (.bor [.not (.isi (.var 0) .tup), .cmp .ne (.bi .len [.var 0]) (.con (.int 3))]) [.ret (.con (.bl false))] [], .setT [1, 2, 3] (.var 0), .ite (.bor [.not (.isi (.var 1) .tup), .not (.chain .le .le (.con (.int 1)) (.bi .len [.var 1]) (.gint "MOST_PURSES" 8))]) [.ret (.con (.bl false))] [], .ite (.bor [.not (.bi .all [.comp false [4] .seq [.var 1] (.skip) (.call "is_number" 3 [.var 4, .con (.int 0)])]), .cmp .ge (.bi .sum [.var 1]) (.gint "MOST_NUMBER" 1000000000000000000)]) [.ret (.con (.bl false))] [], .ret (.band [.call "is_number" 3 [.var 2, .con (.int 1)], .call "is_number" 3 [.var 3, .con (.int 0)], .chain .le .le (.bin .add false (.bin .mul false (.con (.int 3)) (.var 3)) (.con (.int 1))) (.var 2) (.gint "MOST_MEMBERS" 13)])], false⟩
def f_need_bank : Fun := ⟨1, 1, [.ite (.not (.call "is_bank" 4 [.var 0])) [.raise "BadBank" 2] []], false⟩
def f_are_people : Fun := ⟨1, 3, [.ite (.bor [.not (.isi (.var 0) .tup), .not (.chain .le .le (.con (.int 1)) (.bi .len [.var 0]) (.gint "MOST_PEOPLE" 13))]) [.ret (.con (.bl false))] [], .ite (.not (.bi .all [.comp false [1] .seq [.var 0] (.skip) (.band [.call "is_number" 3 [.var 1, .con (.int 0)], .cmp .le (.var 1) (.gint "MOST_NAME" 99)])])) [.ret (.con (.bl false))] [], .ret (.bi .all [.comp false [1, 2] .zip [.var 0, .cut false (.var 0) (.con (.int 1)) (.skip)] (.skip) (.cmp .lt (.var 1) (.var 2))])], false⟩
def f_is_staff : Fun := ⟨1, 1, [.ite (.bor [.not (.isi (.var 0) .tup), .cmp .ne (.bi .len [.var 0]) (.con (.int 2)), .not (.call "are_people" 6 [.ix (.var 0) (.con (.int 0))])]) [.ret (.con (.bl false))] [], .ret (.band [.call "is_number" 3 [.ix (.var 0) (.con (.int 1)), .con (.int 0)], .cmp .le (.bin .add false (.bin .mul false (.con (.int 3)) (.ix (.var 0) (.con (.int 1)))) (.con (.int 1))) (.bi .len [.ix (.var 0) (.con (.int 0))])])], false⟩
def f_need_staff : Fun := ⟨1, 1, [.ite (.not (.call "is_staff" 7 [.var 0])) [.raise "BadStaff" 12] []], false⟩
def f_votes_in : Fun := ⟨1, 1, [.ret (.bin .sub false (.bi .len [.ix (.var 0) (.con (.int 0))]) (.ix (.var 0) (.con (.int 1))))], false⟩
def f_binds_in : Fun := ⟨1, 1, [.ret (.bin .sub false (.bi .len [.ix (.var 0) (.con (.int 0))]) (.bin .mul false (.con (.int 3)) (.ix (.var 0) (.con (.int 1)))))], false⟩
def f_staff_need : Fun := ⟨1, 1, [.ex (.call "need_staff" 8 [.var 0]), .ret (.call "votes_in" 9 [.var 0])], false⟩
def f_staff_binds : Fun := ⟨1, 1, [.ex (.call "need_staff" 8 [.var 0]), .ret (.call "binds_in" 10 [.var 0])], false⟩
def f_first_staff : Fun := ⟨1, 1, [.ex (.call "need_bank" 5 [.var 0]), .ret (.tup [.rng1 none (.ix (.var 0) (.con (.int 1))), .ix (.var 0) (.con (.int 2))])], false⟩
def f_line_by : Fun := ⟨2, 3, [.ite (.bor [.not (.isi (.var 1) .tup), .not (.chain .le .le (.con (.int 1)) (.bi .len [.var 1]) (.gint "MOST_STAFFS" 6)), .not (.bi .all [.comp false [2] .seq [.var 1] (.skip) (.call "is_staff" 7 [.var 2])])]) [.ret (.con (.bl false))] [], .ret (.cmp .eq (.ix (.var 1) (.con (.int 0))) (.call "first_staff" 13 [.var 0]))], false⟩
def f_is_line : Fun := ⟨2, 2, [.ex (.call "need_bank" 5 [.var 0]), .ret (.call "line_by" 14 [.var 0, .var 1])], false⟩
def f_law_pick : Fun := ⟨2, 2, [.ret (.ix (.var 1) (.call "_law_draw" 1 [.var 0, .bi .len [.var 1]]))], false⟩
def f_law_mixed : Fun := ⟨2, 4, [.setT [2, 3] (.tup [.bi (.list true) [.var 1], .list true []]), .while (.cmp .ne (.var 2) (.list false [])) [.ex (.bm .append (.var 3) [.bm .pop (.var 2) [.call "_law_draw" 1 [.var 0, .bi .len [.var 2]]]])], .ret (.var 3)], false⟩
def f_law_caught : Fun := ⟨1, 3, [.set 1 (.con .non), .tryc 0 "PurseError" 0 2 1, .ret (.var 1)], false⟩
def f_law_is_truth : Fun := ⟨2, 2, [.ret (.ite (.var 1) (.cmp .is (.var 0) (.con (.bl true))) (.cmp .is (.var 0) (.con (.bl false))))], false⟩
def f_law_is_whole : Fun := ⟨1, 1, [.ret (.band [.isi (.var 0) .int, .not (.isi (.var 0) .bool)])], false⟩
def f_law_pu_bank : Fun := ⟨1, 2, [.set 1 (.list false [.tup [.tup [.con (.int 5), .con (.int 0)], .con (.int 4), .con (.int 1)], .tup [.tup [.con (.int 3), .con (.int 3), .con (.int 3)], .con (.int 4), .con (.int 1)], .tup [.tup [.con (.int 9)], .con (.int 1), .con (.int 0)], .tup [.tup [.con (.int 2), .con (.int 7)], .con (.int 5), .con (.int 1)], .tup [.tup [.con (.int 4), .con (.int 4), .con (.int 4), .con (.int 4)], .con (.int 7), .con (.int 2)], .tup [.tup [.con (.int 0), .con (.int 10)], .con (.int 2), .con (.int 0)]]), .ret (.call "_law_pick" 16 [.var 0, .bin .add false (.var 1) (.list false [.tup [.tup [.con (.int 6), .con (.int 1), .con (.int 2)], .con (.int 4), .con (.int 1)], .tup [.tup [.con (.int 20), .con (.int 0), .con (.int 5)], .con (.int 4), .con (.int 1)]])])], false⟩
def f_law_pu_odd : Fun := ⟨1, 2, [.set 1 (.list false [.con .non, .con (.int 0), .neg (.con (.int 1)), .con (.bl true), .con (.str "1"), .con (.str "name"), .tup [], .list false [], .emp, .tup [.con (.str "name")], .tup [.con (.str "name"), .neg (.con (.int 1))], .tup [.con (.str "name"), .con (.bl true)], .tup [.con (.int 1), .con (.int 2)]]), .ret (.call "_law_pick" 16 [.var 0, .var 1])], false⟩
def f_law_pu_bent : Fun := ⟨2, 4, [.ite (.bor [.not (.isi (.var 1) .tup), .cmp .eq (.var 1) (.tup []), .cmp .eq (.call "_law_draw" 1 [.var 0, .con (.int 9)]) (.con (.int 0))]) [.ret (.call "_law_pu_odd" 22 [.var 0])] [], .setT [2, 3] (.tup [.call "_law_draw" 1 [.var 0, .bi .len [.var 1]], .call "_law_draw" 1 [.var 0, .con (.int 8)]]), .ite (.cmp .lt (.var 3) (.con (.int 4))) [.ret (.bin .add false (.bin .add false (.cut false (.var 1) (.skip) (.var 2)) (.tup [.call "_law_pu_bent" 23 [.var 0, .ix (.var 1) (.var 2)]])) (.cut false (.var 1) (.bin .add false (.var 2) (.con (.int 1))) (.skip)))] [], .ite (.cmp .eq (.var 3) (.con (.int 4))) [.ret (.bin .add false (.cut false (.var 1) (.skip) (.var 2)) (.cut false (.var 1) (.bin .add false (.var 2) (.con (.int 1))) (.skip)))] [], .ite (.cmp .eq (.var 3) (.con (.int 5))) [.ret (.bin .add false (.bin .add false (.cut false (.var 1) (.skip) (.var 2)) (.cut false (.var 1) (.var 2) (.bin .add false (.var 2) (.con (.int 1))))) (.cut false (.var 1) (.var 2) (.skip)))] [], .ite (.band [.cmp .eq (.var 3) (.con (.int 6)), .call "_law_is_whole" 20 [.ix (.var 1) (.var 2)]]) [.ret (.bin .add false (.bin .add false (.cut false (.var 1) (.skip) (.var 2)) (.tup [.bin .add false (.ix (.var 1) (.var 2)) (.call "_law_pick" 16 [.var 0, .list false [.con (.int 1), .neg (.con (.int 1))]])])) (.cut false (.var 1) (.bin .add false (.var 2) (.con (.int 1))) (.skip)))] [], .ret (.ite (.cmp .eq (.var 3) (.con (.int 7))) (.bi .tuple [.bin .add false (.bi (.list false) [.rev false (.cut false (.var 1) (.skip) (.var 2))]) (.bi (.list false) [.cut false (.var 1) (.var 2) (.skip)])]) (.bi (.list false) [.var 1]))], false⟩
def f_law_ch_line : Fun := ⟨3, 7, [.set 3 (.list true [.tup [.rng1 none (.ix (.var 1) (.con (.int 1))), .ix (.var 1) (.con (.int 2))]]), .for [4] .range [.var 2] [.set 5 (.call "_law_pick" 16 [.var 0, .list false [.con (.int 0), .con (.int 1), .con (.int 1), .con (.int 1), .con (.int 2)]]), .set 6 (.bin .add false (.bin .add false (.bin .mul false (.con (.int 3)) (.var 5)) (.con (.int 1))) (.call "_law_draw" 1 [.var 0, .con (.int 3)])), .ex (.bm .append (.var 3) [.tup [.bi .tuple [.bi (.sorted false) [.cut false (.call "_law_mixed" 17 [.var 0, .rng1 (some false) (.con (.int 16))]) (.skip) (.var 6)]], .var 5]])], .ret (.bi .tuple [.var 3])], false⟩
def f_law_ch_kind : Fun := ⟨1, 5, [.set 1 (.list false [.tup [.con (.str "trust"), .isi (.var 0) (.own 15)], .tup [.con (.str "bank"), .isi (.var 0) (.own 2)], .tup [.con (.str "line"), .isi (.var 0) (.own 6)], .tup [.con (.str "place"), .isi (.var 0) (.own 11)], .tup [.con (.str "staff"), .isi (.var 0) (.own 12)], .tup [.con (.str "member"), .isi (.var 0) (.own 7)], .tup [.con (.str "hand"), .isi (.var 0) (.own 5)], .tup [.con (.str "ballot"), .isi (.var 0) (.own 1)], .tup [.con (.str "closing"), .isi (.var 0) (.own 4)], .tup [.con (.str "stamps"), .isi (.var 0) (.own 14)], .tup [.con (.str "stamp"), .isi (.var 0) (.own 13)], .tup [.con (.str "blame"), .isi (.var 0) (.own 3)], .tup [.con (.str "names"), .isi (.var 0) (.own 8)], .tup [.con (.str "numbers"), .isi (.var 0) (.own 9)], .tup [.con (.str "payment"), .isi (.var 0) (.own 10)], .tup [.con (.str "clash"), .isi (.var 0) (.own 16)]]), .set 2 (.comp false [3, 4] .seq [.var 1] (.var 4) (.var 3)), .ret (.ite (.cmp .eq (.bi .len [.var 2]) (.con (.int 1))) (.ix (.var 2) (.con (.int 0))) (.con (.str "other")))], false⟩
def f_law_ch_refused : Fun := ⟨2, 2, [.ret (.cmp .eq (.call "_law_ch_kind" 25 [.callc "_law_caught" 18 [] (.var 1)]) (.var 0))], false⟩
def f_law_k00_is : Fun := ⟨1, 2, [.ite (.bor [.not (.isi (.var 0) .tup), .cmp .ne (.bi .len [.var 0]) (.con (.int 2)), .not (.isi (.ix (.var 0) (.con (.int 0))) .tup), .not (.chain .le .le (.con (.int 1)) (.bi .len [.ix (.var 0) (.con (.int 0))]) (.con (.int 13)))]) [.ret (.con (.bl false))] [], .ite (.bor [.cmp .ne (.comp false [1] .seq [.ix (.var 0) (.con (.int 0))] (.bor [.not (.call "_law_is_whole" 20 [.var 1]), .not (.chain .le .le (.con (.int 0)) (.var 1) (.con (.int 99)))]) (.con (.int 1))) (.list false []), .cmp .ne (.bi (.list false) [.ix (.var 0) (.con (.int 0))]) (.bi (.sortSet false) [.ix (.var 0) (.con (.int 0))])]) [.ret (.con (.bl false))] [], .ret (.band [.call "_law_is_whole" 20 [.ix (.var 0) (.con (.int 1))], .cmp .le (.con (.int 0)) (.ix (.var 0) (.con (.int 1))), .cmp .lt (.bin .mul false (.con (.int 3)) (.ix (.var 0) (.con (.int 1)))) (.bi .len [.ix (.var 0) (.con (.int 0))])])], false⟩
def f_law_k00_staff : Fun := ⟨1, 3, [.set 1 (.bin .add false (.con (.int 1)) (.call "_law_draw" 1 [.var 0, .con (.int 13)])), .set 2 (.bi .tuple [.bi (.sorted false) [.cut false (.call "_law_mixed" 17 [.var 0, .rng1 (some false) (.call "_law_pick" 16 [.var 0, .list false [.con (.int 14), .con (.int 100)]])]) (.skip) (.var 1)]]), .ret (.tup [.var 2, .call "_law_draw" 1 [.var 0, .bin .add false (.bin .fdiv false (.bin .add false (.var 1) (.con (.int 2))) (.con (.int 3))) (.call "_law_pick" 16 [.var 0, .list false [.con (.int 0), .con (.int 0), .con (.int 1)]])]])], false⟩
def f_law : Fun := ⟨1, 13, [.set 1 (.call "_law_begun" 0 [.var 0]), .for [2] .range [.con (.int 6)] [.set 3 (.call "_law_pu_bank" 21 [.var 1]), .set 4 (.call "_law_k00_staff" 28 [.var 1]), .set 5 (.list false [.var 4, .call "_law_pu_bent" 23 [.var 1, .var 4], .call "_law_pu_odd" 22 [.var 1], .tup [.rev false (.ix (.var 4) (.con (.int 0))), .ix (.var 4) (.con (.int 1))], .tup [.bi (.list false) [.ix (.var 4) (.con (.int 0))], .ix (.var 4) (.con (.int 1))], .tup [.ix (.var 4) (.con (.int 0)), .con (.bl true)]]), .set 5 (.bin .add false (.var 5) (.list false [.tup [.bin .add false (.ix (.var 4) (.con (.int 0))) (.tup [.con (.int 100)]), .ix (.var 4) (.con (.int 1))], .tup [.bin .add false (.tup [.neg (.con (.int 1))]) (.ix (.var 4) (.con (.int 0))), .con (.int 0)], .tup [.ix (.var 4) (.con (.int 0)), .neg (.con (.int 1))], .tup [.tup [], .con (.int 0)], .tup [.rng1 none (.con (.int 14)), .con (.int 0)], .tup [.ix (.var 4) (.con (.int 0)), .bin .fdiv false (.bi .len [.ix (.var 4) (.con (.int 0))]) (.con (.int 3))]])), .for [6] .seq [.var 5] [.set 7 (.call "_law_k00_is" 27 [.var 6]), .ite (.not (.call "_law_is_truth" 19 [.call "is_staff" 7 [.var 6], .var 7])) [.ret (.con (.bl false))] [], .ite (.band [.var 7, .bor [.reprEq true (.callk "staff_need" 11 [] ["staff"] [.var 6] [0]) (.bin .sub false (.bi .len [.ix (.var 6) (.con (.int 0))]) (.ix (.var 6) (.con (.int 1)))), .reprEq true (.callk "staff_binds" 12 [] ["staff"] [.var 6] [0]) (.bin .sub false (.bi .len [.ix (.var 6) (.con (.int 0))]) (.bin .mul false (.con (.int 3)) (.ix (.var 6) (.con (.int 1)))))]]) [.ret (.con (.bl false))] [], .for [8] .seq [.list false [.fn "staff_need" 11, .fn "staff_binds" 12]] [.ite (.band [.not (.var 7), .not (.callc "_law_ch_refused" 26 [.con (.str "staff")] (.lam 30 [8, 6]))]) [.ret (.con (.bl false))] []]], .set 9 (.tup [.rng1 none (.ix (.var 3) (.con (.int 1))), .ix (.var 3) (.con (.int 2))]), .ite (.reprEq true (.callk "first_staff" 13 [] ["bank"] [.var 3] [0]) (.var 9)) [.ret (.con (.bl false))] [], .set 10 (.call "_law_ch_line" 24 [.var 1, .var 3, .call "_law_draw" 1 [.var 1, .con (.int 7)]]), .for [6] .seq [.list false [.var 10, .cut false (.var 10) (.con (.int 1)) (.skip), .cut false (.var 10) (.skip) (.con (.int 1)), .tup [], .bi (.list false) [.var 10], .rev false (.var 10), .bin .add false (.var 10) (.tup [.var 4]), .call "_law_pu_bent" 23 [.var 1, .var 10], .call "_law_pu_odd" 22 [.var 1], .bin .mul false (.tup [.var 9]) (.con (.int 7))]] [.set 7 (.band [.isi (.var 6) .tup, .chain .le .le (.con (.int 1)) (.bi .len [.var 6]) (.con (.int 6)), .cmp .eq (.comp false [11] .seq [.var 6] (.not (.call "_law_k00_is" 27 [.var 11])) (.con (.int 1))) (.list false []), .cmp .eq (.ix (.var 6) (.con (.int 0))) (.var 9)]), .ite (.not (.call "_law_is_truth" 19 [.callk "is_line" 15 [] ["value", "bank"] [.var 6, .var 3] [1, 0], .var 7])) [.ret (.con (.bl false))] []], .set 12 (.call "_law_pick" 16 [.var 1, .list false [.con .non, .con (.int 0), .tup [], .tup [.tup [.con (.int 1)], .con (.int 3), .con (.int 1)], .tup [.tup [.con (.int 1)], .con (.int 4), .con (.bl true)], .list false [.tup [.con (.int 1)], .con (.int 4), .con (.int 1)], .tup [.var 3]]]), .forlam 8 [(31, [12]), (32, [12, 10])] "_law_ch_refused" 26 (.con (.str "bank")) (.con (.bl false))], .ret (.con (.bl true))], false⟩
def e_law_begun : EntI := ⟨⟨("_law_begun", none), "_law_begun", "_law_begun", defArgs (top 40), defBody (top 40), defScope (top 40), [], []⟩, ["script"], ["script", "great", "cell"], f_law_begun, some begunM⟩
def e_law_draw : EntI := ⟨⟨("_law_draw", none), "_law_draw", "_law_draw", defArgs (top 42), defBody (top 42), defScope (top 42), [], []⟩, ["state", "size_here"], ["state", "size_here", "found"], f_law_draw, some drawM⟩
def e_law_blended : EntI := ⟨⟨("_law_blended", none), "_law_blended", "_law_blended", defArgs (top 41), defBody (top 41), defScope (top 41), [], []⟩, ["state"], ["state", "turn", "found", "prime", "blend", "cell"], f_law_blended, none⟩
def e_is_number : EntI := ⟨⟨("is_number", none), "is_number", "is_number", defArgs (top 22), defBody (top 22), defScope (top 22), [], []⟩, ["value", "low"], ["value", "low"], f_is_number, none⟩
def e_is_bank : EntI := ⟨⟨("is_bank", none), "is_bank", "is_bank", defArgs (top 23), defBody (top 23), defScope (top 23), [], []⟩, ["value"], ["value", "begin", "members", "lies", "amount"], f_is_bank, none⟩
def e_need_bank : EntI := ⟨⟨("need_bank", none), "need_bank", "need_bank", defArgs (top 24), defBody (top 24), defScope (top 24), [], []⟩, ["bank"], ["bank"], f_need_bank, none⟩
def e_are_people : EntI := ⟨⟨("are_people", none), "are_people", "are_people", defArgs (top 29), defBody (top 29), defScope (top 29), [], []⟩, ["value"], ["value", "one", "other"], f_are_people, none⟩
def e_is_staff : EntI := ⟨⟨("is_staff", none), "is_staff", "is_staff", defArgs (top 30), defBody (top 30), defScope (top 30), [], []⟩, ["value"], ["value"], f_is_staff, none⟩
def e_need_staff : EntI := ⟨⟨("need_staff", none), "need_staff", "need_staff", defArgs (top 31), defBody (top 31), defScope (top 31), [], []⟩, ["staff"], ["staff"], f_need_staff, none⟩
def e_votes_in : EntI := ⟨⟨("votes_in", none), "votes_in", "votes_in", defArgs (top 32), defBody (top 32), defScope (top 32), [], []⟩, ["staff"], ["staff"], f_votes_in, none⟩
def e_binds_in : EntI := ⟨⟨("binds_in", none), "binds_in", "binds_in", defArgs (top 33), defBody (top 33), defScope (top 33), [], []⟩, ["staff"], ["staff"], f_binds_in, none⟩
def e_staff_need : EntI := ⟨⟨("staff_need", none), "staff_need", "staff_need", defArgs (top 34), defBody (top 34), defScope (top 34), [], []⟩, ["staff"], ["staff"], f_staff_need, none⟩
def e_staff_binds : EntI := ⟨⟨("staff_binds", none), "staff_binds", "staff_binds", defArgs (top 35), defBody (top 35), defScope (top 35), [], []⟩, ["staff"], ["staff"], f_staff_binds, none⟩
def e_first_staff : EntI := ⟨⟨("first_staff", none), "first_staff", "first_staff", defArgs (top 36), defBody (top 36), defScope (top 36), [], []⟩, ["bank"], ["bank"], f_first_staff, none⟩
def e_line_by : EntI := ⟨⟨("line_by", none), "line_by", "line_by", defArgs (top 37), defBody (top 37), defScope (top 37), [], []⟩, ["bank", "value"], ["bank", "value", "one"], f_line_by, none⟩
def e_is_line : EntI := ⟨⟨("is_line", none), "is_line", "is_line", defArgs (top 38), defBody (top 38), defScope (top 38), [], []⟩, ["bank", "value"], ["bank", "value"], f_is_line, none⟩
def e_law_pick : EntI := ⟨⟨("_law_pick", none), "_law_pick", "_law_pick", defArgs (top 43), defBody (top 43), defScope (top 43), [], []⟩, ["state", "several"], ["state", "several"], f_law_pick, none⟩
def e_law_mixed : EntI := ⟨⟨("_law_mixed", none), "_law_mixed", "_law_mixed", defArgs (top 44), defBody (top 44), defScope (top 44), [], []⟩, ["state", "several"], ["state", "several", "left", "found"], f_law_mixed, none⟩
def e_law_caught : EntI := ⟨⟨("_law_caught", none), "_law_caught", "_law_caught", defArgs (top 45), defBody (top 45), defScope (top 45), [], []⟩, ["work"], ["work", "caught", "error"], f_law_caught, none⟩
def e_law_is_truth : EntI := ⟨⟨("_law_is_truth", none), "_law_is_truth", "_law_is_truth", defArgs (top 46), defBody (top 46), defScope (top 46), [], []⟩, ["found", "due"], ["found", "due"], f_law_is_truth, none⟩
def e_law_is_whole : EntI := ⟨⟨("_law_is_whole", none), "_law_is_whole", "_law_is_whole", defArgs (top 47), defBody (top 47), defScope (top 47), [], []⟩, ["item"], ["item"], f_law_is_whole, none⟩
def e_law_pu_bank : EntI := ⟨⟨("_law_pu_bank", none), "_law_pu_bank", "_law_pu_bank", defArgs (top 48), defBody (top 48), defScope (top 48), [], []⟩, ["state"], ["state", "some"], f_law_pu_bank, none⟩
def e_law_pu_odd : EntI := ⟨⟨("_law_pu_odd", none), "_law_pu_odd", "_law_pu_odd", defArgs (top 49), defBody (top 49), defScope (top 49), [], []⟩, ["state"], ["state", "some"], f_law_pu_odd, none⟩
def e_law_pu_bent : EntI := ⟨⟨("_law_pu_bent", none), "_law_pu_bent", "_law_pu_bent", defArgs (top 50), defBody (top 50), defScope (top 50), [], []⟩, ["state", "item"], ["state", "item", "at", "way"], f_law_pu_bent, none⟩
def e_law_ch_line : EntI := ⟨⟨("_law_ch_line", none), "_law_ch_line", "_law_ch_line", defArgs (top 51), defBody (top 51), defScope (top 51), [], []⟩, ["state", "bank_here", "more"], ["state", "bank_here", "more", "line", "turn", "lies", "many"], f_law_ch_line, none⟩
def e_law_ch_kind : EntI := ⟨⟨("_law_ch_kind", none), "_law_ch_kind", "_law_ch_kind", defArgs (top 52), defBody (top 52), defScope (top 52), [], []⟩, ["caught"], ["caught", "hits", "found", "word", "hit"], f_law_ch_kind, none⟩
def e_law_ch_refused : EntI := ⟨⟨("_law_ch_refused", none), "_law_ch_refused", "_law_ch_refused", defArgs (top 53), defBody (top 53), defScope (top 53), [], []⟩, ["word", "work"], ["word", "work"], f_law_ch_refused, none⟩
def e_law_k00_is : EntI := ⟨⟨("_law_k00_is", none), "_law_k00_is", "_law_k00_is", defArgs (top 54), defBody (top 54), defScope (top 54), [], []⟩, ["value"], ["value", "one"], f_law_k00_is, none⟩
def e_law_k00_staff : EntI := ⟨⟨("_law_k00_staff", none), "_law_k00_staff", "_law_k00_staff", defArgs (top 55), defBody (top 55), defScope (top 55), [], []⟩, ["state"], ["state", "many", "people"], f_law_k00_staff, none⟩
def e_law : EntI := ⟨⟨("law", none), "law", "law", defArgs (top 56), defBody (top 56), defScope (top 56), [], []⟩, ["script"], ["script", "state", "turn", "bank_here", "staff", "some", "value", "due", "ask", "first", "line", "one", "odd"], f_law, none⟩
def ls : List E := [.callv 0 [.var 1], .call "first_staff" 13 [.var 0], .call "is_line" 15 [.var 0, .var 1]]
def L : LayI := ⟨[e_law_begun, e_law_draw, e_law_blended, e_is_number, e_is_bank, e_need_bank, e_are_people, e_is_staff, e_need_staff, e_votes_in, e_binds_in, e_staff_need, e_staff_binds, e_first_staff, e_line_by, e_is_line, e_law_pick, e_law_mixed, e_law_caught, e_law_is_truth, e_law_is_whole, e_law_pu_bank, e_law_pu_odd, e_law_pu_bent, e_law_ch_line, e_law_ch_kind, e_law_ch_refused, e_law_k00_is, e_law_k00_staff, e_law], ls, ["PurseError", "BadBallot", "BadBank", "BadBlame", "BadClosing", "BadHand", "BadLine", "BadMember", "BadNames", "BadNumbers", "BadPayment", "BadPlace", "BadStaff", "BadStamp", "BadStamps", "BadTrust", "NoClash"], [[0], [0, 1], [0, 2], [0, 3], [0, 4], [0, 5], [0, 6], [0, 7], [0, 8], [0, 9], [0, 10], [0, 11], [0, 12], [0, 13], [0, 14], [0, 15], [0, 16]], [2, 12], [("MOST_MEMBERS", 13), ("MOST_NAME", 99), ("MOST_NUMBER", 1000000000000000000), ("MOST_PEOPLE", 13), ("MOST_PURSES", 8), ("MOST_STAFFS", 6)], ["abs", "all", "bool", "int", "isinstance", "len", "list", "range", "repr", "set", "sorted", "sum", "tuple", "zip"], [(11, 0, ["staff"], [0]), (12, 0, ["staff"], [0]), (13, 0, ["bank"], [0]), (15, 0, ["value", "bank"], [1, 0])], [29]⟩
theorem chk : L.chk = true := by kernel_rfl
theorem b_law_begun (kV doc pm : Value) (an : Option Addr) (cdv ct : Value) (us : List Value) (hl : us.length = 1) : bindArgs (PySem.W.fnOf "_law_begun" "_law_begun" (defArgs (top 40)) (defBody (top 40)) (defScope (top 40)) .none kV doc pm an cdv ct) ⟨us, []⟩ = pure ((["script"] : List Str).zip us) := match us, hl with
  | [_], _ => rfl
theorem b_law_draw (kV doc pm : Value) (an : Option Addr) (cdv ct : Value) (us : List Value) (hl : us.length = 2) : bindArgs (PySem.W.fnOf "_law_draw" "_law_draw" (defArgs (top 42)) (defBody (top 42)) (defScope (top 42)) .none kV doc pm an cdv ct) ⟨us, []⟩ = pure ((["state", "size_here"] : List Str).zip us) := match us, hl with
  | [_, _], _ => rfl
theorem b_law_blended (kV doc pm : Value) (an : Option Addr) (cdv ct : Value) (us : List Value) (hl : us.length = 1) : bindArgs (PySem.W.fnOf "_law_blended" "_law_blended" (defArgs (top 41)) (defBody (top 41)) (defScope (top 41)) .none kV doc pm an cdv ct) ⟨us, []⟩ = pure ((["state"] : List Str).zip us) := match us, hl with
  | [_], _ => rfl
theorem b_is_number (kV doc pm : Value) (an : Option Addr) (cdv ct : Value) (us : List Value) (hl : us.length = 2) : bindArgs (PySem.W.fnOf "is_number" "is_number" (defArgs (top 22)) (defBody (top 22)) (defScope (top 22)) .none kV doc pm an cdv ct) ⟨us, []⟩ = pure ((["value", "low"] : List Str).zip us) := match us, hl with
  | [_, _], _ => rfl
theorem b_is_bank (kV doc pm : Value) (an : Option Addr) (cdv ct : Value) (us : List Value) (hl : us.length = 1) : bindArgs (PySem.W.fnOf "is_bank" "is_bank" (defArgs (top 23)) (defBody (top 23)) (defScope (top 23)) .none kV doc pm an cdv ct) ⟨us, []⟩ = pure ((["value"] : List Str).zip us) := match us, hl with
  | [_], _ => rfl
theorem b_need_bank (kV doc pm : Value) (an : Option Addr) (cdv ct : Value) (us : List Value) (hl : us.length = 1) : bindArgs (PySem.W.fnOf "need_bank" "need_bank" (defArgs (top 24)) (defBody (top 24)) (defScope (top 24)) .none kV doc pm an cdv ct) ⟨us, []⟩ = pure ((["bank"] : List Str).zip us) := match us, hl with
  | [_], _ => rfl
theorem b_are_people (kV doc pm : Value) (an : Option Addr) (cdv ct : Value) (us : List Value) (hl : us.length = 1) : bindArgs (PySem.W.fnOf "are_people" "are_people" (defArgs (top 29)) (defBody (top 29)) (defScope (top 29)) .none kV doc pm an cdv ct) ⟨us, []⟩ = pure ((["value"] : List Str).zip us) := match us, hl with
  | [_], _ => rfl
theorem b_is_staff (kV doc pm : Value) (an : Option Addr) (cdv ct : Value) (us : List Value) (hl : us.length = 1) : bindArgs (PySem.W.fnOf "is_staff" "is_staff" (defArgs (top 30)) (defBody (top 30)) (defScope (top 30)) .none kV doc pm an cdv ct) ⟨us, []⟩ = pure ((["value"] : List Str).zip us) := match us, hl with
  | [_], _ => rfl
theorem b_need_staff (kV doc pm : Value) (an : Option Addr) (cdv ct : Value) (us : List Value) (hl : us.length = 1) : bindArgs (PySem.W.fnOf "need_staff" "need_staff" (defArgs (top 31)) (defBody (top 31)) (defScope (top 31)) .none kV doc pm an cdv ct) ⟨us, []⟩ = pure ((["staff"] : List Str).zip us) := match us, hl with
  | [_], _ => rfl
theorem b_votes_in (kV doc pm : Value) (an : Option Addr) (cdv ct : Value) (us : List Value) (hl : us.length = 1) : bindArgs (PySem.W.fnOf "votes_in" "votes_in" (defArgs (top 32)) (defBody (top 32)) (defScope (top 32)) .none kV doc pm an cdv ct) ⟨us, []⟩ = pure ((["staff"] : List Str).zip us) := match us, hl with
  | [_], _ => rfl
theorem b_binds_in (kV doc pm : Value) (an : Option Addr) (cdv ct : Value) (us : List Value) (hl : us.length = 1) : bindArgs (PySem.W.fnOf "binds_in" "binds_in" (defArgs (top 33)) (defBody (top 33)) (defScope (top 33)) .none kV doc pm an cdv ct) ⟨us, []⟩ = pure ((["staff"] : List Str).zip us) := match us, hl with
  | [_], _ => rfl
theorem b_staff_need (kV doc pm : Value) (an : Option Addr) (cdv ct : Value) (us : List Value) (hl : us.length = 1) : bindArgs (PySem.W.fnOf "staff_need" "staff_need" (defArgs (top 34)) (defBody (top 34)) (defScope (top 34)) .none kV doc pm an cdv ct) ⟨us, []⟩ = pure ((["staff"] : List Str).zip us) := match us, hl with
  | [_], _ => rfl
theorem b_staff_binds (kV doc pm : Value) (an : Option Addr) (cdv ct : Value) (us : List Value) (hl : us.length = 1) : bindArgs (PySem.W.fnOf "staff_binds" "staff_binds" (defArgs (top 35)) (defBody (top 35)) (defScope (top 35)) .none kV doc pm an cdv ct) ⟨us, []⟩ = pure ((["staff"] : List Str).zip us) := match us, hl with
  | [_], _ => rfl
theorem b_first_staff (kV doc pm : Value) (an : Option Addr) (cdv ct : Value) (us : List Value) (hl : us.length = 1) : bindArgs (PySem.W.fnOf "first_staff" "first_staff" (defArgs (top 36)) (defBody (top 36)) (defScope (top 36)) .none kV doc pm an cdv ct) ⟨us, []⟩ = pure ((["bank"] : List Str).zip us) := match us, hl with
  | [_], _ => rfl
theorem b_line_by (kV doc pm : Value) (an : Option Addr) (cdv ct : Value) (us : List Value) (hl : us.length = 2) : bindArgs (PySem.W.fnOf "line_by" "line_by" (defArgs (top 37)) (defBody (top 37)) (defScope (top 37)) .none kV doc pm an cdv ct) ⟨us, []⟩ = pure ((["bank", "value"] : List Str).zip us) := match us, hl with
  | [_, _], _ => rfl
theorem b_is_line (kV doc pm : Value) (an : Option Addr) (cdv ct : Value) (us : List Value) (hl : us.length = 2) : bindArgs (PySem.W.fnOf "is_line" "is_line" (defArgs (top 38)) (defBody (top 38)) (defScope (top 38)) .none kV doc pm an cdv ct) ⟨us, []⟩ = pure ((["bank", "value"] : List Str).zip us) := match us, hl with
  | [_, _], _ => rfl
theorem b_law_pick (kV doc pm : Value) (an : Option Addr) (cdv ct : Value) (us : List Value) (hl : us.length = 2) : bindArgs (PySem.W.fnOf "_law_pick" "_law_pick" (defArgs (top 43)) (defBody (top 43)) (defScope (top 43)) .none kV doc pm an cdv ct) ⟨us, []⟩ = pure ((["state", "several"] : List Str).zip us) := match us, hl with
  | [_, _], _ => rfl
theorem b_law_mixed (kV doc pm : Value) (an : Option Addr) (cdv ct : Value) (us : List Value) (hl : us.length = 2) : bindArgs (PySem.W.fnOf "_law_mixed" "_law_mixed" (defArgs (top 44)) (defBody (top 44)) (defScope (top 44)) .none kV doc pm an cdv ct) ⟨us, []⟩ = pure ((["state", "several"] : List Str).zip us) := match us, hl with
  | [_, _], _ => rfl
theorem b_law_caught (kV doc pm : Value) (an : Option Addr) (cdv ct : Value) (us : List Value) (hl : us.length = 1) : bindArgs (PySem.W.fnOf "_law_caught" "_law_caught" (defArgs (top 45)) (defBody (top 45)) (defScope (top 45)) .none kV doc pm an cdv ct) ⟨us, []⟩ = pure ((["work"] : List Str).zip us) := match us, hl with
  | [_], _ => rfl
theorem b_law_is_truth (kV doc pm : Value) (an : Option Addr) (cdv ct : Value) (us : List Value) (hl : us.length = 2) : bindArgs (PySem.W.fnOf "_law_is_truth" "_law_is_truth" (defArgs (top 46)) (defBody (top 46)) (defScope (top 46)) .none kV doc pm an cdv ct) ⟨us, []⟩ = pure ((["found", "due"] : List Str).zip us) := match us, hl with
  | [_, _], _ => rfl
theorem b_law_is_whole (kV doc pm : Value) (an : Option Addr) (cdv ct : Value) (us : List Value) (hl : us.length = 1) : bindArgs (PySem.W.fnOf "_law_is_whole" "_law_is_whole" (defArgs (top 47)) (defBody (top 47)) (defScope (top 47)) .none kV doc pm an cdv ct) ⟨us, []⟩ = pure ((["item"] : List Str).zip us) := match us, hl with
  | [_], _ => rfl
theorem b_law_pu_bank (kV doc pm : Value) (an : Option Addr) (cdv ct : Value) (us : List Value) (hl : us.length = 1) : bindArgs (PySem.W.fnOf "_law_pu_bank" "_law_pu_bank" (defArgs (top 48)) (defBody (top 48)) (defScope (top 48)) .none kV doc pm an cdv ct) ⟨us, []⟩ = pure ((["state"] : List Str).zip us) := match us, hl with
  | [_], _ => rfl
theorem b_law_pu_odd (kV doc pm : Value) (an : Option Addr) (cdv ct : Value) (us : List Value) (hl : us.length = 1) : bindArgs (PySem.W.fnOf "_law_pu_odd" "_law_pu_odd" (defArgs (top 49)) (defBody (top 49)) (defScope (top 49)) .none kV doc pm an cdv ct) ⟨us, []⟩ = pure ((["state"] : List Str).zip us) := match us, hl with
  | [_], _ => rfl
theorem b_law_pu_bent (kV doc pm : Value) (an : Option Addr) (cdv ct : Value) (us : List Value) (hl : us.length = 2) : bindArgs (PySem.W.fnOf "_law_pu_bent" "_law_pu_bent" (defArgs (top 50)) (defBody (top 50)) (defScope (top 50)) .none kV doc pm an cdv ct) ⟨us, []⟩ = pure ((["state", "item"] : List Str).zip us) := match us, hl with
  | [_, _], _ => rfl
theorem b_law_ch_line (kV doc pm : Value) (an : Option Addr) (cdv ct : Value) (us : List Value) (hl : us.length = 3) : bindArgs (PySem.W.fnOf "_law_ch_line" "_law_ch_line" (defArgs (top 51)) (defBody (top 51)) (defScope (top 51)) .none kV doc pm an cdv ct) ⟨us, []⟩ = pure ((["state", "bank_here", "more"] : List Str).zip us) := match us, hl with
  | [_, _, _], _ => rfl
theorem b_law_ch_kind (kV doc pm : Value) (an : Option Addr) (cdv ct : Value) (us : List Value) (hl : us.length = 1) : bindArgs (PySem.W.fnOf "_law_ch_kind" "_law_ch_kind" (defArgs (top 52)) (defBody (top 52)) (defScope (top 52)) .none kV doc pm an cdv ct) ⟨us, []⟩ = pure ((["caught"] : List Str).zip us) := match us, hl with
  | [_], _ => rfl
theorem b_law_ch_refused (kV doc pm : Value) (an : Option Addr) (cdv ct : Value) (us : List Value) (hl : us.length = 2) : bindArgs (PySem.W.fnOf "_law_ch_refused" "_law_ch_refused" (defArgs (top 53)) (defBody (top 53)) (defScope (top 53)) .none kV doc pm an cdv ct) ⟨us, []⟩ = pure ((["word", "work"] : List Str).zip us) := match us, hl with
  | [_, _], _ => rfl
theorem b_law_k00_is (kV doc pm : Value) (an : Option Addr) (cdv ct : Value) (us : List Value) (hl : us.length = 1) : bindArgs (PySem.W.fnOf "_law_k00_is" "_law_k00_is" (defArgs (top 54)) (defBody (top 54)) (defScope (top 54)) .none kV doc pm an cdv ct) ⟨us, []⟩ = pure ((["value"] : List Str).zip us) := match us, hl with
  | [_], _ => rfl
theorem b_law_k00_staff (kV doc pm : Value) (an : Option Addr) (cdv ct : Value) (us : List Value) (hl : us.length = 1) : bindArgs (PySem.W.fnOf "_law_k00_staff" "_law_k00_staff" (defArgs (top 55)) (defBody (top 55)) (defScope (top 55)) .none kV doc pm an cdv ct) ⟨us, []⟩ = pure ((["state"] : List Str).zip us) := match us, hl with
  | [_], _ => rfl
theorem b_law (kV doc pm : Value) (an : Option Addr) (cdv ct : Value) (us : List Value) (hl : us.length = 1) : bindArgs (PySem.W.fnOf "law" "law" (defArgs (top 56)) (defBody (top 56)) (defScope (top 56)) .none kV doc pm an cdv ct) ⟨us, []⟩ = pure ((["script"] : List Str).zip us) := match us, hl with
  | [_], _ => rfl
theorem bnd : L.Bnd := (List.forall_mem_cons.2 ⟨b_law_begun, (List.forall_mem_cons.2 ⟨b_law_draw, (List.forall_mem_cons.2 ⟨b_law_blended, (List.forall_mem_cons.2 ⟨b_is_number, (List.forall_mem_cons.2 ⟨b_is_bank, (List.forall_mem_cons.2 ⟨b_need_bank, (List.forall_mem_cons.2 ⟨b_are_people, (List.forall_mem_cons.2 ⟨b_is_staff, (List.forall_mem_cons.2 ⟨b_need_staff, (List.forall_mem_cons.2 ⟨b_votes_in, (List.forall_mem_cons.2 ⟨b_binds_in, (List.forall_mem_cons.2 ⟨b_staff_need, (List.forall_mem_cons.2 ⟨b_staff_binds, (List.forall_mem_cons.2 ⟨b_first_staff, (List.forall_mem_cons.2 ⟨b_line_by, (List.forall_mem_cons.2 ⟨b_is_line, (List.forall_mem_cons.2 ⟨b_law_pick, (List.forall_mem_cons.2 ⟨b_law_mixed, (List.forall_mem_cons.2 ⟨b_law_caught, (List.forall_mem_cons.2 ⟨b_law_is_truth, (List.forall_mem_cons.2 ⟨b_law_is_whole, (List.forall_mem_cons.2 ⟨b_law_pu_bank, (List.forall_mem_cons.2 ⟨b_law_pu_odd, (List.forall_mem_cons.2 ⟨b_law_pu_bent, (List.forall_mem_cons.2 ⟨b_law_ch_line, (List.forall_mem_cons.2 ⟨b_law_ch_kind, (List.forall_mem_cons.2 ⟨b_law_ch_refused, (List.forall_mem_cons.2 ⟨b_law_k00_is, (List.forall_mem_cons.2 ⟨b_law_k00_staff, (List.forall_mem_cons.2 ⟨b_law, (fun _ h => nomatch h)⟩)⟩)⟩)⟩)⟩)⟩)⟩)⟩)⟩)⟩)⟩)⟩)⟩)⟩)⟩)⟩)⟩)⟩)⟩)⟩)⟩)⟩)⟩)⟩)⟩)⟩)⟩)⟩)⟩)⟩)
theorem k_0 (e : EntI) (he : L.es[11]? = some e) (kV doc pm : Value) (an : Option Addr) (cdv ct : Value) (us ws : List Value) (h1 : us.length = 0) (h2 : ws.length = 1) : bindArgs (PySem.W.fnOf e.d.name e.d.qual e.d.params e.d.body e.d.scope .none kV doc pm an cdv ct) ⟨us, (["staff"] : List Str).zip ws⟩ = pure (e.ps.zip (pickL [0] (us ++ ws))) := by
  cases he
  exact match us, h1, ws, h2 with
  | [], _, [_], _ => rfl
theorem k_1 (e : EntI) (he : L.es[12]? = some e) (kV doc pm : Value) (an : Option Addr) (cdv ct : Value) (us ws : List Value) (h1 : us.length = 0) (h2 : ws.length = 1) : bindArgs (PySem.W.fnOf e.d.name e.d.qual e.d.params e.d.body e.d.scope .none kV doc pm an cdv ct) ⟨us, (["staff"] : List Str).zip ws⟩ = pure (e.ps.zip (pickL [0] (us ++ ws))) := by
  cases he
  exact match us, h1, ws, h2 with
  | [], _, [_], _ => rfl
theorem k_2 (e : EntI) (he : L.es[13]? = some e) (kV doc pm : Value) (an : Option Addr) (cdv ct : Value) (us ws : List Value) (h1 : us.length = 0) (h2 : ws.length = 1) : bindArgs (PySem.W.fnOf e.d.name e.d.qual e.d.params e.d.body e.d.scope .none kV doc pm an cdv ct) ⟨us, (["bank"] : List Str).zip ws⟩ = pure (e.ps.zip (pickL [0] (us ++ ws))) := by
  cases he
  exact match us, h1, ws, h2 with
  | [], _, [_], _ => rfl
theorem k_3 (e : EntI) (he : L.es[15]? = some e) (kV doc pm : Value) (an : Option Addr) (cdv ct : Value) (us ws : List Value) (h1 : us.length = 0) (h2 : ws.length = 2) : bindArgs (PySem.W.fnOf e.d.name e.d.qual e.d.params e.d.body e.d.scope .none kV doc pm an cdv ct) ⟨us, (["value", "bank"] : List Str).zip ws⟩ = pure (e.ps.zip (pickL [1, 0] (us ++ ws))) := by
  cases he
  exact match us, h1, ws, h2 with
  | [], _, [_, _], _ => rfl
theorem bkw : L.Bkw := (List.forall_mem_cons.2 ⟨k_0, (List.forall_mem_cons.2 ⟨k_1, (List.forall_mem_cons.2 ⟨k_2, (List.forall_mem_cons.2 ⟨k_3, (fun _ h => nomatch h)⟩)⟩)⟩)⟩)
theorem chk0 : L.L0.chk = true := by kernel_rfl
theorem hasDraw : L.HasDraw := ⟨e_law_begun, e_law_draw, e_law_blended, _, rfl, rfl, rfl, rfl, rfl, rfl, (List.forall_mem_cons.2 ⟨rfl, (List.forall_mem_cons.2 ⟨rfl, (List.forall_mem_cons.2 ⟨rfl, (List.forall_mem_cons.2 ⟨rfl, (List.forall_mem_cons.2 ⟨rfl, (List.forall_mem_cons.2 ⟨rfl, (List.forall_mem_cons.2 ⟨rfl, (List.forall_mem_cons.2 ⟨rfl, (List.forall_mem_cons.2 ⟨rfl, (List.forall_mem_cons.2 ⟨rfl, (List.forall_mem_cons.2 ⟨rfl, (List.forall_mem_cons.2 ⟨rfl, (List.forall_mem_cons.2 ⟨rfl, (List.forall_mem_cons.2 ⟨rfl, (List.forall_mem_cons.2 ⟨rfl, (List.forall_mem_cons.2 ⟨rfl, (List.forall_mem_cons.2 ⟨rfl, (List.forall_mem_cons.2 ⟨rfl, (List.forall_mem_cons.2 ⟨rfl, (List.forall_mem_cons.2 ⟨rfl, (List.forall_mem_cons.2 ⟨rfl, (List.forall_mem_cons.2 ⟨rfl, (List.forall_mem_cons.2 ⟨rfl, (List.forall_mem_cons.2 ⟨rfl, (List.forall_mem_cons.2 ⟨rfl, (List.forall_mem_cons.2 ⟨rfl, (List.forall_mem_cons.2 ⟨rfl, (List.forall_mem_cons.2 ⟨rfl, (fun _ h => nomatch h)⟩)⟩)⟩)⟩)⟩)⟩)⟩)⟩)⟩)⟩)⟩)⟩)⟩)⟩)⟩)⟩)⟩)⟩)⟩)⟩)⟩)⟩)⟩)⟩)⟩)⟩)⟩)⟩)⟩
theorem prims : L.Prims 2 := LayI.prims chk chk0 hasDraw bnd
end X0

set_option Elab.async false
set_option linter.all false
set_option maxRecDepth 100000
set_option maxHeartbeats 0
namespace X0
open PySem PySem.W PySem.Calls PyProof.Rows Mi
abbrev R : OpenRow := OpenLaw.row PySem.Challenge.rw_pursespassed_k00_staffs_and_lines
abbrev qv : Program := view R.prog [56]
def names0 : List PySem.Str := ["PurseError", "BadBallot", "BadBank", "BadBlame", "BadClosing", "BadHand", "BadLine", "BadMember", "BadNames", "BadNumbers", "BadPayment", "BadPlace", "BadStaff", "BadStamp", "BadStamps", "BadTrust", "NoClash", "MOST_NUMBER", "MOST_PURSES", "MOST_MEMBERS"]
def names1 : List PySem.Str := ["is_number", "is_bank", "need_bank", "MOST_PEOPLE", "MOST_NAME", "MOST_STAFFS", "are_people", "is_staff", "need_staff", "votes_in", "binds_in", "staff_need", "staff_binds", "first_staff", "line_by", "is_line", "_law_begun", "_law_blended", "_law_draw", "_law_pick"]
def names2 : List PySem.Str := ["_law_mixed", "_law_caught", "_law_is_truth", "_law_is_whole", "_law_pu_bank", "_law_pu_odd", "_law_pu_bent", "_law_ch_line", "_law_ch_kind", "_law_ch_refused", "_law_k00_is", "_law_k00_staff"]
def names : List PySem.Str := names0 ++ (names1 ++ (names2))
abbrev hk : Hook := He.hookX 5 L.fas L.fn [] L.tf L.ex
def ob (s : SharedT) : He.AlX := He.obsX 5 L.fas L.fn [] L.tf L.ex (HandSHeadRun.getT s)
theorem ob_eq (s : SharedT) : ob s = hk.obs s.abs := He.obsX_eq (HandSHeadRun.getT_eq s)
theorem run (w : World) : HandSHeadRun.RunEq R qv hk ob 6000 names w := by
  intro os
  kernel_rfl
end X0

set_option Elab.async false
set_option linter.all false
set_option maxRecDepth 100000
set_option maxHeartbeats 4000000
namespace P0
open PySem L2 Mi X0
abbrev T : Tab := L.T
abbrev G (n : Nat) : PG := gp T n
theorem t4 : T.fs[4]? = some (.code f_is_bank) := rfl
theorem t5 : T.fs[5]? = some (.code f_need_bank) := rfl
theorem t6 : T.fs[6]? = some (.code f_are_people) := rfl
theorem t7 : T.fs[7]? = some (.code f_is_staff) := rfl
theorem t8 : T.fs[8]? = some (.code f_need_staff) := rfl
theorem t9 : T.fs[9]? = some (.code f_votes_in) := rfl
theorem t10 : T.fs[10]? = some (.code f_binds_in) := rfl
theorem t11 : T.fs[11]? = some (.code f_staff_need) := rfl
theorem t12 : T.fs[12]? = some (.code f_staff_binds) := rfl
theorem t13 : T.fs[13]? = some (.code f_first_staff) := rfl
theorem t14 : T.fs[14]? = some (.code f_line_by) := rfl
theorem t15 : T.fs[15]? = some (.code f_is_line) := rfl
theorem t21 : T.fs[21]? = some (.code f_law_pu_bank) := rfl
theorem t24 : T.fs[24]? = some (.code f_law_ch_line) := rfl
theorem t27 : T.fs[27]? = some (.code f_law_k00_is) := rfl
theorem t28 : T.fs[28]? = some (.code f_law_k00_staff) := rfl
theorem t29 : T.fs[29]? = some (.code f_law) := rfl
abbrev Z : Shr T := ⟨16, 17, 19, 20, 22, 23, 3, 18, 25, 26, rfl, rfl, rfl, rfl, rfl, rfl, rfl, rfl, rfl, rfl, rfl⟩
section
variable {n : Nat} {h : CH}
def lenV (x : Val) : Int := match x with
  | .tup xs => xs.length
  | _ => 0
def peopleB (x : Val) : Bool := (decide (1 ≤ lenV x) && decide (lenV x ≤ 13)) && (lotI 100 x).isSome
def staffB (x : Val) : Bool := match x with
  | .tup [p, .int l] => peopleB p && (decide (0 ≤ l) && decide (3 * l + 1 ≤ lenV p))
  | _ => false
theorem chain_len {l : List Val} {G : PG} {ρ : Mi.Loc} {e c : E} {lo hi : Int} (e1 : evE G h e ρ = xr (.tup l)) (e2 : evE G h c ρ = xr (.int hi)) : evE G h (.chain .le .le (.con (.int lo)) (.bi .len [e]) c) ρ = xr (.bl (decide (lo ≤ (l.length : Int)) && decide ((l.length : Int) ≤ hi))) :=
  x_chain (x := .int lo) (y := .int l.length) (z := .int hi) rfl (x_bi (vs := [.tup l]) (x_es1 e1) rfl) rfl (fun _ => e2) fun _ => rfl
theorem ev_people {x : Val} {b : Nat} (hx : pl b x = true) (hb : b ≤ 1000) : evR T (n + 2) h 6 [.v x] = xr (.bl (peopleB x)) := by
  cases x with
  | ref a => rw [pl] at hx; cases hx
  | fn a => rw [pl] at hx; cases hx
  | exc a => rw [pl] at hx; cases hx
  | tup l =>
    obtain ⟨hl, hq⟩ := pl_tup.mp hx
    have hl2 : l.length ≤ sizeLine := Nat.le_trans (Nat.le_trans hl hb) (by decide)
    have e3 : evE (G (n + 1)) h (.bi .all [.comp false [1] .seq [.var 0] .skip (.band [.call "is_number" 3 [.var 1, .con (.int 0)], .cmp .le (.var 1) (.gint "MOST_NAME" 99)])]) [some (.v (.tup l)), none, none] = xr (.bl (l.all (inB 100))) := by
      refine evE_all (inB 100) (vs := [.tup l]) (l := l) rfl rfl hl2 fun v hv => ⟨[some (.v (.tup l)), some (.v v), none], rfl, ?_⟩
      have e : evE (G (n + 1)) h (.call "is_number" 3 [.var 1, .con (.int 0)]) [some (.v (.tup l)), some (.v v), none] = xr (.bl (isNum v 0)) := x_call (vs := [v, .int 0]) rfl (Z.ev_is_number (hq v hv))
      refine (e_and2 (b := inB 100 v) e fun hn => ?_).trans ?_
      · cases v with
        | int i =>
          have hn : (decide (0 ≤ i) && decide (i < 1000000000000000000)) = true := hn
          rw [Bool.and_eq_true, decide_eq_true_eq] at hn
          refine (x_cmp (x := .int i) (y := .int 99) (c := decide (i ≤ 99)) rfl rfl rfl).trans ?_
          show xr (Val.bl (decide (i ≤ 99))) = xr (.bl (decide (0 ≤ i) && decide (i < 100)))
          rw [decide_eq_true hn.1, Bool.true_and]
          congr 2
          rw [Bool.eq_iff_iff, decide_eq_true_eq, decide_eq_true_eq]
          omega
        | _ => cases hn
      · congr 3
        cases q : inB 100 v with
        | false => rw [Bool.and_false]
        | true =>
          obtain ⟨i, rfl, i1, i2⟩ := inB_int q
          show (decide (0 ≤ i) && decide (i < 1000000000000000000) && true) = true
          rw [decide_eq_true i1, decide_eq_true (show i < 1000000000000000000 by omega)] <;> rfl
    refine evR_rt t6 rfl ?_
    show evSs (G (n + 1)) h f_are_people.body [some (.v (.tup l)), none, none] = _
    refine x_iff (e_or2 (a := false) (b := !(decide (1 ≤ (l.length : Int)) && decide ((l.length : Int) ≤ 13))) rfl fun _ => x_not (chain_len rfl rfl)) (u := .bl false) rfl (fun hk => ?_) fun hk => ?_
    · have hk : (decide (1 ≤ (l.length : Int)) && decide ((l.length : Int) ≤ 13)) = false := by rw [Bool.false_or, Bool.not_eq_true'] at hk; exact hk
      unfold peopleB
      show xr (Out.rt (Val.bl ((decide (1 ≤ (l.length : Int)) && decide ((l.length : Int) ≤ 13)) && _))) = _
      rw [hk] <;> rfl
    have hk : (decide (1 ≤ (l.length : Int)) && decide ((l.length : Int) ≤ 13)) = true := by rw [Bool.false_or, Bool.not_eq_false'] at hk; exact hk
    have ep : peopleB (.tup l) = (lotI 100 (.tup l)).isSome := by
      unfold peopleB
      show ((decide (1 ≤ (l.length : Int)) && decide ((l.length : Int) ≤ 13)) && _) = _
      rw [hk, Bool.true_and]
    rw [ep]
    refine x_iff (x_not e3) (u := .bl false) rfl (fun hk => ?_) fun hk => ?_
    · congr 3
      unfold lotI
      dsimp only
      have hk : l.all (inB 100) = false := by simpa using hk
      cases intsOf l with
      | none => rfl
      | some ns =>
        show (if (l.all (inB 100) && ascB ns) = true then some ns else none).isSome = false
        rw [hk] <;> rfl
    · have hk : l.all (inB 100) = true := by simpa using hk
      obtain ⟨ns, rfl, h2, h3⟩ := all_ints hk
      have hz : (zipL (ns.map Val.int) ((ns.map Val.int).drop 1)).length ≤ sizeLine := by
        unfold zipL
        rw [List.length_zipWith]
        exact Nat.le_trans (Nat.min_le_left _ _) hl2
      have ec : evEs (G (n + 1)) h [.var 0, .cut false (.var 0) (.con (.int 1)) .skip] [some (.v (.tup (ns.map .int))), none, none] = xr [.tup (ns.map .int), .tup ((ns.map Val.int).drop 1)] := by
        have : evE (G (n + 1)) h (.cut false (.var 0) (.con (.int 1)) .skip) [some (.v (.tup (ns.map .int))), none, none] = xr (.tup (cutL (ns.map .int) (some 1) none)) := rfl
        rw [cutL_from (by decide)] at this
        exact x_esc rfl (x_es1 this)
      refine (x_ret (evE_all ltB (l := zipL (ns.map Val.int) ((ns.map Val.int).drop 1)) ec rfl hz fun v hv => ?_)).trans ?_
      · unfold zipL at hv
        obtain ⟨i, hi, e⟩ := List.mem_iff_getElem.mp hv
        rw [List.getElem_zipWith] at e
        rw [← e]
        have a1 : ∃ a, (ns.map Val.int)[i]'(by rw [List.length_zipWith] at hi; omega) = .int a := by rw [List.getElem_map]; exact ⟨_, rfl⟩
        have a2 : ∃ a, ((ns.map Val.int).drop 1)[i]'(by rw [List.length_zipWith] at hi; omega) = .int a := by rw [List.getElem_drop, List.getElem_map]; exact ⟨_, rfl⟩
        obtain ⟨a, ea⟩ := a1
        obtain ⟨c, ec⟩ := a2
        rw [ea, ec]
        exact ⟨_, rfl, rfl⟩
      · rw [zip_asc]
        congr 3
        unfold lotI
        dsimp only
        rw [h3]
        show _ = (if _ then _ else _ : Option (List Int)).isSome
        rw [hk, Bool.true_and]
        cases ascB ns <;> rfl
  | _ => exact evR_rt t6 rfl (x_iff (k := true) (u := .bl false) rfl rfl (fun _ => rfl) fun z => nomatch z)
theorem ev_staff {x : Val} {b : Nat} (hx : pl b x = true) (hb : b ≤ 1000) : evR T (n + 3) h 7 [.v x] = xr (.bl (staffB x)) := by
  cases x with
  | ref a => rw [pl] at hx; cases hx
  | fn a => rw [pl] at hx; cases hx
  | exc a => rw [pl] at hx; cases hx
  | tup l =>
    obtain ⟨hl, hq⟩ := pl_tup.mp hx
    refine evR_rt t7 rfl ?_
    show evSs (G (n + 2)) h f_is_staff.body [some (.v (.tup l))] = _
    match l, hq with
    | [p, q], hq =>
      have hp := hq p (by simp)
      have hq2 := hq q (by simp)
      have e1 : evE (G (n + 2)) h (.call "are_people" 6 [.ix (.var 0) (.con (.int 0))]) [some (.v (.tup [p, q]))] = xr (.bl (peopleB p)) := x_call (vs := [p]) rfl (ev_people hp hb)
      refine x_iff (e_or3 (a := false) (b := false) (c := !peopleB p) rfl (fun _ => rfl) fun _ _ => x_not e1) (u := .bl false) rfl (fun hk => ?_) fun hk => ?_
      · have hk : peopleB p = false := by simpa using hk
        cases q with
        | int l =>
          show xr (Out.rt (Val.bl (peopleB p && _))) = _
          rw [hk] <;> rfl
        | _ => rfl
      · have hk : peopleB p = true := by simpa using hk
        obtain ⟨xs, rfl⟩ : ∃ xs, p = .tup xs := by
          cases p with
          | tup xs => exact ⟨xs, rfl⟩
          | _ => simp [peopleB, lenV] at hk
        have len13 : (xs.length : Int) ≤ 13 := by
          unfold peopleB at hk
          rw [Bool.and_eq_true, Bool.and_eq_true] at hk
          exact of_decide_eq_true hk.1.2
        have e2 : evE (G (n + 2)) h (.call "is_number" 3 [.ix (.var 0) (.con (.int 1)), .con (.int 0)]) [some (.v (.tup [.tup xs, q]))] = xr (.bl (isNum q 0)) := x_call (vs := [q, .int 0]) rfl (Z.ev_is_number hq2)
        cases q with
        | int l =>
          refine (x_ret (e_and2 (b := decide (3 * l + 1 ≤ (xs.length : Int))) e2 fun _ => ?_)).trans ?_
          · exact x_cmp (x := .int (3 * l + 1)) (y := .int xs.length) rfl rfl rfl
          · show _ = xr (Out.rt (.bl (peopleB (.tup xs) && _)))
            rw [hk, Bool.true_and]
            congr 3
            show ((decide (0 ≤ l) && decide (l < 1000000000000000000)) && decide (3 * l + 1 ≤ (xs.length : Int))) = (decide (0 ≤ l) && decide (3 * l + 1 ≤ (xs.length : Int)))
            rw [Bool.eq_iff_iff]
            simp only [Bool.and_eq_true, decide_eq_true_eq]
            omega
        | ref a => rw [pl] at hq2; cases hq2
        | fn a => rw [pl] at hq2; cases hq2
        | exc a => rw [pl] at hq2; cases hq2
        | _ => exact x_ret (e_and2 (a := false) (b := false) e2 fun z => nomatch z)
    | [], _ => exact x_iff (k := true) (e_or3 (a := false) (b := true) (c := false) rfl (fun _ => rfl) fun _ z => nomatch z) (u := .bl false) rfl (fun _ => rfl) fun z => nomatch z
    | [_], _ => exact x_iff (k := true) (e_or3 (a := false) (b := true) (c := false) rfl (fun _ => rfl) fun _ z => nomatch z) (u := .bl false) rfl (fun _ => rfl) fun z => nomatch z
    | a :: b :: c :: r, _ =>
      have nl : (!(((a :: b :: c :: r).length : Int) == 2)) = true := by
        simp
        omega
      exact x_iff (k := true) (e_or3 (a := false) (b := true) (c := false) rfl (fun _ => x_cmp (x := .int (a :: b :: c :: r).length) (y := .int 2) rfl rfl (by rw [len_ne, nl])) fun _ z => nomatch z) (u := .bl false) rfl (fun _ => by cases b <;> rfl) fun z => nomatch z
  | _ => exact evR_rt t7 rfl (x_iff (k := true) (u := .bl false) rfl rfl (fun _ => rfl) fun z => nomatch z)
theorem need_staff {x : Val} {b : Nat} (hx : pl b x = true) (hb : b ≤ 1000) : evR T (n + 4) h 8 [.v x] = if staffB x = true then xr .non else some (.error 12) := by
  have e1 : evE (G (n + 3)) h (.not (.call "is_staff" 7 [.var 0])) [some (.v x)] = xr (.bl (!staffB x)) := x_not (x_call (vs := [x]) rfl (ev_staff hx hb))
  cases q : staffB x with
  | true =>
    rw [if_pos rfl]
    refine evR_nx (ρ := [some (.v x)]) t8 rfl ?_
    show evSs (G (n + 3)) h f_need_staff.body [some (.v x)] = _
    refine x_cons ?_ rfl
    rw [x_if e1, q] <;> rfl
  | false =>
    rw [if_neg (by simp)]
    refine evR_er t8 rfl ?_
    show evSs (G (n + 3)) h f_need_staff.body [some (.v x)] = _
    refine x_er ?_
    rw [x_if e1, q] <;> rfl
theorem ev_need {xs : List Val} {l : Int} {b : Nat} (hx : pl b (.tup [.tup xs, .int l]) = true) (hb : b ≤ 1000) (hs : staffB (.tup [.tup xs, .int l]) = true) : evR T (n + 5) h 11 [.v (.tup [.tup xs, .int l])] = xr (.int (xs.length - l)) := by
  have e1 := need_staff (n := n) (h := h) hx hb
  rw [hs, if_pos rfl] at e1
  refine evR_rt t11 rfl ?_
  show evSs (G (n + 4)) h f_staff_need.body [some (.v (.tup [.tup xs, .int l]))] = _
  refine x_consr (x_ex (u := .non) (x_call (vs := [.tup [.tup xs, .int l]]) rfl e1)) (x_ret (x_call (vs := [.tup [.tup xs, .int l]]) rfl ?_))
  exact (evR_rt (n := n + 3) (h := h) (args := [.v (.tup [.tup xs, .int l])]) t9 rfl (x_ret (x_bin (x := .int xs.length) (y := .int l) rfl rfl rfl)))
theorem ev_binds {xs : List Val} {l : Int} {b : Nat} (hx : pl b (.tup [.tup xs, .int l]) = true) (hb : b ≤ 1000) (hs : staffB (.tup [.tup xs, .int l]) = true) : evR T (n + 5) h 12 [.v (.tup [.tup xs, .int l])] = xr (.int (xs.length - 3 * l)) := by
  have e1 := need_staff (n := n) (h := h) hx hb
  rw [hs, if_pos rfl] at e1
  refine evR_rt t12 rfl ?_
  show evSs (G (n + 4)) h f_staff_binds.body [some (.v (.tup [.tup xs, .int l]))] = _
  refine x_consr (x_ex (u := .non) (x_call (vs := [.tup [.tup xs, .int l]]) rfl e1)) (x_ret (x_call (vs := [.tup [.tup xs, .int l]]) rfl ?_))
  exact (evR_rt (n := n + 3) (h := h) (args := [.v (.tup [.tup xs, .int l])]) t10 rfl (x_ret (x_bin (x := .int xs.length) (y := .int (3 * l)) rfl (x_bin (x := .int 3) (y := .int l) rfl rfl rfl) rfl)))
theorem er_need {x : Val} {b : Nat} (hx : pl b x = true) (hb : b ≤ 1000) (hs : staffB x = false) : evR T (n + 5) h 11 [.v x] = some (.error 12) := by
  have e1 := need_staff (n := n) (h := h) hx hb
  rw [hs, if_neg (by decide)] at e1
  exact evR_er t11 rfl (x_er (x_exr (x_call (vs := [x]) rfl e1)))
theorem er_binds {x : Val} {b : Nat} (hx : pl b x = true) (hb : b ≤ 1000) (hs : staffB x = false) : evR T (n + 5) h 12 [.v x] = some (.error 12) := by
  have e1 := need_staff (n := n) (h := h) hx hb
  rw [hs, if_neg (by decide)] at e1
  exact evR_er t12 rfl (x_er (x_exr (x_call (vs := [x]) rfl e1)))
end
end P0

set_option Elab.async false
set_option linter.all false
set_option maxRecDepth 100000
set_option maxHeartbeats 4000000
namespace P0
open PySem L2 Mi X0
section
variable {n : Nat} {h : CH}
def notIn (v : Val) : Bool := !inB 100 v
theorem any_notIn {xs : List Val} : xs.any notIn = !xs.all (inB 100) := by
  rw [Bool.eq_iff_iff]
  simp [notIn]
theorem lot_none {xs : List Val} (h : xs.all (inB 100) = false) : (lotI 100 (.tup xs)).isSome = false := by
  unfold lotI
  dsimp only
  cases intsOf xs with
  | none => rfl
  | some ns =>
    show (if (xs.all (inB 100) && ascB ns) = true then some ns else none).isSome = false
    rw [h] <;> rfl
theorem lot_asc {ns : List Int} (h : (ns.map Val.int).all (inB 100) = true) : (lotI 100 (.tup (ns.map .int))).isSome = ascB ns := by
  unfold lotI
  dsimp only
  rw [intsOf_ints]
  show (if ((ns.map Val.int).all (inB 100) && ascB ns) = true then some ns else none).isSome = _
  rw [h, Bool.true_and]
  cases ascB ns <;> rfl
theorem ev_is {x : Val} {b : Nat} (hx : pl b x = true) (hb : b ≤ 1000) : evR T (n + 2) h 27 [.v x] = xr (.bl (staffB x)) := by
  cases x with
  | ref a => rw [pl] at hx; cases hx
  | fn a => rw [pl] at hx; cases hx
  | exc a => rw [pl] at hx; cases hx
  | tup l =>
    obtain ⟨hl, hq⟩ := pl_tup.mp hx
    refine evR_rt t27 rfl ?_
    show evSs (G (n + 1)) h f_law_k00_is.body [some (.v (.tup l)), none] = _
    have b1 : ∀ (k : Bool), k = true → evE (G (n + 1)) h (.cmp .ne (.bi .len [.var 0]) (.con (.int 2))) [some (.v (.tup l)), none] = xr (.bl k) → evE (G (n + 1)) h (.bor [.not (.isi (.var 0) .tup), .cmp .ne (.bi .len [.var 0]) (.con (.int 2)), .not (.isi (.ix (.var 0) (.con (.int 0))) .tup), .not (.chain .le .le (.con (.int 1)) (.bi .len [.ix (.var 0) (.con (.int 0))]) (.con (.int 13)))]) [some (.v (.tup l)), none] = xr (.bl true) := fun k hk e => by
      subst hk
      rw [evE]
      exact (e_or0 rfl).trans (e_or1 e)
    match l, hq, b1 with
    | [p, q], hq, _ =>
      have hp := hq p (by simp)
      have hq2 := hq q (by simp)
      have f0 : evE (G (n + 1)) h (.not (.isi (.var 0) .tup)) [some (.v (.tup [p, q])), none] = xr (.bl false) := rfl
      have f1 : evE (G (n + 1)) h (.cmp .ne (.bi .len [.var 0]) (.con (.int 2))) [some (.v (.tup [p, q])), none] = xr (.bl false) := rfl
      cases p with
      | ref a => rw [pl] at hp; cases hp
      | fn a => rw [pl] at hp; cases hp
      | exc a => rw [pl] at hp; cases hp
      | tup xs =>
        obtain ⟨hl3, hq3⟩ := pl_tup.mp hp
        have hl2 : xs.length ≤ sizeLine := Nat.le_trans (Nat.le_trans hl3 hb) (by decide)
        have c0 : evE (G (n + 1)) h (.chain .le .le (.con (.int 1)) (.bi .len [.ix (.var 0) (.con (.int 0))]) (.con (.int 13))) [some (.v (.tup [.tup xs, q])), none] = xr (.bl (decide (1 ≤ (xs.length : Int)) && decide ((xs.length : Int) ≤ 13))) := chain_len rfl rfl
        have e0 : evE (G (n + 1)) h (.bor [.not (.isi (.var 0) .tup), .cmp .ne (.bi .len [.var 0]) (.con (.int 2)), .not (.isi (.ix (.var 0) (.con (.int 0))) .tup), .not (.chain .le .le (.con (.int 1)) (.bi .len [.ix (.var 0) (.con (.int 0))]) (.con (.int 13)))]) [some (.v (.tup [.tup xs, q])), none] = xr (.bl (!(decide (1 ≤ (xs.length : Int)) && decide ((xs.length : Int) ≤ 13)))) := by
          rw [evE]
          exact (e_or0 f0).trans ((e_or0 f1).trans ((e_or0 rfl).trans (e_orl.trans (x_not c0))))
        refine x_iff e0 (u := .bl false) rfl (fun hk => ?_) fun hk => ?_
        · rw [Bool.not_eq_true'] at hk
          have : peopleB (.tup xs) = false := by
            unfold peopleB
            show ((decide (1 ≤ (xs.length : Int)) && decide ((xs.length : Int) ≤ 13)) && _) = false
            rw [hk] <;> rfl
          cases q with
          | int l =>
            show xr (Out.rt (Val.bl (peopleB (.tup xs) && _))) = _
            rw [this] <;> rfl
          | _ => rfl
        rw [Bool.not_eq_false'] at hk
        have ep : peopleB (.tup xs) = (lotI 100 (.tup xs)).isSome := by
          unfold peopleB
          show ((decide (1 ≤ (xs.length : Int)) && decide ((xs.length : Int) ≤ 13)) && _) = _
          rw [hk, Bool.true_and]
        have len13 : xs.length ≤ 13 := by
          rw [Bool.and_eq_true, decide_eq_true_eq, decide_eq_true_eq] at hk
          omega
        have e2 : evE (G (n + 1)) h (.cmp .ne (.comp false [1] .seq [.ix (.var 0) (.con (.int 0))] (.bor [.not (.call "_law_is_whole" 20 [.var 1]), .not (.chain .le .le (.con (.int 0)) (.var 1) (.con (.int 99)))]) (.con (.int 1))) (.list false [])) [some (.v (.tup [.tup xs, q])), none] = xr (.bl (xs.any notIn)) := by
          refine evE_any notIn (vs := [.tup xs]) (l := xs) rfl rfl hl2 fun u hu => ⟨[some (.v (.tup [.tup xs, q])), some (.v u)], rfl, ?_⟩
          refine condX_of ?_ rfl
          refine (e_or2 (a := !whole u) (b := notIn u) (x_not (x_call (vs := [u]) rfl (Z.ev_is_whole (hq3 u hu)))) fun hw => ?_).trans ?_
          · have hw : whole u = true := by simpa using hw
            cases u with
            | int i =>
              refine (x_not (x_chain (x := .int 0) (y := .int i) (z := .int 99) (k := decide (0 ≤ i)) (l := decide (i ≤ 99)) rfl rfl rfl (fun _ => rfl) fun _ => rfl)).trans ?_
              congr 3
              show (decide (0 ≤ i) && decide (i ≤ 99)) = (decide (0 ≤ i) && decide (i < 100))
              rw [show decide (i ≤ 99) = decide (i < 100) by rw [Bool.eq_iff_iff, decide_eq_true_eq, decide_eq_true_eq]; omega]
            | _ => cases hw
          · show xr (Val.bl (!whole u || notIn u)) = xr (Val.bl (notIn u))
            cases u <;> rfl
        by_cases al : xs.all (inB 100) = true
        · obtain ⟨ns, rfl, h2, h3⟩ := all_ints al
          have hn : ns.length < 64 := by rw [List.length_map] at len13; omega
          have es : evE (G (n + 1)) h (.bi (.sortSet false) [.ix (.var 0) (.con (.int 0))]) [some (.v (.tup [.tup (ns.map .int), q])), none] = xr (.lst ((sset ns).map .int)) := by
            refine x_bi (vs := [.tup (ns.map .int)]) rfl ?_
            show (match (some (ns.map Val.int)).bind intsOf with
              | some ns => if ns.length < 64 then nwL false ((sset ns).map .int) else none
              | none => none) = _
            rw [Option.bind_some, h3]
            exact if_pos hn
          have e3 : evE (G (n + 1)) h (.cmp .ne (.bi (.list false) [.ix (.var 0) (.con (.int 0))]) (.bi (.sortSet false) [.ix (.var 0) (.con (.int 0))])) [some (.v (.tup [.tup (ns.map .int), q])), none] = xr (.bl (!decide (ns = sset ns))) :=
            x_cmp (x := .lst (ns.map .int)) (x_bi (vs := [.tup (ns.map .int)]) rfl rfl) es (by show (eqP h _ _).map (!·) = _; rw [eqP_lints]; rfl)
          have lo := lot_asc al
          have as : ascB ns = decide (ns = sset ns) := by
            rw [Bool.eq_iff_iff, decide_eq_true_eq]
            exact asc_sset
          refine x_iff (e_or2 (a := false) (b := !decide (ns = sset ns)) (e2.trans (by rw [any_notIn, al]; rfl)) fun _ => e3) (u := .bl false) rfl (fun hk2 => ?_) fun hk2 => ?_
          · rw [Bool.false_or, Bool.not_eq_true'] at hk2
            have : peopleB (.tup (ns.map .int)) = false := by rw [ep, lo, as, hk2]
            cases q with
            | int l =>
              show xr (Out.rt (Val.bl (peopleB _ && _))) = _
              rw [this] <;> rfl
            | _ => rfl
          · rw [Bool.false_or, Bool.not_eq_false'] at hk2
            have : peopleB (.tup (ns.map .int)) = true := by rw [ep, lo, as, hk2]
            have wq : evE (G (n + 1)) h (.call "_law_is_whole" 20 [.ix (.var 0) (.con (.int 1))]) [some (.v (.tup [.tup (ns.map .int), q])), none] = xr (.bl (whole q)) := x_call (vs := [q]) rfl (Z.ev_is_whole hq2)
            cases q with
            | int l =>
              refine (x_ret (e_and3 (a := true) (b := decide (0 ≤ l)) (c := decide (3 * l < ((ns.map Val.int).length : Int))) wq (fun _ => x_cmp (x := .int 0) (y := .int l) rfl rfl rfl) fun _ _ => x_cmp (x := .int (3 * l)) (y := .int (ns.map Val.int).length) (x_bin (x := .int 3) (y := .int l) rfl rfl rfl) rfl rfl)).trans ?_
              show _ = xr (Out.rt (Val.bl (peopleB _ && (decide (0 ≤ l) && decide (3 * l + 1 ≤ ((ns.map Val.int).length : Int))))))
              rw [this, Bool.true_and]
              congr 3
            | ref a => rw [pl] at hq2; cases hq2
            | fn a => rw [pl] at hq2; cases hq2
            | exc a => rw [pl] at hq2; cases hq2
            | _ => exact x_ret (e_and3 (a := false) (b := false) (c := false) wq (fun z => nomatch z) fun z => nomatch z)
        · have al : xs.all (inB 100) = false := by simpa using al
          refine x_iff (k := true) (e_or2 (a := true) (b := false) (e2.trans (by rw [any_notIn, al]; rfl)) fun z => nomatch z) (u := .bl false) rfl (fun _ => ?_) fun z => nomatch z
          have : peopleB (.tup xs) = false := by rw [ep, lot_none al]
          cases q with
          | int l =>
            show xr (Out.rt (Val.bl (peopleB _ && _))) = _
            rw [this] <;> rfl
          | _ => rfl
      | _ =>
        have e0 : ∀ (p : Val), evE (G (n + 1)) h (.not (.isi (.ix (.var 0) (.con (.int 0))) .tup)) [some (.v (.tup [p, q])), none] = xr (.bl true) → evE (G (n + 1)) h (.not (.isi (.var 0) .tup)) [some (.v (.tup [p, q])), none] = xr (.bl false) → evE (G (n + 1)) h (.cmp .ne (.bi .len [.var 0]) (.con (.int 2))) [some (.v (.tup [p, q])), none] = xr (.bl false) → evE (G (n + 1)) h (.bor [.not (.isi (.var 0) .tup), .cmp .ne (.bi .len [.var 0]) (.con (.int 2)), .not (.isi (.ix (.var 0) (.con (.int 0))) .tup), .not (.chain .le .le (.con (.int 1)) (.bi .len [.ix (.var 0) (.con (.int 0))]) (.con (.int 13)))]) [some (.v (.tup [p, q])), none] = xr (.bl true) := fun p e f0 f1 => by
          rw [evE]
          exact (e_or0 f0).trans ((e_or0 f1).trans (e_or1 e))
        refine x_iff (e0 _ rfl rfl rfl) (u := .bl false) rfl (fun _ => ?_) fun z => nomatch z
        cases q <;> rfl
    | [], _, b1 => exact x_iff (b1 true rfl rfl) (u := .bl false) rfl (fun _ => rfl) fun z => nomatch z
    | [_], _, b1 => exact x_iff (b1 true rfl rfl) (u := .bl false) rfl (fun _ => rfl) fun z => nomatch z
    | a :: b :: c :: r, _, b1 =>
      have nl : (!(((a :: b :: c :: r).length : Int) == 2)) = true := by
        simp
        omega
      exact x_iff (b1 true rfl (x_cmp (x := .int (a :: b :: c :: r).length) (y := .int 2) rfl rfl (by rw [len_ne, nl]))) (u := .bl false) rfl (fun _ => by cases b <;> rfl) fun z => nomatch z
  | _ =>
    refine evR_rt t27 rfl (x_iff (k := true) ?_ (u := .bl false) rfl (fun _ => rfl) fun z => nomatch z)
    rw [evE]
    exact e_or1 rfl
end
end P0

set_option Elab.async false
set_option linter.all false
set_option maxRecDepth 100000
set_option maxHeartbeats 4000000
namespace P0
open PySem L2 Mi X0
section
variable {n : Nat} {h : CH}
/-- the drawn banks -/
abbrev bankV (xs : List Int) (m l : Int) : Val := .tup [.tup (xs.map .int), .int m, .int l]
abbrev banks : List (List Int × Int × Int) := [([5, 0], 4, 1), ([3, 3, 3], 4, 1), ([9], 1, 0), ([2, 7], 5, 1), ([4, 4, 4, 4], 7, 2), ([0, 10], 2, 0), ([6, 1, 2], 4, 1), ([20, 0, 5], 4, 1)]
abbrev firstV (m l : Int) : Val := .tup [.tup ((rgI 0 m).map .int), .int l]
theorem bank_ok : ∀ p ∈ banks, evR T (n + 2) h 4 [.v (bankV p.1 p.2.1 p.2.2)] = xr (.bl true) := fun p hp => by
  simp only [banks, List.mem_cons, List.not_mem_nil, or_false] at hp
  rcases hp with rfl | rfl | rfl | rfl | rfl | rfl | rfl | rfl <;> kernel_rfl
theorem bank_lo : ∀ p ∈ banks, 0 ≤ p.2.1 ∧ p.2.1 ≤ 7 ∧ 0 ≤ p.2.2 ∧ p.2.2 ≤ 2 ∧ p.1.length ≤ 4 := fun p hp => by
  simp only [banks, List.mem_cons, List.not_mem_nil, or_false] at hp
  rcases hp with rfl | rfl | rfl | rfl | rfl | rfl | rfl | rfl <;> decide
theorem need_bank {v : Val} {k : Bool} (e : evR T (n + 2) h 4 [.v v] = xr (.bl k)) : evR T (n + 3) h 5 [.v v] = if k = true then xr .non else some (.error 2) := by
  have e1 : evE (G (n + 2)) h (.not (.call "is_bank" 4 [.var 0])) [some (.v v)] = xr (.bl (!k)) := x_not (x_call (vs := [v]) rfl e)
  cases k with
  | true =>
    rw [if_pos rfl]
    refine evR_nx (ρ := [some (.v v)]) t5 rfl ?_
    show evSs (G (n + 2)) h f_need_bank.body [some (.v v)] = _
    refine x_cons ?_ rfl
    rw [x_if e1] <;> rfl
  | false =>
    rw [if_neg (by simp)]
    refine evR_er t5 rfl ?_
    show evSs (G (n + 2)) h f_need_bank.body [some (.v v)] = _
    refine x_er ?_
    rw [x_if e1] <;> rfl
theorem x_rng {G : PG} {ρ : Mi.Loc} {e : Mi.E} {m : Int} (h1 : evE G h e ρ = xr (.int m)) (h0 : 0 ≤ m) (h2 : m ≤ 1000) : evE G h (.rng1 none e) ρ = xr (.tup ((rgI 0 m).map .int)) := by
  rw [evE, h1]
  show xo (rkP none 0 m) = _
  have : rkP none 0 m = some (.tup (rangeL 0 m)) := by
    show grd (decide (RgOk 0 m)) (Val.tup (rangeL 0 m)) = _
    rw [decide_eq_true (show RgOk 0 m by unfold RgOk; omega)] <;> rfl
  rw [this, rangeL_eq] <;> rfl
theorem first_ev {xs : List Int} {m l : Int} (hb : evR T (n + 2) h 4 [.v (bankV xs m l)] = xr (.bl true)) (h0 : 0 ≤ m) (h2 : m ≤ 1000) : evR T (n + 4) h 13 [.v (bankV xs m l)] = xr (firstV m l) := by
  have e1 := need_bank hb
  rw [if_pos rfl] at e1
  refine evR_rt t13 rfl ?_
  show evSs (G (n + 3)) h f_first_staff.body [some (.v (bankV xs m l))] = _
  refine x_consr (x_ex (u := .non) (x_call (vs := [bankV xs m l]) rfl e1)) (x_ret (x_tup (x_esc (x_rng (m := m) rfl h0 h2) (x_es1 rfl))))
theorem first_er {v : Val} (hb : evR T (n + 2) h 4 [.v v] = xr (.bl false)) : evR T (n + 4) h 13 [.v v] = some (.error 2) := by
  have e1 := need_bank hb
  rw [if_neg (by decide)] at e1
  exact evR_er t13 rfl (x_er (x_exr (x_call (vs := [v]) rfl e1)))
/-- are they alike as data -/
def eqD (x y : Val) : Bool := match toD x, toD y with
  | some d, some e => PyData.eqv d e
  | _, _ => false
theorem toD_ints2 {ns : List Int} {l : Int} : toD (.tup [.tup (ns.map .int), .int l]) = some (.tuple [.tuple (ns.map .int), .int l]) := by
  have : toD (.tup (ns.map .int)) = some (.tuple (ns.map .int)) := by
    show (toDs (ns.map .int)).map PyData.tuple = _
    rw [toDs_ints] <;> rfl
  show (match toD (.tup (ns.map .int)), toDs [Val.int l] with
    | some d, some ds => some (d :: ds)
    | _, _ => none).map PyData.tuple = _
  rw [this] <;> rfl
theorem depth_staff {ns : List Int} {l : Int} : (PyData.tuple [.tuple (ns.map .int), .int l]).depth = 2 := by
  have e1 : (PyData.tuple (ns.map .int)).depth = 1 := by
    rw [PyData.depth, depth_ints]
  rw [PyData.depth, PyData.depthAll, PyData.depthAll, PyData.depthAll, e1]
  rfl
theorem staff_at {x : Val} (hs : staffB x = true) : ∃ (ns : List Int) (l : Int), x = .tup [.tup (ns.map .int), .int l] ∧ 1 ≤ ns.length ∧ ns.length ≤ 13 := by
  unfold staffB at hs
  split at hs
  · rename_i p l
    rw [Bool.and_eq_true] at hs
    have hp := hs.1
    unfold peopleB at hp
    rw [Bool.and_eq_true, Bool.and_eq_true, decide_eq_true_eq, decide_eq_true_eq] at hp
    cases q : lotI 100 p with
    | none => rw [q] at hp; cases hp.2
    | some ns =>
      obtain ⟨rfl, _, _⟩ := lotI_spec q
      have h1 : 1 ≤ ((ns.map Val.int).length : Int) := hp.1.1
      have h2 : ((ns.map Val.int).length : Int) ≤ 13 := hp.1.2
      rw [List.length_map] at h1 h2
      exact ⟨ns, l, rfl, by omega, by omega⟩
  · cases hs
theorem eqP_staff {x : Val} {ms : List Int} {l : Int} (hs : staffB x = true) : eqP h x (.tup [.tup (ms.map .int), .int l]) = some (eqD x (.tup [.tup (ms.map .int), .int l])) := by
  obtain ⟨ns, k, rfl, _⟩ := staff_at hs
  unfold eqP eqD
  show (match toD (.tup [.tup (ns.map .int), .int k]), toD (.tup [.tup (ms.map .int), .int l]) with
    | some d, some e => _
    | _, _ => none) = some (match toD (.tup [.tup (ns.map .int), .int k]), toD (.tup [.tup (ms.map .int), .int l]) with
    | some d, some e => _
    | _, _ => false)
  rw [toD_ints2, toD_ints2]
  show grd (decide (min (PyData.tuple [.tuple (ns.map .int), .int k]).depth (PyData.tuple [.tuple (ms.map .int), .int l]).depth ≤ 64)) _ = _
  rw [depth_staff, depth_staff]
  rfl
theorem at0 {v : Val} {r : List Val} : ixP h (.tup (v :: r)) (.int 0) = some v := by
  show atI (v :: r) 0 = some v
  unfold atI ixN
  rw [if_pos (by omega), if_pos (by rw [List.length_cons]; omega)]
  rfl
/-- a line over the first staff F -/
def lineB (F x : Val) : Bool := match x with
  | .tup l => (decide (1 ≤ (l.length : Int)) && decide ((l.length : Int) ≤ 6)) && (l.all staffB && (match l with
    | v :: _ => eqD v F
    | [] => false))
  | _ => false
theorem ev_line_by {xs : List Int} {m l : Int} {x : Val} {b : Nat} (hb : evR T (n + 2) h 4 [.v (bankV xs m l)] = xr (.bl true)) (h0 : 0 ≤ m) (h2 : m ≤ 1000) (hx : pl b x = true) (hb2 : b ≤ 1000) : evR T (n + 5) h 14 [.v (bankV xs m l), .v x] = xr (.bl (lineB (firstV m l) x)) := by
  cases x with
  | ref a => rw [pl] at hx; cases hx
  | fn a => rw [pl] at hx; cases hx
  | exc a => rw [pl] at hx; cases hx
  | tup ls =>
    obtain ⟨hl, hq⟩ := pl_tup.mp hx
    have hl2 : ls.length ≤ sizeLine := Nat.le_trans (Nat.le_trans hl hb2) (by decide)
    refine evR_rt t14 rfl ?_
    show evSs (G (n + 4)) h f_line_by.body [some (.v (bankV xs m l)), some (.v (.tup ls)), none] = _
    have ea : evE (G (n + 4)) h (.bi .all [.comp false [2] .seq [.var 1] .skip (.call "is_staff" 7 [.var 2])]) [some (.v (bankV xs m l)), some (.v (.tup ls)), none] = xr (.bl (ls.all staffB)) :=
      evE_all staffB (vs := [.tup ls]) (l := ls) rfl rfl hl2 fun v hv => ⟨[some (.v (bankV xs m l)), some (.v (.tup ls)), some (.v v)], rfl, x_call (vs := [v]) rfl (ev_staff (n := n + 1) (hq v hv) hb2)⟩
    refine x_iff (e_or3 (a := false) (b := !(decide (1 ≤ (ls.length : Int)) && decide ((ls.length : Int) ≤ 6))) (c := !(ls.all staffB)) rfl (fun _ => x_not (chain_len rfl rfl)) fun _ _ => x_not ea) (u := .bl false) rfl (fun hk => ?_) fun hk => ?_
    · rw [Bool.false_or] at hk
      have : lineB (firstV m l) (.tup ls) = false := by
        show ((decide (1 ≤ (ls.length : Int)) && decide ((ls.length : Int) ≤ 6)) && (ls.all staffB && _)) = false
        cases q1 : (decide (1 ≤ (ls.length : Int)) && decide ((ls.length : Int) ≤ 6)) with
        | false => rfl
        | true =>
          rw [q1] at hk
          have : ls.all staffB = false := by simpa using hk
          rw [this] <;> rfl
      rw [this]
    · rw [Bool.false_or, Bool.or_eq_false_iff, Bool.not_eq_false', Bool.not_eq_false'] at hk
      obtain ⟨k1, k2⟩ := hk
      cases ls with
      | nil => cases k1
      | cons v r =>
        have sv : staffB v = true := by
          rw [List.all_cons, Bool.and_eq_true] at k2
          exact k2.1
        have el : lineB (firstV m l) (.tup (v :: r)) = eqD v (firstV m l) := by
          show ((decide (1 ≤ ((v :: r).length : Int)) && decide (((v :: r).length : Int) ≤ 6)) && ((v :: r).all staffB && eqD v (firstV m l))) = _
          rw [k1, k2, Bool.true_and, Bool.true_and]
        rw [el]
        exact x_ret (x_cmp (x := v) (y := firstV m l) (x_ix (x := .tup (v :: r)) (y := .int 0) rfl rfl at0) (x_call (vs := [bankV xs m l]) rfl (first_ev (n := n) hb h0 h2)) (eqP_staff sv))
  | _ => exact evR_rt t14 rfl (x_iff (k := true) (e_or3 (a := true) (b := false) (c := false) rfl (fun z => nomatch z) fun z => nomatch z) (u := .bl false) rfl (fun _ => rfl) fun z => nomatch z)
theorem ev_is_line {xs : List Int} {m l : Int} {x : Val} {b : Nat} (hb : ∀ n, evR T (n + 2) h 4 [.v (bankV xs m l)] = xr (.bl true)) (h0 : 0 ≤ m) (h2 : m ≤ 1000) (hx : pl b x = true) (hb2 : b ≤ 1000) : evR T (n + 6) h 15 [.v (bankV xs m l), .v x] = xr (.bl (lineB (firstV m l) x)) := by
  have e1 := need_bank (hb (n + 2))
  rw [if_pos rfl] at e1
  refine evR_rt t15 rfl ?_
  show evSs (G (n + 5)) h f_is_line.body [some (.v (bankV xs m l)), some (.v x)] = _
  refine x_consr (x_ex (u := .non) (x_call (vs := [bankV xs m l]) rfl e1)) (x_ret (x_call (vs := [bankV xs m l, x]) rfl (ev_line_by (hb n) h0 h2 hx hb2)))
theorem line_er {v x : Val} (hb : evR T (n + 2) h 4 [.v v] = xr (.bl false)) : evR T (n + 4) h 15 [.v v, .v x] = some (.error 2) := by
  have e1 := need_bank hb
  rw [if_neg (by decide)] at e1
  exact evR_er t15 rfl (x_er (x_exr (x_call (vs := [v]) rfl e1)))
/-! what is refused -/
theorem k2 : evR T (n + 1) h 25 [.v (.exc 2)] = xr (.str "bank") := rfl
theorem k12 : evR T (n + 1) h 25 [.v (.exc 12)] = xr (.str "staff") := rfl
theorem x2 : T.ci.exm 2 0 = some true := rfl
theorem x12 : T.ci.exm 12 0 = some true := rfl
theorem t30 : T.fs[30]? = some (.code (LayI.lamG L 30 (.callv 0 [.var 1]))) := rfl
theorem t31 : T.fs[31]? = some (.code (LayI.lamG L 31 (.call "first_staff" 13 [.var 0]))) := rfl
theorem t32 : T.fs[32]? = some (.code (LayI.lamG L 32 (.call "is_line" 15 [.var 0, .var 1]))) := rfl
theorem l30 : LayI.lamG L 30 (.callv 0 [.var 1]) = ⟨2, 2, [.ret (.callv 0 [.var 1])], false⟩ := by kernel_rfl
theorem l31 : LayI.lamG L 31 (.call "first_staff" 13 [.var 0]) = ⟨1, 1, [.ret (.call "first_staff" 13 [.var 0])], false⟩ := by kernel_rfl
theorem l32 : LayI.lamG L 32 (.call "is_line" 15 [.var 0, .var 1]) = ⟨2, 2, [.ret (.call "is_line" 15 [.var 0, .var 1])], false⟩ := by kernel_rfl
theorem u30 : T.fs[30]? = some (.code ⟨2, 2, [.ret (.callv 0 [.var 1])], false⟩) := by rw [t30, l30]
theorem u31 : T.fs[31]? = some (.code ⟨1, 1, [.ret (.call "first_staff" 13 [.var 0])], false⟩) := by rw [t31, l31]
theorem u32 : T.fs[32]? = some (.code ⟨2, 2, [.ret (.call "is_line" 15 [.var 0, .var 1])], false⟩) := by rw [t32, l32]
theorem er30 {f : Nat} {x : Val} (ha : T.ar f = some 1) (hk : evR T n h f [.v x] = some (.error 12)) : evR T (n + 1) h 30 (vals [.fn f, x]) = some (.error 12) := by
  refine evR_er u30 rfl (x_retr ?_)
  rw [evE]
  show (if T.ar f = some 1 then evR T n h f [.v x] else none) = _
  rw [if_pos ha, hk]
theorem er31 {x : Val} (hk : evR T n h 13 [.v x] = some (.error 2)) : evR T (n + 1) h 31 (vals [x]) = some (.error 2) :=
  evR_er u31 rfl (x_retr (x_call (vs := [x]) rfl hk))
theorem er32 {x y : Val} (hk : evR T n h 15 [.v x, .v y] = some (.error 2)) : evR T (n + 1) h 32 (vals [x, y]) = some (.error 2) :=
  evR_er u32 rfl (x_retr (x_call (vs := [x, y]) rfl hk))
theorem ref30 {f : Nat} {x : Val} {b : Nat} (hf : f = 11 ∨ f = 12) (hx : pl b x = true) (hb : b ≤ 1000) (hs : staffB x = false) : evR T (n + 8) h 26 [.v (.str "staff"), .c 30 [.fn f, x]] = xr (.bl true) := by
  refine Z.ev_refused (n := n + 6) x12 k12 (er30 ?_ ?_)
  · rcases hf with rfl | rfl <;> rfl
  · rcases hf with rfl | rfl
    · exact er_need hx hb hs
    · exact er_binds hx hb hs
theorem ref31 {x : Val} (hb : ∀ n, evR T (n + 2) h 4 [.v x] = xr (.bl false)) : evR T (n + 8) h 26 [.v (.str "bank"), .c 31 [x]] = xr (.bl true) := Z.ev_refused (n := n + 6) x2 k2 (er31 (first_er (n := n + 1) (hb (n + 1))))
theorem ref32 {x y : Val} (hb : ∀ n, evR T (n + 2) h 4 [.v x] = xr (.bl false)) : evR T (n + 8) h 26 [.v (.str "bank"), .c 32 [x, y]] = xr (.bl true) := Z.ev_refused (n := n + 6) x2 k2 (er32 (line_er (n := n + 1) (hb (n + 1))))
end
end P0

set_option Elab.async false
set_option linter.all false
set_option maxRecDepth 100000
set_option maxHeartbeats 4000000
namespace P0
open PySem L2 Mi X0
abbrev bk (p : List Int × Int × Int) : Val := bankV p.1 p.2.1 p.2.2
abbrev stV (ms : List Int) (l : Int) : Val := .tup [.tup (ms.map .int), .int l]
section
variable {d : Nat} {h : CH} {a : Addr} {m : Nat} {Q : Val → CH → Prop} {E : Nat → CH → Prop}
theorem p_bank (hd : Dr a m h) (hm : m < 2 ^ 40) (q : ∀ p ∈ banks, ∀ h', Xt a 1 h h' → Q (bk p) h') : run T (d + 3) 21 [.v (.ref a)] Q E h := by
  refine run_code t21 rfl rfl ?_
  refine s_ev (ρ' := [some (.v (.ref a)), some (.v (.lst ((banks.take 6).map bk)))]) (pg T (d + 2)) rfl ?_
  refine s_ret (e_callR (es_ev (pg T (d + 2)) (vs := [.ref a, .lst ((banks.take 6).map bk ++ (banks.drop 6).map bk)]) (x_esc rfl (x_es1 (x_bin (x := .lst ((banks.take 6).map bk)) (y := .lst ((banks.drop 6).map bk)) rfl rfl (bin_ladd (by decide))))) ?_))
  rw [show (banks.take 6).map bk ++ (banks.drop 6).map bk = banks.map bk from rfl]
  refine Z.p_pick hd hm (by decide) (by decide) fun v hv h' x => ?_
  obtain ⟨p, hp, rfl⟩ := List.mem_map.mp hv
  exact q p hp h' x
theorem mem2 {i : Int} {l : List Int} (hi : i ∈ l) (hl : l.all (fun j => decide (0 ≤ j ∧ j ≤ 100)) = true) : 0 ≤ i ∧ i ≤ 100 := by
  have := List.all_eq_true.mp hl i hi
  exact of_decide_eq_true this
theorem p_staff (hd : Dr a m h) (hm : m + 200 < 2 ^ 40) (q : ∀ (ms : List Int) (l : Int) (h' : CH), ms.length ≤ 100 → Xt a 200 h h' → Q (stV ms l) h') : run T (d + 3) 28 [.v (.ref a)] Q E h := by
  have ok := pg T (d + 2)
  refine run_code t28 rfl rfl ?_
  refine s_set (e_bin (e_con (e_callR (es_ev ok (vs := [.ref a, .int 13]) rfl ?_))))
  refine p_draw (d := d + 1) (s := 13) Z.t1 hd (by omega) (by decide) (by decide) fun r h1 r0 r1 x1 => binP_ok bin_add ?_
  refine s_set (Z.sorted_cut (kx := 1) (kk := 0) (B := 100) (by decide) rfl rfl (hd.next x1) (by omega) (fun Q' q' => ?_) (fun Q' h2 x2 q' => e_var (v := .int (1 + r)) rfl (q' (1 + r) h2 (by omega) .refl)) fun ms k h3 l1 l2 x3 => ?_)
  · rw [denE]
    refine e_callR (es_ev ok (vs := [.ref a, .lst ([14, 100].map .int)]) rfl ?_)
    refine Z.pick_ints (d := d) (hd.next x1) (by omega) (by decide) (by decide) fun i hi h2 x2 => ?_
    have hi' := mem2 hi (by decide)
    refine ⟨show RgOk 0 i by unfold RgOk; omega, ?_⟩
    refine frz ?_
    rw [rangeL_eq]
    exact q' _ _ (by rw [rgI_len]; omega) x2
  · refine s_ret (e_tup (es_cons (e_var (v := .tup (ms.map .int)) rfl (es_cons (e_callR (es_cons (e_var (v := .ref a) rfl (es_cons (e_bin (e_ev ok (v := .int ((1 + r + 2) / 3)) ?_ (e_callR (es_ev ok (vs := [.ref a, .lst ([0, 0, 1].map .int)]) rfl ?_))))))))))))
    · exact x_bin (x := .int (1 + r + 2)) (y := .int 3) (x_bin (x := .int (1 + r)) (y := .int 2) rfl rfl rfl) rfl (bin_fdiv (by decide) (by decide))
    have d3 := hd.next (x1.trans x3)
    refine Z.pick_ints (d := d) d3 (by omega) (by decide) (by decide) fun i hi h4 x4 => binP_ok bin_add (es_nil ?_)
    have hi' := mem2 hi (by decide)
    refine p_draw (d := d + 1) (s := (1 + r + 2) / 3 + i) Z.t1 (d3.next x4) (by omega) (by omega) (by omega) fun l h5 l0 l1 x5 => es_nil ?_
    exact q ms l h5 (by omega) ((((x1.trans x3).trans x4).trans x5).mono (by omega))
theorem p_line {xs : List Int} {p0 l0 : Int} {more : Int} (h0 : 0 ≤ p0) (h2 : p0 ≤ 1000) (m0 : 0 ≤ more) (m1 : more ≤ 7) (hd : Dr a m h) (hm : m + 500 < 2 ^ 40) (q : ∀ (ls : List (List Int × Int)) (h' : CH), (ls.length : Int) = more → (∀ s ∈ ls, s.1.length ≤ 16) → Xt a 300 h h' → Q (.tup (firstV p0 l0 :: ls.map fun s => stV s.1 s.2)) h') : run T (d + 3) 24 [.v (.ref a), .v (bankV xs p0 l0), .v (.int more)] Q E h := by
  have ok := pg T (d + 2)
  refine run_code t24 rfl rfl ?_
  refine s_set (e_list (es_ev ok (vs := [firstV p0 l0]) (x_es1 (x_tup (x_esc (x_rng (m := p0) rfl h0 h2) (x_es1 rfl)))) ?_))
  intro p np
  have npa := new_ne np hd
  refine s_for (es_ev ok (vs := [.int more]) rfl ⟨by unfold smallR; omega, by unfold smallR; omega, ?_⟩)
  refine forGo_inv (s := .fixed) (fun done ρ hh => ∃ (s4 s5 s6 : Option Sl) (ls : List (List Int × Int)), ρ = [some (.v (.ref a)), some (.v (bankV xs p0 l0)), some (.v (.int more)), some (.v (.ref p)), s4, s5, s6] ∧ hh p = some (.list (firstV p0 l0 :: ls.map fun s => stV s.1 s.2)) ∧ ls.length = done.length ∧ (∀ s ∈ ls, s.1.length ≤ 16) ∧ Xt a (20 * done.length) h hh) _ (rangeL 0 more) [] _ _ (fun pr w r ρ hh e hI => ?_) (fun ρ hh hI => ⟨trivial, ?_⟩) ⟨none, none, none, [], rfl, CH.set_same, rfl, (fun _ z => nomatch z), (Xt.refl).write np npa⟩
  · obtain ⟨s4, s5, s6, ls, rfl, hp, hl, hs, xt⟩ := hI
    have e : rangeL 0 more = pr ++ w :: r := e
    have hlen : pr.length < 7 := by
      have e1 : (rangeL 0 more).length = (pr ++ w :: r).length := by rw [← e]
      rw [List.length_append, List.length_cons, rangeL_eq, List.length_map, rgI_len] at e1
      omega
    refine ⟨trivial, _, rfl, fun K' hK => ?_⟩
    have d0 := hd.next xt
    refine s_set (e_callR (es_ev ok (vs := [.ref a, .lst ([0, 1, 1, 1, 2].map .int)]) rfl ?_))
    refine Z.pick_ints (d := d) d0 (by omega) (by decide) (by decide) fun i hi h3 x3 => ?_
    have hi' := mem2 hi (by decide)
    refine s_set (e_bin (e_ev ok (v := .int (3 * i + 1)) (x_bin (x := .int (3 * i)) (y := .int 1) (x_bin (x := .int 3) (y := .int i) rfl rfl rfl) rfl rfl) (e_callR (es_ev ok (vs := [.ref a, .int 3]) rfl ?_))))
    refine p_draw (d := d + 1) (s := 3) Z.t1 (d0.next x3) (by omega) (by decide) (by decide) fun t h4 t0 t1 x4 => binP_ok bin_add ?_
    have xx := x3.trans x4
    refine s_ex (e_bm (e_var (v := .ref p) rfl ⟨⟨_, x4.keep _ _ npa (x3.keep _ _ npa hp)⟩, es_cons (e_tup (es_cons (Z.sorted_cut (kx := 0) (kk := 0) (B := 16) (by decide) rfl rfl (d0.next xx) (by omega) (fun Q' q' => ?_) (fun Q' h6 x6 q' => e_var (v := .int (3 * i + 1 + t)) rfl (q' (3 * i + 1 + t) h6 (by omega) .refl)) fun ms k h7 l1 l2 x7 => es_cons (e_var (v := .int i) rfl (es_nil (es_nil ?_))))))⟩))
    · exact e_ev ok (v := .lst ((rgI 0 16).map .int)) rfl (q' _ _ (by rw [rgI_len]; decide) .refl)
    · have hp7 := x7.keep _ _ npa (x4.keep _ _ npa (x3.keep _ _ npa hp))
      refine bm_append hp7 (by rw [List.length_cons, List.length_map]; exact Nat.lt_of_le_of_lt (show ls.length + 1 ≤ 8 by omega) (by decide)) ?_
      show denSs _ [] _ _ E _
      rw [denSs]
      refine hK _ _ ⟨_, _, _, ls ++ [(ms, i)], rfl, ?_, ?_, ?_, ?_⟩
      · rw [CH.set_same, List.map_append]; rfl
      · rw [List.length_append, List.length_append, hl]; rfl
      · intro s hs2
        rcases List.mem_append.mp hs2 with hs2 | hs2
        · exact hs s hs2
        · rw [List.mem_singleton.mp hs2]; exact l1
      · refine Xt.write (Xt.mono ((xt.trans xx).trans x7) ?_) np npa
        rw [List.length_append]
        show 20 * pr.length + (1 + 1) + (0 + 16 + 0) ≤ 20 * (pr.length + 1)
        omega
  · obtain ⟨s4, s5, s6, ls, rfl, hp, hl, hs, xt⟩ := hI
    rw [List.nil_append, rangeL_eq, List.length_map, rgI_len] at hl xt
    refine s_ret (e_bi (es_cons (e_var (v := .ref p) rfl (es_nil ?_))))
    refine biP_ok (v := .tup (firstV p0 l0 :: ls.map fun s => stV s.1 s.2)) ?_ (q ls hh (by omega) hs (xt.mono (by omega)))
    show (seqOf hh (.ref p)).map Val.tup = _
    have : seqOf hh (.ref p) = some (firstV p0 l0 :: ls.map fun s => stV s.1 s.2) := by
      show (match hh p with
        | some (.list l) => some l
        | _ => none) = _
      rw [hp]
    rw [this] <;> rfl
end
end P0

set_option Elab.async false
set_option linter.all false
set_option maxRecDepth 100000
set_option maxHeartbeats 4000000
namespace Mi
open PySem L2
theorem x_for {G : PG} {h : CH} {ρ : Loc} {tg : List Nat} {k : ItK} {its : List E} {body : List S} {vs l : List Val} {o : Out} (h1 : evEs G h its ρ = xr vs) (h2 : walkP h k vs = some l) (h3 : forP tg (fun ρ' => evSs G h body ρ') l ρ = xr o) : evS G h (.for tg k its body) ρ = xr o := by
  rw [evS, h1]
  show xb (xo (walkP h k vs)) _ = _
  rw [h2]
  exact h3
/-- [1 for .. if ..] == [] -/
theorem evE_none {G : PG} {h : CH} {ρ : Loc} {tg : List Nat} {k : ItK} {its : List E} {cond : E} {vs l : List Val} (c : Val → Bool) (hi : evEs G h its ρ = xr vs) (hw : walkP h k vs = some l) (hl : l.length ≤ sizeLine) (hc : ∀ v ∈ l, ∃ ρ', bindTg tg v (wipeL ρ tg) = some ρ' ∧ condX G h cond ρ' = xr (c v)) : evE G h (.cmp .eq (.comp false tg k its cond (.con (.int 1))) (.list false [])) ρ = xr (.bl (!l.any c)) := by
  have q := evE_filter (elt := .con (.int 1)) c (fun _ => .int 1) hi hw hl fun v hv => by
    obtain ⟨ρ', h1, h2⟩ := hc v hv
    exact ⟨ρ', h1, h2, fun _ => rfl⟩
  rw [evE, q]
  show xb (xo (eqP h (.lst ((l.filter c).map fun _ => .int 1)) (.lst []))) _ = _
  obtain ⟨ds, hd⟩ := toDs_one l c
  rw [eqP_nil (l := (l.filter c).map fun _ => .int 1) rfl hd]
  show xr (Val.bl ((l.filter c).map fun _ => Val.int 1).isEmpty) = xr (Val.bl (!l.any c))
  rw [← any_filter (c := c) (f := fun _ => Val.int 1), Bool.not_not]
theorem smD_int {h : CH} {i : Int} (hi : i.natAbs ≤ 1000) : smD h (.int i) = some (.int i) := by
  show (if decide (i.natAbs.log2 < 1920) = true then some (PyData.int i) else none) = _
  have : i.natAbs.log2 < 1920 := Nat.lt_of_le_of_lt (Nat.log2_le_self _) (by omega)
  rw [decide_eq_true this, if_pos rfl]
end Mi
namespace P0
open PySem L2 Mi X0
abbrev lawB : List S := match f_law.body with
  | [_, .for _ _ _ b, _] => b
  | _ => []
theorem lawB_eq : f_law.body = [.set 1 (.call "_law_begun" 0 [.var 0]), .for [2] .range [.con (.int 6)] lawB, .ret (.con (.bl true))] := rfl
abbrev forBd : S → List S
  | .for _ _ _ b => b
  | _ => []
abbrev bodyA : List S := forBd (lawB.getD 4 .pass)
abbrev bodyB : List S := forBd (lawB.getD 8 .pass)
abbrev ρL (sc : Val) (a : Addr) (s2 s3 s4 s5 s6 s7 s8 s9 s10 s11 s12 : Option Sl) : Mi.Loc := [some (.v sc), some (.v (.ref a)), s2, s3, s4, s5, s6, s7, s8, s9, s10, s11, s12]
section
variable {h : CH} {sc : Val} {a : Addr} {s2 s3 s4 s5 s6 s7 s8 s9 s10 s11 s12 : Option Sl}
theorem staff_num {p : List Val} {l : Int} (hs : staffB (.tup [.tup p, .int l]) = true) : 0 ≤ l ∧ l ≤ 13 ∧ p.length ≤ 13 := by
  unfold staffB at hs
  rw [Bool.and_eq_true, Bool.and_eq_true, decide_eq_true_eq, decide_eq_true_eq] at hs
  obtain ⟨h1, h2, h3⟩ := hs
  unfold peopleB at h1
  rw [Bool.and_eq_true, Bool.and_eq_true, decide_eq_true_eq, decide_eq_true_eq] at h1
  have h4 : ((p.length : Nat) : Int) ≤ 13 := h1.1.2
  have h3 : 3 * l + 1 ≤ ((p.length : Nat) : Int) := h3
  omega
theorem valA {v : Val} {b : Nat} (hv : pl b v = true) (hb : b ≤ 1000) : ∃ s7' s8', evSs (G 39) h bodyA (ρL sc a s2 s3 s4 s5 (some (.v v)) s7 s8 s9 s10 s11 s12) = xr (.nx (ρL sc a s2 s3 s4 s5 (some (.v v)) s7' s8' s9 s10 s11 s12)) := by
  refine ⟨some (.v (.bl (staffB v))), some (.v (.fn 12)), ?_⟩
  refine x_consr (x_set (x_call (vs := [v]) rfl (ev_is (n := 37) hv hb))) ?_
  show evSs (G 39) h (bodyA.drop 1) (ρL sc a s2 s3 s4 s5 (some (.v v)) (some (.v (.bl (staffB v)))) s8 s9 s10 s11 s12) = _
  refine x_iff (k := false) (u := .bl false) (x_not (a := true) ?_) rfl (fun z => nomatch z) fun _ => ?_
  · have := Z.x_truth (n := 38) (h := h) (ρ := ρL sc a s2 s3 s4 s5 (some (.v v)) (some (.v (.bl (staffB v)))) s8 s9 s10 s11 s12) (e := .call "is_staff" 7 [.var 6]) (f := .var 7) (s := "_law_is_truth") (x := staffB v) (y := staffB v) (x_call (vs := [v]) rfl (ev_staff (n := 36) hv hb)) rfl
    rw [show (staffB v == staffB v) = true by cases staffB v <;> rfl] at this
    exact this
  refine x_iff (k := false) (u := .bl false) ?_ rfl (fun z => nomatch z) fun _ => ?_
  · refine (e_and2 (a := staffB v) (b := false) rfl fun hs => ?_).trans (by rw [Bool.and_false])
    obtain ⟨ns, l, rfl, n1, n13⟩ := staff_at hs
    obtain ⟨l0, l1, _⟩ := staff_num hs
    have len : ((ns.map Val.int).length : Int) = ns.length := ints_len
    have e1 := ev_need (n := 34) (h := h) hv hb hs
    have e2 := ev_binds (n := 34) (h := h) hv hb hs
    refine e_or2 (a := false) (b := false) ?_ fun _ => ?_
    · exact x_repr_ne (x := .int ((ns.map Val.int).length - l)) (d := .int ((ns.map Val.int).length - l)) (x_callk (vs := []) (ws := [stV ns l]) rfl rfl e1) (x_bin (x := .int (ns.map Val.int).length) (y := .int l) rfl rfl rfl) (smD_int (by omega))
    · exact x_repr_ne (x := .int ((ns.map Val.int).length - 3 * l)) (d := .int ((ns.map Val.int).length - 3 * l)) (x_callk (vs := []) (ws := [stV ns l]) rfl rfl e2) (x_bin (x := .int (ns.map Val.int).length) (y := .int (3 * l)) rfl (x_bin (x := .int 3) (y := .int l) rfl rfl rfl) rfl) (smD_int (by omega))
  have st : ∀ (f : Nat) (s8 : Option Sl), f = 11 ∨ f = 12 → evSs (G 39) h [.ite (.band [.not (.var 7), .not (.callc "_law_ch_refused" 26 [.con (.str "staff")] (.lam 30 [8, 6]))]) [.ret (.con (.bl false))] []] (ρL sc a s2 s3 s4 s5 (some (.v v)) (some (.v (.bl (staffB v)))) (some (.v (.fn f))) s9 s10 s11 s12) = xr (.nx (ρL sc a s2 s3 s4 s5 (some (.v v)) (some (.v (.bl (staffB v)))) (some (.v (.fn f))) s9 s10 s11 s12)) := fun f _ hf => by
    refine x_iff (k := false) (u := .bl false) ?_ rfl (fun z => nomatch z) fun _ => rfl
    refine (e_and2 (a := !staffB v) (b := false) (x_not rfl) fun hs => ?_).trans (by rw [Bool.and_false])
    have hs : staffB v = false := by simpa using hs
    exact x_not (a := true) (Z.x_refused (ws := [.fn f, v]) rfl (ref30 (n := 31) hf hv hb hs))
  refine x_consr (x_for (vs := [.lst [.fn 11, .fn 12]]) (l := [.fn 11, .fn 12]) rfl rfl (o := .nx (ρL sc a s2 s3 s4 s5 (some (.v v)) (some (.v (.bl (staffB v)))) (some (.v (.fn 12))) s9 s10 s11 s12)) ?_) rfl
  show xb (evSs (G 39) h _ (ρL sc a s2 s3 s4 s5 (some (.v v)) (some (.v (.bl (staffB v)))) (some (.v (.fn 11))) s9 s10 s11 s12)) _ = _
  rw [st 11 none (by simp)]
  show xb (evSs (G 39) h _ (ρL sc a s2 s3 s4 s5 (some (.v v)) (some (.v (.bl (staffB v)))) (some (.v (.fn 12))) s9 s10 s11 s12)) _ = _
  rw [st 12 none (by simp)]
  rfl
theorem loopA {l : List Val} {b : Nat} (hl : ∀ v ∈ l, pl b v = true) (hb : b ≤ 1000) : ∃ s6' s7' s8', evS (G 39) h (.for [6] .seq [.var 5] bodyA) (ρL sc a s2 s3 s4 (some (.v (.lst l))) s6 s7 s8 s9 s10 s11 s12) = xr (.nx (ρL sc a s2 s3 s4 (some (.v (.lst l))) s6' s7' s8' s9 s10 s11 s12)) := by
  obtain ⟨ρ', h1, s6', s7', s8', rfl⟩ := forP_all (tg := [6]) (body := fun ρ' => evSs (G 39) h bodyA ρ') (fun ρ => ∃ s6 s7 s8, ρ = ρL sc a s2 s3 s4 (some (.v (.lst l))) s6 s7 s8 s9 s10 s11 s12) l (ρL sc a s2 s3 s4 (some (.v (.lst l))) s6 s7 s8 s9 s10 s11 s12) (fun v hv ρ hI => by
    obtain ⟨t6, t7, t8, rfl⟩ := hI
    obtain ⟨u7, u8, e⟩ := valA (h := h) (sc := sc) (a := a) (s2 := s2) (s3 := s3) (s4 := s4) (s5 := some (.v (.lst l))) (s7 := t7) (s8 := t8) (s9 := s9) (s10 := s10) (s11 := s11) (s12 := s12) (hl v hv) hb
    exact ⟨_, _, rfl, .inl e, _, _, _, rfl⟩) ⟨_, _, _, rfl⟩
  exact ⟨s6', s7', s8', x_for (vs := [.lst l]) (l := l) rfl rfl h1⟩
theorem valB {v : Val} {b : Nat} {xs : List Int} {m l : Int} (hB : ∀ n h, evR T (n + 2) h 4 [.v (bankV xs m l)] = xr (.bl true)) (h0 : 0 ≤ m) (h2 : m ≤ 1000) (hv : pl b v = true) (hb : b ≤ 1000) : ∃ s7', evSs (G 39) h bodyB (ρL sc a s2 (some (.v (bankV xs m l))) s4 s5 (some (.v v)) s7 s8 (some (.v (firstV m l))) s10 s11 s12) = xr (.nx (ρL sc a s2 (some (.v (bankV xs m l))) s4 s5 (some (.v v)) s7' s8 (some (.v (firstV m l))) s10 s11 s12)) := by
  refine ⟨some (.v (.bl (lineB (firstV m l) v))), ?_⟩
  have e0 : evE (G 39) h (.band [.isi (.var 6) .tup, .chain .le .le (.con (.int 1)) (.bi .len [.var 6]) (.con (.int 6)), .cmp .eq (.comp false [11] .seq [.var 6] (.not (.call "_law_k00_is" 27 [.var 11])) (.con (.int 1))) (.list false []), .cmp .eq (.ix (.var 6) (.con (.int 0))) (.var 9)]) (ρL sc a s2 (some (.v (bankV xs m l))) s4 s5 (some (.v v)) s7 s8 (some (.v (firstV m l))) s10 s11 s12) = xr (.bl (lineB (firstV m l) v)) := by
    cases v with
    | ref a => rw [pl] at hv; cases hv
    | fn a => rw [pl] at hv; cases hv
    | exc a => rw [pl] at hv; cases hv
    | tup ls =>
      obtain ⟨hl, hq⟩ := pl_tup.mp hv
      have hl2 : ls.length ≤ sizeLine := Nat.le_trans (Nat.le_trans hl hb) (by decide)
      have c1 : evE (G 39) h (.chain .le .le (.con (.int 1)) (.bi .len [.var 6]) (.con (.int 6))) (ρL sc a s2 (some (.v (bankV xs m l))) s4 s5 (some (.v (.tup ls))) s7 s8 (some (.v (firstV m l))) s10 s11 s12) = xr (.bl (decide (1 ≤ (ls.length : Int)) && decide ((ls.length : Int) ≤ 6))) := chain_len rfl rfl
      have c2 : evE (G 39) h (.cmp .eq (.comp false [11] .seq [.var 6] (.not (.call "_law_k00_is" 27 [.var 11])) (.con (.int 1))) (.list false [])) (ρL sc a s2 (some (.v (bankV xs m l))) s4 s5 (some (.v (.tup ls))) s7 s8 (some (.v (firstV m l))) s10 s11 s12) = xr (.bl (!ls.any fun v => !staffB v)) :=
        evE_none (fun v => !staffB v) (vs := [.tup ls]) (l := ls) rfl rfl hl2 fun u hu => ⟨_, rfl, condX_of (x_not (x_call (vs := [u]) rfl (ev_is (n := 37) (hq u hu) hb))) rfl⟩
      have ea : (!ls.any fun v => !staffB v) = ls.all staffB := by
        rw [Bool.eq_iff_iff]
        simp
      rw [ea] at c2
      rw [evE]
      refine (e_and1 rfl).trans ?_
      cases q1 : (decide (1 ≤ (ls.length : Int)) && decide ((ls.length : Int) ≤ 6)) with
      | false =>
        refine (e_and0 (c1.trans (by rw [q1]))).trans ?_
        show _ = xr (Val.bl ((decide (1 ≤ (ls.length : Int)) && decide ((ls.length : Int) ≤ 6)) && _))
        rw [q1] <;> rfl
      | true =>
        refine (e_and1 (c1.trans (by rw [q1]))).trans ?_
        cases q2 : ls.all staffB with
        | false =>
          refine (e_and0 (c2.trans (by rw [q2]))).trans ?_
          show _ = xr (Val.bl (_ && (ls.all staffB && _)))
          rw [q2, Bool.false_and, Bool.and_false]
        | true =>
          refine (e_and1 (c2.trans (by rw [q2]))).trans ?_
          rw [e_andl]
          cases ls with
          | nil => cases q1
          | cons u r =>
            have su : staffB u = true := by
              rw [List.all_cons, Bool.and_eq_true] at q2
              exact q2.1
            have el : lineB (firstV m l) (.tup (u :: r)) = eqD u (firstV m l) := by
              show ((decide (1 ≤ ((u :: r).length : Int)) && decide (((u :: r).length : Int) ≤ 6)) && ((u :: r).all staffB && eqD u (firstV m l))) = _
              rw [q1, q2, Bool.true_and, Bool.true_and]
            rw [el]
            exact x_cmp (x := u) (y := firstV m l) (x_ix (x := .tup (u :: r)) (y := .int 0) rfl rfl at0) rfl (eqP_staff su)
    | _ =>
      rw [evE]
      exact e_and0 rfl
  refine x_consr (x_set e0) ?_
  show evSs (G 39) h (bodyB.drop 1) (ρL sc a s2 (some (.v (bankV xs m l))) s4 s5 (some (.v v)) (some (.v (.bl (lineB (firstV m l) v)))) s8 (some (.v (firstV m l))) s10 s11 s12) = _
  refine x_iff (k := false) (u := .bl false) (x_not (a := true) ?_) rfl (fun z => nomatch z) fun _ => rfl
  have := Z.x_truth (n := 38) (h := h) (ρ := ρL sc a s2 (some (.v (bankV xs m l))) s4 s5 (some (.v v)) (some (.v (.bl (lineB (firstV m l) v)))) s8 (some (.v (firstV m l))) s10 s11 s12) (e := .callk "is_line" 15 [] ["value", "bank"] [.var 6, .var 3] [1, 0]) (f := .var 7) (s := "_law_is_truth") (x := lineB (firstV m l) v) (y := lineB (firstV m l) v) (x_callk (vs := []) (ws := [v, bankV xs m l]) rfl rfl (ev_is_line (n := 33) (fun n => hB n h) h0 h2 hv hb)) rfl
  rw [show (lineB (firstV m l) v == lineB (firstV m l) v) = true by cases lineB (firstV m l) v <;> rfl] at this
  exact this
theorem forB {L : List Val} {b : Nat} {xs : List Int} {m l : Int} (hB : ∀ n h, evR T (n + 2) h 4 [.v (bankV xs m l)] = xr (.bl true)) (h0 : 0 ≤ m) (h2 : m ≤ 1000) (hl : ∀ v ∈ L, pl b v = true) (hb : b ≤ 1000) : ∃ s6' s7', forP [6] (fun ρ' => evSs (G 39) h bodyB ρ') L (ρL sc a s2 (some (.v (bankV xs m l))) s4 s5 s6 s7 s8 (some (.v (firstV m l))) s10 s11 s12) = xr (.nx (ρL sc a s2 (some (.v (bankV xs m l))) s4 s5 s6' s7' s8 (some (.v (firstV m l))) s10 s11 s12)) := by
  obtain ⟨ρ', h1, s6', s7', rfl⟩ := forP_all (tg := [6]) (body := fun ρ' => evSs (G 39) h bodyB ρ') (fun ρ => ∃ s6 s7, ρ = ρL sc a s2 (some (.v (bankV xs m l))) s4 s5 s6 s7 s8 (some (.v (firstV m l))) s10 s11 s12) L (ρL sc a s2 (some (.v (bankV xs m l))) s4 s5 s6 s7 s8 (some (.v (firstV m l))) s10 s11 s12) (fun v hv ρ hI => by
    obtain ⟨t6, t7, rfl⟩ := hI
    obtain ⟨u7, e⟩ := valB (h := h) (sc := sc) (a := a) (s2 := s2) (s4 := s4) (s5 := s5) (s7 := t7) (s8 := s8) (s10 := s10) (s11 := s11) (s12 := s12) hB h0 h2 (hl v hv) hb
    exact ⟨_, _, rfl, .inl e, _, _, rfl⟩) ⟨_, _, rfl⟩
  exact ⟨s6', s7', h1⟩
end
end P0

set_option Elab.async false
set_option linter.all false
set_option maxRecDepth 100000
set_option maxHeartbeats 4000000
namespace Mi
open PySem L2
theorem lamGo_ok {T : Tab} {n f : Nat} {me mr : Loc → M Val} {h : CH} {v : Val} {Q : Out → CH → Prop} {E : Nat → CH → Prop} {ρ : Loc} (hme : ∀ (Q : Val → CH → Prop) (E : Nat → CH → Prop), Q v h → me ρ Q E h) (q : Q (.nx ρ) h) : ∀ (ls : List (Nat × List Nat)), (∀ p ∈ ls, ∃ ws, capsOf ρ p.2 = some ws ∧ evR T n h f [.v v, .c p.1 ws] = xr (.bl true)) → lamGo (run T n) f me mr ls ρ Q E h
  | [], _ => q
  | p :: ls, hall => by
    obtain ⟨ws, h1, h2⟩ := hall p (by simp)
    have ih := lamGo_ok (mr := mr) (E := E) hme q ls fun p hp => hall p (by simp [hp])
    show opt (capsOf ρ p.2) _ Q E h
    rw [h1]
    refine hme _ _ ?_
    exact run_ev h2 ih
theorem walk_lst {l : List Val} {h : CH} {Q : Src × List Val → CH → Prop} {E : Nat → CH → Prop} (q : Q (.fixed, l) h) : walkM .seq [.lst l] Q E h := q
end Mi
namespace P0
open PySem L2 Mi X0
theorem pl2 {b : Nat} {x y : Val} (hx : pl b x = true) (hy : pl b y = true) (hb : 2 ≤ b) : pl b (.tup [x, y]) = true := pl_tup.mpr ⟨hb, fun v hv => by
  rcases List.mem_cons.mp hv with rfl | hv
  · exact hx
  · rw [List.mem_singleton.mp hv]; exact hy⟩
theorem plt {b : Nat} {l : List Val} (hl : l.length ≤ b) (h : ∀ v ∈ l, ∃ i, v = .int i) : pl b (.tup l) = true := pl_tup.mpr ⟨hl, fun v hv => by
  obtain ⟨i, rfl⟩ := h v hv
  exact pl_int _ _⟩
theorem ints_of {ms : List Int} : ∀ v ∈ ms.map Val.int, ∃ i, v = .int i := fun v hv => by
  obtain ⟨i, _, rfl⟩ := List.mem_map.mp hv
  exact ⟨i, rfl⟩
theorem pl_bl (b : Nat) (k : Bool) : pl b (.bl k) = true := by rw [pl]
theorem st_toD {ms : List Int} {l : Int} : ∃ d, toD (stV ms l) = some d := ⟨_, toD_ints2⟩
theorem bent_st {ms : List Int} {l : Int} {d : Nat} (hm : ms.length ≤ 200) : Z.BentOk 200 9 (d + 6) (stV ms l) := by
  obtain ⟨ds, hds⟩ := toDs_of (l := [.tup (ms.map .int), .int l]) fun v hv => by
    rcases List.mem_cons.mp hv with rfl | hv
    · exact ⟨.tuple (ms.map .int), by show (toDs (ms.map .int)).map PyData.tuple = _; rw [toDs_ints] <;> rfl⟩
    · rw [List.mem_singleton.mp hv]; exact ⟨_, rfl⟩
  refine Z.bent_tup (d := d + 2) (c := 5) (pl2 (pl_ints hm) (pl_int _ _) (by decide)) hds (by decide) (by decide) fun v hv => ?_
  rcases List.mem_cons.mp hv with rfl | hv
  · exact Z.bent_ints (d := d) (by decide) (by decide) hm
  · rw [List.mem_singleton.mp hv]
    exact Z.bent_odd (d := d + 1) (fun l => nofun) (pl_int _ _) (by decide) (by decide)
theorem first_st (m l : Int) : firstV m l = stV (rgI 0 m) l := rfl
abbrev lineV (m l : Int) (ls : List (List Int × Int)) : Val := .tup (firstV m l :: ls.map fun s => stV s.1 s.2)
theorem line_items {m l : Int} {ls : List (List Int × Int)} (hm : 0 ≤ m ∧ m ≤ 7) (hls : ∀ s ∈ ls, s.1.length ≤ 16) : ∀ v ∈ firstV m l :: ls.map (fun s => stV s.1 s.2), ∃ ms k, v = stV ms k ∧ ms.length ≤ 200 := fun v hv => by
  rcases List.mem_cons.mp hv with rfl | hv
  · exact ⟨_, _, rfl, by rw [rgI_len]; omega⟩
  · obtain ⟨s, hs, rfl⟩ := List.mem_map.mp hv
    exact ⟨_, _, rfl, by have := hls s hs; omega⟩
theorem pl_st {ms : List Int} {k : Int} (h : ms.length ≤ 200) : pl 200 (stV ms k) = true := pl2 (pl_ints h) (pl_int _ _) (by decide)
theorem bent_line {m l : Int} {ls : List (List Int × Int)} {d : Nat} (hm : 0 ≤ m ∧ m ≤ 7) (h7 : ls.length ≤ 7) (hls : ∀ s ∈ ls, s.1.length ≤ 16) : Z.BentOk 200 13 (d + 7) (lineV m l ls) := by
  have hi := line_items (l := l) hm hls
  obtain ⟨ds, hds⟩ := toDs_of (l := firstV m l :: ls.map fun s => stV s.1 s.2) fun v hv => by
    obtain ⟨ms, k, rfl, _⟩ := hi v hv
    exact st_toD
  refine Z.bent_tup (d := d + 3) (c := 9) (pl_tup.mpr ⟨?_, fun v hv => ?_⟩) hds (by decide) (by decide) fun v hv => ?_
  · rw [List.length_cons, List.length_map]; omega
  · obtain ⟨ms, k, rfl, h⟩ := hi v hv
    exact pl_st h
  · obtain ⟨ms, k, rfl, h⟩ := hi v hv
    exact bent_st h
theorem smd_one {h : CH} {v : Val} (e : (smD h v).isSome = true) : ∃ d, smD h v = some d := Option.isSome_iff_exists.mp e
theorem smd_first {h : CH} : ∀ p ∈ banks, ∃ d, smD h (firstV p.2.1 p.2.2) = some d := fun p hp => by
  simp only [banks, List.mem_cons, List.not_mem_nil, or_false] at hp
  rcases hp with rfl | rfl | rfl | rfl | rfl | rfl | rfl | rfl <;> exact smd_one (by kernel_rfl)
abbrev odds (p : List Int × Int × Int) : List Val := [.non, .int 0, .tup [], .tup [.tup [.int 1], .int 3, .int 1], .tup [.tup [.int 1], .int 4, .bl true], .lst [.tup [.int 1], .int 4, .int 1], .tup [bk p]]
theorem odds_ok {p : List Int × Int × Int} : ∀ v ∈ odds p, ∀ n h, evR T (n + 2) h 4 [.v v] = xr (.bl false) := fun v hv n h => by
  simp only [odds, List.mem_cons, List.not_mem_nil, or_false] at hv
  rcases hv with rfl | rfl | rfl | rfl | rfl | rfl | rfl <;> kernel_rfl
section
variable {h : CH} {sc : Val} {a : Addr} {m : Nat} {s2 s3 s4 s5 s6 s7 s8 s9 s10 s11 s12 : Option Sl} {K : Out → CH → Prop} {E : Nat → CH → Prop}
theorem turnA (hd : Dr a m h) (hm : m + 1000 < 2 ^ 40)
    (q : ∀ (h' : CH) (p : List Int × Int × Int) (ms : List Int) (l : Int) (s5 s6 s7 s8 : Option Sl), p ∈ banks → ms.length ≤ 100 → Xt a 211 h h' → denSs (T.dg (run T 39)) (lawB.drop 5) (ρL sc a s2 (some (.v (bk p))) (some (.v (stV ms l))) s5 s6 s7 s8 s9 s10 s11 s12) K E h') :
    denSs (T.dg (run T 39)) lawB (ρL sc a s2 s3 s4 s5 s6 s7 s8 s9 s10 s11 s12) K E h := by
  have ok := pg T 39
  refine s_set (e_callR (es_ev ok (vs := [.ref a]) rfl (p_bank (d := 36) hd (by omega) fun p hp h1 x1 => ?_)))
  refine s_set (e_callR (es_ev ok (vs := [.ref a]) rfl (p_staff (d := 36) (hd.next x1) (by omega) fun ms l h2 hms x2 => ?_)))
  have d2 := (hd.next x1).next x2
  refine s_set (e_list (es_cons (e_var (v := stV ms l) rfl (es_cons (e_callR (es_ev ok (vs := [.ref a, stV ms l]) rfl (bent_st (d := 33) (by omega) a (m + 1 + 200) h2 _ E d2 (by omega) fun u h3 hu x3 => ?_)))))))
  refine es_cons (e_callR (es_ev ok (vs := [.ref a]) rfl (Z.p_odd (d := 36) (d2.next x3) (by omega) fun w h4 hw x4 => ?_)))
  refine es_ev ok (vs := [.tup [.tup (ms.map .int).reverse, .int l], .tup [.lst (ms.map .int), .int l], .tup [.tup (ms.map .int), .bl true]]) rfl (frz ?_)
  have sz : ms.length + 1 ≤ sizeLine := Nat.le_trans (show ms.length + 1 ≤ 101 by omega) (by decide)
  refine s_ev (ρ' := ρL sc a s2 (some (.v (bk p))) (some (.v (stV ms l))) (some (.v (.lst ([stV ms l, u, w, .tup [.tup (ms.map .int).reverse, .int l], .tup [.lst (ms.map .int), .int l], .tup [.tup (ms.map .int), .bl true]] ++ [.tup [.tup (ms.map .int ++ [.int 100]), .int l], .tup [.tup ([.int (-1)] ++ ms.map .int), .int 0], .tup [.tup (ms.map .int), .int (-1)], .tup [.tup [], .int 0], .tup [.tup ((rgI 0 14).map .int), .int 0], .tup [.tup (ms.map .int), .int (((ms.map Val.int).length : Int) / 3)]])))) s6 s7 s8 s9 s10 s11 s12) ok (x_set (x_bin rfl (x_list ?_) (bin_ladd (show 6 + 6 ≤ sizeLine by decide)))) ?_
  · refine x_esc (x_tup (x_esc (x_bin (x := .tup (ms.map .int)) (y := .tup [.int 100]) rfl rfl (bin_tadd (by rw [List.length_map]; exact sz))) (x_es1 rfl))) ?_
    refine x_esc (x_tup (x_esc (x_bin (x := .tup [.int (-1)]) (y := .tup (ms.map .int)) rfl rfl (bin_tadd (by rw [List.length_map, Nat.add_comm]; exact sz))) (x_es1 rfl))) ?_
    refine x_esc rfl (x_esc rfl (x_esc (x_tup (x_esc (x_rng (m := 14) rfl (by decide) (by decide)) (x_es1 rfl))) (x_es1 ?_)))
    exact x_tup (x_esc rfl (x_es1 (x_bin (x := .int (ms.map Val.int).length) (y := .int 3) rfl rfl (bin_fdiv (by decide) (by decide)))))
  have hpl : ∀ v ∈ ([stV ms l, u, w, .tup [.tup (ms.map .int).reverse, .int l], .tup [.lst (ms.map .int), .int l], .tup [.tup (ms.map .int), .bl true]] ++ [.tup [.tup (ms.map .int ++ [.int 100]), .int l], .tup [.tup ([.int (-1)] ++ ms.map .int), .int 0], .tup [.tup (ms.map .int), .int (-1)], .tup [.tup [], .int 0], .tup [.tup ((rgI 0 14).map .int), .int 0], .tup [.tup (ms.map .int), .int (((ms.map Val.int).length : Int) / 3)]] : List Val), pl 201 v = true := fun v hv => by
    have i : ∀ j, pl 201 (.int j) = true := fun j => pl_int _ _
    have t : pl 201 (.tup (ms.map .int)) = true := pl_ints (by omega)
    simp only [List.cons_append, List.nil_append, List.mem_cons, List.not_mem_nil, or_false] at hv
    rcases hv with rfl | rfl | rfl | rfl | rfl | rfl | rfl | rfl | rfl | rfl | rfl | rfl
    · exact pl2 t (i _) (by decide)
    · exact hu
    · exact pl_mono (by decide) _ hw
    · exact pl2 (plt (by rw [List.length_reverse, List.length_map]; omega) fun v hv => ints_of v (List.mem_reverse.mp hv)) (i _) (by decide)
    · exact pl2 (pl_lints (by omega)) (i _) (by decide)
    · exact pl2 t (pl_bl _ _) (by decide)
    · refine pl2 (plt (by rw [List.length_append, List.length_map]; exact (show ms.length + 1 ≤ 201 by omega)) fun v hv => ?_) (i _) (by decide)
      rcases List.mem_append.mp hv with hv | hv
      · exact ints_of v hv
      · exact ⟨_, List.mem_singleton.mp hv⟩
    · refine pl2 (plt (by rw [List.length_cons, List.length_map]; exact (show ms.length + 1 ≤ 201 by omega)) fun v hv => ?_) (i _) (by decide)
      rcases List.mem_cons.mp hv with hv | hv
      · exact ⟨_, hv⟩
      · exact ints_of v hv
    · exact pl2 t (i _) (by decide)
    · exact pl2 (plt (by decide) fun v hv => nomatch hv) (i _) (by decide)
    · exact pl2 (pl_ints (by rw [rgI_len]; decide)) (i _) (by decide)
    · exact pl2 t (i _) (by decide)
  obtain ⟨s6', s7', s8', e⟩ := loopA (h := h4) (sc := sc) (a := a) (s2 := s2) (s3 := some (.v (bk p))) (s4 := some (.v (stV ms l))) (s6 := s6) (s7 := s7) (s8 := s8) (s9 := s9) (s10 := s10) (s11 := s11) (s12 := s12) (l := [stV ms l, u, w, .tup [.tup (ms.map .int).reverse, .int l], .tup [.lst (ms.map .int), .int l], .tup [.tup (ms.map .int), .bl true]] ++ [.tup [.tup (ms.map .int ++ [.int 100]), .int l], .tup [.tup ([.int (-1)] ++ ms.map .int), .int 0], .tup [.tup (ms.map .int), .int (-1)], .tup [.tup [], .int 0], .tup [.tup ((rgI 0 14).map .int), .int 0], .tup [.tup (ms.map .int), .int (((ms.map Val.int).length : Int) / 3)]]) (b := 201) hpl (by decide)
  refine s_ev ok e ?_
  exact q h4 p ms l _ _ _ _ hp hms ((((x1.trans x2).trans x3).trans x4).mono (by omega))
theorem turnB {p : List Int × Int × Int} {ms : List Int} {l : Int} (hp : p ∈ banks) (hms : ms.length ≤ 100) (hd : Dr a m h) (hm : m + 1000 < 2 ^ 40)
    (q : ∀ (h' : CH) (s3 s4 s5 s6 s7 s8 s9 s10 s11 s12 : Option Sl), Xt a 316 h h' → K (.nx (ρL sc a s2 s3 s4 s5 s6 s7 s8 s9 s10 s11 s12)) h') :
    denSs (T.dg (run T 39)) (lawB.drop 5) (ρL sc a s2 (some (.v (bk p))) (some (.v (stV ms l))) s5 s6 s7 s8 s9 s10 s11 s12) K E h := by
  have ok := pg T 39
  obtain ⟨b0, b1, b2, b3, b4⟩ := bank_lo p hp
  have hB : ∀ n h, evR T (n + 2) h 4 [.v (bk p)] = xr (.bl true) := fun n h => bank_ok p hp
  refine s_ev (ρ' := ρL sc a s2 (some (.v (bk p))) (some (.v (stV ms l))) s5 s6 s7 s8 (some (.v (firstV p.2.1 p.2.2))) s10 s11 s12) ok (x_set (x_tup (x_esc (x_rng (m := p.2.1) rfl b0 (by omega)) (x_es1 rfl)))) ?_
  obtain ⟨df, hdf⟩ := smd_first (h := h) p hp
  refine s_if (v := .bl false) (k := false) ok (x_repr_ne (x := firstV p.2.1 p.2.2) (d := df) (x_callk (vs := []) (ws := [bk p]) rfl rfl (first_ev (n := 35) (hB _ _) b0 (by omega))) rfl hdf) rfl ?_
  show denSs (T.dg (run T 39)) (lawB.drop 7) (ρL sc a s2 (some (.v (bk p))) (some (.v (stV ms l))) s5 s6 s7 s8 (some (.v (firstV p.2.1 p.2.2))) s10 s11 s12) K E h
  refine s_set (e_callR (es_cons (e_var (v := .ref a) rfl (es_cons (e_var (v := bk p) rfl (es_cons (e_callR (es_ev ok (vs := [.ref a, .int 7]) rfl (p_draw (d := 38) (s := 7) Z.t1 hd (by omega) (by decide) (by decide) fun r h1 r0 r1 x1 => es_nil ?_)))))))))
  refine p_line (d := 36) (l0 := p.2.2) b0 (by omega) r0 (by omega) (hd.next x1) (by omega) fun ls h2 hlen hls x2 => ?_
  have h7 : ls.length ≤ 7 := by omega
  have d2 := (hd.next x1).next x2
  have hi := line_items (m := p.2.1) (l := p.2.2) ⟨b0, b1⟩ hls
  have lv : (firstV p.2.1 p.2.2 :: ls.map fun s => stV s.1 s.2).length ≤ 8 := by
    rw [List.length_cons, List.length_map]; omega
  have hiv : ∀ v ∈ firstV p.2.1 p.2.2 :: ls.map fun s => stV s.1 s.2, pl 201 v = true := fun v hv => by
    obtain ⟨ms, k, rfl, h⟩ := hi v hv
    exact pl_mono (by decide) _ (pl_st h)
  have stv : pl 201 (stV ms l) = true := pl_mono (by decide) _ (pl_st (by omega))
  show denSs (T.dg (run T 39)) (lawB.drop 8) (ρL sc a s2 (some (.v (bk p))) (some (.v (stV ms l))) s5 s6 s7 s8 (some (.v (firstV p.2.1 p.2.2))) (some (.v (lineV p.2.1 p.2.2 ls))) s11 s12) K E h2
  generalize hL : (firstV p.2.1 p.2.2 :: ls.map fun s => stV s.1 s.2) = L at lv hiv
  have eL : lineV p.2.1 p.2.2 ls = .tup L := by rw [← hL]
  have hbent := bent_line (d := 32) (l := p.2.2) ⟨b0, b1⟩ h7 hls
  rw [eL] at hbent ⊢
  have sz : ∀ {k : Nat}, k ≤ 1000 → k ≤ sizeLine := fun h => Nat.le_trans h (by decide)
  refine s_for (es_cons (e_list ?_))
  refine es_cons (e_var (v := .tup L) rfl ?_)
  refine es_cons (e_ev ok (v := .tup (L.drop 1)) ?_ ?_)
  · have : evE (gp T 39) h2 (.cut false (.var 10) (.con (.int 1)) .skip) (ρL sc a s2 (some (.v (bk p))) (some (.v (stV ms l))) s5 s6 s7 s8 (some (.v (firstV p.2.1 p.2.2))) (some (.v (.tup L))) s11 s12) = xr (.tup (cutL L (some 1) none)) := rfl
    rw [cutL_from (by decide)] at this
    exact this
  refine es_cons (e_ev ok (v := .tup (L.take 1)) ?_ ?_)
  · have : evE (gp T 39) h2 (.cut false (.var 10) .skip (.con (.int 1))) (ρL sc a s2 (some (.v (bk p))) (some (.v (stV ms l))) s5 s6 s7 s8 (some (.v (firstV p.2.1 p.2.2))) (some (.v (.tup L))) s11 s12) = xr (.tup (cutL L none (some 1))) := rfl
    rw [cutL_to (by decide)] at this
    exact this
  refine es_cons (e_ev ok (v := .tup []) rfl ?_)
  refine es_cons (e_ev ok (v := .lst L) rfl ?_)
  refine es_cons (e_ev ok (v := .tup L.reverse) rfl ?_)
  refine es_cons (e_ev ok (v := .tup (L ++ [stV ms l])) (x_bin (x := .tup L) (y := .tup [stV ms l]) rfl rfl (bin_tadd (sz (by show L.length + 1 ≤ 1000; omega)))) ?_)
  refine es_cons (e_callR (es_ev ok (vs := [.ref a, .tup L]) rfl (hbent a (m + 1 + 300) h2 _ E d2 (by omega) fun u h3 hu x3 => ?_)))
  refine es_cons (e_callR (es_ev ok (vs := [.ref a]) rfl (Z.p_odd (d := 36) (d2.next x3) (by omega) fun w h4 hw x4 => ?_)))
  refine es_ev ok (vs := [.tup (List.replicate 7 [firstV p.2.1 p.2.2]).flatten]) rfl (frz (es_nil ?_))
  refine walk_lst ?_
  have hpl : ∀ v ∈ ([.tup L, .tup (L.drop 1), .tup (L.take 1), .tup [], .lst L, .tup L.reverse, .tup (L ++ [stV ms l]), u, w, .tup (List.replicate 7 [firstV p.2.1 p.2.2]).flatten] : List Val), pl 201 v = true := fun v hv => by
    simp only [List.mem_cons, List.not_mem_nil, or_false] at hv
    rcases hv with rfl | rfl | rfl | rfl | rfl | rfl | rfl | rfl | rfl | rfl
    · exact pl_tup.mpr ⟨by omega, hiv⟩
    · exact pl_tup.mpr ⟨by rw [List.length_drop]; omega, fun v hv => hiv v (List.mem_of_mem_drop hv)⟩
    · exact pl_tup.mpr ⟨by rw [List.length_take]; omega, fun v hv => hiv v (List.mem_of_mem_take hv)⟩
    · exact pl_tup.mpr ⟨by decide, fun v hv => nomatch hv⟩
    · exact pl_lst.mpr ⟨by omega, hiv⟩
    · exact pl_tup.mpr ⟨by rw [List.length_reverse]; omega, fun v hv => hiv v (List.mem_reverse.mp hv)⟩
    · refine pl_tup.mpr ⟨by rw [List.length_append]; show L.length + 1 ≤ 201; omega, fun v hv => ?_⟩
      rcases List.mem_append.mp hv with hv | hv
      · exact hiv v hv
      · rw [List.mem_singleton.mp hv]; exact stv
    · exact hu
    · exact pl_mono (by decide) _ hw
    · refine pl_tup.mpr ⟨by simp, fun v hv => ?_⟩
      simp only [List.replicate, List.flatten_cons, List.flatten_nil, List.append_nil, List.cons_append, List.nil_append, List.mem_cons, List.not_mem_nil, or_false, or_self] at hv
      rw [hv]
      exact pl_mono (by decide) _ (pl_st (by rw [rgI_len]; omega))
  obtain ⟨s6', s7', e⟩ := forB (h := h4) (sc := sc) (a := a) (s2 := s2) (s4 := some (.v (stV ms l))) (s5 := s5) (s6 := s6) (s7 := s7) (s8 := s8) (s10 := some (.v (.tup L))) (s11 := s11) (s12 := s12) (L := [.tup L, .tup (L.drop 1), .tup (L.take 1), .tup [], .lst L, .tup L.reverse, .tup (L ++ [stV ms l]), u, w, .tup (List.replicate 7 [firstV p.2.1 p.2.2]).flatten]) (b := 201) hB b0 (by omega) hpl (by decide)
  have k := forP_ok (s := .fixed) (h := h4) (tg := [6]) (body := fun ρ' => denSs (T.dg (run T 39)) bodyB ρ') (b' := fun ρ' => evSs (G 39) h4 bodyB ρ') trivial (fun ρ => evSs_ok ok bodyB ρ) [.tup L, .tup (L.drop 1), .tup (L.take 1), .tup [], .lst L, .tup L.reverse, .tup (L ++ [stV ms l]), u, w, .tup (List.replicate 7 [firstV p.2.1 p.2.2]).flatten] (ρL sc a s2 (some (.v (bk p))) (some (.v (stV ms l))) s5 s6 s7 s8 (some (.v (firstV p.2.1 p.2.2))) (some (.v (.tup L))) s11 s12)
  rw [e] at k
  refine k _ E ?_
  show denSs (T.dg (run T 39)) (lawB.drop 9) (ρL sc a s2 (some (.v (bk p))) (some (.v (stV ms l))) s5 s6' s7' s8 (some (.v (firstV p.2.1 p.2.2))) (some (.v (.tup L))) s11 s12) K E h4
  refine s_set (e_callR (es_ev ok (vs := [.ref a, .lst (odds p)]) rfl (Z.p_pick (d := 37) ((d2.next x3).next x4) (by omega) (by simp) (by simp) fun o ho h5 x5 => ?_)))
  rw [denSs, denS]
  refine lamGo_ok (v := .str "bank") (fun Q E q => e_con q) ?_ _ fun pr hpr => ?_
  · show denSs _ [] _ K E h5
    rw [denSs]
    exact q h5 _ _ _ _ _ _ _ _ _ _ (((((x1.trans x2).trans x3).trans x4).trans x5).mono (by omega))
  · rcases List.mem_cons.mp hpr with rfl | hpr
    · exact ⟨[o], rfl, ref31 (n := 31) fun n => odds_ok o ho n _⟩
    · rw [List.mem_singleton.mp hpr]
      exact ⟨[o, .tup L], rfl, ref32 (n := 31) fun n => odds_ok o ho n _⟩
end
theorem plain (ns : List Int) (hn : ns.length ≤ 63) : Mi.run X0.L.T 40 29 [.v (.lst (ns.map .int))] (fun v _ => v = .bl true) (fun _ _ => False) Mi.CH.nil := by
  have ok := pg T 39
  refine run_code (n := 39) t29 rfl rfl ?_
  rw [lawB_eq]
  show denSs (T.dg (run T 39)) [.set 1 (.call "_law_begun" 0 [.var 0]), .for [2] .range [.con (.int 6)] lawB, .ret (.con (.bl true))] [some (.v (.lst (ns.map .int))), none, none, none, none, none, none, none, none, none, none, none, none] _ _ CH.nil
  refine s_set (e_callR (es_ev ok (vs := [.lst (ns.map .int)]) rfl ?_))
  refine p_begun Z.t0 (Nat.le_trans hn (by decide)) fun a na => ?_
  have hd : Dr a 0 (CH.nil.set a (.ab (.draws 0))) := ⟨0, Nat.le_refl _, CH.set_same⟩
  show denSs (T.dg (run T 39)) [.for [2] .range [.con (.int 6)] lawB, .ret (.con (.bl true))] (ρL (.lst (ns.map .int)) a none none none none none none none none none none none) _ _ _
  generalize CH.nil.set a (.ab (.draws 0)) = h1 at hd
  refine s_for (es_ev ok (vs := [.int 6]) rfl ⟨by unfold smallR; omega, by unfold smallR; omega, ?_⟩)
  refine forGo_inv (s := .fixed) (fun done ρ hh => ∃ (s2 s3 s4 s5 s6 s7 s8 s9 s10 s11 s12 : Option Sl), ρ = ρL (.lst (ns.map .int)) a s2 s3 s4 s5 s6 s7 s8 s9 s10 s11 s12 ∧ Xt a (1000 * done.length) h1 hh) _ (rangeL 0 6) [] _ _ (fun pr w r ρ hh e hI => ?_) (fun ρ hh hI => ⟨trivial, ?_⟩) ⟨_, _, _, _, _, _, _, _, _, _, _, rfl, .refl⟩
  · obtain ⟨s2, s3, s4, s5, s6, s7, s8, s9, s10, s11, s12, rfl, xt⟩ := hI
    have e : rangeL 0 6 = pr ++ w :: r := e
    have hlen : pr.length < 6 := by
      have : (rangeL 0 6).length = (pr ++ w :: r).length := by rw [← e]
      rw [List.length_append, List.length_cons] at this
      have : (rangeL 0 6).length = 6 := rfl
      omega
    refine ⟨trivial, _, rfl, fun K' hK => ?_⟩
    show denSs (T.dg (run T 39)) lawB (ρL (.lst (ns.map .int)) a (some (.v w)) s3 s4 s5 s6 s7 s8 s9 s10 s11 s12) _ _ hh
    have d0 := hd.next xt
    refine turnA d0 (by omega) fun h2 p ms l s5 s6 s7 s8 hp hms x2 => ?_
    refine turnB hp hms (d0.next x2) (by omega) fun h3 s3 s4 s5 s6 s7 s8 s9 s10 s11 s12 x3 => ?_
    refine hK _ h3 ⟨_, _, _, _, _, _, _, _, _, _, _, rfl, ((xt.trans x2).trans x3).mono ?_⟩
    rw [List.length_append]
    simp only [List.length_singleton]
    omega
  · obtain ⟨s2, s3, s4, s5, s6, s7, s8, s9, s10, s11, s12, rfl, xt⟩ := hI
    exact s_ret (e_con rfl)
end P0

set_option Elab.async false
set_option linter.all false
set_option maxRecDepth 100000
set_option maxHeartbeats 0
open PySem PySem.W PySem.Calls PyProof.Rows
theorem PySem.Challenge.cw_pursespassed_k00_staffs_and_lines_holds : PySem.Challenge.rw_pursespassed_k00_staffs_and_lines.Holds := by
  w_on; o_law
  refine HandSHeadRun.head_any (r := OpenLaw.row PySem.Challenge.rw_pursespassed_k00_staffs_and_lines) (q := X0.qv) (H := X0.hk) (ob := X0.ob) (M := 6000) (loose := X0.names) (d := HandSHeadRun.topDef (OpenLaw.row PySem.Challenge.rw_pursespassed_k00_staffs_and_lines).prog 56) (kwd := []) X0.ob_eq
    (by kernel_rfl) (fun s => by kernel_rfl) X0.run (by kernel_rfl) (by kernel_rfl) (by kernel_rfl) (by rfl) (by first | assumption | decide +kernel) (by decide +kernel) ⟨rfl, rfl, rfl, rfl, rfl, by decide +kernel⟩ ?hw ?hc
  case hw => w_witness2
  case hc =>
    refine Mi.walk_G (l := PySem.Challenge.rw_pursespassed_k00_staffs_and_lines) (n := 63) (k := 43) (x := "script") rfl (by decide) (by kernel_rfl) ⟨rfl, by decide, by decide⟩ ?F
    intro w mg fa h Y G hmg0
    obtain ⟨K, KX, c⟩ := Y
    have hmg : mg ("law" : PySem.Str) = some (.ref fa) := by
      have e : (HandSHeadRun.topDef (OpenLaw.row PySem.Challenge.rw_pursespassed_k00_staffs_and_lines).prog 56).name = ("law" : PySem.Str) := by kernel_rfl
      rw [← e]
      exact hmg0
    exact ⟨K, KX, Mi.LayI.law X0.chk X0.bnd X0.bkw X0.prims (Mi.LayI.prims_lt X0.hasDraw) (i := 29) (d := 40) (e := X0.e_law) rfl rfl rfl rfl P0.plain KX G c hmg⟩

