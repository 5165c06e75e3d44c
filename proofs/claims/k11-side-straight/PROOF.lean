import PyProof.Rows.All
import Wide.All
import OpenK.AllK
import Wide.FinOn
import HandS.ForMost
import HandS.ForExc
import HandS.IsInst
import HandS.Wide
import HandS.EndBits
import HandS.Conv
import HandS.Style
import HandS.CallRecv
import HandS.TupLe
import HandS.TryOnly
import PySem.Challenge.RW_bendwright_k11_whole_side_straight
set_option Elab.async false
set_option linter.all false
set_option maxRecDepth 100000
section S_RF1
set_option maxHeartbeats 4000000
/-! RF1: plain data D; how a value and a heap stand for data; what stays. -/
namespace RF
open PySem L2

inductive D where
  | non | bl (b : Bool) | int (i : Int) | str (x : Str) | tup (l : List D) | lst (l : List D) | obj (c : Nat) (l : List D)

mutual
def D.beq : D → D → Bool
  | .non, .non => true
  | .bl a, .bl b => a == b
  | .int a, .int b => a == b
  | .str a, .str b => a == b
  | .tup a, .tup b => D.beqs a b
  | .lst a, .lst b => D.beqs a b
  | .obj c a, .obj d b => c == d && D.beqs a b
  | _, _ => false
def D.beqs : List D → List D → Bool
  | [], [] => true
  | x :: xs, y :: ys => D.beq x y && D.beqs xs ys
  | _, _ => false
end
mutual
theorem D.beq_eq : ∀ a b : D, D.beq a b = true → a = b
  | .non, b, h => by cases b <;> simp_all [D.beq]
  | .bl _, b, h => by cases b <;> simp_all [D.beq]
  | .int _, b, h => by cases b <;> simp_all [D.beq]
  | .str _, b, h => by cases b <;> simp_all [D.beq]
  | .tup a, b, h => by
    cases b <;> simp only [D.beq] at h <;> first | cases h | skip
    rw [D.beqs_eq a _ h]
  | .lst a, b, h => by
    cases b <;> simp only [D.beq] at h <;> first | cases h | skip
    rw [D.beqs_eq a _ h]
  | .obj c a, b, h => by
    cases b <;> simp only [D.beq, Bool.and_eq_true, beq_iff_eq] at h <;> first | cases h | skip
    rename_i h1 h2
    rw [h1, D.beqs_eq a _ h2]
theorem D.beqs_eq : ∀ a b : List D, D.beqs a b = true → a = b
  | [], b, h => by cases b <;> simp_all [D.beqs]
  | x :: xs, b, h => by
    cases b with
    | nil => simp [D.beqs] at h
    | cons y ys =>
      simp only [D.beqs, Bool.and_eq_true] at h
      rw [D.beq_eq x y h.1, D.beqs_eq xs ys h.2]
end
mutual
theorem D.beq_refl : ∀ a : D, D.beq a a = true
  | .non => rfl
  | .bl _ => by simp [D.beq]
  | .int _ => by simp [D.beq]
  | .str _ => by simp [D.beq]
  | .tup a => by rw [D.beq]; exact D.beqs_refl a
  | .lst a => by rw [D.beq]; exact D.beqs_refl a
  | .obj c a => by rw [D.beq, D.beqs_refl a]; simp
theorem D.beqs_refl : ∀ a : List D, D.beqs a a = true
  | [] => rfl
  | x :: xs => by rw [D.beqs, D.beq_refl x, D.beqs_refl xs]; rfl
end
theorem D.beqs_iff {a b : List D} : D.beqs a b = true ↔ a = b := ⟨D.beqs_eq a b, fun h => h ▸ D.beqs_refl a⟩

/-! does the list l stand in d -/
mutual
def D.occ (l : List D) : D → Bool
  | .tup ds => D.occs l ds
  | .lst ds => D.beqs ds l || D.occs l ds
  | .obj _ ds => D.occs l ds
  | _ => false
def D.occs (l : List D) : List D → Bool
  | [] => false
  | d :: ds => D.occ l d || D.occs l ds
end
/-! no list in it -/
mutual
def D.flat : D → Bool
  | .tup ds => D.flats ds
  | .lst _ => false
  | .obj _ ds => D.flats ds
  | _ => true
def D.flats : List D → Bool
  | [] => true
  | d :: ds => D.flat d && D.flats ds
end
mutual
theorem D.occ_flat (l : List D) : ∀ d : D, d.flat = true → D.occ l d = false
  | .non, _ => rfl
  | .bl _, _ => rfl
  | .int _, _ => rfl
  | .str _, _ => rfl
  | .tup ds, h => by rw [D.occ]; exact D.occs_flat l ds (by simpa [D.flat] using h)
  | .lst ds, h => by simp [D.flat] at h
  | .obj _ ds, h => by rw [D.occ]; exact D.occs_flat l ds (by simpa [D.flat] using h)
theorem D.occs_flat (l : List D) : ∀ ds : List D, D.flats ds = true → D.occs l ds = false
  | [], _ => rfl
  | d :: ds, h => by
    simp only [D.flats, Bool.and_eq_true] at h
    rw [D.occs, D.occ_flat l d h.1, D.occs_flat l ds h.2]; rfl
end

/-- what is fixed through a law: the written part, where the classes stand (and their fields' names), where the own errors stand -/
structure Wd where
  K : PySem.W.Frag
  cl : Nat → Option Addr
  cn : Nat → List Str
  xc : Nat → Addr
  ci : ∀ c d C, cl c = some C → cl d = some C → c = d

def KL (K : PySem.W.Frag) (a : Addr) (xs : List V) : Prop :=
  ∃ (o : Obj) (its : Array Value) (n : Nat), K.lookup a = some o ∧ o.cls = .type "list" ∧ o.dict = none ∧ o.data = .seq its n ∧ its.size ≤ sizeLine ∧ Vals xs its.toList
def KT (K : PySem.W.Frag) (a : Addr) (xs : List V) : Prop :=
  ∃ (o : Obj) (its : Array Value) (n : Nat), K.lookup a = some o ∧ o.cls = .type "tuple" ∧ o.data = .seq its n ∧ its.size ≤ sizeLine ∧ Vals xs its.toList

mutual
/-- v stands for d in H; its lists and objects are at addresses of S (what is never changed) -/
inductive Dp (W : Wd) (S : Addr → Prop) (H : Hp) : V → D → Prop
  | non : Dp W S H .non .non
  | bl (b : Bool) : Dp W S H (.bl b) (.bl b)
  | int (i : Int) : Dp W S H (.int i) (.int i)
  | str (x : Str) : Dp W S H (.str x) (.str x)
  | tup {a : Addr} {vs : List V} {ds : List D} : Rd H a (.tup vs) → Dps W S H vs ds → Dp W S H (.ref a) (.tup ds)
  | tupK {a : Addr} {vs : List V} {ds : List D} : KT W.K a vs → Dps W S H vs ds → Dp W S H (.ref a) (.tup ds)
  | lst {a : Addr} {vs : List V} {ds : List D} : S a → Rd H a (.lst vs) → Dps W S H vs ds → Dp W S H (.ref a) (.lst ds)
  | lstK {a : Addr} {vs : List V} {ds : List D} : KL W.K a vs → Dps W S H vs ds → Dp W S H (.ref a) (.lst ds)
  | obj {a dx C : Addr} {c : Nat} {vs : List V} {ds : List D} : S a → W.cl c = some C → H a = some (.ins C dx ((W.cn c).zip vs)) → vs.length = (W.cn c).length → Dps W S H vs ds → Dp W S H (.ref a) (.obj c ds)
inductive Dps (W : Wd) (S : Addr → Prop) (H : Hp) : List V → List D → Prop
  | nil : Dps W S H [] []
  | cons {v : V} {vs : List V} {d : D} {ds : List D} : Dp W S H v d → Dps W S H vs ds → Dps W S H (v :: vs) (d :: ds)
end

/-- what is tracked is not written -/
def Disj (W : Wd) (H : Hp) : Prop := ∀ a o, W.K.lookup a = some o → H a = none

/-- what stands for data goes on to -/
structure Keep (S : Addr → Prop) (H : Hp) (S' : Addr → Prop) (H' : Hp) : Prop where
  sub : ∀ a, S a → S' a
  obs : ∀ a o, S a → H a = some o → H' a = some o
  tup : ∀ a vs, H a = some (.tup vs) → H' a = some (.tup vs)
  frz : ∀ a o u, H a = some (.frz o u) → H' a = some (.frz o u)
theorem Keep.refl {S : Addr → Prop} {H : Hp} : Keep S H S H := ⟨fun _ h => h, fun _ _ _ h => h, fun _ _ h => h, fun _ _ _ h => h⟩
theorem Keep.trans {S S1 S2 : Addr → Prop} {H H1 H2 : Hp} (a : Keep S H S1 H1) (b : Keep S1 H1 S2 H2) : Keep S H S2 H2 :=
  ⟨fun x h => b.sub x (a.sub x h), fun x o h e => b.obs x o (a.sub x h) (a.obs x o h e), fun x vs e => b.tup x vs (a.tup x vs e), fun x o u e => b.frz x o u (a.frz x o u e)⟩
mutual
theorem Dp.keep {W : Wd} {S S' : Addr → Prop} {H H' : Hp} (k : Keep S H S' H') : ∀ {v : V} {d : D}, Dp W S H v d → Dp W S' H' v d
  | _, _, .non => .non
  | _, _, .bl b => .bl b
  | _, _, .int i => .int i
  | _, _, .str x => .str x
  | _, _, .tup h r => .tup (by
      rcases h with h | ⟨o, h⟩
      · exact .inl (k.tup _ _ h)
      · exact .inr ⟨o, k.frz _ _ _ h⟩) (Dps.keep k r)
  | _, _, .tupK h r => .tupK h (Dps.keep k r)
  | _, _, .lst s h r => .lst (k.sub _ s) (by
      rcases h with h | ⟨o, h⟩
      · exact .inl (k.obs _ _ s h)
      · exact .inr ⟨o, k.frz _ _ _ h⟩) (Dps.keep k r)
  | _, _, .lstK h r => .lstK h (Dps.keep k r)
  | _, _, .obj s hc h l r => .obj (k.sub _ s) hc (k.obs _ _ s h) l (Dps.keep k r)
theorem Dps.keep {W : Wd} {S S' : Addr → Prop} {H H' : Hp} (k : Keep S H S' H') : ∀ {vs : List V} {ds : List D}, Dps W S H vs ds → Dps W S' H' vs ds
  | _, _, .nil => .nil
  | _, _, .cons h t => .cons (Dp.keep k h) (Dps.keep k t)
end
theorem Dps.length {W : Wd} {S : Addr → Prop} {H : Hp} : ∀ {vs : List V} {ds : List D}, Dps W S H vs ds → vs.length = ds.length
  | _, _, .nil => rfl
  | _, _, .cons _ t => by rw [List.length_cons, List.length_cons, Dps.length t]
theorem Dps.get {W : Wd} {S : Addr → Prop} {H : Hp} : ∀ {vs : List V} {ds : List D} {i : Nat} {d : D}, Dps W S H vs ds → ds[i]? = some d → ∃ v, vs[i]? = some v ∧ Dp W S H v d
  | _, _, _, _, .nil, e => by simp at e
  | _, _, 0, _, .cons h _, e => by simp at e; subst e; exact ⟨_, rfl, h⟩
  | _, _, i + 1, d, .cons _ t, e => by
    obtain ⟨u, h1, h2⟩ := Dps.get (i := i) (d := d) t (by simpa using e)
    exact ⟨u, by simpa using h1, h2⟩
theorem Dps.getV {W : Wd} {S : Addr → Prop} {H : Hp} {vs : List V} {ds : List D} {i : Nat} {v : V} (h : Dps W S H vs ds) (e : vs[i]? = some v) : ∃ d, ds[i]? = some d ∧ Dp W S H v d := by
  have hl := h.length
  have hi : i < ds.length := by
    have := (List.getElem?_eq_some_iff.mp e).1
    omega
  obtain ⟨u, h1, h2⟩ := h.get (List.getElem?_eq_getElem hi)
  rw [h1] at e
  cases e
  exact ⟨_, List.getElem?_eq_getElem hi, h2⟩
theorem Dps.append {W : Wd} {S : Addr → Prop} {H : Hp} : ∀ {vs us : List V} {ds es : List D}, Dps W S H vs ds → Dps W S H us es → Dps W S H (vs ++ us) (ds ++ es)
  | _, _, _, _, .nil, s => s
  | _, _, _, _, .cons r t, s => .cons r (Dps.append t s)
theorem Dps.take {W : Wd} {S : Addr → Prop} {H : Hp} : ∀ {vs : List V} {ds : List D} (n : Nat), Dps W S H vs ds → Dps W S H (vs.take n) (ds.take n)
  | _, _, 0, _ => .nil
  | _, _, _ + 1, .nil => .nil
  | _, _, n + 1, .cons r t => .cons r (Dps.take n t)
theorem Dps.drop {W : Wd} {S : Addr → Prop} {H : Hp} : ∀ {vs : List V} {ds : List D} (n : Nat), Dps W S H vs ds → Dps W S H (vs.drop n) (ds.drop n)
  | _, _, 0, r => r
  | _, _, _ + 1, .nil => .nil
  | _, _, n + 1, .cons _ t => Dps.drop n t
theorem Dps.set {W : Wd} {S : Addr → Prop} {H : Hp} {v : V} {d : D} (r : Dp W S H v d) : ∀ {vs : List V} {ds : List D} (i : Nat), Dps W S H vs ds → Dps W S H (vs.set i v) (ds.set i d)
  | _, _, _, .nil => .nil
  | _, _, 0, .cons _ t => .cons r t
  | _, _, i + 1, .cons q t => .cons q (Dps.set r i t)
theorem Dps.erase {W : Wd} {S : Addr → Prop} {H : Hp} : ∀ {vs : List V} {ds : List D} (i : Nat), Dps W S H vs ds → Dps W S H (vs.eraseIdx i) (ds.eraseIdx i)
  | _, _, _, .nil => .nil
  | _, _, 0, .cons _ t => t
  | _, _, i + 1, .cons q t => .cons q (Dps.erase i t)
theorem Dps.reverse {W : Wd} {S : Addr → Prop} {H : Hp} : ∀ {vs : List V} {ds : List D}, Dps W S H vs ds → Dps W S H vs.reverse ds.reverse
  | _, _, .nil => .nil
  | _, _, .cons q t => by rw [List.reverse_cons, List.reverse_cons]; exact Dps.append (Dps.reverse t) (.cons q .nil)

/-! ### one value, one datum -/
theorem KT.look {K : PySem.W.Frag} {a : Addr} {xs : List V} (h : KT K a xs) : ∃ o, K.lookup a = some o := let ⟨o, _, _, h, _⟩ := h; ⟨o, h⟩
theorem KL.look {K : PySem.W.Frag} {a : Addr} {xs : List V} (h : KL K a xs) : ∃ o, K.lookup a = some o := let ⟨o, _, _, h, _⟩ := h; ⟨o, h⟩
theorem KT.inj {K : PySem.W.Frag} {a : Addr} {xs ys : List V} (h : KT K a xs) (h' : KT K a ys) : xs = ys := by
  obtain ⟨o, its, n, e, _, d, _, r⟩ := h
  obtain ⟨o', its', n', e', _, d', _, r'⟩ := h'
  rw [e] at e'; cases e'
  rw [d] at d'; cases d'
  exact r.inj r'
theorem KL.inj {K : PySem.W.Frag} {a : Addr} {xs ys : List V} (h : KL K a xs) (h' : KL K a ys) : xs = ys := by
  obtain ⟨o, its, n, e, _, _, d, _, r⟩ := h
  obtain ⟨o', its', n', e', _, _, d', _, r'⟩ := h'
  rw [e] at e'; cases e'
  rw [d] at d'; cases d'
  exact r.inj r'
theorem KT.not {K : PySem.W.Frag} {a : Addr} {xs ys : List V} (h : KT K a xs) (h' : KL K a ys) : False := by
  obtain ⟨o, its, n, e, c, d, _, r⟩ := h
  obtain ⟨o', its', n', e', c', _, d', _, r'⟩ := h'
  rw [e] at e'; cases e'
  rw [c] at c'
  exact absurd c' (by decide)
theorem rd_some {H : Hp} {a : Addr} {u : HO} (h : Rd H a u) : H a ≠ none := by
  rcases h with h | ⟨o, h⟩ <;> (rw [h]; intro z; cases z)
theorem rd_inj {H : Hp} {a : Addr} {u u' : HO} (h : Rd H a u) (h' : Rd H a u') (nu : ∀ o x, u ≠ .frz o x) (nu' : ∀ o x, u' ≠ .frz o x) : u = u' := by
  rcases h with h | ⟨o, h⟩ <;> rcases h' with h' | ⟨o', h'⟩
  · rw [h] at h'; cases h'; rfl
  · rw [h] at h'; cases h'; exact absurd rfl (nu _ _)
  · rw [h'] at h; cases h; exact absurd rfl (nu' _ _)
  · rw [h] at h'; cases h'; rfl
theorem zip_inj {α β : Type} : ∀ {ns : List α} {xs ys : List β}, xs.length = ns.length → ys.length = ns.length → ns.zip xs = ns.zip ys → xs = ys
  | [], [], [], _, _, _ => rfl
  | [], _ :: _, _, h, _, _ => by simp at h
  | [], [], _ :: _, _, h, _ => by simp at h
  | _ :: _, [], _, h, _, _ => by simp at h
  | _ :: _, _ :: _, [], _, h, _ => by simp at h
  | n :: ns, x :: xs, y :: ys, h, h', e => by
    simp only [List.zip_cons_cons, List.cons.injEq, Prod.mk.injEq, true_and] at e
    rw [e.1, zip_inj (by simpa using h) (by simpa using h') e.2]
section
variable {W : Wd} {S S' : Addr → Prop} {H : Hp}
mutual
theorem Dp.inj (dj : Disj W H) : ∀ {v : V} {d d' : D}, Dp W S H v d → Dp W S' H v d' → d = d'
  | _, _, _, .non, h' => by cases h'; rfl
  | _, _, _, .bl _, h' => by cases h'; rfl
  | _, _, _, .int _, h' => by cases h'; rfl
  | _, _, _, .str _, h' => by cases h'; rfl
  | _, _, _, .tup h r, h' => by
    cases h' with
    | tup q r' =>
      have e := rd_inj h q (fun _ _ z => nomatch z) (fun _ _ z => nomatch z)
      cases e
      rw [Dps.inj dj r r']
    | tupK q _ => obtain ⟨o, z⟩ := q.look; exact absurd (dj _ _ z) (rd_some h)
    | lst _ q _ =>
      have e := rd_inj h q (fun _ _ z => nomatch z) (fun _ _ z => nomatch z)
      cases e
    | lstK q _ => obtain ⟨o, z⟩ := q.look; exact absurd (dj _ _ z) (rd_some h)
    | obj _ _ q _ _ =>
      have e := rd_inj h (.inl q) (fun _ _ z => nomatch z) (fun _ _ z => nomatch z)
      cases e
  | _, _, _, .tupK h r, h' => by
    obtain ⟨o, z⟩ := h.look
    cases h' with
    | tup q _ => exact absurd (dj _ _ z) (rd_some q)
    | tupK q r' => cases h.inj q; rw [Dps.inj dj r r']
    | lst _ q _ => exact absurd (dj _ _ z) (rd_some q)
    | lstK q _ => exact (h.not q).elim
    | obj _ _ q _ _ => rw [dj _ _ z] at q; cases q
  | _, _, _, .lst s h r, h' => by
    cases h' with
    | tup q _ =>
      have e := rd_inj h q (fun _ _ z => nomatch z) (fun _ _ z => nomatch z)
      cases e
    | tupK q _ => obtain ⟨o, z⟩ := q.look; exact absurd (dj _ _ z) (rd_some h)
    | lst _ q r' =>
      have e := rd_inj h q (fun _ _ z => nomatch z) (fun _ _ z => nomatch z)
      cases e
      rw [Dps.inj dj r r']
    | lstK q _ => obtain ⟨o, z⟩ := q.look; exact absurd (dj _ _ z) (rd_some h)
    | obj _ _ q _ _ =>
      have e := rd_inj h (.inl q) (fun _ _ z => nomatch z) (fun _ _ z => nomatch z)
      cases e
  | _, _, _, .lstK h r, h' => by
    obtain ⟨o, z⟩ := h.look
    cases h' with
    | tup q _ => exact absurd (dj _ _ z) (rd_some q)
    | tupK q _ => exact (q.not h).elim
    | lst _ q _ => exact absurd (dj _ _ z) (rd_some q)
    | lstK q r' => cases h.inj q; rw [Dps.inj dj r r']
    | obj _ _ q _ _ => rw [dj _ _ z] at q; cases q
  | _, _, _, .obj s hc h l r, h' => by
    cases h' with
    | tup q _ =>
      have e := rd_inj (.inl h) q (fun _ _ z => nomatch z) (fun _ _ z => nomatch z)
      cases e
    | tupK q _ => obtain ⟨o, z⟩ := q.look; rw [dj _ _ z] at h; cases h
    | lst _ q _ =>
      have e := rd_inj (.inl h) q (fun _ _ z => nomatch z) (fun _ _ z => nomatch z)
      cases e
    | lstK q _ => obtain ⟨o, z⟩ := q.look; rw [dj _ _ z] at h; cases h
    | obj _ hc' q l' r' =>
      rw [h] at q
      injection q with q
      injection q with q1 q2 q3
      have e := W.ci _ _ _ hc (by rw [q1]; exact hc')
      subst e
      have e2 := zip_inj l l' q3
      subst e2
      rw [Dps.inj dj r r']
theorem Dps.inj (dj : Disj W H) : ∀ {vs : List V} {ds ds' : List D}, Dps W S H vs ds → Dps W S' H vs ds' → ds = ds'
  | _, _, _, .nil, h' => by cases h'; rfl
  | _, _, _, .cons h t, h' => by
    cases h' with
    | cons h2 t2 => rw [Dp.inj dj h h2, Dps.inj dj t t2]
end
/-! an own list at p that does not stand in d: d stands without it -/
mutual
theorem Dp.strip {p : Addr} {ws : List V} {l : List D} (dj : Disj W H) (hp : H p = some (.lst ws)) (hl : Dps W S' H ws l) : ∀ {v : V} {d : D}, Dp W S H v d → D.occ l d = false → Dp W (fun a => S a ∧ a ≠ p) H v d
  | _, _, .non, _ => .non
  | _, _, .bl b, _ => .bl b
  | _, _, .int i, _ => .int i
  | _, _, .str x, _ => .str x
  | _, _, .tup h r, e => .tup h (Dps.strip dj hp hl r (by simpa [D.occ] using e))
  | _, _, .tupK h r, e => .tupK h (Dps.strip dj hp hl r (by simpa [D.occ] using e))
  | _, _, .lst (a := a) (vs := vs) (ds := ds) s h r, e => by
    simp only [D.occ, Bool.or_eq_false_iff] at e
    refine .lst ⟨s, fun z => ?_⟩ h (Dps.strip dj hp hl r e.2)
    subst z
    have q := rd_inj h (.inl hp) (fun _ _ z => nomatch z) (fun _ _ z => nomatch z)
    cases q
    have q2 := Dps.inj dj r hl
    rw [q2, D.beqs_refl] at e
    exact absurd e.1 (by decide)
  | _, _, .lstK h r, e => by
    simp only [D.occ, Bool.or_eq_false_iff] at e
    exact .lstK h (Dps.strip dj hp hl r e.2)
  | _, _, .obj s hc h ll r, e => .obj ⟨s, fun z => by subst z; rw [hp] at h; cases h⟩ hc h ll (Dps.strip dj hp hl r (by simpa [D.occ] using e))
theorem Dps.strip {p : Addr} {ws : List V} {l : List D} (dj : Disj W H) (hp : H p = some (.lst ws)) (hl : Dps W S' H ws l) : ∀ {vs : List V} {ds : List D}, Dps W S H vs ds → D.occs l ds = false → Dps W (fun a => S a ∧ a ≠ p) H vs ds
  | _, _, .nil, _ => .nil
  | _, _, .cons h t, e => by
    simp only [D.occs, Bool.or_eq_false_iff] at e
    exact .cons (Dp.strip dj hp hl h e.1) (Dps.strip dj hp hl t e.2)
end
end
/-- a list that is no part of S is changed -/
theorem Keep.mut {S : Addr → Prop} {H : Hp} {p : Addr} {ws : List V} {o : HO} (np : ¬ S p) (hp : H p = some (.lst ws)) : Keep S H S (upd H p o) :=
  ⟨fun _ h => h, fun a u s e => by
    have z : a ≠ p := fun z => by subst z; exact np s
    rw [upd_ne z]; exact e, fun a vs e => by
    have z : a ≠ p := fun z => by rw [z, hp] at e; cases e
    rw [upd_ne z]; exact e, fun a u x e => by
    have z : a ≠ p := fun z => by rw [z, hp] at e; cases e
    rw [upd_ne z]; exact e⟩

/-! ### a step: all that stood stands, what is fixed more is new -/
structure Step (S : Addr → Prop) (H : Hp) (S' : Addr → Prop) (H' : Hp) : Prop where
  same : Same H H'
  sub : ∀ a, S a → S' a
  new : ∀ a, S' a → S a ∨ H a = none
  liv : ∀ a, S' a → H' a ≠ none
theorem Step.keep {S S' : Addr → Prop} {H H' : Hp} (s : Step S H S' H') : Keep S H S' H' := ⟨s.sub, fun a o _ e => s.same a o e, fun a _ e => s.same a _ e, fun a _ _ e => s.same a _ e⟩
theorem Step.refl {S : Addr → Prop} {H : Hp} (l : ∀ a, S a → H a ≠ none) : Step S H S H := ⟨Same.refl H, fun _ h => h, fun _ h => .inl h, l⟩
theorem Step.trans {S S1 S2 : Addr → Prop} {H H1 H2 : Hp} (a : Step S H S1 H1) (b : Step S1 H1 S2 H2) : Step S H S2 H2 :=
  ⟨a.same.trans b.same, fun x h => b.sub x (a.sub x h), fun x h => by
    rcases b.new x h with z | z
    · exact a.new x z
    · exact .inr (a.same.free z), b.liv⟩
theorem same_upd {H : Hp} {p : Addr} {o : HO} (h : H p = none) : Same H (upd H p o) := fun b x e => by
  rw [upd_ne (ne_of_none e h)]
  exact e
/-- a new thing that is not fixed -/
theorem Step.new0 {S : Addr → Prop} {H : Hp} {p : Addr} {o : HO} (l : ∀ a, S a → H a ≠ none) (h : H p = none) : Step S H S (upd H p o) :=
  ⟨same_upd h, fun _ h => h, fun _ h => .inl h, fun a s => by
    have z : a ≠ p := fun z => by subst z; exact l a s h
    rw [upd_ne z]
    exact l a s⟩
/-- a new thing that is fixed -/
theorem Step.new1 {S : Addr → Prop} {H : Hp} {p : Addr} {o : HO} (l : ∀ a, S a → H a ≠ none) (h : H p = none) : Step S H (fun a => S a ∨ a = p) (upd H p o) :=
  ⟨same_upd h, fun _ h => .inl h, fun a s => by
    rcases s with s | s
    · exact .inl s
    · exact .inr (s ▸ h), fun a s => by
    by_cases e : a = p
    · rw [e, upd_same]; intro z; cases z
    · rw [upd_ne e]
      rcases s with s | s
      · exact l a s
      · exact absurd s e⟩
theorem Inv.disj {X : Cx} {W : Wd} {pins : List (Addr × Obj)} {σ : St} {H : Hp} {s : Shared} (hK : X.K = W.K) (I : Inv X pins σ H s) : Disj W H := fun a o e => by
  rw [← hK] at e
  exact (I.bs a o (I.ok.mod.kin a o e)).2
end RF

end S_RF1
section S_RF2
set_option maxHeartbeats 4000000
/-! RF2: the IR and its evaluator. -/
namespace RF
open PySem L2

inductive R (α : Type) where
  | ok (a : α) | exc (c : Nat) | bad
def R.bind {α β : Type} : R α → (α → R β) → R β
  | .ok a, f => f a
  | .exc c, _ => .exc c
  | .bad, _ => .bad
theorem R.bind_ok {α β : Type} (a : α) (f : α → R β) : R.bind (.ok a) f = f a := (rfl)
theorem R.bind_exc {α β : Type} (c : Nat) (f : α → R β) : R.bind (.exc c) f = .exc c := (rfl)
theorem R.bind_bad {α β : Type} (f : α → R β) : R.bind .bad f = .bad := (rfl)

/-- by a truth -/
def onT {α : Type} (o : Option Bool) (a b : R α) : R α := match o with
  | some true => a
  | some false => b
  | none => .bad
theorem onT_t {α : Type} (a b : R α) : onT (some true) a b = a := (rfl)
theorem onT_f {α : Type} (a b : R α) : onT (some false) a b = b := (rfl)
theorem onT_n {α : Type} (a b : R α) : onT none a b = .bad := (rfl)

def withO {α β : Type} (o : Option α) (f : α → R β) : R β := match o with
  | some x => f x
  | none => .bad
theorem withO_s {α β : Type} (x : α) (f : α → R β) : withO (some x) f = f x := (rfl)

inductive BOp where
  | add | sub | mul | fdiv | mod | pow | shl
inductive COp where
  | lt | le | gt | ge | eq | ne | isN | notN | inn | nin
inductive Ty where
  | int | bool | tuple | list | str
inductive BI where
  | len | abs | min | list | tuple | all | any | sum
inductive IK where
  | seq | rng | enum | zip
inductive Tg where
  | nm (i : Nat) | tp (l : List Nat)

inductive CE where
  | var (i : Nat) | c (d : D) | glb (g : Nat)
  | neg (a : CE) | nt (a : CE)
  | bin (o : BOp) (a b : CE) | cmp (o : COp) (a b : CE) | cmp2 (o o' : COp) (a b c : CE)
  | and (a b : CE) | or (a b : CE) | ife (c a b : CE)
  | nil | cons (a as : CE) | tup (as : CE) | lst (as : CE)
  | idx (a b : CE) | sl (a lo hi : CE)
  | call (f : Nat) (as : CE) | callf (f : Nat) (as : CE) | rep (as b : CE) | lrg (a : CE) | rev (a : CE) | bi (b : BI) (as : CE) | isi (a : CE) (t : Ty)
  | comp (k : IK) (g : Tg) (vs : List Nat) (it cd e : CE)
  | fld (a : CE) (f : Nat) | mk (c : Nat) (as : CE) | isC (a : CE) (c : Nat) | meth (a : CE) (m : Nat) (as : CE)

inductive Slot where
  | no | val (d : D) | own (l : List D)
abbrev Env := List Slot
def Slot.d : Slot → Option D
  | .no => none
  | .val d => some d
  | .own l => some (.lst l)
def slotD (ρ : Env) (i : Nat) : Option D := match ρ[i]? with
  | some s => s.d
  | none => none

/-- of classes: the fields, which of them __init__ copies, which class is under which, the methods -/
structure CT where
  cf : Nat → List Nat
  ini : Nat → Option (List Bool)
  sub : Nat → Nat → Bool
  mt : Nat → Nat → Option Nat
/-- the tables: what a def is worth, the fields of a class (by the attributes' numbers), the module's constants -/
structure Tab where
  call : Nat → List D → R D
  cf : CT
  gl : Nat → Option D

def lim : Nat := 100000

mutual
/-- as the library's own data -/
def D.toP : D → Option PyData
  | .non => some .none
  | .bl b => some (.bool b)
  | .int i => some (.int i)
  | .str x => some (.str x)
  | .tup l => (D.toPs l).map .tuple
  | .lst l => (D.toPs l).map .list
  | .obj _ _ => none
def D.toPs : List D → Option (List PyData)
  | [] => some []
  | d :: ds => match D.toP d, D.toPs ds with
    | some p, some ps => some (p :: ps)
    | _, _ => none
end
/-- == -/
def eqD (a b : D) : R Bool := match D.toP a, D.toP b with
  | some p, some q => if (SeqAt.shaped p && SeqAt.shaped q) = true then .ok (PyData.eqv p q) else .bad
  | _, _ => .bad
def flatD : D → Bool
  | .non => true
  | .bl _ => true
  | .int _ => true
  | .str _ => true
  | _ => false
/-- == of flat data -/
def eqF : D → D → Bool
  | .non, .non => true
  | .bl a, .bl b => a == b
  | .bl a, .int b => (if a then 1 else 0) == b
  | .int a, .bl b => a == (if b then 1 else 0)
  | .int a, .int b => a == b
  | .str a, .str b => a == b
  | _, _ => false
def inD (x : D) (l : List D) : Bool := l.any fun y => eqF y x
def seqOf : D → Option (List D)
  | .tup l => some l
  | .lst l => some l
  | _ => none

def evBin : BOp → D → D → R D
  | .add, .int i, .int j => .ok (.int (i + j))
  | .add, .lst a, .lst b => if a.length + b.length ≤ lim then .ok (.lst (a ++ b)) else .bad
  | .add, .tup a, .tup b => if a ≠ [] ∧ a.length + b.length ≤ lim then .ok (.tup (a ++ b)) else .bad
  | .sub, .int i, .int j => .ok (.int (i - j))
  | .mul, .int i, .int j => if i.natAbs.log2 + j.natAbs.log2 < 1000000 then .ok (.int (i * j)) else .bad
  | .fdiv, .int i, .int j => if j ≠ 0 ∧ j.natAbs.log2 < 9000 then .ok (.int (i.fdiv j)) else .bad
  | .mod, .int i, .int j => if j ≠ 0 then .ok (.int (i.fmod j)) else .bad
  | .shl, .int i, .int j => if 0 ≤ j ∧ j ≤ 1000000 ∧ i.natAbs < 2 ^ 64 then .ok (.int (i * 2 ^ j.toNat)) else .bad
  | .pow, .int i, .int j => if 0 ≤ j ∧ j ≤ 1000000 ∧ i.natAbs < 2 ^ 64 then .ok (.int (i ^ j.toNat)) else .bad
  | _, _, _ => .bad
def D.isNon : D → Bool
  | .non => true
  | _ => false
def evCmp : COp → D → D → R D
  | .lt, .int i, .int j => .ok (.bl (decide (i < j)))
  | .le, .int i, .int j => .ok (.bl (decide (i ≤ j)))
  | .gt, .int i, .int j => .ok (.bl (decide (j < i)))
  | .ge, .int i, .int j => .ok (.bl (decide (j ≤ i)))
  | .eq, a, b => (eqD a b).bind fun r => .ok (.bl r)
  | .ne, a, b => (eqD a b).bind fun r => .ok (.bl (!r))
  | .isN, a, .non => .ok (.bl a.isNon)
  | .notN, a, .non => .ok (.bl (!a.isNon))
  | .isN, .bl a, .bl b => .ok (.bl (decide (a = b)))
  | .notN, .bl a, .bl b => .ok (.bl (!decide (a = b)))
  | .inn, a, b => match seqOf b with
    | some l => if (flatD a && l.all flatD) = true then .ok (.bl (inD a l)) else .bad
    | none => .bad
  | .nin, a, b => match seqOf b with
    | some l => if (flatD a && l.all flatD) = true then .ok (.bl (!inD a l)) else .bad
    | none => .bad
  | _, _, _ => .bad
def evIdx : D → D → R D
  | .lst l, .int i => match atI l i with
    | some d => .ok d
    | none => .bad
  | .tup l, .int i => match atI l i with
    | some d => .ok d
    | none => .bad
  | _, _ => .bad
/-- a part of a slice: none written, or an int -/
def partOf : CE → R D → R (Option Int)
  | .nil, _ => .ok none
  | _, r => r.bind fun d => match d with
    | .int i => .ok (some i)
    | _ => .bad
def cutD (l : List D) (lo hi : Option Int) : List D := (l.drop (HT.sIx l.length 0 lo)).take (HT.sIx l.length l.length hi - HT.sIx l.length 0 lo)
def evSl : D → Option Int → Option Int → R D
  | .lst l, lo, hi => .ok (.lst (cutD l lo hi))
  | .tup l, lo, hi => if HT.sIx l.length 0 lo = 0 ∧ HT.sIx l.length l.length hi = l.length then .bad else .ok (.tup (cutD l lo hi))
  | _, _, _ => .bad
def bools : List D → Option (List Bool)
  | [] => some []
  | .bl b :: r => (bools r).map (b :: ·)
  | _ :: _ => none
def intsOf : List D → Option (List Int)
  | [] => some []
  | .int b :: r => (intsOf r).map (b :: ·)
  | _ :: _ => none
def evBI : BI → List D → R D
  | .len, [.lst l] => .ok (.int l.length)
  | .len, [.tup l] => .ok (.int l.length)
  | .abs, [.int i] => .ok (.int (if i < 0 then -i else i))
  | .min, [.int i, .int j] => .ok (.int (if j < i then j else i))
  | .list, [.lst l] => .ok (.lst l)
  | .list, [.tup l] => .ok (.lst l)
  | .tuple, [.lst l] => .ok (.tup l)
  | .tuple, [.tup l] => .ok (.tup l)
  | .all, [.lst l] => match bools l with
    | some bs => .ok (.bl (bs.all id))
    | none => .bad
  | .any, [.lst l] => match bools l with
    | some bs => .ok (.bl (bs.any id))
    | none => .bad
  | .sum, [.lst l] => match intsOf l with
    | some bs => .ok (.int bs.sum)
    | none => .bad
  | _, _ => .bad
def isTy : Ty → D → Option Bool
  | .int, .int _ => some true
  | .int, .bl _ => some true
  | .bool, .bl _ => some true
  | .tuple, .tup _ => some true
  | .list, .lst _ => some true
  | .str, .str _ => some true
  | _, .obj _ _ => none
  | _, _ => some false
/-- lo, lo + c, .. -/
def upFrom (lo c : Int) : Nat → List D
  | 0 => []
  | n + 1 => .int lo :: upFrom (lo + c) c n
def evRng : List D → R (List D)
  | [.int j] => if -1000000 ≤ j ∧ j ≤ (lim : Int) then .ok (upFrom 0 1 j.toNat) else .bad
  | [.int i, .int j] => if -1000000 ≤ i ∧ i ≤ 1000000 ∧ -1000000 ≤ j ∧ j - i ≤ (lim : Int) then .ok (upFrom i 1 (j - i).toNat) else .bad
  | [.int i, .int j, .int c] => if -1000000 ≤ i ∧ i ≤ 1000000 ∧ -1000000 ≤ j ∧ j ≤ 1000000 ∧ ((c = -1 ∧ i - j ≤ (lim : Int)) ∨ (0 < c ∧ c ≤ 1000 ∧ j - i ≤ (lim : Int))) then
      (if c = -1 then .ok (upFrom i (-1) (i - j).toNat) else .ok (upFrom i c (if i < j then ((j - i - 1) / c + 1).toNat else 0))) else .bad
  | _ => .bad
def enumD (n : Nat) : List D → List D
  | [] => []
  | x :: r => .tup [.int n, x] :: enumD (n + 1) r
def zipD : List D → List D → List D
  | x :: xs, y :: ys => .tup [x, y] :: zipD xs ys
  | _, _ => []
/-- what is walked -/
def itemsOf : IK → D → R (List D)
  | .seq, .lst l => .ok l
  | .seq, .tup l => .ok l
  | .rng, .tup l => evRng l
  | .enum, .tup [.lst l] => .ok (enumD 0 l)
  | .zip, .tup [.lst l, .lst m] => .ok (zipD l m)
  | _, _ => .bad
/-- a target's slots set -/
def bindL : List Nat → List D → Env → R Env
  | [], [], ρ => .ok ρ
  | i :: is, d :: ds, ρ => bindL is ds (ρ.set i (.val d))
  | _, _, _ => .bad
def bindT : Tg → D → Env → R Env
  | .nm i, d, ρ => .ok (ρ.set i (.val d))
  | .tp l, .tup ds, ρ => bindL l ds ρ
  | .tp l, .lst ds, ρ => bindL l ds ρ
  | _, _, _ => .bad
def wipeS (ρ : Env) : List Nat → Env
  | [] => ρ
  | v :: vs => (wipeS ρ vs).set v .no
def truth : D → Option Bool
  | .bl b => some b
  | _ => none
def compF (f : D → R (Option D)) : List D → R (List D)
  | [] => .ok []
  | x :: xs => match f x with
    | .ok o => (compF f xs).bind fun ys => .ok (match o with | some y => y :: ys | none => ys)
    | _ => .bad

def fldD (T : Tab) (f : Nat) : D → R D
  | .obj c l => match (T.cf.cf c).idxOf? f with
    | some i => match l[i]? with
      | some d => .ok d
      | none => .bad
    | none => .bad
  | _ => .bad

/-- what __init__ makes of its arguments -/
def mkFs : List Bool → List D → Option (List D)
  | [], [] => some []
  | false :: fs, d :: ds => (mkFs fs ds).map (d :: ·)
  | true :: fs, .lst l :: ds => (mkFs fs ds).map (.lst l :: ·)
  | true :: fs, .tup l :: ds => (mkFs fs ds).map (.lst l :: ·)
  | _, _ => none
def mkD (T : Tab) (c : Nat) (l : List D) : R D := match T.cf.ini c with
  | some fl => match mkFs fl l with
    | some ds => .ok (.obj c ds)
    | none => .bad
  | none => .bad
/-- isinstance(x, C) -/
def isCD (T : Tab) (c : Nat) : D → Bool
  | .obj d _ => T.cf.sub d c
  | _ => false
/-- o.m(..): the def -/
def methO (T : Tab) (m : Nat) : D → Option Nat
  | .obj c _ => T.cf.mt c m
  | _ => none
/-- list(range(k)) -/
def lrgD : D → R D
  | .int k => if -1000000 ≤ k ∧ k ≤ (lim : Int) then .ok (.lst (upFrom 0 1 k.toNat)) else .bad
  | _ => .bad
/-- x[::-1] -/
def revD : D → R D
  | .lst l => .ok (.lst l.reverse)
  | _ => .bad
/-- [..] * k -/
def repD (l : List D) : D → R D
  | .int k => if -1000 ≤ k ∧ k ≤ 100000 ∧ l.length * k.toNat ≤ lim then .ok (.lst (List.replicate k.toNat l).flatten) else .bad
  | _ => .bad

def evalE (T : Tab) : CE → Env → R D
  | .var i, ρ => match slotD ρ i with
    | some d => .ok d
    | none => .bad
  | .c d, _ => .ok d
  | .glb g, _ => match T.gl g with
    | some d => .ok d
    | none => .bad
  | .neg a, ρ => (evalE T a ρ).bind fun d => match d with
    | .int i => .ok (.int (-i))
    | _ => .bad
  | .nt a, ρ => (evalE T a ρ).bind fun d => onT (truth d) (.ok (.bl false)) (.ok (.bl true))
  | .bin o a b, ρ => (evalE T a ρ).bind fun x => (evalE T b ρ).bind fun y => evBin o x y
  | .cmp o a b, ρ => (evalE T a ρ).bind fun x => (evalE T b ρ).bind fun y => evCmp o x y
  | .cmp2 o o' a b c, ρ => (evalE T a ρ).bind fun x => (evalE T b ρ).bind fun y => (evCmp o x y).bind fun r => onT (truth r) ((evalE T c ρ).bind fun z => evCmp o' y z) (.ok (.bl false))
  | .and a b, ρ => (evalE T a ρ).bind fun x => onT (truth x) (evalE T b ρ) (.ok (.bl false))
  | .or a b, ρ => (evalE T a ρ).bind fun x => onT (truth x) (.ok (.bl true)) (evalE T b ρ)
  | .ife c a b, ρ => (evalE T c ρ).bind fun x => onT (truth x) (evalE T a ρ) (evalE T b ρ)
  | .nil, _ => .ok (.tup [])
  | .cons a as, ρ => (evalE T a ρ).bind fun x => (evalE T as ρ).bind fun r => match r with
    | .tup l => .ok (.tup (x :: l))
    | _ => .bad
  | .tup as, ρ => (evalE T as ρ).bind fun r => match r with
    | .tup l => if l.length ≤ lim then .ok (.tup l) else .bad
    | _ => .bad
  | .lst as, ρ => (evalE T as ρ).bind fun r => match r with
    | .tup l => if l.length ≤ lim then .ok (.lst l) else .bad
    | _ => .bad
  | .idx a b, ρ => (evalE T a ρ).bind fun x => (evalE T b ρ).bind fun y => evIdx x y
  | .sl a lo hi, ρ => (evalE T a ρ).bind fun x => (partOf lo (evalE T lo ρ)).bind fun l => (partOf hi (evalE T hi ρ)).bind fun h => evSl x l h
  | .call f as, ρ => (evalE T as ρ).bind fun r => match r with
    | .tup l => T.call f l
    | _ => .bad
  | .callf f as, ρ => (evalE T as ρ).bind fun r => match r with
    | .tup l => T.call f l
    | _ => .bad
  | .rep as b, ρ => (evalE T as ρ).bind fun r => match r with
    | .tup l => if l.length ≤ lim then (evalE T b ρ).bind fun y => repD l y else .bad
    | _ => .bad
  | .lrg a, ρ => (evalE T a ρ).bind lrgD
  | .rev a, ρ => (evalE T a ρ).bind revD
  | .bi b as, ρ => (evalE T as ρ).bind fun r => match r with
    | .tup l => evBI b l
    | _ => .bad
  | .isi a t, ρ => (evalE T a ρ).bind fun x => match isTy t x with
    | some b => .ok (.bl b)
    | none => .bad
  | .comp k g vs it cd e, ρ => (evalE T it ρ).bind fun d => (itemsOf k d).bind fun l => if l.length ≤ lim then (compF (fun x => (bindT g x (wipeS ρ vs)).bind fun ρ' => (match cd with
        | .nil => R.ok true
        | _ => (evalE T cd ρ').bind fun r => onT (truth r) (.ok true) (.ok false)).bind fun b => if b = true then (evalE T e ρ').bind fun y => .ok (some y) else .ok none) l).bind fun r => .ok (.lst r) else .bad
  | .fld a f, ρ => (evalE T a ρ).bind fun x => fldD T f x
  | .mk c as, ρ => (evalE T as ρ).bind fun r => match r with
    | .tup l => mkD T c l
    | _ => .bad
  | .isC a c, ρ => (evalE T a ρ).bind fun x => .ok (.bl (isCD T c x))
  | .meth a m as, ρ => (evalE T a ρ).bind fun x => withO (methO T m x) fun f => (evalE T as ρ).bind fun r => match r with
    | .tup l => T.call f (x :: l)
    | _ => .bad

/-- is slot i read in it -/
def CE.men (i : Nat) : CE → Bool
  | .var j => i == j
  | CE.c _ => false
  | .glb _ => false
  | .neg a => a.men i
  | .nt a => a.men i
  | .bin _ a b => a.men i || b.men i
  | .cmp _ a b => a.men i || b.men i
  | .cmp2 _ _ a b e => a.men i || b.men i || e.men i
  | .and a b => a.men i || b.men i
  | .or a b => a.men i || b.men i
  | .ife t a b => t.men i || a.men i || b.men i
  | .nil => false
  | .cons a as => a.men i || as.men i
  | .tup as => as.men i
  | .lst as => as.men i
  | .idx a b => a.men i || b.men i
  | .sl a lo hi => a.men i || lo.men i || hi.men i
  | .call _ as => as.men i
  | .callf _ as => as.men i
  | .rep a b => a.men i || b.men i
  | .lrg a => a.men i
  | .rev a => a.men i
  | .bi _ as => as.men i
  | .isi a _ => a.men i
  | .comp _ _ _ it cd e => it.men i || cd.men i || e.men i
  | .fld a _ => a.men i
  | .mk _ as => as.men i
  | .isC a _ => a.men i
  | .meth a _ as => a.men i || as.men i
/-- what stays the frame's own behind e, whose value is d -/
def frzAt (e : CE) (d : D) : Nat → Env → Env
  | _, [] => []
  | i, .own l :: r => (if (e.men i && D.occ l d) = true then .val (.lst l) else .own l) :: frzAt e d (i + 1) r
  | i, s :: r => s :: frzAt e d (i + 1) r
def frz (ρ : Env) (e : CE) (d : D) : Env := frzAt e d 0 ρ
/-- what is walked stays as it is -/
def holdAt (e : CE) : Nat → Env → Env
  | _, [] => []
  | i, .own l :: r => (if e.men i = true then .val (.lst l) else .own l) :: holdAt e (i + 1) r
  | i, s :: r => s :: holdAt e (i + 1) r
def hold (ρ : Env) : IK → CE → Env
  | .rng, _ => ρ
  | _, e => holdAt e 0 ρ
/-- gives a new list -/
def CE.fresh : CE → Bool
  | .lst _ => true
  | .sl _ _ _ => true
  | .bi .list _ => true
  | .comp _ _ _ _ _ _ => true
  | .bin .add _ _ => true
  | .callf _ _ => true
  | .rep _ _ => true
  | .lrg _ => true
  | .rev _ => true
  | _ => false

inductive CS where
  | nil
  | set (i : Nat) (e : CE) (k : CS)
  | own (i : Nat) (e : CE) (k : CS)
  | unp (l : List Nat) (e : CE) (k : CS)
  | par (i j : Nat) (p q : Bool) (a b : CE) (k : CS)
  | par3 (i j h : Nat) (p q r : Bool) (a b c : CE) (k : CS)
  | ex (e : CE) (k : CS)
  | ret (e : CE)
  | reto (i : Nat)
  | retf (e : CE)
  | rai (c : Nat)
  | ite (c : CE) (a b k : CS)
  | forE (k : IK) (g : Tg) (it : CE) (b t : CS)
  | whl (c : CE) (b k : CS)
  | app (i : Nat) (e : CE) (k : CS)
  | ext (i : Nat) (e : CE) (k : CS)
  | pas (k : CS)
  | brk
  | wip (vs : List Nat) (k : CS)
  | sto (i : Nat) (ix e : CE) (k : CS)

inductive Out where
  | nx (ρ : Env) | rt (fr : Bool) (d : D) | bk (ρ : Env)
def loopF (g : Tg) (f : Env → R Out) : List D → Env → R Out
  | [], ρ => .ok (.nx ρ)
  | x :: xs, ρ => (bindT g x ρ).bind fun ρ1 => (f ρ1).bind fun o => match o with
    | .nx ρ2 => loopF g f xs ρ2
    | .bk ρ2 => .ok (.nx ρ2)
    | .rt fr d => .ok (.rt fr d)
def whileF (c : Env → R D) (f : Env → R Out) : Nat → Env → R Out
  | 0, _ => .bad
  | n + 1, ρ => (c ρ).bind fun x => onT (truth x) ((f ρ).bind fun o => match o with
      | .nx ρ2 => whileF c f n ρ2
      | .bk ρ2 => .ok (.nx ρ2)
      | .rt fr d => .ok (.rt fr d)) (.ok (.nx ρ))
/-- what goes into a slot: own (a new list), or not; and what of it is shared -/
def put (p : Bool) (e : CE) (d : D) : R (Slot × D) :=
  if p = true then (match d with
    | .lst l => if e.fresh = true then .ok (.own l, .tup l) else .bad
    | _ => .bad) else .ok (.val d, d)
def ownAt (ρ : Env) (i : Nat) : Option (List D) := match ρ[i]? with
  | some (.own l) => some l
  | _ => none

def asL {α : Type} (d : D) (f : List D → R α) : R α := match d with
  | .lst m => f m
  | _ => .bad
theorem asL_l {α : Type} (m : List D) (f : List D → R α) : asL (.lst m) f = f m := (rfl)
theorem asL_bad {α : Type} {d : D} {f : List D → R α} (h : ∀ l, d ≠ .lst l) : asL d f = .bad := by
  cases d <;> first | exact absurd rfl (h _) | rfl
/-- where an item goes -/
def ixD (n : Nat) : D → Option Nat
  | .int k => ixN n k
  | _ => none
def exec (T : Tab) (fuel : Nat) : CS → Env → R Out
  | .nil, ρ => .ok (.nx ρ)
  | .set i e k, ρ => (evalE T e ρ).bind fun d => exec T fuel k ((frz ρ e d).set i (.val d))
  | .own i e k, ρ => (evalE T e ρ).bind fun d => (put true e d).bind fun s => exec T fuel k ((frz ρ e s.2).set i s.1)
  | .unp l e k, ρ => (evalE T e ρ).bind fun d => (bindT (.tp l) d (frz ρ e d)).bind fun ρ1 => exec T fuel k ρ1
  | .par i j p q a b k, ρ => (evalE T a ρ).bind fun x => (put p a x).bind fun s => (evalE T b ρ).bind fun y => (put q b y).bind fun t => exec T fuel k (((frz ρ (.cons a (.cons b .nil)) (.tup [s.2, t.2])).set i s.1).set j t.1)
  | .par3 i j h p q r a b c k, ρ => (evalE T a ρ).bind fun x => (put p a x).bind fun s => (evalE T b ρ).bind fun y => (put q b y).bind fun t => (evalE T c ρ).bind fun z => (put r c z).bind fun u =>
      exec T fuel k ((((frz ρ (.cons a (.cons b (.cons c .nil))) (.tup [s.2, t.2, u.2])).set i s.1).set j t.1).set h u.1)
  | .ex e k, ρ => (evalE T e ρ).bind fun _ => exec T fuel k ρ
  | .ret e, ρ => (evalE T e ρ).bind fun d => .ok (.rt false d)
  | .reto i, ρ => withO (ownAt ρ i) fun l => .ok (.rt true (.lst l))
  | .retf e, ρ => (evalE T e ρ).bind fun d => asL d fun l => if e.fresh = true then .ok (.rt true (.lst l)) else .bad
  | .rai c, _ => .exc c
  | .ite c a b k, ρ => (evalE T c ρ).bind fun x => (onT (truth x) (exec T fuel a ρ) (exec T fuel b ρ)).bind fun o => match o with
        | .nx ρ1 => exec T fuel k ρ1
        | .bk ρ1 => .ok (.bk ρ1)
        | .rt fr d => .ok (.rt fr d)
  | .forE k g it b t, ρ => (evalE T it ρ).bind fun d => (itemsOf k d).bind fun l => if l.length ≤ lim then (loopF g (exec T fuel b) l (hold ρ k it)).bind fun o => match o with
        | .nx ρ1 => exec T fuel t ρ1
        | .bk _ => .bad
        | .rt fr d => .ok (.rt fr d) else .bad
  | .whl c b k, ρ => (whileF (evalE T c) (exec T fuel b) fuel ρ).bind fun o => match o with
        | .nx ρ1 => exec T fuel k ρ1
        | .bk _ => .bad
        | .rt fr d => .ok (.rt fr d)
  | .app i e k, ρ => withO (ownAt ρ i) fun l => (evalE T e ρ).bind fun d => if (decide (l.length < lim) && !(e.men i && D.occ l d)) = true then exec T fuel k ((frz ρ e d).set i (.own (l ++ [d]))) else .bad
  | .ext i e k, ρ => withO (ownAt ρ i) fun l => (evalE T e ρ).bind fun d => asL d fun m => if (decide (l.length + m.length ≤ lim) && !(e.men i && D.occ l (.tup m))) = true then exec T fuel k ((frz ρ e (.tup m)).set i (.own (l ++ m))) else .bad
  | .pas k, ρ => exec T fuel k ρ
  | .brk, ρ => .ok (.bk ρ)
  | .wip vs k, ρ => exec T fuel k (wipeS ρ vs)
  | .sto i ix e k, ρ => (evalE T e ρ).bind fun d => withO (ownAt (frz ρ e d) i) fun l => (evalE T ix (frz ρ e d)).bind fun y => withO (ixD l.length y) fun j => exec T fuel k ((frz ρ e d).set i (.own (l.set j d)))

/-- a def: its arity, its slots, its body -/
structure Fn where
  ar : Nat
  sl : Nat
  body : CS
  fr : Bool
def runFn (T : Tab) (fuel : Nat) (fn : Fn) (ds : List D) : R D :=
  if ds.length = fn.ar then (exec T fuel fn.body (ds.map Slot.val ++ List.replicate (fn.sl - fn.ar) Slot.no)).bind fun o => match o with
    | .rt true d => asL d fun l => .ok (.lst l)
    | .rt false d => if fn.fr = true then .bad else .ok d
    | .nx _ => if fn.fr = true then .bad else .ok .non
    | .bk _ => .bad
  else .bad
/-- the defs, level by level -/
def callF (fns : List Fn) (cf : CT) (gl : Nat → Option D) (fuel : Nat) : Nat → Nat → List D → R D
  | 0, _, _ => .bad
  | n + 1, f, ds => match fns[f]? with
    | some fn => runFn ⟨callF fns cf gl fuel n, cf, gl⟩ fuel fn ds
    | none => .bad
end RF

end S_RF2
section S_RF3
set_option maxHeartbeats 4000000
/-! RF3: readings by data; the check of an IR text against an expression; small rules. -/
namespace RF
open PySem PySem.Spec L2

structure View (W : Wd) (S : Addr → Prop) (ρ : Env) (σ : St) (H : Hp) : Prop where
  liv : ∀ a, S a → H a ≠ none
  len : ρ.length = σ.length
  slot : ∀ i d, slotD ρ i = some d → ∃ v, σ[i]? = some (some v) ∧ Dp W S H v d
theorem View.step {W : Wd} {S S' : Addr → Prop} {ρ : Env} {σ : St} {H H' : Hp} (V : View W S ρ σ H) (s : Step S H S' H') : View W S' ρ σ H' :=
  ⟨s.liv, V.len, fun i d e => let ⟨v, h1, h2⟩ := V.slot i d e; ⟨v, h1, h2.keep s.keep⟩⟩

section
variable (W : Wd) (T : Tab) (Ex : St → XK)
/-- an error of class c -/
def PX (H : Hp) (c : Nat) (E : XK) : Prop := ∀ H', Same H H' → E (.ref (W.xc c)) none H'
def Post (S : Addr → Prop) (H : Hp) (r : R D) (Q : VK) (E : XK) : Prop := match r with
  | .ok d => ∀ v S' H', Disj W H' → Step S H S' H' → Dp W S' H' v d → Q v H'
  | .exc c => PX W H c E
  | .bad => False
/-- a list comes new, and is not fixed -/
def PostF (S : Addr → Prop) (H : Hp) (r : R D) (Q : VK) (E : XK) : Prop := match r with
  | .ok (.lst l) => ∀ p vs S' H', Disj W H' → Step S H S' H' → H p = none → ¬ S' p → H' p = some (.lst vs) → Dps W S' H' vs l → Q (.ref p) H'
  | .ok d => ∀ v S' H', Disj W H' → Step S H S' H' → Dp W S' H' v d → Q v H'
  | .exc c => PX W H c E
  | .bad => False
def PostA (S : Addr → Prop) (H : Hp) (r : R D) (Q : List V → Hp → Prop) (E : XK) : Prop := match r with
  | .ok (.tup ds) => ∀ vs S' H', Disj W H' → Step S H S' H' → Dps W S' H' vs ds → Q vs H'
  | .ok _ => False
  | .exc c => PX W H c E
  | .bad => False
def PostT (S : Addr → Prop) (H : Hp) (r : R D) (Q : Bool → Hp → Prop) (E : XK) : Prop := match r with
  | .ok d => match truth d with
    | some b => ∀ S' H', Disj W H' → Step S H S' H' → Q b H'
    | none => False
  | .exc c => PX W H c E
  | .bad => False
def tD (e : CE) : TE := fun σ H Q => Disj W H → ∃ S ρ, View W S ρ σ H ∧ Post W S H (evalE T e ρ) Q (Ex σ)
def tF (e : CE) : TE := fun σ H Q => Disj W H → ∃ S ρ, View W S ρ σ H ∧ PostF W S H (evalE T e ρ) Q (Ex σ)
def tDA (e : CE) : TA := fun σ H Q => Disj W H → ∃ S ρ, View W S ρ σ H ∧ PostA W S H (evalE T e ρ) Q (Ex σ)
def tDT (e : CE) : TT := fun σ H Q => Disj W H → ∃ S ρ, View W S ρ σ H ∧ PostT W S H (evalE T e ρ) Q (Ex σ)
end

section
variable {W : Wd} {T : Tab} {Ex : St → XK} {S S' : Addr → Prop} {H H' : Hp} {Q : VK} {E : XK} {ρ : Env} {σ : St}
theorem PX.mono {c : Nat} (h : PX W H c E) (s : Same H H') : PX W H' c E := fun H2 e => h H2 (s.trans e)
theorem Post.mono {r : R D} (h : Post W S H r Q E) (s : Step S H S' H') : Post W S' H' r Q E := by
  cases r with
  | ok d => exact fun v S2 H2 dj s2 p => h v S2 H2 dj (s.trans s2) p
  | exc c => exact PX.mono h s.same
  | bad => exact h
theorem PostF.mono {r : R D} (h : PostF W S H r Q E) (s : Step S H S' H') : PostF W S' H' r Q E := by
  cases r with
  | ok d =>
    cases d with
    | lst l => exact fun p vs S2 H2 dj s2 hp np e ps => h p vs S2 H2 dj (s.trans s2) (s.same.free hp) np e ps
    | _ => exact fun v S2 H2 dj s2 p => h v S2 H2 dj (s.trans s2) p
  | exc c => exact PX.mono h s.same
  | bad => exact h
theorem PostA.mono {r : R D} {Q : List V → Hp → Prop} (h : PostA W S H r Q E) (s : Step S H S' H') : PostA W S' H' r Q E := by
  cases r with
  | ok d =>
    cases d with
    | tup l => exact fun v S2 H2 dj s2 p => h v S2 H2 dj (s.trans s2) p
    | _ => exact h
  | exc c => exact PX.mono h s.same
  | bad => exact h
theorem PostT.mono {r : R D} {Q : Bool → Hp → Prop} (h : PostT W S H r Q E) (s : Step S H S' H') : PostT W S' H' r Q E := by
  cases r with
  | ok d =>
    unfold PostT at h ⊢
    cases e : truth d with
    | none => simp only [e] at h
    | some b =>
      simp only [e] at h ⊢
      exact fun S2 H2 dj s2 => h S2 H2 dj (s.trans s2)
  | exc c => exact PX.mono h s.same
  | bad => exact h
/-- a list that is new, fixed at once -/
theorem Post.toF {r : R D} (h : Post W S H r Q E) : PostF W S H r Q E := by
  cases r with
  | ok d =>
    cases d with
    | lst l =>
      intro p vs S2 H2 dj s2 hp np e ps
      refine h (.ref p) (fun a => S2 a ∨ a = p) H2 dj ⟨s2.same, fun _ z => .inl (s2.sub _ z), fun a z => ?_, fun a z => ?_⟩ (.lst (.inr rfl) (.inl e) (ps.keep ⟨fun _ z => .inl z, fun _ _ _ z => z, fun _ _ z => z, fun _ _ _ z => z⟩))
      · rcases z with z | z
        · exact s2.new a z
        · exact .inr (z ▸ hp)
      · rcases z with z | z
        · exact s2.liv a z
        · rw [z, e]; intro q; cases q
    | _ => exact h
  | exc c => exact h
  | bad => exact h
theorem tF_of {e : CE} (h : tD W T Ex e σ H Q) : tF W T Ex e σ H Q := fun dj => let ⟨S, ρ, v, p⟩ := h dj; ⟨S, ρ, v, p.toF⟩

/-! one part after another -/
theorem tD_bind {e : CE} {f : D → R D} {R' : VK} (V : View W S ρ σ H) (P : Post W S H ((evalE T e ρ).bind f) Q (Ex σ))
    (k : ∀ x v S' H', Disj W H' → Step S H S' H' → View W S' ρ σ H' → Dp W S' H' v x → Post W S' H' (f x) Q (Ex σ) → R' v H') : tD W T Ex e σ H R' := fun _ => by
  refine ⟨S, ρ, V, ?_⟩
  cases r : evalE T e ρ with
  | ok d =>
    rw [r] at P
    exact fun v S2 H2 dj s2 p => k d v S2 H2 dj s2 (V.step s2) p (Post.mono P s2)
  | exc c => rw [r] at P; exact P
  | bad => rw [r] at P; exact P
theorem tD_bindF {e : CE} {f : D → R D} {R' : VK} (V : View W S ρ σ H) (P : PostF W S H ((evalE T e ρ).bind f) Q (Ex σ))
    (k : ∀ x v S' H', Disj W H' → Step S H S' H' → View W S' ρ σ H' → Dp W S' H' v x → PostF W S' H' (f x) Q (Ex σ) → R' v H') : tD W T Ex e σ H R' := fun _ => by
  refine ⟨S, ρ, V, ?_⟩
  cases r : evalE T e ρ with
  | ok d =>
    rw [r] at P
    exact fun v S2 H2 dj s2 p => k d v S2 H2 dj s2 (V.step s2) p (PostF.mono P s2)
  | exc c => rw [r] at P; exact P
  | bad => rw [r] at P; exact P
theorem tD_bindA {e : CE} {f : D → R D} {Q : List V → Hp → Prop} {R' : VK} (V : View W S ρ σ H) (P : PostA W S H ((evalE T e ρ).bind f) Q (Ex σ))
    (k : ∀ x v S' H', Disj W H' → Step S H S' H' → View W S' ρ σ H' → Dp W S' H' v x → PostA W S' H' (f x) Q (Ex σ) → R' v H') : tD W T Ex e σ H R' := fun _ => by
  refine ⟨S, ρ, V, ?_⟩
  cases r : evalE T e ρ with
  | ok d =>
    rw [r] at P
    exact fun v S2 H2 dj s2 p => k d v S2 H2 dj s2 (V.step s2) p (PostA.mono P s2)
  | exc c => rw [r] at P; exact P
  | bad => rw [r] at P; exact P
theorem tD_bindT {e : CE} {f : D → R D} {Q : Bool → Hp → Prop} {R' : VK} (V : View W S ρ σ H) (P : PostT W S H ((evalE T e ρ).bind f) Q (Ex σ))
    (k : ∀ x v S' H', Disj W H' → Step S H S' H' → View W S' ρ σ H' → Dp W S' H' v x → PostT W S' H' (f x) Q (Ex σ) → R' v H') : tD W T Ex e σ H R' := fun _ => by
  refine ⟨S, ρ, V, ?_⟩
  cases r : evalE T e ρ with
  | ok d =>
    rw [r] at P
    exact fun v S2 H2 dj s2 p => k d v S2 H2 dj s2 (V.step s2) p (PostT.mono P s2)
  | exc c => rw [r] at P; exact P
  | bad => rw [r] at P; exact P
/-- the arguments, then -/
theorem tDA_bind {e : CE} {f : List D → R D} {R' : List V → Hp → Prop} (V : View W S ρ σ H) (P : Post W S H ((evalE T e ρ).bind fun r => match r with | .tup l => f l | _ => .bad) Q (Ex σ))
    (k : ∀ xs vs S' H', Disj W H' → Step S H S' H' → View W S' ρ σ H' → Dps W S' H' vs xs → Post W S' H' (f xs) Q (Ex σ) → R' vs H') : tDA W T Ex e σ H R' := fun _ => by
  refine ⟨S, ρ, V, ?_⟩
  cases r : evalE T e ρ with
  | ok d =>
    rw [r] at P
    cases d with
    | tup l => exact fun v S2 H2 dj s2 p => k l v S2 H2 dj s2 (V.step s2) p (Post.mono P s2)
    | _ => exact P
  | exc c => rw [r] at P; exact P
  | bad => rw [r] at P; exact P
theorem tDA_bindF {e : CE} {f : List D → R D} {R' : List V → Hp → Prop} (V : View W S ρ σ H) (P : PostF W S H ((evalE T e ρ).bind fun r => match r with | .tup l => f l | _ => .bad) Q (Ex σ))
    (k : ∀ xs vs S' H', Disj W H' → Step S H S' H' → View W S' ρ σ H' → Dps W S' H' vs xs → PostF W S' H' (f xs) Q (Ex σ) → R' vs H') : tDA W T Ex e σ H R' := fun _ => by
  refine ⟨S, ρ, V, ?_⟩
  cases r : evalE T e ρ with
  | ok d =>
    rw [r] at P
    cases d with
    | tup l => exact fun v S2 H2 dj s2 p => k l v S2 H2 dj s2 (V.step s2) p (PostF.mono P s2)
    | _ => exact P
  | exc c => rw [r] at P; exact P
  | bad => rw [r] at P; exact P
/-- the end: the value told -/
theorem Post.fin {d : D} {v : V} (P : Post W S H (.ok d) Q E) (dj : Disj W H) (l : ∀ a, S a → H a ≠ none) (p : Dp W S H v d) : Q v H := P v S H dj (Step.refl l) p
end

/-! ### judgements, with Disj for nothing -/
section
variable {X : Cx} {W : Wd}
theorem PE.imp {e : Expr} {t t' : TE} (hK : X.K = W.K) (h : PE X e t) (i : ∀ σ H Q, Disj W H → t' σ H Q → t σ H fun v H' => Disj W H' → Q v H') : PE X e t' := ⟨fun pins s σ H Q I q =>
  wpAny_mono (h.run pins s σ H _ I (i σ H Q (RF.Inv.disj hK I) q)) (fun _ _ ⟨v, H', I', r, z⟩ => ⟨v, H', I', r, z (RF.Inv.disj hK I')⟩) fun _ _ z => z⟩
theorem PA.imp {e : List Expr} {t t' : TA} (hK : X.K = W.K) (h : PA X e t) (i : ∀ σ H Q, Disj W H → t' σ H Q → t σ H fun v H' => Disj W H' → Q v H') : PA X e t' := ⟨fun pos pins s σ H Q I q =>
  wpAny_mono (h.run pos pins s σ H _ I (i σ H Q (RF.Inv.disj hK I) q)) (fun _ _ ⟨v, H', I', r, z⟩ => ⟨v, H', I', r, z (RF.Inv.disj hK I')⟩) fun _ _ z => z⟩
theorem PT.imp {e : Expr} {t t' : TT} (hK : X.K = W.K) (h : PT X e t) (i : ∀ σ H Q, Disj W H → t' σ H Q → t σ H fun v H' => Disj W H' → Q v H') : PT X e t' := ⟨fun pins s σ H Q I q =>
  wpAny_mono (h.run pins s σ H _ I (i σ H Q (RF.Inv.disj hK I) q)) (fun _ _ ⟨H', I', z⟩ => ⟨H', I', z (RF.Inv.disj hK I')⟩) fun _ _ z => z⟩
end

/-! ### the check -/
structure Ctx where
  N : List Str
  sc : Scope
  fns : Nat → Option Str
  gls : Nat → Option Str
  atr : List Str
  xcs : Nat → Option Str
  frs : Nat → Bool
  cls : Nat → Option Str
  mkn : Nat → Option Str
  m0 : Nat → Bool
  mts : Nat → Option Str
  df : Bool
/-- within a comprehension -/
def Ctx.blk (c : Ctx) (scope : Scope) : Ctx := { c with sc := relS scope c.sc, df := false }
def visB (sc : Scope) (x : Str) : Bool := match sc.names.lookup x with
  | some .local => true
  | some .cell => true
  | some .free => true
  | _ => false
def locB (df : Bool) (sc : Scope) (x : Str) : Bool := match sc.names.lookup x with
  | some .local => true
  | some .cell => df
  | _ => false
def glB (sc : Scope) (x : Str) : Bool := match sc.names.lookup x with
  | some .globalImplicit => !(x == ("__debug__" : Str))
  | _ => false
def opB : BOp → Operator → Bool
  | .add, .Add => true
  | .sub, .Sub => true
  | .mul, .Mult => true
  | .fdiv, .FloorDiv => true
  | .mod, .Mod => true
  | .pow, .Pow => true
  | .shl, .LShift => true
  | _, _ => false
def copB : COp → CmpOp → Bool
  | .lt, .Lt => true
  | .le, .LtE => true
  | .gt, .Gt => true
  | .ge, .GtE => true
  | .eq, .Eq => true
  | .ne, .NotEq => true
  | .isN, .Is => true
  | .notN, .IsNot => true
  | .inn, .In => true
  | .nin, .NotIn => true
  | _, _ => false
def biN : BI → Str
  | .len => "len"
  | .abs => "abs"
  | .min => "min"
  | .list => "list"
  | .tuple => "tuple"
  | .all => "all"
  | .any => "any"
  | .sum => "sum"
def tyS : Ty → String
  | .int => "int"
  | .bool => "bool"
  | .tuple => "tuple"
  | .list => "list"
  | .str => "str"
def tyN : Ty → Str
  | .int => "int"
  | .bool => "bool"
  | .tuple => "tuple"
  | .list => "list"
  | .str => "str"
def ikN : IK → Str
  | .seq => ""
  | .rng => "range"
  | .enum => "enumerate"
  | .zip => "zip"
def noStar : Expr → Bool
  | .Starred _ _ => false
  | _ => true
def noSet : Expr → Bool
  | .Set _ _ _ => false
  | _ => true
def noSlice : Expr → Bool
  | .Slice _ _ _ _ => false
  | _ => true
def noCall : Expr → Bool
  | .Call _ _ _ _ => false
  | _ => true
/-- no call without arguments (super) -/
def noCall0 : Expr → Bool
  | .Call (.Name id _) [] [] _ => id != ("super" : Str)
  | .Call _ [] _ _ => false
  | _ => true
def isTuple : Expr → Bool
  | .Tuple _ _ _ => true
  | _ => false
def chkNm (c : Ctx) (i : Nat) : Expr → Bool
  | .Name x _ => decide (c.N[i]? = some x) && locB c.df c.sc x
  | _ => false
def chkNms (c : Ctx) : List Nat → List Expr → Bool
  | [], [] => true
  | i :: is, e :: es => chkNm c i e && chkNms c is es
  | _, _ => false
def chkTg (c : Ctx) : Tg → Expr → Bool
  | .nm i, e => chkNm c i e
  | .tp l, .Tuple es _ _ => chkNms c l es
  | _, _ => false
/-- the targets of a comprehension are its own -/
def tgIn : Tg → List Nat → Bool
  | .nm i, vs => vs.contains i
  | .tp l, vs => l.all vs.contains
def ownOf (N : List Str) (vs : List Nat) : List (Str × Nat) := vs.filterMap fun i => (N[i]?).map fun x => (x, i)

def optB {α : Type} (o : Option α) (n : Bool) (f : α → Bool) : Bool := match o with
  | none => n
  | some x => f x
def ifsB (l : List Expr) (n : Bool) (f : Expr → Bool) : Bool := match l with
  | [] => n
  | [i] => f i
  | _ => false
def CE.isNil : CE → Bool
  | .nil => true
  | _ => false
def IK.isSeq : IK → Bool
  | .seq => true
  | _ => false
/-- the arguments of range, enumerate, zip -/
def iterArgs (c : Ctx) (k : IK) (tg : Expr) : Expr → Option (List Expr)
  | .Call (.Name x _) es [] _ => match k with
    | .rng => if (decide (x = ikN .rng) && glB c.sc x && decide (es.length = 1 ∨ es.length = 2 ∨ es.length = 3)) = true then some es else none
    | .enum => if (decide (x = ikN .enum) && glB c.sc x && decide (es.length = 1) && isTuple tg) = true then some es else none
    | .zip => if (decide (x = ikN .zip) && glB c.sc x && decide (es.length = 2) && isTuple tg) = true then some es else none
    | .seq => none
  | _ => none

mutual
def chkE : CE → Ctx → Expr → Bool
  | .var i, c, .Name x _ => decide (c.N[i]? = some x) && visB c.sc x && !(x == ("__debug__" : Str)) && !(x == ("__classdict__" : Str))
  | .c (.int n), _, .Constant (.int m) _ _ => decide (n = m)
  | .c (.bl n), _, .Constant (.bool m) _ _ => decide (n = m)
  | .c .non, _, .Constant .none _ _ => true
  | .c (.str n), _, .Constant (.str m) _ _ => decide (n = m)
  | .glb g, c, .Name x _ => decide (c.gls g = some x) && glB c.sc x
  | .neg a, c, .UnaryOp .USub e _ => chkE a c e
  | .nt a, c, .UnaryOp .Not e _ => chkE a c e
  | .bin o a b, c, .BinOp x op y _ => opB o op && chkE a c x && chkE b c y
  | .cmp o a b, c, .Compare x [op] [y] _ => copB o op && noSet y && chkE a c x && chkE b c y
  | .cmp2 o o' a b d, c, .Compare x [op, op'] [y, z] _ => copB o op && copB o' op' && noSet y && noSet z && chkE a c x && chkE b c y && chkE d c z
  | .and a b, c, .BoolOp .And [x, y] _ => chkE a c x && chkE b c y
  | .and a b, c, .BoolOp .And (x :: y :: z :: r) p => chkE a c x && chkE b c (.BoolOp .And (y :: z :: r) p)
  | .or a b, c, .BoolOp .Or [x, y] _ => chkE a c x && chkE b c y
  | .or a b, c, .BoolOp .Or (x :: y :: z :: r) p => chkE a c x && chkE b c (.BoolOp .Or (y :: z :: r) p)
  | .ife t a b, c, .IfExp x y z _ => chkE t c x && chkE a c y && chkE b c z
  | .tup as, c, .Tuple es _ _ => chkA as c es
  | .lst as, c, .List es _ => chkA as c es
  | .idx a b, c, .Subscript x y _ => noSlice y && chkE a c x && chkE b c y
  | .sl a lo hi, c, .Subscript x (.Slice l h none _) _ => chkE a c x && optB l lo.isNil (fun e => chkE lo c e) && optB h hi.isNil (fun e => chkE hi c e)
  | .call f as, c, .Call (.Name x _) (e :: es) [] _ => decide (c.fns f = some x) && glB c.sc x && chkA as c (e :: es)
  | .callf f as, c, .Call (.Name x _) (e :: es) [] _ => decide (c.fns f = some x) && c.frs f && glB c.sc x && chkA as c (e :: es)
  | .rep as b, c, .BinOp (.List es _) op y _ => (match op with | .Mult => true | _ => false) && chkA as c es && chkE b c y
  | .lrg a, c, .Call (.Name x _) [.Call (.Name y _) [e] [] _] [] _ => decide (x = ("list" : Str)) && glB c.sc x && decide (y = ("range" : Str)) && glB c.sc y && noStar e && chkE a c e
  | .rev a, c, .Subscript x (.Slice none none (some (.UnaryOp .USub (.Constant (.int n) _ _) _)) _) _ => decide (n = 1) && chkE a c x
  | .bi b as, c, .Call (.Name x _) (e :: es) [] _ => decide (x = biN b) && glB c.sc x && chkA as c (e :: es)
  | .isi a t, c, .Call (.Name x _) [e, .Name y _] [] _ => decide (x = ("isinstance" : Str)) && glB c.sc x && decide (y = tyN t) && glB c.sc y && noStar e && chkE a c e
  | .comp k g vs it cd e, c, .ListComp elt [⟨tg, iter, ifs, as⟩] scope _ => decide (as = 0) && noSet iter && blkC c.N c.sc scope (ownOf c.N vs) && decide ((ownOf c.N vs).map (·.2) = vs) && tgIn g vs && chkTg (c.blk scope) g tg &&
      (bif k.isSeq then chkE it c iter else optB (iterArgs c k tg iter) false (fun es => chkA it c es)) && ifsB ifs cd.isNil (fun i => chkE cd (c.blk scope) i) && chkE e (c.blk scope) elt
  | .fld a f, c, .Attribute e x _ => decide (c.atr[f]? = some x) && noCall0 e && chkE a c e
  | .mk n as, c, .Call (.Name x _) es [] _ => decide (c.mkn n = some x) && decide (c.m0 n = es.isEmpty) && glB c.sc x && chkA as c es
  | .isC a n, c, .Call (.Name x _) [e, .Name y _] [] _ => decide (x = ("isinstance" : Str)) && glB c.sc x && decide (c.cls n = some y) && glB c.sc y && noStar e && chkE a c e
  | .meth a m as, c, .Call (.Attribute o x p1) (e :: es) [] p2 => decide (c.mts m = some x) && noCall0 o && (p1.endLine == p2.line) && decide (es.length < 20) && chkE a c o && chkA as c (e :: es)
  | _, _, _ => false
def chkA : CE → Ctx → List Expr → Bool
  | .nil, _, [] => true
  | .cons a as, c, e :: es => noStar e && chkE a c e && chkA as c es
  | _, _, _ => false
end
end RF

end S_RF3
section S_RF4
set_option maxHeartbeats 4000000
/-! RF4: the soundness of expressions. -/
namespace RF
open PySem PySem.Spec L2

/-- a def's promise by data -/
def spD (W : Wd) (n : Nat) (f : List D → R D) : Sp := fun vs H Q E => vs.length = n ∧ (Disj W H → ∃ S ds, (∀ a, S a → H a ≠ none) ∧ Dps W S H vs ds ∧ Post W S H (f ds) Q E)

/-- .. of a def that gives a new list -/
def spF (W : Wd) (n : Nat) (f : List D → R D) : Sp := fun vs H Q E => vs.length = n ∧ (Disj W H → ∃ S ds, (∀ a, S a → H a ≠ none) ∧ Dps W S H vs ds ∧ PostF W S H (f ds) Q E)
/-- what __init__ does: the fields, one by one -/
def iP (K : PySem.W.Frag) (x C dx : Addr) : List (Str × Bool) → List V → List (Str × V) → Hp → (Hp → Prop) → Prop
  | [], [], _, H, Q => Q H
  | (f, false) :: r, v :: vs, fs, H, Q => iP K x C dx r vs (putF f v fs) (upd H x (.ins C dx (putF f v fs))) Q
  | (f, true) :: r, v :: vs, fs, H, Q => ∃ a us, v = .ref a ∧ (SqL K H a us ∨ SqT K H a us) ∧ ∀ p, H p = none → iP K x C dx r vs (putF f (.ref p) fs) (upd (upd H p (.lst us)) x (.ins C dx (putF f (.ref p) fs))) Q
  | _, _, _, _, _ => False
def spI (K : PySem.W.Frag) (C : Addr) (flds : List (Str × Bool)) : Sp := fun vs H Q E => ∃ x dx us, vs = .ref x :: us ∧ us.length = flds.length ∧ H x = some (.ins C dx []) ∧ iP K x C dx flds us [] H (fun H' => Q .non H')
/-- what is known of a class -/
structure Clf (K : PySem.W.Frag) (C : Addr) : Prop where
  c : Cls K C
  ha : PySem.W.findIn K (.ref C) "__class__" = some (some (.builtin "object.__class__"))
  hn : PySem.W.specialIn K (.builtin "object.__class__") "__get__" = some (some (.builtin "getset_descriptor.__get__"))
  htk : PySem.W.takesIn K (.builtin "object.__class__") = some true
  hm : PySem.W.mroIn K C (.type "object") = some true
/-- how a class is made -/
def MkOk (P : Program) (w : World) (K : PySem.W.Frag) (mg : Str → Option Value) (base : Heap) (C : Addr) (names : List Str) (fl : List Bool) : Prop := names.length = fl.length ∧
  ((fl = [] ∧ PySem.W.makesIn K C = true ∧ PySem.W.findIn K (.ref C) "__init__" = some (some (.builtin "object.__init__")) ∧ PySem.W.keepIn K (.ref C) = true) ∨
   (fl ≠ [] ∧ ∃ fa fd ps, Mk K C fa ∧ Binds K fd ps [] ∧ FnOk P w K mg base (L2.CX P w) 1 fa fd ps (spI K C (names.zip fl))))
def bltTypes : List String := ["NoneType", "bool", "int", "str", "tuple", "list"]
def bltNames : List Str := ["len", "abs", "min", "list", "tuple", "all", "any", "sum", "isinstance", "int", "bool", "str", "range", "enumerate", "zip"]

structure Cok (W : Wd) (T : Tab) (k : Nat) (Ex : L2.St → XK) (c : Ctx) (X : Cx) : Prop where
  K : X.K = W.K
  N : X.N = c.N
  sc : X.env.scope = c.sc
  nd : X.N.Nodup
  calm : X.calm = true
  room : Room (k + 2) X.A
  fnc : c.df = true → ∀ x, X.fn x = true
  fn : ∀ (f : Nat) (x : Str), c.fns f = some x → ∃ fa fd ps, X.mg x = some (.ref fa) ∧ PySem.W.keepIn X.K (.ref fa) = true ∧ Binds X.K fd ps [] ∧ (∀ ds, T.call f ds ≠ .bad → ds.length = ps.length) ∧ FnOk X.prog X.w X.K X.mg X.base (L2.CX X.prog X.w) (k + 2) fa fd ps (spD W ps.length (T.call f))
  fnf : ∀ (f : Nat) (x : Str), c.fns f = some x → c.frs f = true → ∃ fa fd ps, X.mg x = some (.ref fa) ∧ PySem.W.keepIn X.K (.ref fa) = true ∧ Binds X.K fd ps [] ∧ (∀ ds, T.call f ds ≠ .bad → ds.length = ps.length) ∧ FnOk X.prog X.w X.K X.mg X.base (L2.CX X.prog X.w) (k + 2) fa fd ps (spF W ps.length (T.call f))
  blt : ∀ x ∈ bltNames, X.mg x = none
  glb : ∀ (g : Nat) (x : Str) (d : D), c.gls g = some x → T.gl g = some d → ∃ v u, X.mg x = some u ∧ RelV v u ∧ ∀ S H, Dp W S H v d
  takes : Takes X (fun cls d σ H => Ex σ cls d H)
  cls : ∀ (n : Nat) (C : Addr), W.cl n = some C → Clf X.K C ∧ W.cn n = (T.cf.cf n).map (fun i => c.atr.getD i "") ∧ (W.cn n).Nodup ∧ ∀ f ∈ W.cn n, NoAttr X.K C f
  isc : ∀ (n : Nat) (x : Str), c.cls n = some x → ∃ C, X.mg x = some (.ref C) ∧ (∀ (m : Nat) (C' : Addr), W.cl m = some C' → PySem.W.kitOne X.K (.ref C') (.ref C) = some (T.cf.sub m n)) ∧ ∀ t ∈ bltTypes, PySem.W.kitOne X.K (.type t) (.ref C) = some false
  mkc : ∀ (n : Nat) (x : Str), c.mkn n = some x → ∃ C fl, W.cl n = some C ∧ X.mg x = some (.ref C) ∧ T.cf.ini n = some fl ∧ c.m0 n = fl.isEmpty ∧ MkOk X.prog X.w X.K X.mg X.base C (W.cn n) fl
  mth : ∀ (n m f : Nat) (x : Str) (C : Addr), T.cf.mt n m = some f → c.mts m = some x → W.cl n = some C → ∃ fa fd ps, x ∉ W.cn n ∧ Meth X.K C x fa ∧ Binds X.K fd ps [] ∧ (∀ ds, T.call f ds ≠ .bad → ds.length = ps.length) ∧ FnOk X.prog X.w X.K X.mg X.base (L2.CX X.prog X.w) (k + 2) fa fd ps (spD W ps.length (T.call f))
  exn : ∀ (n : Nat) (x : Str), c.xcs n = some x → X.mg x = some (.ref (W.xc n)) ∧ PySem.W.keepIn X.K (.ref (W.xc n)) = true ∧ PySem.W.excIn X.K (W.xc n) [.type "ValueError", .type "Exception", .type "BaseException", .type "object"] "ValueError.__new__" = true ∧
    PySem.W.subIn X.K (.ref (W.xc n)) (.type "BaseException") = some true ∧ PySem.W.typeIn X.K (.ref (W.xc n)) = some (.type "type")

section
variable {W : Wd} {T : Tab} {k : Nat} {Ex : L2.St → XK} {c : Ctx} {X : Cx} {S S' : Addr → Prop} {H H' : Hp} {ρ : Env} {σ : L2.St}
theorem look_gl (C : Cok W T k Ex c X) {x : Str} (h : glB c.sc x = true) : Gl X x ∧ (x == ("__debug__" : Str)) = false := by
  unfold glB at h
  rw [← C.sc] at h
  split at h
  · rename_i e
    exact ⟨e, by simpa using h⟩
  · cases h
theorem look_vis (C : Cok W T k Ex c X) {x : Str} (h : visB c.sc x = true) : Vis X.env.scope x := by
  unfold visB at h
  rw [← C.sc] at h
  split at h <;> first | exact .inl (by assumption) | exact .inr (.inl (by assumption)) | exact .inr (.inr (by assumption)) | cases h
theorem look_loc (C : Cok W T k Ex c X) {x : Str} (h : locB c.df c.sc x = true) : Loc X.env.scope x ∧ (X.fn x = true ∨ X.env.scope.names.lookup x = some .local) := by
  unfold locB at h
  rw [← C.sc] at h
  split at h
  · exact ⟨.inl (by assumption), .inr (by assumption)⟩
  · exact ⟨.inr (by assumption), .inl (C.fnc h x)⟩
  · cases h
theorem star1 {e : Expr} {es : List Expr} {env : PySem.Env} (h : noStar e = true) : starEach (e :: es) env = (false, eval e env) :: starEach es env := by
  cases e <;> first | rfl | (simp [noStar] at h)
theorem chkA_star {a : CE} : ∀ {es : List Expr}, chkA a c es = true → ∀ e ∈ es, noStar e = true := by
  induction a with
  | nil =>
    intro es h e he
    cases es with
    | nil => cases he
    | cons x r => simp [chkA] at h
  | cons a as ih1 ih2 =>
    intro es h e he
    cases es with
    | nil => cases he
    | cons x r =>
      simp only [chkA, Bool.and_eq_true] at h
      rcases List.mem_cons.mp he with z | z
      · rw [z]; exact h.1.1
      · exact ih2 h.2 e z
  | _ =>
    intro es h e he
    cases es <;> simp [chkA] at h
theorem stars_none {env : PySem.Env} {pos : Pos} : ∀ {es : List Expr}, (∀ e ∈ es, noStar e = true) → (backTo pos (starEach es env)).any (·.1) = false
  | [], _ => rfl
  | e :: es, h => by
    rw [star1 (h e List.mem_cons_self)]
    have ih := stars_none (env := env) (pos := pos) (es := es) fun x hx => h x (List.mem_cons_of_mem _ hx)
    unfold backTo at ih ⊢
    simp only [List.map_cons, List.any_cons, Bool.false_or]
    exact ih
theorem ix_plain {e : Expr} (h : noSlice e = true) : PlainIx e := fun o i => by
  cases e <;> first | rfl | (simp [noSlice] at h)
theorem set_marks {e : Expr} (op : CmpOp) (h : noSet e = true) : behindInMarks op e = false := by
  cases e <;> first | rfl | (simp [noSet] at h)
theorem set_fold {e : Expr} {env : PySem.Env} (h : noSet e = true) : ∀ x, foldedSetIterable e env x = pure x := fun x => by
  cases e <;> first | rfl | (simp [noSet] at h)
theorem attr_base {e : Expr} {f : Str} {env : PySem.Env} (h : noCall0 e = true) : attributeBase e f env (eval e env) = eval e env := by
  cases e <;> first | rfl | skip
  rename_i fn as ks pos
  cases as with
  | nil =>
    cases fn <;> first | (simp [noCall0] at h; done) | skip
    cases ks with
    | nil => exact abase_call h
    | cons _ _ => simp [noCall0] at h
  | cons a as => cases fn <;> rfl

/-! ### values -/
theorem Dp.int_of {v : V} {i : Int} (h : Dp W S H v (.int i)) : v = .int i := by cases h; rfl
theorem Dp.bl_of {v : V} {i : Bool} (h : Dp W S H v (.bl i)) : v = .bl i := by cases h; rfl
theorem Dp.str_of {v : V} {i : Str} (h : Dp W S H v (.str i)) : v = .str i := by cases h; rfl
theorem Dp.non_of {v : V} (h : Dp W S H v .non) : v = .non := by cases h; rfl
theorem Dp.tup_of {v : V} {ds : List D} (h : Dp W S H v (.tup ds)) : ∃ a vs, v = .ref a ∧ SqT W.K H a vs ∧ Dps W S H vs ds := by
  cases h with
  | tup h r => exact ⟨_, _, rfl, .inl h, r⟩
  | tupK h r => exact ⟨_, _, rfl, .inr h, r⟩
theorem Dp.lst_of {v : V} {ds : List D} (h : Dp W S H v (.lst ds)) : ∃ a vs, v = .ref a ∧ SqL W.K H a vs ∧ Dps W S H vs ds := by
  cases h with
  | lst _ h r => exact ⟨_, _, rfl, .inl h, r⟩
  | lstK h r => exact ⟨_, _, rfl, .inr h, r⟩
theorem Dp.truth_of {v : V} {d : D} {b : Bool} (h : Dp W S H v d) (t : truth d = some b) : v = .bl b := by
  cases d <;> simp [truth] at t
  subst t
  exact h.bl_of
/-- a new tuple -/
theorem Dp.newT {p : Addr} {vs : List V} {ds : List D} (l : ∀ a, S a → H a ≠ none) (h : H p = none) (r : Dps W S H vs ds) : Dp W S (upd H p (.tup vs)) (.ref p) (.tup ds) :=
  .tup (.inl upd_same) (r.keep (Step.new0 l h).keep)
theorem atI_map {vs : List V} {ds : List D} (r : Dps W S H vs ds) {i : Int} {d : D} (h : atI ds i = some d) : ∃ v, atI vs i = some v ∧ Dp W S H v d := by
  unfold atI at h ⊢
  rw [r.length]
  cases e : ixN ds.length i with
  | none => rw [e] at h; cases h
  | some j =>
    rw [e] at h
    exact r.get h
theorem cut_map {vs : List V} {ds : List D} (r : Dps W S H vs ds) (lo hi : Option Int) : Dps W S H (cutV vs lo hi) (cutD ds lo hi) := by
  unfold cutV cutD
  rw [r.length]
  exact (r.drop _).take _
end
end RF

end S_RF4
section S_RF5
set_option maxHeartbeats 4000000
/-! RF5: expressions, rule by rule. -/
namespace RF
open PySem PySem.Spec L2
section
variable {W : Wd} {T : Tab} {k : Nat} {Ex : L2.St → XK} {c : Ctx} {X : Cx}
theorem sd_var (C : Cok W T k Ex c X) {i : Nat} {x : Str} {pos : Pos} (hN : c.N[i]? = some x) (hv : visB c.sc x = true) (hd : (x == ("__debug__" : Str)) = false) (hcd : (x == ("__classdict__" : Str)) = false) : PE X (.Name x pos) (tD W T Ex (.var i)) := by
  refine PE.imp C.K (pe_var (by rw [C.N]; exact hN) (look_vis C hv) hd hcd) fun σ H Q dj h => ?_
  obtain ⟨S, ρ, V, P⟩ := h dj
  simp only [evalE] at P
  cases e : slotD ρ i with
  | none => rw [e] at P; exact P.elim
  | some d =>
    rw [e] at P
    obtain ⟨v, hv, dp⟩ := V.slot i d e
    exact ⟨v, hv, fun dj' => Post.fin P dj' V.liv dp⟩
theorem sd_c (C : Cok W T k Ex c X) {e : Expr} {v : V} {d : D} (h : PE X e (tC v)) (p : ∀ S H, Dp W S H v d) : PE X e (tD W T Ex (.c d)) := by
  refine PE.imp C.K h fun σ H Q dj h => ?_
  obtain ⟨S, ρ, V, P⟩ := h dj
  exact fun dj' => Post.fin P dj' V.liv (p S H)
theorem sd_glb (C : Cok W T k Ex c X) {g : Nat} {x : Str} {pos : Pos} (hN : c.gls g = some x) (hg : glB c.sc x = true) : PE X (.Name x pos) (tD W T Ex (.glb g)) := by
  obtain ⟨h1, h2⟩ := look_gl C hg
  cases e : T.gl g with
  | none =>
    refine ⟨fun pins s σ H Q I h => ?_⟩
    obtain ⟨S, ρ, V, P⟩ := h (RF.Inv.disj C.K I)
    simp only [evalE, e] at P
    exact P.elim
  | some d =>
    obtain ⟨v, u, hm, r, p⟩ := C.glb g x d hN e
    refine PE.imp C.K (pe_glob h1 hm r h2) fun σ H Q dj h => ?_
    obtain ⟨S, ρ, V, P⟩ := h dj
    simp only [evalE, e] at P
    exact fun dj' => Post.fin P dj' V.liv (p S H)
theorem sd_neg (C : Cok W T k Ex c X) {a : CE} {e : Expr} {pos : Pos} (ha : PE X e (tD W T Ex a)) : PE X (.UnaryOp .USub e pos) (tD W T Ex (.neg a)) := by
  refine PE.imp C.K (pe_un un_neg ha) fun σ H Q dj h => ?_
  obtain ⟨S, ρ, V, P⟩ := h dj
  simp only [evalE] at P
  refine tD_bind V P fun x v S1 H1 dj1 s1 V1 p P => ?_
  cases x <;> first | exact P.elim | skip
  cases p.int_of
  exact ⟨_, rfl, fun dj' => Post.fin P dj' V1.liv (.int _)⟩
theorem sd_nt (C : Cok W T k Ex c X) {a : CE} {e : Expr} {pos : Pos} (ha : PE X e (tD W T Ex a)) : PE X (.UnaryOp .Not e pos) (tD W T Ex (.nt a)) := by
  refine PE.imp C.K (pe_not ha) fun σ H Q dj h => ?_
  obtain ⟨S, ρ, V, P⟩ := h dj
  simp only [evalE] at P
  refine tD_bind V P fun x v S1 H1 dj1 s1 V1 p P => ?_
  cases e : truth x with
  | none => rw [e] at P; exact P.elim
  | some b =>
    rw [e] at P
    cases p.truth_of e
    cases b <;> exact ⟨_, rfl, fun dj' => Post.fin P dj' V1.liv (.bl _)⟩
/-! two parts, then a rule on values -/
def Rule2 (W : Wd) (r : R2) (f : D → D → R D) : Prop := ∀ S H x y d e Q E, Disj W H → (∀ a, S a → H a ≠ none) → Dp W S H x d → Dp W S H y e → Post W S H (f d e) Q E → r x y H fun v H' => Disj W H' → Q v H'
def Rule2F (W : Wd) (r : R2) (f : D → D → R D) : Prop := ∀ S H x y d e Q E, Disj W H → (∀ a, S a → H a ≠ none) → Dp W S H x d → Dp W S H y e → PostF W S H (f d e) Q E → r x y H fun v H' => Disj W H' → Q v H'
theorem Rule2F.weak {r : R2} {f : D → D → R D} (h : Rule2F W r f) : Rule2 W r f := fun S H x y d e Q E dj l p q P => h S H x y d e Q E dj l p q P.toF
theorem sd_bin (C : Cok W T k Ex c X) {o : BOp} {a b : CE} {x y : Expr} {op : Operator} {pos : Pos} {r : R2} (ho : OpR X (binaryOp op) r) (hr : Rule2 W r (evBin o)) (ha : PE X x (tD W T Ex a)) (hb : PE X y (tD W T Ex b)) :
    PE X (.BinOp x op y pos) (tD W T Ex (.bin o a b)) := by
  refine PE.imp C.K (pe_op ho ha hb) fun σ H Q dj h => ?_
  obtain ⟨S, ρ, V, P⟩ := h dj
  simp only [evalE] at P
  refine tD_bind V P fun x v S1 H1 dj1 s1 V1 p P => ?_
  refine tD_bind V1 P fun y u S2 H2 dj2 s2 V2 q P => ?_
  exact hr S2 H2 v u x y Q _ dj2 V2.liv (p.keep s2.keep) q P
theorem sf_bin (C : Cok W T k Ex c X) {o : BOp} {a b : CE} {x y : Expr} {op : Operator} {pos : Pos} {r : R2} (ho : OpR X (binaryOp op) r) (hr : Rule2F W r (evBin o)) (ha : PE X x (tD W T Ex a)) (hb : PE X y (tD W T Ex b)) :
    PE X (.BinOp x op y pos) (tF W T Ex (.bin o a b)) := by
  refine PE.imp C.K (pe_op ho ha hb) fun σ H Q dj h => ?_
  obtain ⟨S, ρ, V, P⟩ := h dj
  simp only [evalE] at P
  refine tD_bindF V P fun x v S1 H1 dj1 s1 V1 p P => ?_
  refine tD_bindF V1 P fun y u S2 H2 dj2 s2 V2 q P => ?_
  exact hr S2 H2 v u x y Q _ dj2 V2.liv (p.keep s2.keep) q P
/-- a comparison leaves the heap -/
def RuleC (W : Wd) (r : R2) (f : D → D → R D) : Prop := ∀ S H x y d e b (Q : VK), Disj W H → Dp W S H x d → Dp W S H y e → f d e = .ok (.bl b) → Q (.bl b) H → r x y H Q
/-- what a comparison tells is a truth -/
theorem evCmp_bl (o : COp) (x y : D) : (∃ b, evCmp o x y = .ok (.bl b)) ∨ evCmp o x y = .bad := by
  have eqd : (∃ b, eqD x y = .ok b) ∨ eqD x y = .bad := by
    unfold eqD
    split
    · split
      · exact .inl ⟨_, rfl⟩
      · exact .inr rfl
    · exact .inr rfl
  cases o with
  | lt => cases x <;> cases y <;> first | exact .inl ⟨_, rfl⟩ | exact .inr rfl
  | le => cases x <;> cases y <;> first | exact .inl ⟨_, rfl⟩ | exact .inr rfl
  | gt => cases x <;> cases y <;> first | exact .inl ⟨_, rfl⟩ | exact .inr rfl
  | ge => cases x <;> cases y <;> first | exact .inl ⟨_, rfl⟩ | exact .inr rfl
  | eq =>
    rcases eqd with ⟨b, e⟩ | e
    · exact .inl ⟨b, by simp only [evCmp, e, R.bind_ok]⟩
    · exact .inr (by simp only [evCmp, e, R.bind_bad])
  | ne =>
    rcases eqd with ⟨b, e⟩ | e
    · exact .inl ⟨!b, by simp only [evCmp, e, R.bind_ok]⟩
    · exact .inr (by simp only [evCmp, e, R.bind_bad])
  | isN => cases x <;> cases y <;> first | exact .inl ⟨_, rfl⟩ | exact .inr rfl
  | notN => cases x <;> cases y <;> first | exact .inl ⟨_, rfl⟩ | exact .inr rfl
  | inn =>
    simp only [evCmp]
    split
    · split
      · exact .inl ⟨_, rfl⟩
      · exact .inr rfl
    · exact .inr rfl
  | nin =>
    simp only [evCmp]
    split
    · split
      · exact .inl ⟨_, rfl⟩
      · exact .inr rfl
    · exact .inr rfl
theorem sd_cmp (C : Cok W T k Ex c X) {o : COp} {a b : CE} {x y : Expr} {op : CmpOp} {pos : Pos} {r : R2} (ho : OpR X (compareOp op) r) (hr : RuleC W r (evCmp o)) (ha : PE X x (tD W T Ex a)) (hb : PE X y (tD W T Ex b)) (hm : noSet y = true) :
    PE X (.Compare x [op] [y] pos) (tD W T Ex (.cmp o a b)) := by
  refine PE.imp C.K (pe_cmpR ho ha hb (set_marks op hm)) fun σ H Q dj h => ?_
  obtain ⟨S, ρ, V, P⟩ := h dj
  simp only [evalE] at P
  refine tD_bind V P fun x v S1 H1 dj1 s1 V1 p P => ?_
  refine tD_bind V1 P fun y u S2 H2 dj2 s2 V2 q P => ?_
  rcases evCmp_bl o x y with ⟨b, e⟩ | e
  · refine hr S2 H2 v u x y b _ dj2 (p.keep s2.keep) q e ?_
    rw [e] at P
    exact fun dj' => Post.fin P dj' V2.liv (.bl b)
  · rw [e] at P; exact P.elim
theorem sd_cmpT (C : Cok W T k Ex c X) {o : COp} {a b : CE} {x y : Expr} {op : CmpOp} {pos : Pos} {r : R2} (ho : OpR X (compareOp op) r) (hr : RuleC W r (evCmp o)) (ha : PE X x (tD W T Ex a)) (hb : PE X y (tD W T Ex b)) (hm : noSet y = true) :
    PT X (.Compare x [op] [y] pos) (tDT W T Ex (.cmp o a b)) := by
  refine PT.imp C.K (pt_cmpR ho ha hb (set_marks op hm)) fun σ H Q dj h => ?_
  obtain ⟨S, ρ, V, P⟩ := h dj
  simp only [evalE] at P
  refine tD_bindT V P fun x v S1 H1 dj1 s1 V1 p P => ?_
  refine tD_bindT V1 P fun y u S2 H2 dj2 s2 V2 q P => ?_
  rcases evCmp_bl o x y with ⟨b, e⟩ | e
  · refine hr S2 H2 v u x y b _ dj2 (p.keep s2.keep) q e ?_
    rw [e] at P
    exact ⟨b, rfl, fun dj' => P S2 H2 dj' (Step.refl V2.liv)⟩
  · rw [e] at P; exact P.elim
theorem sd_cmp2 (C : Cok W T k Ex c X) {o o' : COp} {a b d : CE} {x y z : Expr} {op op' : CmpOp} {pos : Pos} {r r' : R2} (ho : OpR X (compareOp op) r) (hr : RuleC W r (evCmp o)) (ho' : OpR X (compareOp op') r') (hr' : RuleC W r' (evCmp o'))
    (ha : PE X x (tD W T Ex a)) (hb : PE X y (tD W T Ex b)) (hc : PE X z (tD W T Ex d)) (hm : noSet y = true) (hm' : noSet z = true) :
    PE X (.Compare x [op, op'] [y, z] pos) (tD W T Ex (.cmp2 o o' a b d)) := by
  refine PE.imp C.K (pe_chain ho ho' ha hb hc (by first | exact set_marks op' hm' | exact set_marks op hm) ) fun σ H Q dj h => ?_
  obtain ⟨S, ρ, V, P⟩ := h dj
  simp only [evalE] at P
  refine tD_bind V P fun x v S1 H1 dj1 s1 V1 p P => ?_
  refine tD_bind V1 P fun y u S2 H2 dj2 s2 V2 q P => ?_
  rcases evCmp_bl o x y with ⟨b, e⟩ | e
  · refine hr S2 H2 v u x y b _ dj2 (p.keep s2.keep) q e ?_
    rw [e] at P
    refine ⟨b, rfl, ?_⟩
    cases b with
    | true =>
      refine tD_bind V2 P fun z w S3 H3 dj3 s3 V3 q3 P => ?_
      rcases evCmp_bl o' y z with ⟨b, e⟩ | e
      · refine hr' S3 H3 u w y z b _ dj3 (q.keep s3.keep) q3 e ?_
        rw [e] at P
        exact fun dj' => Post.fin P dj' V3.liv (.bl b)
      · rw [e] at P; exact P.elim
    | false => exact fun dj' => Post.fin P dj' V2.liv (.bl false)
  · rw [e] at P; exact P.elim
theorem sd_cmp2T (C : Cok W T k Ex c X) {o o' : COp} {a b d : CE} {x y z : Expr} {op op' : CmpOp} {pos : Pos} {r r' : R2} (ho : OpR X (compareOp op) r) (hr : RuleC W r (evCmp o)) (ho' : OpR X (compareOp op') r') (hr' : RuleC W r' (evCmp o'))
    (ha : PE X x (tD W T Ex a)) (hb : PE X y (tD W T Ex b)) (hc : PE X z (tD W T Ex d)) (hm : noSet y = true) (hm' : noSet z = true) :
    PT X (.Compare x [op, op'] [y, z] pos) (tDT W T Ex (.cmp2 o o' a b d)) := by
  refine PT.imp C.K (pt_chain ho ho' ha hb hc (by first | exact set_marks op' hm' | exact set_marks op hm)) fun σ H Q dj h => ?_
  obtain ⟨S, ρ, V, P⟩ := h dj
  simp only [evalE] at P
  refine tD_bindT V P fun x v S1 H1 dj1 s1 V1 p P => ?_
  refine tD_bindT V1 P fun y u S2 H2 dj2 s2 V2 q P => ?_
  rcases evCmp_bl o x y with ⟨b, e⟩ | e
  · refine hr S2 H2 v u x y b _ dj2 (p.keep s2.keep) q e ?_
    rw [e] at P
    refine ⟨b, rfl, ?_⟩
    cases b with
    | true =>
      refine tD_bindT V2 P fun z w S3 H3 dj3 s3 V3 q3 P => ?_
      rcases evCmp_bl o' y z with ⟨b, e⟩ | e
      · refine hr' S3 H3 u w y z b _ dj3 (q.keep s3.keep) q3 e ?_
        rw [e] at P
        exact ⟨b, rfl, fun dj' => P S3 H3 dj' (Step.refl V3.liv)⟩
      · rw [e] at P; exact P.elim
    | false => exact ⟨false, rfl, fun dj' => P S2 H2 dj' (Step.refl V2.liv)⟩
  · rw [e] at P; exact P.elim
/-! a test by a value -/
theorem sd_test (C : Cok W T k Ex c X) {a : CE} {e : Expr} (ha : PE X e (tD W T Ex a)) (he : ∀ whole, isTrue e X.env whole = (do let v ← whole; standAt e.pos; holding [v] (truthy v))) : PT X e (tDT W T Ex a) := by
  refine PT.imp C.K (pt_val ha he) fun σ H Q dj h => ?_
  obtain ⟨S, ρ, V, P⟩ := h dj
  intro dj
  refine ⟨S, ρ, V, ?_⟩
  cases r : evalE T a ρ with
  | ok d =>
    rw [r] at P
    simp only [PostT] at P
    cases e : truth d with
    | none => simp only [e] at P
    | some b =>
      simp only [e] at P
      exact fun v S1 H1 dj1 s1 p => ⟨b, p.truth_of e, fun dj' => P S1 H1 dj' s1⟩
  | exc c => rw [r] at P; exact P
  | bad => rw [r] at P; exact P
/-! and, or, not, if: as tests -/
theorem tDT_use {a : CE} {σ : L2.St} {H : Hp} {S : Addr → Prop} {ρ : Env} {Q : Bool → Hp → Prop} {f : Bool → R D} (V : View W S ρ σ H) {PP : (S : Addr → Prop) → (H : Hp) → R D → Prop}
    (hx : ∀ c, PP S H (.exc c) → PX W H c (Ex σ)) (hb : ¬ PP S H .bad) (hm : ∀ S' H' r, Step S H S' H' → PP S H r → PP S' H' r)
    (P : PP S H ((evalE T a ρ).bind fun x => onT (truth x) (f true) (f false)))
    (q : ∀ b S' H', Disj W H' → Step S H S' H' → View W S' ρ σ H' → PP S' H' (f b) → Q b H') : tDT W T Ex a σ H Q := fun _ => by
  refine ⟨S, ρ, V, ?_⟩
  cases r : evalE T a ρ with
  | ok d =>
    rw [r] at P
    simp only [R.bind_ok] at P
    simp only [PostT]
    cases e : truth d with
    | none => rw [e] at P; exact (hb P).elim
    | some b =>
      cases b with
      | true => rw [e] at P; exact fun S1 H1 dj s1 => q true S1 H1 dj s1 (V.step s1) (hm _ _ _ s1 P)
      | false => rw [e] at P; exact fun S1 H1 dj s1 => q false S1 H1 dj s1 (V.step s1) (hm _ _ _ s1 P)
  | exc c => rw [r] at P; exact hx c P
  | bad => rw [r] at P; exact (hb P).elim
end
end RF

end S_RF5
section S_RF6
set_option maxHeartbeats 4000000
/-! RF6: and, or, if; the operators' rules by data. -/
namespace RF
open PySem PySem.Spec L2
section
variable {W : Wd} {T : Tab} {k : Nat} {Ex : L2.St → XK} {c : Ctx} {X : Cx}
/-! ### and, or, if as values -/
theorem sd_and (C : Cok W T k Ex c X) {a b : CE} {x y : Expr} {r : List Expr} {pos : Pos} (ha : PE X x (tD W T Ex a)) (hb : PE X (.BoolOp .And (y :: r) pos) (tD W T Ex b)) : PE X (.BoolOp .And (x :: y :: r) pos) (tD W T Ex (.and a b)) := by
  refine PE.imp C.K (pe_and ha hb) fun σ H Q dj h => ?_
  obtain ⟨S, ρ, V, P⟩ := h dj
  simp only [evalE] at P
  refine tD_bind V P fun x v S1 H1 dj1 s1 V1 p P => ?_
  cases e : truth x with
  | none => rw [e] at P; exact P.elim
  | some z =>
    refine ⟨z, p.truth_of e, ?_⟩
    cases z with
    | true =>
      rw [e] at P
      refine iteT fun _ => ⟨S1, ρ, V1, ?_⟩
      cases r : evalE T b ρ with
      | ok d => rw [r] at P; exact fun v S' H' dj' st dp dj'' => P v S' H' dj' st dp
      | exc c => rw [r] at P; exact P
      | bad => rw [r] at P; exact P
    | false =>
      rw [e] at P
      exact iteF fun dj' => Post.fin P dj' V1.liv (.bl false)
theorem sd_or (C : Cok W T k Ex c X) {a b : CE} {x y : Expr} {r : List Expr} {pos : Pos} (ha : PE X x (tD W T Ex a)) (hb : PE X (.BoolOp .Or (y :: r) pos) (tD W T Ex b)) : PE X (.BoolOp .Or (x :: y :: r) pos) (tD W T Ex (.or a b)) := by
  refine PE.imp C.K (pe_or ha hb) fun σ H Q dj h => ?_
  obtain ⟨S, ρ, V, P⟩ := h dj
  simp only [evalE] at P
  refine tD_bind V P fun x v S1 H1 dj1 s1 V1 p P => ?_
  cases e : truth x with
  | none => rw [e] at P; exact P.elim
  | some z =>
    refine ⟨z, p.truth_of e, ?_⟩
    cases z with
    | false =>
      rw [e] at P
      refine iteF fun _ => ⟨S1, ρ, V1, ?_⟩
      cases r : evalE T b ρ with
      | ok d => rw [r] at P; exact fun v S' H' dj' st dp dj'' => P v S' H' dj' st dp
      | exc c => rw [r] at P; exact P
      | bad => rw [r] at P; exact P
    | true =>
      rw [e] at P
      exact iteT fun dj' => Post.fin P dj' V1.liv (.bl true)
theorem Post.guard {S : Addr → Prop} {H : Hp} {r : R D} {Q : VK} {E : XK} (h : Post W S H r Q E) : Post W S H r (fun v H' => Disj W H' → Q v H') E := by
  cases r with
  | ok d => exact fun v S' H' dj' st dp _ => h v S' H' dj' st dp
  | exc c => exact h
  | bad => exact h
theorem PostF.guard {S : Addr → Prop} {H : Hp} {r : R D} {Q : VK} {E : XK} (h : PostF W S H r Q E) : PostF W S H r (fun v H' => Disj W H' → Q v H') E := by
  cases r with
  | ok d =>
    cases d with
    | lst l => exact fun p vs S2 H2 dj s2 hp np e ps _ => h p vs S2 H2 dj s2 hp np e ps
    | _ => exact fun v S2 H2 dj s2 p _ => h v S2 H2 dj s2 p
  | exc c => exact h
  | bad => exact h
theorem PostT.guard {S : Addr → Prop} {H : Hp} {r : R D} {Q : Bool → Hp → Prop} {E : XK} (h : PostT W S H r Q E) : PostT W S H r (fun v H' => Disj W H' → Q v H') E := by
  cases r with
  | ok d =>
    unfold PostT at h ⊢
    cases e : truth d with
    | none => simp only [e] at h
    | some b =>
      simp only [e] at h ⊢
      exact fun S' H' dj' st _ => h S' H' dj' st
  | exc c => exact h
  | bad => exact h
theorem sd_ife (C : Cok W T k Ex c X) {t a b : CE} {x y z : Expr} {pos : Pos} (ht : PT X x (tDT W T Ex t)) (ha : PE X y (tD W T Ex a)) (hb : PE X z (tD W T Ex b)) : PE X (.IfExp x y z pos) (tD W T Ex (.ife t a b)) := by
  refine PE.imp C.K (pe_ifExp ht ha hb) fun σ H Q dj h => ?_
  obtain ⟨S, ρ, V, P⟩ := h dj
  simp only [evalE] at P
  refine tDT_use (f := fun b' => match b' with | true => evalE T a ρ | false => evalE T b ρ) (PP := fun S H r => Post W S H r Q (Ex σ)) V (fun _ h => h) (fun h => h) (fun _ _ _ s h => Post.mono h s) P ?_
  intro b' S1 H1 dj1 s1 V1 P
  cases b' with
  | true => exact iteT fun _ => ⟨S1, ρ, V1, Post.guard P⟩
  | false => exact iteF fun _ => ⟨S1, ρ, V1, Post.guard P⟩
/-! ### .. as tests -/
theorem sd_ntT (C : Cok W T k Ex c X) {a : CE} {x : Expr} {pos : Pos} (ha : PT X x (tDT W T Ex a)) : PT X (.UnaryOp .Not x pos) (tDT W T Ex (.nt a)) := by
  refine PT.imp C.K (pt_not ha) fun σ H Q dj h => ?_
  obtain ⟨S, ρ, V, P⟩ := h dj
  simp only [evalE] at P
  refine tDT_use (f := fun b' => .ok (.bl (!b'))) (PP := fun S H r => PostT W S H r Q (Ex σ)) V (fun _ h => h) (fun h => h) (fun _ _ _ s h => PostT.mono h s) (by
    cases r : evalE T a ρ with
    | ok d =>
      rw [r] at P
      exact P
    | exc c => rw [r] at P; exact P
    | bad => rw [r] at P; exact P) ?_
  intro b' S1 H1 dj1 s1 V1 P
  exact fun dj' => P S1 H1 dj' (Step.refl V1.liv)
theorem pw_of {x : Expr} {op : BoolOp} {vs : List Expr} {pos : Pos} {t : TT} (h : PT X (.BoolOp op vs pos) t) : PW X (.BoolOp op vs pos) t := ⟨fun wh pins s σ H Q I q => h.run pins s σ H Q I q⟩
theorem sd_andT (C : Cok W T k Ex c X) {a b : CE} {x y : Expr} {r : List Expr} {pos : Pos} (ha : PT X x (tDT W T Ex a)) (hb : PW X (.BoolOp .And (y :: r) pos) (tDT W T Ex b)) : PT X (.BoolOp .And (x :: y :: r) pos) (tDT W T Ex (.and a b)) := by
  refine PT.imp C.K (PW.pt (pw_and ha hb)) fun σ H Q dj h => ?_
  obtain ⟨S, ρ, V, P⟩ := h dj
  simp only [evalE] at P
  refine tDT_use (f := fun b' => match b' with | true => evalE T b ρ | false => .ok (.bl false)) (PP := fun S H r => PostT W S H r Q (Ex σ)) V (fun _ h => h) (fun h => h) (fun _ _ _ s h => PostT.mono h s) P ?_
  intro b' S1 H1 dj1 s1 V1 P
  cases b' with
  | true => exact iteT fun _ => ⟨S1, ρ, V1, PostT.guard P⟩
  | false => exact iteF fun dj' => P S1 H1 dj' (Step.refl V1.liv)
theorem sd_orT (C : Cok W T k Ex c X) {a b : CE} {x y : Expr} {r : List Expr} {pos : Pos} (ha : PT X x (tDT W T Ex a)) (hb : PW X (.BoolOp .Or (y :: r) pos) (tDT W T Ex b)) : PT X (.BoolOp .Or (x :: y :: r) pos) (tDT W T Ex (.or a b)) := by
  refine PT.imp C.K (PW.pt (pw_or ha hb)) fun σ H Q dj h => ?_
  obtain ⟨S, ρ, V, P⟩ := h dj
  simp only [evalE] at P
  refine tDT_use (f := fun b' => match b' with | true => .ok (.bl true) | false => evalE T b ρ) (PP := fun S H r => PostT W S H r Q (Ex σ)) V (fun _ h => h) (fun h => h) (fun _ _ _ s h => PostT.mono h s) P ?_
  intro b' S1 H1 dj1 s1 V1 P
  cases b' with
  | false => exact iteF fun _ => ⟨S1, ρ, V1, PostT.guard P⟩
  | true => exact iteT fun dj' => P S1 H1 dj' (Step.refl V1.liv)
def tIfT (t : TT) (ta tb : TT) : TT := fun σ H Q => t σ H fun c H1 => if c = true then ta σ H1 Q else tb σ H1 Q
theorem pt_ifExp {c a b : Expr} {tA ta tb : TT} {pos : Pos} (hc : PT X c tA) (ha : PT X a ta) (hb : PT X b tb) : PT X (.IfExp c a b pos) (tIfT tA ta tb) := by
  refine ⟨fun pins s σ H Q I h => ?_⟩
  refine PyProof.Rows.isTrue_IfExp (thn (hc.run pins s σ H _ I h) fun d s1 ⟨H1, I1, q1⟩ => ?_)
  cases d with
  | true => exact ha.run pins s1 σ H1 Q I1 q1
  | false => exact hb.run pins s1 σ H1 Q I1 q1
theorem sd_ifeT (C : Cok W T k Ex c X) {t a b : CE} {x y z : Expr} {pos : Pos} (ht : PT X x (tDT W T Ex t)) (ha : PT X y (tDT W T Ex a)) (hb : PT X z (tDT W T Ex b)) : PT X (.IfExp x y z pos) (tDT W T Ex (.ife t a b)) := by
  refine PT.imp C.K (pt_ifExp ht ha hb) fun σ H Q dj h => ?_
  obtain ⟨S, ρ, V, P⟩ := h dj
  simp only [evalE] at P
  refine tDT_use (f := fun b' => match b' with | true => evalE T a ρ | false => evalE T b ρ) (PP := fun S H r => PostT W S H r Q (Ex σ)) V (fun _ h => h) (fun h => h) (fun _ _ _ s h => PostT.mono h s) P ?_
  intro b' S1 H1 dj1 s1 V1 P
  cases b' with
  | true => exact iteT fun _ => ⟨S1, ρ, V1, PostT.guard P⟩
  | false => exact iteF fun _ => ⟨S1, ρ, V1, PostT.guard P⟩

/-! ### the operators -/
/-- xs + ys of lists that may be read -/
def rCatL (K : PySem.W.Frag) : R2 := fun x y H Q => ∃ l b xs zs, x = .ref l ∧ y = .ref b ∧ SqL K H l xs ∧ SqL K H b zs ∧ xs.length + zs.length ≤ sizeLine ∧ ∀ p, H p = none → Q (.ref p) (upd H p (.lst (xs ++ zs)))
theorem op_catL : OpR X (binaryOp .Add) (rCatL X.K) := by
  intro pins s σ H x y v u Q I rx ry h
  obtain ⟨l, b, xs, zs, rfl, rfl, hH, hB, hz, q⟩ := h
  cases rx
  cases ry
  obtain ⟨its, r, ⟨⟨cls, dd, data, sl⟩, n, ho, hc, hdd, hd⟩, z⟩ := I.list hH
  obtain ⟨its2, r2, ⟨⟨cls2, dd2, data2, sl2⟩, n2, ho2, hc2, hdd2, hd2⟩, z2⟩ := I.list hB
  simp only at hc hd hc2 hd2
  subst hc hd hc2 hd2
  have e : its.toArray ++ its2.toArray = (its ++ its2).toArray := by simp
  have e1 := r.length
  have e2 := r2.length
  refine PySem.concat_meets ⟨_, ho, rfl⟩ ⟨_, ho2, rfl⟩ PySem.noFill_list_add PySem.seq_list_add PySem.F.slot_list_add PySem.F.entry_list_add (PySem.F.args_list_add_2 _ _) (PyProof.Rows.list_addW l b its.toArray its2.toArray n n2 dd dd2 sl sl2 (by rw [List.size_toArray, List.size_toArray]; omega)) ⟨ho, ho2, ?_⟩
  rw [e]
  exact ⟨.ref _, _, I.lnew (t' := s.toks) (r.append r2) (by rw [List.length_append]; omega), rfl, q _ I.fresh⟩
theorem op_fdivG : OpR X (binaryOp .FloorDiv) (rI (fun _ j => j ≠ 0 ∧ j.natAbs.log2 < 9000) fun i j => .int (i.fdiv j)) := opI fun _ _ _ _ _ _ _ hc q => PyProof.Rows.floordiv_int hc.1 q (.inl (PyProof.noPylong_of_log2 hc.2))
theorem sz_lim {n : Nat} (h : n ≤ lim) : n ≤ sizeLine := Nat.le_trans h (by decide)
theorem le_lim {n : Nat} (h : n ≤ lim) : n ≤ sizeLine := Nat.le_trans h (by decide)
theorem lt_lim {n : Nat} (h : n < lim) : n < sizeLine := Nat.lt_of_lt_of_le h (by decide)

theorem KT.sq {K : PySem.W.Frag} {H : Hp} {a : Addr} {xs : List V} (h : KT K a xs) : SqT K H a xs := .inr h
/-- a new list, not fixed -/
theorem PostF.newL {S : Addr → Prop} {H : Hp} {Q : VK} {E : XK} {p : Addr} {vs : List V} {l : List D} (P : PostF W S H (.ok (.lst l)) Q E) (lv : ∀ a, S a → H a ≠ none) (hp : H p = none) (r : Dps W S H vs l) :
    Disj W (upd H p (.lst vs)) → Q (.ref p) (upd H p (.lst vs)) := fun dj' =>
  P p vs S _ dj' (Step.new0 lv hp) hp (fun s => lv p s hp) upd_same (r.keep (Step.new0 lv hp).keep)
theorem PostF.toP {S : Addr → Prop} {H : Hp} {Q : VK} {E : XK} {d : D} (h : PostF W S H (.ok d) Q E) (nl : ∀ l, d ≠ .lst l) : Post W S H (.ok d) Q E := by
  cases d with
  | lst l => exact absurd rfl (nl l)
  | _ => exact h
theorem r2_add (hK : X.K = W.K) : Rule2F W (fun x y H Q => (rI0 fun i j => .int (i + j)) x y H Q ∨ (rCatL X.K x y H Q ∨ rCatT X.K x y H Q)) (evBin .add) := by
  intro S H x y d e Q E dj lv p q P
  rw [hK]
  cases d <;> cases e <;> first | exact P.elim | skip
  · cases p.int_of; cases q.int_of
    exact .inl ⟨_, _, rfl, rfl, fun dj' => Post.fin (E := E) P dj' lv (.int _)⟩
  · obtain ⟨a, vs, rfl, ha, ra⟩ := p.tup_of
    obtain ⟨b, us, rfl, hb, rb⟩ := q.tup_of
    simp only [evBin] at P
    split at P
    · rename_i hh
      refine .inr (.inr ⟨a, b, vs, us, rfl, rfl, ha, hb, ?_, ?_, ?_, ?_⟩)
      · intro z
        subst z
        have := ra.length
        exact hh.1 (List.length_eq_zero_iff.mp this.symm)
      · rw [ra.length, rb.length]; exact sz_lim hh.2
      · intro z
        subst z
        have := rb.length
        rw [List.length_eq_zero_iff.mp this.symm, List.append_nil] at P
        exact fun dj' => Post.fin (E := E) P dj' lv p
      · intro _ t ht dj'
        exact P _ S _ dj' (Step.new0 lv ht) (Dp.newT lv ht (ra.append rb))
    · exact P.elim
  · obtain ⟨a, vs, rfl, ha, ra⟩ := p.lst_of
    obtain ⟨b, us, rfl, hb, rb⟩ := q.lst_of
    simp only [evBin] at P
    split at P
    · rename_i hh
      exact .inr (.inl ⟨a, b, vs, us, rfl, rfl, ha, hb, by rw [ra.length, rb.length]; exact sz_lim hh, fun t ht => P.newL lv ht (ra.append rb)⟩)
    · exact P.elim
theorem r2_sub : Rule2 W (rI0 fun i j => .int (i - j)) (evBin .sub) := by
  intro S H x y d e Q E dj lv p q P
  cases d <;> cases e <;> first | exact P.elim | skip
  cases p.int_of; cases q.int_of
  exact ⟨_, _, rfl, rfl, fun dj' => Post.fin P dj' lv (.int _)⟩
theorem r2_mul : Rule2 W (rI CMulW fun i j => .int (i * j)) (evBin .mul) := by
  intro S H x y d e Q E dj lv p q P
  cases d <;> cases e <;> first | exact P.elim | skip
  cases p.int_of; cases q.int_of
  simp only [evBin] at P
  split at P
  · rename_i hh
    exact ⟨_, _, rfl, rfl, hh, fun dj' => Post.fin P dj' lv (.int _)⟩
  · exact P.elim
theorem r2_fdiv : Rule2 W (rI (fun _ j => j ≠ 0 ∧ j.natAbs.log2 < 9000) fun i j => .int (i.fdiv j)) (evBin .fdiv) := by
  intro S H x y d e Q E dj lv p q P
  cases d <;> cases e <;> first | exact P.elim | skip
  cases p.int_of; cases q.int_of
  simp only [evBin] at P
  split at P
  · rename_i hh
    exact ⟨_, _, rfl, rfl, hh, fun dj' => Post.fin P dj' lv (.int _)⟩
  · exact P.elim
theorem r2_mod : Rule2 W (rI (fun _ j => j ≠ 0) fun i j => .int (i.fmod j)) (evBin .mod) := by
  intro S H x y d e Q E dj lv p q P
  cases d <;> cases e <;> first | exact P.elim | skip
  cases p.int_of; cases q.int_of
  simp only [evBin] at P
  split at P
  · rename_i hh
    exact ⟨_, _, rfl, rfl, hh, fun dj' => Post.fin P dj' lv (.int _)⟩
  · exact P.elim
theorem r2_shl : Rule2 W (rI CPow fun i j => .int (i * 2 ^ j.toNat)) (evBin .shl) := by
  intro S H x y d e Q E dj lv p q P
  cases d <;> cases e <;> first | exact P.elim | skip
  cases p.int_of; cases q.int_of
  simp only [evBin] at P
  split at P
  · rename_i hh
    exact ⟨_, _, rfl, rfl, hh, fun dj' => Post.fin P dj' lv (.int _)⟩
  · exact P.elim
theorem r2_pow : Rule2 W (rI CPow fun i j => .int (i ^ j.toNat)) (evBin .pow) := by
  intro S H x y d e Q E dj lv p q P
  cases d <;> cases e <;> first | exact P.elim | skip
  cases p.int_of; cases q.int_of
  simp only [evBin] at P
  split at P
  · rename_i hh
    exact ⟨_, _, rfl, rfl, hh, fun dj' => Post.fin P dj' lv (.int _)⟩
  · exact P.elim
theorem bin_all (C : Cok W T k Ex c X) {o : BOp} {a b : CE} {x y : Expr} {op : Operator} {pos : Pos} (h : opB o op = true) (ha : PE X x (tD W T Ex a)) (hb : PE X y (tD W T Ex b)) : PE X (.BinOp x op y pos) (tD W T Ex (.bin o a b)) := by
  cases o <;> cases op <;> first | cases h | skip
  · exact sd_bin C (op_add.or (op_catL.or op_catT)) (r2_add C.K).weak ha hb
  · exact sd_bin C op_sub r2_sub ha hb
  · exact sd_bin C op_mulW r2_mul ha hb
  · exact sd_bin C op_fdivG r2_fdiv ha hb
  · exact sd_bin C op_modN r2_mod ha hb
  · exact sd_bin C op_pow r2_pow ha hb
  · exact sd_bin C op_shl r2_shl ha hb
theorem binF_all (C : Cok W T k Ex c X) {a b : CE} {x y : Expr} {op : Operator} {pos : Pos} (h : opB .add op = true) (ha : PE X x (tD W T Ex a)) (hb : PE X y (tD W T Ex b)) : PE X (.BinOp x op y pos) (tF W T Ex (.bin .add a b)) := by
  cases op <;> first | cases h | skip
  exact sf_bin C (op_add.or (op_catL.or op_catT)) (r2_add C.K) ha hb

/-! ### comparisons -/
mutual
theorem Dp.toP {S : Addr → Prop} {H : Hp} : ∀ {v : V} {d : D} {p : PyData}, Dp W S H v d → D.toP d = some p → L2.Dp W.K H v p
  | _, _, _, .non, e => by simp [D.toP] at e; subst e; exact .non
  | _, _, _, .bl b, e => by simp [D.toP] at e; subst e; exact .bl b
  | _, _, _, .int b, e => by simp [D.toP] at e; subst e; exact .int b
  | _, _, _, .str b, e => by simp [D.toP] at e; subst e; exact .str b
  | _, _, _, .tup (ds := ds) h r, e => by
    simp only [D.toP, Option.map_eq_some_iff] at e
    obtain ⟨ps, e1, e2⟩ := e
    subst e2
    exact .tup (.inl h) (Dps.toP r e1)
  | _, _, _, .tupK (ds := ds) h r, e => by
    simp only [D.toP, Option.map_eq_some_iff] at e
    obtain ⟨ps, e1, e2⟩ := e
    subst e2
    exact .tup (.inr h) (Dps.toP r e1)
  | _, _, _, .lst (ds := ds) s h r, e => by
    simp only [D.toP, Option.map_eq_some_iff] at e
    obtain ⟨ps, e1, e2⟩ := e
    subst e2
    exact .lst (.inl h) (Dps.toP r e1)
  | _, _, _, .lstK (ds := ds) h r, e => by
    simp only [D.toP, Option.map_eq_some_iff] at e
    obtain ⟨ps, e1, e2⟩ := e
    subst e2
    exact .lst (.inr h) (Dps.toP r e1)
  | _, _, _, .obj _ _ _ _ _, e => by simp [D.toP] at e
theorem Dps.toP {S : Addr → Prop} {H : Hp} : ∀ {vs : List V} {ds : List D} {ps : List PyData}, Dps W S H vs ds → D.toPs ds = some ps → L2.DpAll W.K H vs ps
  | _, _, _, .nil, e => by simp [D.toPs] at e; subst e; exact .nil
  | _, _, _, .cons (d := d) (ds := ds) h t, e => by
    simp only [D.toPs] at e
    split at e
    · rename_i p ps e1 e2
      cases e
      exact .cons (Dp.toP h e1) (Dps.toP t e2)
    · cases e
end
theorem rc_int {o : COp} {g : Int → Int → Bool} (hf : ∀ d e, evCmp o d e = match d, e with | .int i, .int j => .ok (.bl (g i j)) | _, _ => .bad) : RuleC W (rI0 fun i j => .bl (g i j)) (evCmp o) := by
  intro S H x y d e b Q dj p q hb P
  rw [hf] at hb
  cases d <;> cases e <;> first | cases hb | skip
  cases p.int_of; cases q.int_of
  exact ⟨_, _, rfl, rfl, P⟩
theorem eqD_of {d e : D} {b : Bool} (h : eqD d e = .ok b) : ∃ p q, D.toP d = some p ∧ D.toP e = some q ∧ SeqAt.shaped p = true ∧ SeqAt.shaped q = true ∧ b = PyData.eqv p q := by
  unfold eqD at h
  split at h
  · rename_i p q ea eb
    split at h
    · rename_i hs
      rw [Bool.and_eq_true] at hs
      exact ⟨p, q, ea, eb, hs.1, hs.2, (R.ok.inj h).symm⟩
    · cases h
  · cases h
theorem rc_eq (hK : X.K = W.K) : RuleC W (rEqD X.K) (evCmp .eq) := by
  intro S H x y d e b Q dj p q hb P
  rw [hK]
  simp only [evCmp] at hb
  cases r : eqD d e with
  | ok z =>
    rw [r] at hb
    cases hb
    obtain ⟨a, b, e1, e2, h1, h2, rfl⟩ := eqD_of r
    exact ⟨a, b, p.toP e1, q.toP e2, h1, h2, P⟩
  | exc c => rw [r] at hb; cases hb
  | bad => rw [r] at hb; cases hb
theorem rc_ne (hK : X.K = W.K) : RuleC W (rNeD X.K) (evCmp .ne) := by
  intro S H x y d e b Q dj p q hb P
  rw [hK]
  simp only [evCmp] at hb
  cases r : eqD d e with
  | ok z =>
    rw [r] at hb
    cases hb
    obtain ⟨a, b, e1, e2, h1, h2, rfl⟩ := eqD_of r
    exact ⟨a, b, p.toP e1, q.toP e2, h1, h2, P⟩
  | exc c => rw [r] at hb; cases hb
  | bad => rw [r] at hb; cases hb
theorem Dp.isN {S : Addr → Prop} {H : Hp} {v : V} {d : D} (p : Dp W S H v d) : decide (v = .non) = d.isNon := by
  cases p <;> first | rfl | exact decide_eq_false (fun z => nomatch z)
theorem rc_isN : RuleC W (fun x y H Q => (y = .non ∧ Q (.bl (decide (x = .non))) H) ∨ (∃ a b, x = .bl a ∧ y = .bl b ∧ Q (.bl (decide (a = b))) H)) (evCmp .isN) := by
  intro S H x y d e b Q dj p q hb P
  cases e with
  | non =>
    refine .inl ⟨q.non_of, ?_⟩
    rw [p.isN]
    cases d <;> (cases hb; exact P)
  | bl z =>
    cases d <;> first | (cases hb; done) | skip
    cases hb
    exact .inr ⟨_, _, p.bl_of, q.bl_of, P⟩
  | _ => cases d <;> cases hb
theorem rc_notN : RuleC W (fun x y H Q => (y = .non ∧ Q (.bl (!decide (x = .non))) H) ∨ (∃ a b, x = .bl a ∧ y = .bl b ∧ Q (.bl (!decide (a = b))) H)) (evCmp .notN) := by
  intro S H x y d e b Q dj p q hb P
  cases e with
  | non =>
    refine .inl ⟨q.non_of, ?_⟩
    rw [p.isN]
    cases d <;> (cases hb; exact P)
  | bl z =>
    cases d <;> first | (cases hb; done) | skip
    cases hb
    exact .inr ⟨_, _, p.bl_of, q.bl_of, P⟩
  | _ => cases d <;> cases hb
theorem flat_of {S : Addr → Prop} {H : Hp} {v : V} {d : D} (p : Dp W S H v d) (h : flatD d = true) : flatV v = true := by
  cases p <;> first | rfl | cases h
theorem eqF_of {S : Addr → Prop} {H : Hp} {v u : V} {d e : D} (p : Dp W S H v d) (q : Dp W S H u e) (h : flatD d = true) (h' : flatD e = true) : eqV v u = eqF d e := by
  cases p <;> cases q <;> first | rfl | exact absurd h (by simp [flatD]) | exact absurd h' (by simp [flatD])
theorem inD_of {S : Addr → Prop} {H : Hp} {v : V} {d : D} (p : Dp W S H v d) (h : flatD d = true) : ∀ {vs : List V} {ds : List D}, Dps W S H vs ds → ds.all flatD = true → inV v vs = inD d ds ∧ vs.all flatV = true
  | _, _, .nil, _ => ⟨rfl, rfl⟩
  | _, _, .cons q t, hs => by
    simp only [List.all_cons, Bool.and_eq_true] at hs
    obtain ⟨e1, e2⟩ := inD_of p h t hs.2
    refine ⟨?_, ?_⟩
    · simp only [inV, inD, List.any_cons] at e1 ⊢
      rw [e1, eqF_of q p hs.1 h]
    · rw [List.all_cons, e2, flat_of q hs.1]; rfl
theorem seq_of {S : Addr → Prop} {H : Hp} {v : V} {d : D} {l : List D} (p : Dp W S H v d) (h : seqOf d = some l) : ∃ a vs, v = .ref a ∧ (SqL W.K H a vs ∨ SqT W.K H a vs) ∧ Dps W S H vs l := by
  cases d <;> simp [seqOf] at h
  · subst h
    obtain ⟨a, vs, e, q, r⟩ := p.tup_of
    exact ⟨a, vs, e, .inr q, r⟩
  · subst h
    obtain ⟨a, vs, e, q, r⟩ := p.lst_of
    exact ⟨a, vs, e, .inl q, r⟩
theorem rc_in (hK : X.K = W.K) : RuleC W (rIn X.K false) (evCmp .inn) := by
  intro S H x y d e b Q dj p q hb P
  rw [hK]
  simp only [evCmp] at hb
  split at hb
  · rename_i l el
    split at hb
    · rename_i hs
      rw [Bool.and_eq_true] at hs
      obtain ⟨a, vs, rfl, sq, r⟩ := seq_of q el
      obtain ⟨e1, e2⟩ := inD_of p hs.1 r hs.2
      refine ⟨a, vs, rfl, sq, flat_of p hs.1, e2, ?_⟩
      rw [e1]
      cases hb
      exact P
    · cases hb
  · cases hb
theorem rc_nin (hK : X.K = W.K) : RuleC W (rIn X.K true) (evCmp .nin) := by
  intro S H x y d e b Q dj p q hb P
  rw [hK]
  simp only [evCmp] at hb
  split at hb
  · rename_i l el
    split at hb
    · rename_i hs
      rw [Bool.and_eq_true] at hs
      obtain ⟨a, vs, rfl, sq, r⟩ := seq_of q el
      obtain ⟨e1, e2⟩ := inD_of p hs.1 r hs.2
      refine ⟨a, vs, rfl, sq, flat_of p hs.1, e2, ?_⟩
      rw [e1]
      cases hb
      exact P
    · cases hb
  · cases hb
/-- every comparison has a rule -/
theorem cmp_rule (C : Cok W T k Ex c X) {o : COp} {op : CmpOp} (h : copB o op = true) : ∃ r, OpR X (compareOp op) r ∧ RuleC W r (evCmp o) := by
  cases o <;> cases op <;> first | cases h | skip
  · exact ⟨_, op_lt, rc_int (g := fun i j => decide (i < j)) fun d e => by cases d <;> cases e <;> rfl⟩
  · exact ⟨_, op_le, rc_int (g := fun i j => decide (i ≤ j)) fun d e => by cases d <;> cases e <;> rfl⟩
  · exact ⟨_, op_gt, rc_int (g := fun i j => decide (j < i)) fun d e => by cases d <;> cases e <;> rfl⟩
  · exact ⟨_, op_ge, rc_int (g := fun i j => decide (j ≤ i)) fun d e => by cases d <;> cases e <;> rfl⟩
  · exact ⟨_, op_eqD C.room.units, rc_eq C.K⟩
  · exact ⟨_, op_neD C.room.units, rc_ne C.K⟩
  · exact ⟨_, op_isN.or op_is_bl, rc_isN⟩
  · exact ⟨_, op_notN.or op_isnot_bl, rc_notN⟩
  · exact ⟨_, op_in_seq, rc_in C.K⟩
  · exact ⟨_, op_notIn_seq, rc_nin C.K⟩
end
end RF

end S_RF6
section S_RF7
set_option maxHeartbeats 4000000
/-! RF7: argument lists, displays, subscripts, calls. -/
namespace RF
open PySem PySem.Spec L2
section
variable {W : Wd} {T : Tab} {k : Nat} {Ex : L2.St → XK} {c : Ctx} {X : Cx}
theorem sa_nil (C : Cok W T k Ex c X) : PA X [] (tDA W T Ex .nil) := by
  refine PA.imp C.K pa_nil fun σ H Q dj h => ?_
  obtain ⟨S, ρ, V, P⟩ := h dj
  exact fun dj' => P [] S H dj' (Step.refl V.liv) .nil
theorem sa_cons (C : Cok W T k Ex c X) {a as : CE} {e : Expr} {es : List Expr} (hs : noStar e = true) (ha : PE X e (tD W T Ex a)) (hr : PA X es (tDA W T Ex as)) : PA X (e :: es) (tDA W T Ex (.cons a as)) := by
  refine PA.imp C.K (pa_cons ha hr (star1 hs)) fun σ H Q dj h => ?_
  obtain ⟨S, ρ, V, P⟩ := h dj
  simp only [evalE] at P
  refine tD_bindA V P fun x v S1 H1 dj1 s1 V1 p P => ?_
  intro _
  refine ⟨S1, ρ, V1, ?_⟩
  cases r : evalE T as ρ with
  | ok d =>
    rw [r] at P
    cases d with
    | tup l => exact fun vs S2 H2 dj2 s2 ps dj' => P (v :: vs) S2 H2 dj' s2 (.cons (p.keep s2.keep) ps)
    | _ => exact P
  | exc c => rw [r] at P; exact P
  | bad => rw [r] at P; exact P
theorem sd_tup (C : Cok W T k Ex c X) {as : CE} {es : List Expr} {n : Nat} {pos : Pos} (ha : PA X es (tDA W T Ex as)) : PE X (.Tuple es n pos) (tD W T Ex (.tup as)) := by
  refine PE.imp C.K (pe_tup ha) fun σ H Q dj h => ?_
  obtain ⟨S, ρ, V, P⟩ := h dj
  simp only [evalE] at P
  refine tDA_bind V P fun xs vs S1 H1 dj1 s1 V1 ps P => ?_
  split at P
  · rename_i hl
    exact ⟨by rw [ps.length]; exact sz_lim hl, fun p hp dj' => P _ S1 _ dj' (Step.new0 V1.liv hp) (Dp.newT V1.liv hp ps)⟩
  · exact P.elim
theorem sf_lst (C : Cok W T k Ex c X) {as : CE} {es : List Expr} {pos : Pos} (ha : PA X es (tDA W T Ex as)) : PE X (.List es pos) (tF W T Ex (.lst as)) := by
  refine PE.imp C.K (pe_lst ha) fun σ H Q dj h => ?_
  obtain ⟨S, ρ, V, P⟩ := h dj
  simp only [evalE] at P
  refine tDA_bindF V P fun xs vs S1 H1 dj1 s1 V1 ps P => ?_
  split at P
  · rename_i hl
    exact ⟨by rw [ps.length]; exact sz_lim hl, fun p hp => P.newL V1.liv hp ps⟩
  · exact P.elim
theorem weak {a : CE} {e : Expr} (hK : X.K = W.K) (h : PE X e (tF W T Ex a)) : PE X e (tD W T Ex a) := PE.imp hK h fun σ H Q dj q => tF_of fun dj' => by
  obtain ⟨S, ρ, V, P⟩ := q dj'
  exact ⟨S, ρ, V, P.guard⟩
theorem sd_idx (C : Cok W T k Ex c X) {a b : CE} {x y : Expr} {pos : Pos} (hs : noSlice y = true) (ha : PE X x (tD W T Ex a)) (hb : PE X y (tD W T Ex b)) : PE X (.Subscript x y pos) (tD W T Ex (.idx a b)) := by
  refine PE.imp C.K (pe_ix (ix_list.or ix_tup) ha hb (ix_plain hs)) fun σ H Q dj h => ?_
  obtain ⟨S, ρ, V, P⟩ := h dj
  simp only [evalE] at P
  refine tD_bind V P fun x v S1 H1 dj1 s1 V1 p P => ?_
  refine tD_bind V1 P fun y u S2 H2 dj2 s2 V2 q P => ?_
  have p := p.keep s2.keep
  rw [C.K]
  cases x <;> cases y <;> first | exact P.elim | skip
  · cases q.int_of
    obtain ⟨a, vs, rfl, ha, ra⟩ := p.tup_of
    simp only [evIdx] at P
    split at P
    · rename_i d hd
      obtain ⟨w, hw, dp⟩ := atI_map ra hd
      exact .inr ⟨a, vs, _, w, rfl, rfl, ha, hw, fun dj' => Post.fin P dj' V2.liv dp⟩
    · exact P.elim
  · cases q.int_of
    obtain ⟨a, vs, rfl, ha, ra⟩ := p.lst_of
    simp only [evIdx] at P
    split at P
    · rename_i d hd
      obtain ⟨w, hw, dp⟩ := atI_map ra hd
      exact .inl ⟨a, vs, _, w, rfl, rfl, ha, hw, fun dj' => Post.fin P dj' V2.liv dp⟩
    · exact P.elim
/-! ### slices -/
def tO (W : Wd) (T : Tab) (Ex : L2.St → XK) (e : CE) : TO := fun σ H Q => Disj W H → ∃ S ρ, View W S ρ σ H ∧ match partOf e (evalE T e ρ) with
  | .ok o => ∀ S' H', Disj W H' → Step S H S' H' → Q o H'
  | .exc c => PX W H c (Ex σ)
  | .bad => False
theorem so_none (hK : X.K = W.K) : PO X none (tO W T Ex .nil) := ⟨fun pins s σ H Q I h => po_none.run pins s σ H Q I (by
  obtain ⟨S, ρ, V, P⟩ := h (RF.Inv.disj hK I)
  exact P S H (RF.Inv.disj hK I) (Step.refl V.liv))⟩
theorem partOf_ne {a : CE} {r : R D} (h : a ≠ .nil) : partOf a r = r.bind fun d => match d with | .int i => .ok (some i) | _ => .bad := by
  cases a <;> first | exact absurd rfl h | rfl
theorem so_some (hK : X.K = W.K) {a : CE} {e : Expr} (hn : a ≠ .nil) (ha : PE X e (tD W T Ex a)) : PO X (some e) (tO W T Ex a) := ⟨fun pins s σ H Q I h => (po_some ha).run pins s σ H Q I (by
  obtain ⟨S, ρ, V, P⟩ := h (RF.Inv.disj hK I)
  rw [partOf_ne hn] at P
  intro dj
  refine ⟨S, ρ, V, ?_⟩
  cases r : evalE T a ρ with
  | ok d =>
    rw [r] at P
    cases d with
    | int i => exact fun v S' H' dj' st p => ⟨i, p.int_of, P S' H' dj' st⟩
    | _ => exact P.elim
  | exc c => rw [r] at P; exact P
  | bad => rw [r] at P; exact P.elim)⟩
theorem tO_bind {e : CE} {f : Option Int → R D} {Q : VK} {R' : Option Int → Hp → Prop} {S : Addr → Prop} {ρ : Env} {σ : L2.St} {H : Hp} (V : View W S ρ σ H) (P : PostF W S H ((partOf e (evalE T e ρ)).bind f) Q (Ex σ))
    (k : ∀ o S' H', Disj W H' → Step S H S' H' → View W S' ρ σ H' → PostF W S' H' (f o) Q (Ex σ) → R' o H') : tO W T Ex e σ H R' := fun _ => by
  refine ⟨S, ρ, V, ?_⟩
  cases r : partOf e (evalE T e ρ) with
  | ok d => rw [r] at P; exact fun S2 H2 dj s2 => k d S2 H2 dj s2 (V.step s2) (PostF.mono P s2)
  | exc c => rw [r] at P; exact P
  | bad => rw [r] at P; exact P
theorem sf_sl (C : Cok W T k Ex c X) {a lo hi : CE} {x : Expr} {l h : Option Expr} {p2 pos : Pos} (ha : PE X x (tD W T Ex a)) (hl : PO X l (tO W T Ex lo)) (hh : PO X h (tO W T Ex hi)) : PE X (.Subscript x (.Slice l h none p2) pos) (tF W T Ex (.sl a lo hi)) := by
  refine PE.imp C.K (pe_slice (sl_list.or sl_tup) ha hl hh) fun σ H Q dj h => ?_
  obtain ⟨S, ρ, V, P⟩ := h dj
  simp only [evalE] at P
  refine tD_bindF V P fun x v S1 H1 dj1 s1 V1 p P => ?_
  refine tO_bind V1 P fun lo S2 H2 dj2 s2 V2 P => ?_
  refine tO_bind V2 P fun hi S3 H3 dj3 s3 V3 P => ?_
  have p := p.keep (s2.trans s3).keep
  rw [C.K]
  cases x <;> first | exact P.elim | skip
  · obtain ⟨a, vs, rfl, ha, ra⟩ := p.tup_of
    simp only [evSl] at P
    split at P
    · exact P.elim
    · rename_i hw
      refine .inr ⟨a, vs, rfl, ha, by rw [ra.length]; exact hw, fun t ht dj' => ?_⟩
      exact P _ S3 _ dj' (Step.new0 V3.liv ht) (Dp.newT V3.liv ht (cut_map ra lo hi))
  · obtain ⟨a, vs, rfl, ha, ra⟩ := p.lst_of
    exact .inl ⟨a, vs, rfl, ha, fun t ht => P.newL V3.liv ht (cut_map ra lo hi)⟩
/-! ### calls of defs -/
theorem sd_call (C : Cok W T k Ex c X) {f : Nat} {as : CE} {x : Str} {e : Expr} {es : List Expr} {p pos : Pos} (hf : c.fns f = some x) (hg : glB c.sc x = true) (hs : ∀ a ∈ e :: es, noStar a = true) (ha : PA X (e :: es) (tDA W T Ex as)) :
    PE X (.Call (.Name x p) (e :: es) [] pos) (tD W T Ex (.call f as)) := by
  obtain ⟨fa, fd, ps, hm, hk, hb, hl, F⟩ := C.fn f x hf
  obtain ⟨h1, h2⟩ := look_gl C hg
  refine PE.imp C.K (pe_callS (E := Ex) F C.room h1 hm hk hb (fun σ => passAt C.takes σ) ha h2 (star1 (hs e List.mem_cons_self)) (stars_none fun a h => hs a (List.mem_cons_of_mem _ h))) fun σ H Q dj h => ?_
  obtain ⟨S, ρ, V, P⟩ := h dj
  simp only [evalE] at P
  refine tDA_bind V P fun xs vs S1 H1 dj1 s1 V1 pv P => ?_
  exact ⟨by rw [pv.length]; exact hl xs fun z => by rw [z] at P; exact P, fun _ => ⟨S1, xs, V1.liv, pv, P.guard⟩⟩
theorem sf_callf (C : Cok W T k Ex c X) {f : Nat} {as : CE} {x : Str} {e : Expr} {es : List Expr} {p pos : Pos} (hf : c.fns f = some x) (hfr : c.frs f = true) (hg : glB c.sc x = true) (hs : ∀ a ∈ e :: es, noStar a = true) (ha : PA X (e :: es) (tDA W T Ex as)) :
    PE X (.Call (.Name x p) (e :: es) [] pos) (tF W T Ex (.callf f as)) := by
  obtain ⟨fa, fd, ps, hm, hk, hb, hl, F⟩ := C.fnf f x hf hfr
  obtain ⟨h1, h2⟩ := look_gl C hg
  refine PE.imp C.K (pe_callS (E := Ex) F C.room h1 hm hk hb (fun σ => passAt C.takes σ) ha h2 (star1 (hs e List.mem_cons_self)) (stars_none fun a h => hs a (List.mem_cons_of_mem _ h))) fun σ H Q dj h => ?_
  obtain ⟨S, ρ, V, P⟩ := h dj
  simp only [evalE] at P
  refine tDA_bindF V P fun xs vs S1 H1 dj1 s1 V1 pv P => ?_
  exact ⟨by rw [pv.length]; exact hl xs fun z => by rw [z] at P; exact P, fun _ => ⟨S1, xs, V1.liv, pv, PostF.guard (show PostF W S1 H1 (T.call f xs) Q (Ex σ) from P)⟩⟩
theorem dps_rep {S : Addr → Prop} {H : Hp} {vs : List V} {ds : List D} (h : Dps W S H vs ds) : ∀ k : Nat, Dps W S H (List.replicate k vs).flatten (List.replicate k ds).flatten
  | 0 => .nil
  | k + 1 => by rw [List.replicate_succ, List.replicate_succ, List.flatten_cons, List.flatten_cons]; exact h.append (dps_rep h k)
theorem sf_rep (C : Cok W T k Ex c X) {as b : CE} {es : List Expr} {y : Expr} {p pos : Pos} (ha : PA X es (tDA W T Ex as)) (hb : PE X y (tD W T Ex b)) : PE X (.BinOp (.List es p) .Mult y pos) (tF W T Ex (.rep as b)) := by
  refine PE.imp C.K (pe_op op_rep (pe_lst ha) hb) fun σ H Q dj h => ?_
  obtain ⟨S, ρ, V, P⟩ := h dj
  simp only [evalE] at P
  refine tDA_bindF V P fun xs vs S1 H1 dj1 s1 V1 ps P => ?_
  by_cases hl : xs.length ≤ lim
  case neg => rw [if_neg hl] at P; exact P.elim
  rw [if_pos hl] at P
  refine ⟨by rw [ps.length]; exact sz_lim hl, fun q hq => ?_⟩
  have st := Step.new0 (o := .lst vs) V1.liv hq
  refine tD_bindF (V1.step st) (PostF.mono P st) fun x v S2 H2 dj2 s2 V2 px P => ?_
  have hq2 : H2 q = some (.lst vs) := s2.same _ _ upd_same
  cases x <;> first | exact P.elim | skip
  rename_i kk
  cases px.int_of
  simp only [repD] at P
  split at P
  · rename_i hk
    refine ⟨q, kk, vs, rfl, rfl, hq2, by omega, by omega, ?_, fun r hr => P.newL V2.liv hr (dps_rep (ps.keep (st.trans s2).keep) _)⟩
    rw [ps.length]
    exact sz_lim hk.2.2
  · exact P.elim
theorem dps_up {S : Addr → Prop} {H : Hp} : ∀ (k : Nat) (lo : Int), Dps W S H ((List.range k).map fun i => V.int (lo + (i : Nat))) (upFrom lo 1 k)
  | 0, _ => .nil
  | k + 1, lo => by
    rw [List.range_succ_eq_map, List.map_cons, List.map_map]
    refine .cons (by simpa using Dp.int lo) ?_
    have := dps_up (S := S) (H := H) k (lo + 1)
    have e : (fun i : Nat => V.int (lo + 1 + (i : Nat))) = (fun i : Nat => V.int (lo + (i : Nat))) ∘ Nat.succ := by
      funext i
      simp only [Function.comp_apply, Nat.succ_eq_add_one, Int.natCast_add]
      congr 1
      omega
    rw [e] at this
    exact this
theorem sf_lrg (C : Cok W T k Ex c X) {a : CE} {e : Expr} {p p2 pos pos2 : Pos} (hg : glB c.sc "list" = true) (hg2 : glB c.sc "range" = true) (hs : noStar e = true) (ha : PE X e (tD W T Ex a)) : PE X (.Call (.Name "list" p) [.Call (.Name "range" p2) [e] [] pos2] [] pos) (tF W T Ex (.lrg a)) := by
  obtain ⟨h1, h2⟩ := look_gl C hg
  obtain ⟨h3, h4⟩ := look_gl C hg2
  refine PE.imp C.K (pe_listRg C.calm h1 (C.blt _ (by decide)) (prg_1 h3 (C.blt _ (by decide)) ha (star1 hs))) fun σ H Q dj h => ?_
  obtain ⟨S, ρ, V, P⟩ := h dj
  simp only [evalE] at P
  refine tD_bindF V P fun x v S1 H1 dj1 s1 V1 px P => ?_
  cases x <;> first | exact P.elim | skip
  rename_i n
  cases px.int_of
  simp only [lrgD] at P
  split at P
  · rename_i hn
    have hl : (lim : Int) = 100000 := rfl
    refine ⟨n, rfl, ⟨by omega, by omega, by omega, by omega, by omega⟩, fun q hq => ?_⟩
    refine P.newL V1.liv hq ?_
    unfold rgV
    rw [Int.sub_zero]
    exact dps_up _ 0
  · exact P.elim
theorem sf_rev (C : Cok W T k Ex c X) {a : CE} {e : Expr} {j : Nat} {p1 p2 p3 pos : Pos} (ha : PE X e (tD W T Ex a)) : PE X (.Subscript e (.Slice none none (some (.UnaryOp .USub (.Constant (.int 1) j p1) p2)) p3) pos) (tF W T Ex (.rev a)) := by
  refine PE.imp C.K (pe_revL ha) fun σ H Q dj h => ?_
  obtain ⟨S, ρ, V, P⟩ := h dj
  simp only [evalE] at P
  refine tD_bindF V P fun x v S1 H1 dj1 s1 V1 px P => ?_
  cases x <;> first | exact P.elim | skip
  obtain ⟨q, vs, rfl, hq, rq⟩ := px.lst_of
  exact ⟨q, vs, rfl, by rw [C.K]; exact hq, fun t ht => P.newL V1.liv ht rq.reverse⟩
/-! ### built-ins -/
theorem sf_bi (C : Cok W T k Ex c X) {b : BI} {as : CE} {x : Str} {e : Expr} {es : List Expr} {p pos : Pos} {id : String} {r : List V → Hp → VK → Prop} (hx : x = biN b) (hm : X.mg x = none) (hv : bootBuiltins x = some (.builtin id)) (hn : x ≠ "__name__") (hc : CallR X (.builtin id) r)
    (hr : ∀ S H vs ds Q E, Disj W H → (∀ a, S a → H a ≠ none) → Dps W S H vs ds → PostF W S H (evBI b ds) Q E → r vs H fun v H' => Disj W H' → Q v H')
    (hg : glB c.sc x = true) (hs : ∀ a ∈ e :: es, noStar a = true) (ha : PA X (e :: es) (tDA W T Ex as)) : PE X (.Call (.Name x p) (e :: es) [] pos) (tF W T Ex (.bi b as)) := by
  obtain ⟨h1, h2⟩ := look_gl C hg
  refine PE.imp C.K (pe_callB hc h1 hm hv ha hn h2 (star1 (hs e List.mem_cons_self)) (stars_none fun a h => hs a (List.mem_cons_of_mem _ h))) fun σ H Q dj h => ?_
  obtain ⟨S, ρ, V, P⟩ := h dj
  simp only [evalE] at P
  refine tDA_bindF V P fun xs vs S1 H1 dj1 s1 V1 ps P => ?_
  exact hr S1 H1 vs xs Q _ dj1 V1.liv ps P
theorem sf_biT (C : Cok W T k Ex c X) {b : BI} {as : CE} {x : Str} {e : Expr} {es : List Expr} {p pos : Pos} {id : String} {r : List V → Hp → VK → Prop} (hx : x = biN b) (hm : X.mg x = none) (hv : bootBuiltins x = some (.type id)) (hn : x ≠ "__name__") (hc : CallR X (.type id) r)
    (hr : ∀ S H vs ds Q E, Disj W H → (∀ a, S a → H a ≠ none) → Dps W S H vs ds → PostF W S H (evBI b ds) Q E → r vs H fun v H' => Disj W H' → Q v H')
    (hg : glB c.sc x = true) (hs : ∀ a ∈ e :: es, noStar a = true) (ha : PA X (e :: es) (tDA W T Ex as)) : PE X (.Call (.Name x p) (e :: es) [] pos) (tF W T Ex (.bi b as)) := by
  obtain ⟨h1, h2⟩ := look_gl C hg
  refine PE.imp C.K (pe_callTy hc h1 hm hv ha hn h2 (star1 (hs e List.mem_cons_self)) (stars_none fun a h => hs a (List.mem_cons_of_mem _ h))) fun σ H Q dj h => ?_
  obtain ⟨S, ρ, V, P⟩ := h dj
  simp only [evalE] at P
  refine tDA_bindF V P fun xs vs S1 H1 dj1 s1 V1 ps P => ?_
  exact hr S1 H1 vs xs Q _ dj1 V1.liv ps P
theorem dps1 {S : Addr → Prop} {H : Hp} {vs : List V} {d : D} (h : Dps W S H vs [d]) : ∃ v, vs = [v] ∧ Dp W S H v d := by
  cases h with
  | cons p t => cases t; exact ⟨_, rfl, p⟩
theorem dps2 {S : Addr → Prop} {H : Hp} {vs : List V} {d e : D} (h : Dps W S H vs [d, e]) : ∃ v u, vs = [v, u] ∧ Dp W S H v d ∧ Dp W S H u e := by
  cases h with
  | cons p t =>
    obtain ⟨u, rfl, q⟩ := dps1 t
    exact ⟨_, _, rfl, p, q⟩
theorem bools_of {S : Addr → Prop} {H : Hp} : ∀ {vs : List V} {ds : List D} {bs : List Bool}, Dps W S H vs ds → bools ds = some bs → vs = bs.map V.bl
  | _, _, _, .nil, e => by simp [bools] at e; subst e; rfl
  | _, _, bs, .cons (d := d) p t, e => by
    cases d <;> simp [bools] at e
    obtain ⟨r, e1, e2⟩ := e
    subst e2
    rw [bools_of t e1, p.bl_of]; rfl
theorem ints_of {S : Addr → Prop} {H : Hp} : ∀ {vs : List V} {ds : List D} {bs : List Int}, Dps W S H vs ds → intsOf ds = some bs → vs = bs.map V.int
  | _, _, _, .nil, e => by simp [intsOf] at e; subst e; rfl
  | _, _, bs, .cons (d := d) p t, e => by
    cases d <;> simp [intsOf] at e
    obtain ⟨r, e1, e2⟩ := e
    subst e2
    rw [ints_of t e1, p.int_of]; rfl
theorem PostF.notBad {S : Addr → Prop} {H : Hp} {r : R D} {Q : VK} {E : XK} (h : PostF W S H r Q E) : r ≠ .bad := fun z => by rw [z] at h; exact h
theorem bi_len {ds : List D} (h : evBI .len ds ≠ .bad) : (∃ l, ds = [.lst l]) ∨ ∃ l, ds = [.tup l] := by
  unfold evBI at h
  split at h <;> simp_all
theorem bi_abs {ds : List D} (h : evBI .abs ds ≠ .bad) : ∃ i, ds = [.int i] := by
  unfold evBI at h
  split at h <;> simp_all
theorem bi_min {ds : List D} (h : evBI .min ds ≠ .bad) : ∃ i j, ds = [.int i, .int j] := by
  unfold evBI at h
  split at h <;> simp_all
theorem bi_list {ds : List D} (h : evBI .list ds ≠ .bad) : (∃ l, ds = [.lst l]) ∨ ∃ l, ds = [.tup l] := by
  unfold evBI at h
  split at h <;> simp_all
theorem bi_tuple {ds : List D} (h : evBI .tuple ds ≠ .bad) : (∃ l, ds = [.lst l]) ∨ ∃ l, ds = [.tup l] := by
  unfold evBI at h
  split at h <;> simp_all
theorem bi_allL {ds : List D} (h : evBI .all ds ≠ .bad) : ∃ l bs, ds = [.lst l] ∧ bools l = some bs := by
  unfold evBI at h
  split at h <;> simp_all
  split at h <;> simp_all
theorem bi_anyL {ds : List D} (h : evBI .any ds ≠ .bad) : ∃ l bs, ds = [.lst l] ∧ bools l = some bs := by
  unfold evBI at h
  split at h <;> simp_all
  split at h <;> simp_all
theorem bi_sumL {ds : List D} (h : evBI .sum ds ≠ .bad) : ∃ l bs, ds = [.lst l] ∧ intsOf l = some bs := by
  unfold evBI at h
  split at h <;> simp_all
  split at h <;> simp_all
theorem bi_all (C : Cok W T k Ex c X) {b : BI} {as : CE} {x : Str} {e : Expr} {es : List Expr} {p pos : Pos} (hx : x = biN b) (hg : glB c.sc x = true) (hs : ∀ a ∈ e :: es, noStar a = true) (ha : PA X (e :: es) (tDA W T Ex as)) :
    PE X (.Call (.Name x p) (e :: es) [] pos) (tF W T Ex (.bi b as)) := by
  have hm : X.mg x = none := C.blt x (by rw [hx]; cases b <;> decide +kernel)
  subst hx
  cases b with
  | len =>
    refine sf_bi C rfl hm PySem.boot_len (by decide +kernel) call_len_seq (fun S H vs ds Q E dj lv r P => ?_) hg hs ha
    rw [C.K]
    rcases bi_len P.notBad with ⟨l, rfl⟩ | ⟨l, rfl⟩
    · obtain ⟨v, rfl, q⟩ := dps1 r
      obtain ⟨a, us, rfl, sq, rr⟩ := q.lst_of
      refine ⟨a, us, rfl, .inl sq, fun dj' => ?_⟩
      rw [rr.length]
      exact Post.fin (E := E) P dj' lv (.int _)
    · obtain ⟨v, rfl, q⟩ := dps1 r
      obtain ⟨a, us, rfl, sq, rr⟩ := q.tup_of
      refine ⟨a, us, rfl, .inr sq, fun dj' => ?_⟩
      rw [rr.length]
      exact Post.fin (E := E) P dj' lv (.int _)
  | abs =>
    refine sf_bi C rfl hm (by decide +kernel : bootBuiltins "abs" = some (.builtin "abs")) (by decide +kernel) call_abs (fun S H vs ds Q E dj lv r P => ?_) hg hs ha
    obtain ⟨i, rfl⟩ := bi_abs P.notBad
    obtain ⟨v, rfl, q⟩ := dps1 r
    cases q.int_of
    exact ⟨i, rfl, fun dj' => Post.fin (E := E) P dj' lv (.int _)⟩
  | min =>
    refine sf_bi C rfl hm (by decide +kernel : bootBuiltins "min" = some (.builtin "min")) (by decide +kernel) (call_min2 C.calm) (fun S H vs ds Q E dj lv r P => ?_) hg hs ha
    obtain ⟨i, j, rfl⟩ := bi_min P.notBad
    obtain ⟨v, u, rfl, q, q'⟩ := dps2 r
    cases q.int_of; cases q'.int_of
    exact ⟨i, j, rfl, fun dj' => Post.fin (E := E) P dj' lv (.int _)⟩
  | list =>
    refine sf_biT C rfl hm (by decide +kernel : bootBuiltins "list" = some (.type "list")) (by decide +kernel) call_list_of (fun S H vs ds Q E dj lv r P => ?_) hg hs ha
    rw [C.K]
    rcases bi_list P.notBad with ⟨l, rfl⟩ | ⟨l, rfl⟩
    · obtain ⟨v, rfl, q⟩ := dps1 r
      obtain ⟨a, us, rfl, sq, rr⟩ := q.lst_of
      exact ⟨a, us, rfl, .inl sq, fun t ht => PostF.newL (E := E) P lv ht rr⟩
    · obtain ⟨v, rfl, q⟩ := dps1 r
      obtain ⟨a, us, rfl, sq, rr⟩ := q.tup_of
      exact ⟨a, us, rfl, .inr sq, fun t ht => PostF.newL (E := E) P lv ht rr⟩
  | tuple =>
    refine sf_biT C rfl hm (by decide +kernel : bootBuiltins "tuple" = some (.type "tuple")) (by decide +kernel) call_tuple_of (fun S H vs ds Q E dj lv r P => ?_) hg hs ha
    rw [C.K]
    rcases bi_tuple P.notBad with ⟨l, rfl⟩ | ⟨l, rfl⟩
    · obtain ⟨v, rfl, q⟩ := dps1 r
      obtain ⟨a, us, rfl, sq, rr⟩ := q.lst_of
      exact ⟨a, us, rfl, .inl ⟨sq, fun t ht dj' => P _ S _ dj' (Step.new0 lv ht) (Dp.newT lv ht rr)⟩⟩
    · obtain ⟨v, rfl, q⟩ := dps1 r
      obtain ⟨a, us, rfl, sq, rr⟩ := q.tup_of
      exact ⟨a, us, rfl, .inr ⟨sq, fun dj' => Post.fin (E := E) P dj' lv q⟩⟩
  | all =>
    refine sf_bi C rfl hm (by decide +kernel : bootBuiltins "all" = some (.builtin "all")) (by decide +kernel) (cr_all C.calm) (fun S H vs ds Q E dj lv r P => ?_) hg hs ha
    rw [C.K]
    obtain ⟨l, bs, rfl, hb⟩ := bi_allL P.notBad
    obtain ⟨v, rfl, q⟩ := dps1 r
    obtain ⟨a, us, rfl, sq, rr⟩ := q.lst_of
    have e := bools_of rr hb
    subst e
    simp only [evBI, hb] at P
    exact ⟨a, bs, rfl, sq, fun dj' => Post.fin (E := E) P dj' lv (.bl _)⟩
  | any =>
    refine sf_bi C rfl hm (by decide +kernel : bootBuiltins "any" = some (.builtin "any")) (by decide +kernel) (cr_any C.calm) (fun S H vs ds Q E dj lv r P => ?_) hg hs ha
    rw [C.K]
    obtain ⟨l, bs, rfl, hb⟩ := bi_anyL P.notBad
    obtain ⟨v, rfl, q⟩ := dps1 r
    obtain ⟨a, us, rfl, sq, rr⟩ := q.lst_of
    have e := bools_of rr hb
    subst e
    simp only [evBI, hb] at P
    exact ⟨a, bs, rfl, sq, fun dj' => Post.fin (E := E) P dj' lv (.bl _)⟩
  | sum =>
    refine sf_bi C rfl hm (by decide +kernel : bootBuiltins "sum" = some (.builtin "sum")) (by decide +kernel) (cr_sum C.calm) (fun S H vs ds Q E dj lv r P => ?_) hg hs ha
    rw [C.K]
    obtain ⟨l, bs, rfl, hb⟩ := bi_sumL P.notBad
    obtain ⟨v, rfl, q⟩ := dps1 r
    obtain ⟨a, us, rfl, sq, rr⟩ := q.lst_of
    have e := ints_of rr hb
    subst e
    simp only [evBI, hb] at P
    exact ⟨a, bs, rfl, sq, fun dj' => Post.fin (E := E) P dj' lv (.int _)⟩
/-! ### isinstance -/
def tyOfD : D → String
  | .non => "NoneType"
  | .bl _ => "bool"
  | .int _ => "int"
  | .str _ => "str"
  | .tup _ => "tuple"
  | .lst _ => "list"
  | .obj _ _ => ""
theorem ty_of {S : Addr → Prop} {H : Hp} {v : V} {d : D} {t : Ty} {b : Bool} (p : Dp W S H v d) (h : isTy t d = some b) : TyX W.K H v (.type (tyOfD d)) := by
  cases p with
  | non => exact .base .non
  | bl b => exact .base (.bl b)
  | int b => exact .base (.int b)
  | str b => exact .base (.str b)
  | tup h' _ =>
    rcases h' with h' | ⟨o, h'⟩
    · exact .base (.tup h')
    · exact .fTuple h'
  | tupK h' _ =>
    obtain ⟨o, _, _, e, cc, _⟩ := h'
    exact .kTuple e cc
  | lst _ h' _ =>
    rcases h' with h' | ⟨o, h'⟩
    · exact .base (.lst h')
    · exact .base (.frz h')
  | lstK h' _ =>
    obtain ⟨o, _, _, e, cc, _⟩ := h'
    exact .kList e cc
  | obj _ _ _ _ => cases t <;> simp [isTy] at h
theorem kit_isTy {d : D} {t : Ty} {b : Bool} (h : isTy t d = some b) : kitB (tyOfD d) (tyS t) = some b := by
  cases d <;> cases t <;> simp only [isTy, Option.some.injEq, reduceCtorEq] at h <;> (subst h; simp only [tyOfD, tyS]; decide +kernel)
theorem sd_isi (C : Cok W T k Ex c X) {a : CE} {t : Ty} {x y : Str} {e : Expr} {p p2 pos : Pos} (hx : x = "isinstance") (hy : y = tyN t) (hg : glB c.sc x = true) (hg2 : glB c.sc y = true) (hs : noStar e = true) (ha : PE X e (tD W T Ex a)) :
    PE X (.Call (.Name x p) [e, .Name y p2] [] pos) (tD W T Ex (.isi a t)) := by
  obtain ⟨h1, h2⟩ := look_gl C hg
  obtain ⟨h3, h4⟩ := look_gl C hg2
  have hm : X.mg x = none := C.blt x (by rw [hx]; decide +kernel)
  have hm2 : X.mg y = none := C.blt y (by rw [hy]; cases t <;> decide +kernel)
  have hv2 : bootBuiltins y = some (.type (tyS t)) := by rw [hy]; cases t <;> decide +kernel
  have hn2 : y ≠ "__name__" := by rw [hy]; cases t <;> decide +kernel
  have hb : PE X (.Name y p2) (tC (.ty (tyS t))) := pe_bltn h3 hm2 hv2 rfl hn2 h4
  refine PE.imp C.K (pe_callB call_isi h1 hm (by rw [hx]; decide +kernel : bootBuiltins x = some (.builtin "isinstance")) (pa_cons ha (pa_cons hb pa_nil (star1 rfl)) (star1 hs)) (by rw [hx]; decide +kernel) h2 (star1 hs) rfl) fun σ H Q dj h => ?_
  obtain ⟨S, ρ, V, P⟩ := h dj
  simp only [evalE] at P
  refine tD_bind V P fun x v S1 H1 dj1 s1 V1 p P => ?_
  cases eb : isTy t x with
  | none => simp only [eb] at P; exact P.elim
  | some b =>
    simp only [eb] at P
    rw [C.K]
    exact ⟨v, .ty (tyS t), _, _, b, rfl, .ty _, ty_of p eb, kit_ty (kit_isTy eb), fun dj' => Post.fin P dj' V1.liv (.bl b)⟩
end
end RF

end S_RF7
section S_RF8
set_option maxHeartbeats 4000000
/-! RF8: what is walked; targets; comprehensions. -/
namespace RF
open PySem PySem.Spec L2

structure Walks (W : Wd) (J : It) (S : Addr → Prop) (H : Hp) (l : List D) : Prop where
  stop : ∀ S1 H1, Keep S H S1 H1 → J.stop l.length H1
  turn : ∀ i d, l[i]? = some d → ∀ S1 H1, Keep S H S1 H1 → (∀ a, S1 a → H1 a ≠ none) → J.go i H1 ∧ ∀ x H', J.yld i H1 x H' → Step S1 H1 S1 H' ∧ Dp W S1 H' x d
section
variable {W : Wd} {S S' : Addr → Prop} {H H' : Hp}
theorem walks_list {a : Addr} {l : List D} (p : Dp W S H (.ref a) (.lst l)) : Walks W (Itl W.K a) S H l where
  stop := fun S1 H1 kp => by
    obtain ⟨a', vs, e, sq, r⟩ := (p.keep kp).lst_of
    cases e
    exact ⟨vs, sq, by rw [r.length]; exact Nat.le_refl _⟩
  turn := fun i d hd S1 H1 kp lv => by
    obtain ⟨a', vs, e, sq, r⟩ := (p.keep kp).lst_of
    cases e
    obtain ⟨v, hv, q⟩ := r.get hd
    refine ⟨⟨vs, v, sq, hv⟩, fun x H' y => ?_⟩
    obtain ⟨rfl, f⟩ := y
    have := f vs sq
    rw [hv] at this
    cases this
    exact ⟨Step.refl lv, q⟩
theorem walks_tup {a : Addr} {l : List D} (p : Dp W S H (.ref a) (.tup l)) : Walks W (Itt W.K a) S H l where
  stop := fun S1 H1 kp => by
    obtain ⟨a', vs, e, sq, r⟩ := (p.keep kp).tup_of
    cases e
    exact ⟨vs, sq, by rw [r.length]; exact Nat.le_refl _⟩
  turn := fun i d hd S1 H1 kp lv => by
    obtain ⟨a', vs, e, sq, r⟩ := (p.keep kp).tup_of
    cases e
    obtain ⟨v, hv, q⟩ := r.get hd
    refine ⟨⟨vs, v, sq, hv⟩, fun x H' y => ?_⟩
    obtain ⟨rfl, f⟩ := y
    have := f vs sq
    rw [hv] at this
    cases this
    exact ⟨Step.refl lv, q⟩
theorem upFrom_len (lo c : Int) : ∀ n, (upFrom lo c n).length = n
  | 0 => rfl
  | n + 1 => by rw [upFrom, List.length_cons, upFrom_len (lo + c) c n]
theorem upFrom_get (c : Int) : ∀ (n : Nat) (lo : Int) (i : Nat) (d : D), (upFrom lo c n)[i]? = some d → i < n ∧ d = .int (lo + (i : Nat) * c)
  | 0, _, _, _, h => by simp [upFrom] at h
  | n + 1, lo, 0, d, h => by
    simp [upFrom] at h
    subst h
    simp
  | n + 1, lo, i + 1, d, h => by
    simp only [upFrom, List.getElem?_cons_succ] at h
    obtain ⟨h1, h2⟩ := upFrom_get c n (lo + c) i d h
    refine ⟨by omega, ?_⟩
    rw [h2]
    congr 1
    rw [Int.natCast_add, Int.add_mul]
    simp
    omega
theorem walks_rng (lo : Int) (n : Nat) : Walks W (Itr lo n) S H (upFrom lo 1 n) where
  stop := fun S1 H1 kp => by rw [upFrom_len]; exact Nat.le_refl n
  turn := fun i d hd S1 H1 kp lv => by
    obtain ⟨h1, h2⟩ := upFrom_get 1 n lo i d hd
    refine ⟨h1, fun x H' y => ?_⟩
    obtain ⟨rfl, rfl⟩ := y
    rw [h2, Int.mul_one]
    exact ⟨Step.refl lv, .int _⟩
theorem walks_rngC (lo c : Int) (n : Nat) : Walks W (Itc lo c n) S H (upFrom lo c n) where
  stop := fun S1 H1 kp => by rw [upFrom_len]; exact Nat.le_refl n
  turn := fun i d hd S1 H1 kp lv => by
    obtain ⟨h1, h2⟩ := upFrom_get c n lo i d hd
    refine ⟨h1, fun x H' y => ?_⟩
    obtain ⟨rfl, rfl⟩ := y
    rw [h2]
    exact ⟨Step.refl lv, .int _⟩
theorem enumD_len : ∀ (l : List D) (n : Nat), (enumD n l).length = l.length
  | [], _ => rfl
  | x :: r, n => by rw [enumD, List.length_cons, enumD_len r, List.length_cons]
theorem enumD_get : ∀ (l : List D) (n i : Nat) (d : D), (enumD n l)[i]? = some d → ∃ x, l[i]? = some x ∧ d = .tup [.int ((n + i : Nat) : Int), x]
  | [], _, _, _, h => by simp [enumD] at h
  | x :: r, n, 0, d, h => by simp [enumD] at h; subst h; exact ⟨x, rfl, by simp⟩
  | x :: r, n, i + 1, d, h => by
    simp only [enumD, List.getElem?_cons_succ] at h
    obtain ⟨y, h1, h2⟩ := enumD_get r (n + 1) i d h
    refine ⟨y, by simpa using h1, ?_⟩
    rw [h2]
    have e : n + 1 + i = n + (i + 1) := by omega
    rw [e]
theorem walks_enum {a : Addr} {l : List D} (p : Dp W S H (.ref a) (.lst l)) : Walks W (Ite W.K a) S H (enumD 0 l) where
  stop := fun S1 H1 kp => by
    obtain ⟨a', vs, e, sq, r⟩ := (p.keep kp).lst_of
    cases e
    exact ⟨vs, sq, by rw [enumD_len, r.length]; exact Nat.le_refl _⟩
  turn := fun i d hd S1 H1 kp lv => by
    obtain ⟨a', vs, e, sq, r⟩ := (p.keep kp).lst_of
    cases e
    obtain ⟨y, hy, rfl⟩ := enumD_get l 0 i d hd
    obtain ⟨v, hv, q⟩ := r.get hy
    refine ⟨⟨vs, v, sq, hv⟩, fun x H' yy => ?_⟩
    obtain ⟨t, z, rfl, ht, rfl, f⟩ := yy
    have := f vs sq
    rw [hv] at this
    cases this
    refine ⟨Step.new0 lv ht, ?_⟩
    have e : ((0 + i : Nat) : Int) = (i : Nat) := by simp
    rw [e]
    exact Dp.newT lv ht (.cons (.int _) (.cons q .nil))
theorem zipD_get : ∀ (l m : List D) (i : Nat) (d : D), (zipD l m)[i]? = some d → ∃ x y, l[i]? = some x ∧ m[i]? = some y ∧ d = .tup [x, y]
  | [], _, _, _, h => by simp [zipD] at h
  | _ :: _, [], _, _, h => by simp [zipD] at h
  | x :: xs, y :: ys, 0, d, h => by simp [zipD] at h; subst h; exact ⟨x, y, rfl, rfl, rfl⟩
  | x :: xs, y :: ys, i + 1, d, h => by
    simp only [zipD, List.getElem?_cons_succ] at h
    obtain ⟨a, b, h1, h2, h3⟩ := zipD_get xs ys i d h
    exact ⟨a, b, by simpa using h1, by simpa using h2, h3⟩
theorem zipD_len : ∀ (l m : List D), l.length ≤ (zipD l m).length ∨ m.length ≤ (zipD l m).length
  | [], _ => .inl (Nat.zero_le _)
  | _ :: _, [] => .inr (Nat.zero_le _)
  | x :: xs, y :: ys => by
    simp only [zipD, List.length_cons]
    rcases zipD_len xs ys with h | h
    · exact .inl (by omega)
    · exact .inr (by omega)
theorem walks_zip {a b : Addr} {l m : List D} (p : Dp W S H (.ref a) (.lst l)) (q : Dp W S H (.ref b) (.lst m)) : Walks W (Itz W.K a b) S H (zipD l m) where
  stop := fun S1 H1 kp => by
    obtain ⟨a', vs, e, sq, r⟩ := (p.keep kp).lst_of
    cases e
    obtain ⟨b', us, e, sq2, r2⟩ := (q.keep kp).lst_of
    cases e
    exact ⟨vs, us, sq, sq2, by rw [r.length, r2.length]; exact zipD_len l m⟩
  turn := fun i d hd S1 H1 kp lv => by
    obtain ⟨a', vs, e, sq, r⟩ := (p.keep kp).lst_of
    cases e
    obtain ⟨b', us, e, sq2, r2⟩ := (q.keep kp).lst_of
    cases e
    obtain ⟨x, y, hx, hy, rfl⟩ := zipD_get l m i d hd
    obtain ⟨v, hv, p1⟩ := r.get hx
    obtain ⟨u, hu, q1⟩ := r2.get hy
    refine ⟨⟨vs, us, v, u, sq, sq2, hv, hu⟩, fun x H' yy => ?_⟩
    obtain ⟨t, z, z2, rfl, ht, rfl, f, f2⟩ := yy
    have := f vs sq
    rw [hv] at this
    cases this
    have := f2 us sq2
    rw [hu] at this
    cases this
    exact ⟨Step.new0 lv ht, Dp.newT lv ht (.cons p1 (.cons q1 .nil))⟩
end

section
variable {W : Wd} {T : Tab} {k : Nat} {Ex : L2.St → XK} {c : Ctx} {X : Cx}
def tI (W : Wd) (T : Tab) (Ex : L2.St → XK) (ik : IK) (e : CE) : TI := fun σ H R => Disj W H → ∃ S ρ, View W S ρ σ H ∧ match (evalE T e ρ).bind (itemsOf ik) with
  | .ok l => ∀ J S' H', Disj W H' → Step S H S' H' → Walks W J S' H' l → (ik = .rng → ∀ S2 H2, Walks W J S2 H2 l) → R J H'
  | .exc c => PX W H c (Ex σ)
  | .bad => False
theorem PI.imp {tg it : Expr} {w w' : TI} (hK : X.K = W.K) (h : PI X tg it w) (i : ∀ σ H R, Disj W H → w' σ H R → w σ H fun J H' => Disj W H' → R J H') : PI X tg it w' := ⟨fun pins s σ H R I q =>
  thn (h.run pins s σ H _ I (i σ H R (RF.Inv.disj hK I) q)) fun v s1 h1 => thn h1 fun itv s2 ⟨it, fp, tn, J, H', e, I', t, z, f, r⟩ => ⟨it, fp, tn, J, H', e, I', t, z, f, r (RF.Inv.disj hK I')⟩⟩
theorem PI.or {tg it : Expr} {w w' : TI} (h : PI X tg it w) (h' : PI X tg it w') : PI X tg it (fun σ H R => w σ H R ∨ w' σ H R) := ⟨fun pins s σ H R I q => by
  rcases q with q | q
  · exact h.run pins s σ H R I q
  · exact h'.run pins s σ H R I q⟩
/-- xs, a tuple -/
theorem si_seq (C : Cok W T k Ex c X) {a : CE} {e tg : Expr} (ha : PE X e (tD W T Ex a)) : PI X tg e (tI W T Ex .seq a) := by
  refine PI.imp C.K (PI.or (pi_list ha) (pi_tup ha)) fun σ H R dj h => ?_
  obtain ⟨S, ρ, V, P⟩ := h dj
  rw [C.K]
  cases r : evalE T a ρ with
  | ok d =>
    rw [r] at P
    cases d with
    | lst l =>
      refine .inl fun _ => ⟨S, ρ, V, ?_⟩
      rw [r]
      intro v S1 H1 dj1 s1 p
      obtain ⟨b, vs, rfl, sq, rr⟩ := p.lst_of
      exact ⟨b, rfl, ⟨vs, sq⟩, fun dj' => P _ S1 H1 dj' s1 (walks_list p) (fun z => by cases z)⟩
    | tup l =>
      refine .inr fun _ => ⟨S, ρ, V, ?_⟩
      rw [r]
      intro v S1 H1 dj1 s1 p
      obtain ⟨b, vs, rfl, sq, rr⟩ := p.tup_of
      exact ⟨b, rfl, ⟨vs, sq⟩, fun dj' => P _ S1 H1 dj' s1 (walks_tup p) (fun z => by cases z)⟩
    | _ => exact P.elim
  | exc c =>
    rw [r] at P
    refine .inl fun _ => ⟨S, ρ, V, ?_⟩
    rw [r]
    exact P
  | bad => rw [r] at P; exact P.elim
/-- the arguments, then -/
theorem tDA_I {e : CE} {f : List D → R (List D)} {ik : IK} {R0 : It → Hp → Prop} {R' : List V → Hp → Prop} {S : Addr → Prop} {ρ : Env} {σ : L2.St} {H : Hp} (V : View W S ρ σ H) (hf : ∀ l, itemsOf ik (.tup l) = f l) (hn : ∀ d, (∀ l, d ≠ .tup l) → itemsOf ik d = .bad)
    (P : match (evalE T e ρ).bind (itemsOf ik) with
      | .ok l => ∀ J S' H', Disj W H' → Step S H S' H' → Walks W J S' H' l → (ik = .rng → ∀ S2 H2, Walks W J S2 H2 l) → R0 J H'
      | .exc c => PX W H c (Ex σ)
      | .bad => False) (hx : ∀ l c, f l ≠ .exc c)
    (k : ∀ xs vs l S' H', evalE T e ρ = .ok (.tup xs) → Disj W H' → Step S H S' H' → Dps W S' H' vs xs → f xs = .ok l → (∀ J, Walks W J S' H' l → (ik = .rng → ∀ S2 H2, Walks W J S2 H2 l) → Disj W H' → R0 J H') → R' vs H') : tDA W T Ex e σ H R' := fun _ => by
  refine ⟨S, ρ, V, ?_⟩
  cases r : evalE T e ρ with
  | ok d =>
    rw [r] at P
    simp only [R.bind_ok] at P
    cases d with
    | tup l =>
      rw [hf] at P
      intro vs S2 H2 dj s2 ps
      cases q : f l with
      | ok m => rw [q] at P; exact k l vs m S2 H2 r dj s2 ps q fun J w w2 dj' => P J S2 H2 dj' s2 w w2
      | exc c => exact absurd q (hx l c)
      | bad => rw [q] at P; exact P.elim
    | _ => rw [hn _ (fun l z => by cases z)] at P; exact P.elim
  | exc c => rw [r] at P; exact P
  | bad => rw [r] at P; exact P
theorem rng_nox (l : List D) (c : Nat) : evRng l ≠ .exc c := by
  unfold evRng
  split
  · split <;> (intro z; cases z)
  · split <;> (intro z; cases z)
  · split
    · split <;> (intro z; cases z)
    · intro z; cases z
  · intro z; cases z
theorem rng_small {i j c : Int} (h : -1000000 ≤ i ∧ i ≤ 1000000 ∧ -1000000 ≤ j ∧ j ≤ 1000000) (hc : 0 < c ∧ c ≤ 1000) : RgC i j c (if i < j then ((j - i - 1) / c + 1).toNat else 0) := by
  have hq : 0 ≤ (j - i - 1) / c ∨ ¬ i < j := by
    by_cases hij : i < j
    · exact .inl (Int.ediv_nonneg (by omega) (by omega))
    · exact .inr hij
  have hle : (j - i - 1) / c ≤ 2000000 ∨ ¬ i < j := by
    by_cases hij : i < j
    · refine .inl ?_
      have := Int.ediv_le_self c (show (0 : Int) ≤ j - i - 1 by omega)
      omega
    · exact .inr hij
  have hsz : Builtin.Range.rangeSize i j c = ((if i < j then ((j - i - 1) / c + 1).toNat else 0 : Nat) : Int) := by
    unfold Builtin.Range.rangeSize
    rw [if_pos hc.1]
    split
    · rcases hq with z | z
      · omega
      · contradiction
    · rfl
  refine ⟨by omega, by omega, ?_, hsz⟩
  unfold Builtin.Range.small
  rw [hsz]
  simp only [Builtin.Range.rangeFitsLong, Bool.and_eq_true, Bool.or_eq_true, decide_eq_true_eq, beq_iff_eq, gt_iff_lt, hc.1, if_true]
  clear hsz
  generalize (j - i - 1) / c = q at hq hle ⊢
  by_cases hij : i < j
  · rw [if_pos hij]
    rcases hq with z | z
    · rcases hle with y | y
      · omega
      · contradiction
    · contradiction
  · rw [if_neg hij]
    omega
theorem args_len {T : Tab} : ∀ {a : CE} {c : Ctx} {es : List Expr} {ρ : Env} {l : List D}, chkA a c es = true → evalE T a ρ = .ok (.tup l) → l.length = es.length := by
  intro a
  induction a with
  | nil =>
    intro c es ρ l h e
    cases es with
    | nil => simp only [evalE] at e; cases e; rfl
    | cons x r => simp [chkA] at h
  | cons a as ih1 ih2 =>
    intro c es ρ l h e
    cases es with
    | nil => simp [chkA] at h
    | cons x r =>
      simp only [chkA, Bool.and_eq_true] at h
      simp only [evalE] at e
      cases e1 : evalE T a ρ with
      | ok d =>
        rw [e1, R.bind_ok] at e
        cases e2 : evalE T as ρ with
        | ok d2 =>
          rw [e2, R.bind_ok] at e
          cases d2 with
          | tup m =>
            cases e
            rw [List.length_cons, List.length_cons, ih2 h.2 e2]
          | _ => cases e
        | exc c => rw [e2] at e; cases e
        | bad => rw [e2] at e; cases e
      | exc c => rw [e1] at e; cases e
      | bad => rw [e1] at e; cases e
  | _ => intro c es ρ l h; cases es <;> simp [chkA] at h
theorem rng1 {xs l : List D} (h : evRng xs = .ok l) (hl : xs.length = 1) : ∃ j : Int, xs = [.int j] ∧ (-1000000 ≤ j ∧ j ≤ (lim : Int)) ∧ l = upFrom 0 1 j.toNat := by
  unfold evRng at h
  split at h
  · split at h
    · exact ⟨_, rfl, by assumption, (R.ok.inj h).symm⟩
    · cases h
  · simp at hl
  · simp at hl
  · cases h
theorem rng2 {xs l : List D} (h : evRng xs = .ok l) (hl : xs.length = 2) : ∃ i j : Int, xs = [.int i, .int j] ∧ (-1000000 ≤ i ∧ i ≤ 1000000 ∧ -1000000 ≤ j ∧ j - i ≤ (lim : Int)) ∧ l = upFrom i 1 (j - i).toNat := by
  unfold evRng at h
  split at h
  · simp at hl
  · split at h
    · exact ⟨_, _, rfl, by assumption, (R.ok.inj h).symm⟩
    · cases h
  · simp at hl
  · cases h
theorem rng3 {xs l : List D} (h : evRng xs = .ok l) (hl : xs.length = 3) : ∃ (i j c : Int) (n : Nat), xs = [.int i, .int j, .int c] ∧ RgC i j c n ∧ l = upFrom i c n := by
  unfold evRng at h
  split at h
  · simp at hl
  · simp at hl
  · rename_i i j c
    split at h
    · rename_i hh
      obtain ⟨a1, a2, a3, a4, a5⟩ := hh
      split at h
      · rename_i hc
        subst hc
        exact ⟨i, j, -1, _, rfl, RgC.neg (by omega) (by omega) (by omega) (by omega), (R.ok.inj h).symm⟩
      · rename_i hc
        have hc' : 0 < c ∧ c ≤ 1000 := by omega
        exact ⟨i, j, c, _, rfl, rng_small ⟨a1, a2, a3, a4⟩ hc', (R.ok.inj h).symm⟩
    · cases h
  · cases h
theorem dps3 {S : Addr → Prop} {H : Hp} {vs : List V} {d e f : D} (h : Dps W S H vs [d, e, f]) : ∃ v u w, vs = [v, u, w] ∧ Dp W S H v d ∧ Dp W S H u e ∧ Dp W S H w f := by
  cases h with
  | cons p t =>
    obtain ⟨u, w, rfl, q, r⟩ := dps2 t
    exact ⟨_, _, _, rfl, p, q, r⟩
theorem si_rng (C : Cok W T k Ex c X) {a : CE} {x : Str} {es : List Expr} {tg : Expr} {p pos : Pos} (hx : x = "range") (hg : glB c.sc x = true) (hl : es.length = 1 ∨ es.length = 2 ∨ es.length = 3) (hck : chkA a c es = true) (ha : PA X es (tDA W T Ex a)) :
    PI X tg (.Call (.Name x p) es [] pos) (tI W T Ex .rng a) := by
  obtain ⟨h1, h2⟩ := look_gl C hg
  subst hx
  have hm : X.mg "range" = none := C.blt _ (by decide +kernel)
  have hs := chkA_star hck
  match es, hl, hs, ha, hck with
  | [e1], _, hs, ha, hck =>
    refine PI.imp C.K (pi_range1 h1 hm ha (by rw [star1 (hs e1 (by simp))]; rfl)) fun σ H R dj h => ?_
    obtain ⟨S, ρ, V, P⟩ := h dj
    refine tDA_I (f := evRng) V (fun _ => rfl) (fun d hd => by cases d <;> first | rfl | exact absurd rfl (hd _)) P rng_nox fun xs vs l S1 H1 he dj1 s1 ps hv P => ?_
    obtain ⟨j, rfl, hb, rfl⟩ := rng1 hv (args_len hck he)
    obtain ⟨v, rfl, q⟩ := dps1 ps
    cases q.int_of
    have hlim : (lim : Int) = 100000 := rfl
    exact ⟨j, rfl, by omega, by omega, P _ (walks_rng 0 _) (fun _ S2 H2 => walks_rng 0 _)⟩
  | [e1, e2], _, hs, ha, hck =>
    refine PI.imp C.K (pi_range2 h1 hm ha (by rw [star1 (hs e1 (by simp)), star1 (hs e2 (by simp))]; rfl) (by rw [star1 (hs e2 (by simp))]; rfl)) fun σ H R dj h => ?_
    obtain ⟨S, ρ, V, P⟩ := h dj
    refine tDA_I (f := evRng) V (fun _ => rfl) (fun d hd => by cases d <;> first | rfl | exact absurd rfl (hd _)) P rng_nox fun xs vs l S1 H1 he dj1 s1 ps hv P => ?_
    obtain ⟨i, j, rfl, hb, rfl⟩ := rng2 hv (args_len hck he)
    obtain ⟨v, u, rfl, q, q2⟩ := dps2 ps
    cases q.int_of; cases q2.int_of
    have hlim : (lim : Int) = 100000 := rfl
    exact ⟨i, j, rfl, ⟨by omega, by omega, by omega, by omega⟩, P _ (walks_rng i _) (fun _ S2 H2 => walks_rng i _)⟩
  | [e1, e2, e3], _, hs, ha, hck =>
    refine PI.imp C.K (pi_range3 h1 hm ha (star1 (hs e1 (by simp))) (stars_none fun e he => hs e (List.mem_cons_of_mem _ he))) fun σ H R dj h => ?_
    obtain ⟨S, ρ, V, P⟩ := h dj
    refine tDA_I (f := evRng) V (fun _ => rfl) (fun d hd => by cases d <;> first | rfl | exact absurd rfl (hd _)) P rng_nox fun xs vs l S1 H1 he dj1 s1 ps hv P => ?_
    obtain ⟨i, j, c, n, rfl, hb, rfl⟩ := rng3 hv (args_len hck he)
    obtain ⟨v, u, w, rfl, q, q2, q3⟩ := dps3 ps
    cases q.int_of; cases q2.int_of; cases q3.int_of
    exact ⟨i, j, c, n, rfl, hb, P _ (walks_rngC i c n) (fun _ S2 H2 => walks_rngC i c n)⟩
  | [], hl, _, _, _ => simp at hl
  | _ :: _ :: _ :: _ :: _, hl, _, _, _ => simp at hl
def enumA : List D → R (List D)
  | [.lst l] => .ok (enumD 0 l)
  | _ => .bad
def zipA : List D → R (List D)
  | [.lst l, .lst m] => .ok (zipD l m)
  | _ => .bad
theorem si_enum (C : Cok W T k Ex c X) {a : CE} {x : Str} {e : Expr} {elts : List Expr} {kk : Nat} {p pos tpos : Pos} (hx : x = "enumerate") (hg : glB c.sc x = true) (hs : noStar e = true) (ha : PA X [e] (tDA W T Ex a)) :
    PI X (.Tuple elts kk tpos) (.Call (.Name x p) [e] [] pos) (tI W T Ex .enum a) := by
  obtain ⟨h1, h2⟩ := look_gl C hg
  subst hx
  have hm : X.mg "enumerate" = none := C.blt _ (by decide +kernel)
  refine PI.imp C.K (pi_enum h1 hm ha (by rw [star1 hs]; rfl)) fun σ H R dj h => ?_
  obtain ⟨S, ρ, V, P⟩ := h dj
  refine tDA_I (f := enumA) V (fun l => ?_) (fun d hd => by cases d <;> first | rfl | exact absurd rfl (hd _)) P (fun l c => ?_) fun xs vs l S1 H1 he dj1 s1 ps hv P => ?_
  · unfold itemsOf enumA; split <;> simp_all
  · unfold enumA; split <;> (intro z; cases z)
  · unfold enumA at hv
    split at hv
    · rename_i m
      cases hv
      obtain ⟨v, rfl, q⟩ := dps1 ps
      obtain ⟨b, us, rfl, sq, rr⟩ := q.lst_of
      rw [C.K]
      exact ⟨b, us, rfl, sq, P _ (walks_enum q) (fun z => by cases z)⟩
    · cases hv
theorem si_zip (C : Cok W T k Ex c X) {a : CE} {x : Str} {e e2 : Expr} {elts : List Expr} {kk : Nat} {p pos tpos : Pos} (hx : x = "zip") (hg : glB c.sc x = true) (hs : noStar e = true) (hs2 : noStar e2 = true) (ha : PA X [e, e2] (tDA W T Ex a)) :
    PI X (.Tuple elts kk tpos) (.Call (.Name x p) [e, e2] [] pos) (tI W T Ex .zip a) := by
  obtain ⟨h1, h2⟩ := look_gl C hg
  subst hx
  have hm : X.mg "zip" = none := C.blt _ (by decide +kernel)
  refine PI.imp C.K (pi_zip h1 hm ha (star1 hs) (stars_none fun a h => by simp at h; rw [h]; exact hs2)) fun σ H R dj h => ?_
  obtain ⟨S, ρ, V, P⟩ := h dj
  refine tDA_I (f := zipA) V (fun l => ?_) (fun d hd => by cases d <;> first | rfl | exact absurd rfl (hd _)) P (fun l c => ?_) fun xs vs l S1 H1 he dj1 s1 ps hv P => ?_
  · unfold itemsOf zipA; split <;> simp_all
  · unfold zipA; split <;> (intro z; cases z)
  · unfold zipA at hv
    split at hv
    · rename_i m n
      cases hv
      obtain ⟨v, u, rfl, q, q2⟩ := dps2 ps
      obtain ⟨b, us, rfl, sq, rr⟩ := q.lst_of
      obtain ⟨b2, us2, rfl, sq2, rr2⟩ := q2.lst_of
      rw [C.K]
      exact ⟨b, b2, us, us2, rfl, sq, sq2, P _ (walks_zip q q2) (fun z => by cases z)⟩
    · cases hv

/-! ### targets -/
def gNames : List Nat → TGs
  | [] => gNil
  | i :: is => gCons (gName i) (gNames is)
def tG (K : PySem.W.Frag) : Tg → TG
  | .nm i => gName i
  | .tp l => fun v σ H Q => gTup K l.length (gNames l) v σ H Q ∨ gLst K l.length (gNames l) v σ H Q
theorem sg_nm (C : Cok W T k Ex c X) {i : Nat} {e : Expr} (h : chkNm c i e = true) : PG X e (gName i) := by
  cases e <;> simp only [chkNm, Bool.and_eq_true, decide_eq_true_eq, reduceCtorEq, Bool.false_eq_true] at h
  obtain ⟨h1, h2⟩ := h
  obtain ⟨h3, h4⟩ := look_loc C h2
  exact pg_name C.nd (by rw [C.N]; exact h1) h3 h4
theorem nm_star {i : Nat} {e : Expr} (h : chkNm c i e = true) : noStar e = true := by
  cases e <;> first | rfl | simp [chkNm] at h
theorem assign1 {e : Expr} {es : List Expr} {env : PySem.Env} (h : noStar e = true) : (assignEach (e :: es) env).map (·.2) = assign e env :: (assignEach es env).map (·.2) := by
  cases e <;> first | rfl | simp [noStar] at h
theorem sg_nms (C : Cok W T k Ex c X) : ∀ {l : List Nat} {es : List Expr}, chkNms c l es = true → PGs X es (gNames l)
  | [], [], _ => pgs_nil
  | [], _ :: _, h => by simp [chkNms] at h
  | _ :: _, [], h => by simp [chkNms] at h
  | i :: is, e :: es, h => by
    simp only [chkNms, Bool.and_eq_true] at h
    exact pgs_cons (sg_nm C h.1) (sg_nms C h.2) (assign1 (nm_star h.1))
theorem nms_len : ∀ {l : List Nat} {es : List Expr} {env : PySem.Env}, chkNms c l es = true → (assignEach es env).length = l.length ∧ (assignEach es env).findIdx? (·.1) = none
  | [], [], _, _ => ⟨rfl, rfl⟩
  | [], _ :: _, _, h => by simp [chkNms] at h
  | _ :: _, [], _, h => by simp [chkNms] at h
  | i :: is, e :: es, env, h => by
    simp only [chkNms, Bool.and_eq_true] at h
    obtain ⟨h1, h2⟩ := nms_len (env := env) h.2
    have e1 : assignEach (e :: es) env = (false, assign e env) :: assignEach es env := by
      have := h.1
      cases e <;> first | rfl | simp [chkNm] at this
    rw [e1]
    refine ⟨by rw [List.length_cons, h1, List.length_cons], ?_⟩
    rw [List.findIdx?_cons]
    simp [h2]
theorem sg_tg (C : Cok W T k Ex c X) {g : Tg} {e : Expr} (h : chkTg c g e = true) : PG X e (tG W.K g) := by
  cases g with
  | nm i => exact sg_nm C h
  | tp l =>
    cases e <;> simp only [chkTg, Bool.false_eq_true] at h
    rename_i es kk pos
    obtain ⟨h1, h2⟩ := nms_len (env := X.env) h
    have q := pg_tup (n := l.length) (k := kk) (pos := pos) C.calm (sg_nms C h) h1 h2
    have q' := pg_lst (n := l.length) (k := kk) (pos := pos) C.calm (sg_nms C h) h1 h2
    rw [C.K] at q q'
    exact ⟨fun pins s σ H v u Q I r hw => hw.elim (fun z => q.run pins s σ H v u Q I r z) (fun z => q'.run pins s σ H v u Q I r z)⟩
theorem View.set {S : Addr → Prop} {ρ : Env} {σ : L2.St} {H : Hp} {v : V} {d : D} (V : View W S ρ σ H) (i : Nat) (p : Dp W S H v d) : View W S (ρ.set i (.val d)) (σ.set i (some v)) H := by
  refine ⟨V.liv, by simp [V.len], fun j e h => ?_⟩
  unfold slotD at h
  by_cases hj : i = j
  · subst hj
    by_cases hi : i < ρ.length
    · rw [List.getElem?_set_self hi] at h
      simp only [Slot.d, Option.some.injEq] at h
      subst h
      exact ⟨v, List.getElem?_set_self (by rw [← V.len]; exact hi), p⟩
    · rw [List.getElem?_eq_none (by simpa using hi)] at h
      cases h
  · rw [List.getElem?_set_ne hj] at h
    obtain ⟨u, h1, h2⟩ := V.slot j e h
    exact ⟨u, by rw [List.getElem?_set_ne hj]; exact h1, h2⟩
/-- a state whose slots outside vs are as they were -/
def Off (vs : List Nat) (σ σ' : L2.St) : Prop := σ'.length = σ.length ∧ ∀ j, j ∉ vs → σ'[j]? = σ[j]?
theorem Off.refl (vs : List Nat) (σ : L2.St) : Off vs σ σ := ⟨rfl, fun _ _ => rfl⟩
theorem Off.set {vs : List Nat} {σ σ' : L2.St} (h : Off vs σ σ') {i : Nat} (hi : i ∈ vs) (v : Option V) : Off vs σ (σ'.set i v) :=
  ⟨by rw [List.length_set]; exact h.1, fun j hj => by
    have z : i ≠ j := fun z => hj (by rw [← z]; exact hi)
    rw [List.getElem?_set_ne z]; exact h.2 j hj⟩
theorem wipe_get (σ : L2.St) : ∀ (vs : List Nat) (j : Nat), (wipe σ vs)[j]? = if j ∈ vs ∧ j < σ.length then some none else σ[j]?
  | [], j => by simp [wipe]
  | v :: vs, j => by
    unfold wipe
    by_cases hj : v = j
    · subst hj
      by_cases hl : v < σ.length
      · rw [List.getElem?_set_self (by rw [wipe_length]; exact hl), if_pos ⟨List.mem_cons_self, hl⟩]
      · rw [if_neg (fun z => hl z.2), List.getElem?_eq_none (by rw [List.length_set, wipe_length]; omega), List.getElem?_eq_none (by omega)]
    · rw [List.getElem?_set_ne hj, wipe_get σ vs j]
      by_cases hm : j ∈ vs ∧ j < σ.length
      · rw [if_pos hm, if_pos ⟨List.mem_cons_of_mem _ hm.1, hm.2⟩]
      · rw [if_neg hm, if_neg (fun z => hm ⟨by
          rcases List.mem_cons.mp z.1 with q | q
          · exact absurd q.symm hj
          · exact q, z.2⟩)]
theorem Off.wipe {vs : List Nat} {σ σ' : L2.St} (h : Off vs σ σ') : wipe σ' vs = wipe σ vs := by
  apply List.ext_getElem?
  intro j
  rw [wipe_get, wipe_get, h.1]
  split
  · rfl
  · rename_i hn
    by_cases hj : j ∈ vs
    · have hl : ¬ j < σ.length := fun z => hn ⟨hj, z⟩
      rw [List.getElem?_eq_none (by rw [h.1]; omega), List.getElem?_eq_none (by omega)]
    · exact h.2 j hj
theorem off_wipe (σ : L2.St) (vs : List Nat) : Off vs σ (L2.wipe σ vs) := ⟨wipe_length σ vs, fun j hj => by rw [wipe_get, if_neg (fun z => hj z.1)]⟩
theorem View.wipe {S : Addr → Prop} {ρ : Env} {σ : L2.St} {H : Hp} (V : View W S ρ σ H) : ∀ vs : List Nat, View W S (wipeS ρ vs) (L2.wipe σ vs) H
  | [] => V
  | v :: vs => by
    have V1 := View.wipe V vs
    unfold wipeS L2.wipe
    refine ⟨V1.liv, by simp [V1.len], fun j e h => ?_⟩
    unfold slotD at h
    by_cases hj : v = j
    · subst hj
      by_cases hi : v < (wipeS ρ vs).length
      · rw [List.getElem?_set_self hi] at h
        cases h
      · rw [List.getElem?_eq_none (by simpa using hi)] at h
        cases h
    · rw [List.getElem?_set_ne hj] at h
      obtain ⟨u, h1, h2⟩ := V1.slot j e h
      exact ⟨u, by rw [List.getElem?_set_ne hj]; exact h1, h2⟩
theorem gNames_ok {S : Addr → Prop} {H : Hp} : ∀ {l : List Nat} {vs : List V} {ds : List D} {ρ ρ' : Env} {σ : L2.St} {Q : L2.St → Hp → Prop}, View W S ρ σ H → Dps W S H vs ds → bindL l ds ρ = .ok ρ' → (∀ σ', View W S ρ' σ' H → (∀ ws, (∀ i ∈ l, i ∈ ws) → Off ws σ σ') → Q σ' H) → gNames l vs σ H Q
  | [], _, _, _, _, σ, _, V, .nil, h, q => by
    simp only [bindL] at h
    cases h
    exact ⟨rfl, q σ V fun ws _ => Off.refl ws σ⟩
  | [], _, _, _, _, _, _, _, .cons _ _, h, _ => by simp [bindL] at h
  | _ :: _, _, _, _, _, _, _, _, .nil, h, _ => by simp [bindL] at h
  | i :: is, _, _, ρ, ρ', σ, Q, V, .cons (v := v) (d := d) p t, h, q => by
    simp only [bindL] at h
    refine ⟨v, _, rfl, ?_⟩
    show gNames is _ (σ.set i (some v)) H Q
    refine gNames_ok (V.set i p) t h fun σ' V' off => q σ' V' fun ws hw => ?_
    have o := off ws fun j hj => hw j (List.mem_cons_of_mem _ hj)
    exact ⟨by rw [o.1, List.length_set], fun j hj => by
      have z : i ≠ j := fun z => hj (by rw [← z]; exact hw i List.mem_cons_self)
      rw [o.2 j hj, List.getElem?_set_ne z]⟩
theorem bindL_len : ∀ {l : List Nat} {ds : List D} {ρ ρ' : Env}, bindL l ds ρ = .ok ρ' → ds.length = l.length
  | [], [], _, _, _ => rfl
  | [], _ :: _, _, _, h => by simp [bindL] at h
  | _ :: _, [], _, _, h => by simp [bindL] at h
  | i :: is, d :: ds, ρ, ρ', h => by
    simp only [bindL] at h
    rw [List.length_cons, List.length_cons, bindL_len h]
theorem tG_ok {S : Addr → Prop} {H : Hp} {g : Tg} {v : V} {d : D} {ρ ρ' : Env} {σ : L2.St} {Q : L2.St → Hp → Prop} (V : View W S ρ σ H) (p : Dp W S H v d) (h : bindT g d ρ = .ok ρ') (q : ∀ σ', View W S ρ' σ' H → (∀ ws, tgIn g ws = true → Off ws σ σ') → Q σ' H) : tG W.K g v σ H Q := by
  cases g with
  | nm i =>
    simp only [bindT] at h
    cases h
    exact q _ (V.set i p) fun ws hw => (Off.refl ws σ).set (by simpa [tgIn] using hw) _
  | tp l =>
    cases d <;> simp only [bindT, reduceCtorEq] at h
    · obtain ⟨a, vs, rfl, sq, r⟩ := p.tup_of
      refine .inl ⟨a, vs, rfl, sq, ?_, gNames_ok V r h fun σ' V' off => q σ' V' fun ws hw => off ws fun i hi => by
        simp only [tgIn, List.all_eq_true] at hw
        simpa using hw i hi⟩
      rw [r.length]
      exact bindL_len h
    · obtain ⟨a, vs, rfl, sq, r⟩ := p.lst_of
      refine .inr ⟨a, vs, rfl, sq, ?_, gNames_ok V r h fun σ' V' off => q σ' V' fun ws hw => off ws fun i hi => by
        simp only [tgIn, List.all_eq_true] at hw
        simpa using hw i hi⟩
      rw [r.length]
      exact bindL_len h

/-! ### comprehensions -/
theorem Dp.mut {S : Addr → Prop} {H : Hp} {p : Addr} {ws : List V} {o : HO} {v : V} {d : D} (np : ¬ S p) (hp : H p = some (.lst ws)) (h : Dp W S H v d) : Dp W S (upd H p o) v d := h.keep (Keep.mut np hp)
theorem Step.mut {S S' : Addr → Prop} {H H' : Hp} {p : Addr} {o : HO} (s : Step S H S' H') (hn : H p = none) : Step S H S' (upd H' p o) :=
  ⟨fun b x e => by rw [upd_ne (ne_of_none e hn)]; exact s.same b x e, s.sub, s.new, fun a z => by
    by_cases e : a = p
    · rw [e, upd_same]; intro q; cases q
    · rw [upd_ne e]; exact s.liv a z⟩
theorem compF_cons {f : D → R (Option D)} {x : D} {xs r : List D} (h : compF f (x :: xs) = .ok r) : ∃ o ys, f x = .ok o ∧ compF f xs = .ok ys ∧ r = (match o with | some y => y :: ys | none => ys) := by
  simp only [compF] at h
  cases e : f x with
  | ok o =>
    rw [e] at h
    simp only at h
    cases e2 : compF f xs with
    | ok ys =>
      rw [e2] at h
      exact ⟨o, ys, rfl, rfl, (R.ok.inj h).symm⟩
    | exc c => rw [e2] at h; cases h
    | bad => rw [e2] at h; cases h
  | exc c => rw [e] at h; cases h
  | bad => rw [e] at h; cases h
theorem compF_len {f : D → R (Option D)} : ∀ {xs r : List D}, compF f xs = .ok r → r.length ≤ xs.length
  | [], r, h => by simp only [compF] at h; cases h; exact Nat.le_refl _
  | x :: xs, r, h => by
    obtain ⟨o, ys, _, h2, h3⟩ := compF_cons h
    have := compF_len h2
    cases o with
    | none =>
      have e : r = ys := h3
      rw [e, List.length_cons]; omega
    | some y =>
      have e : r = y :: ys := h3
      rw [e, List.length_cons, List.length_cons]; omega
theorem compF_nox {f : D → R (Option D)} : ∀ (xs : List D) (c : Nat), compF f xs ≠ .exc c
  | [], c => by simp [compF]
  | x :: xs, c => by
    simp only [compF]
    cases f x with
    | ok o =>
      simp only
      cases q : compF f xs with
      | ok ys => simp [R.bind]
      | exc d => exact absurd q (compF_nox xs d)
      | bad => simp [R.bind]
    | exc d => simp
    | bad => simp
/-- what a turn of a comprehension tells -/
def turnF (T : Tab) (g : Tg) (vs : List Nat) (cd e : CE) (ρ : Env) : D → R (Option D) := fun x => (bindT g x (wipeS ρ vs)).bind fun ρ' => (match cd with
        | .nil => R.ok true
        | _ => (evalE T cd ρ').bind fun r => onT (truth r) (.ok true) (.ok false)).bind fun b => if b = true then (evalE T e ρ').bind fun y => .ok (some y) else .ok none
theorem eval_comp {ik : IK} {g : Tg} {vs : List Nat} {it cd e : CE} {ρ : Env} : evalE T (.comp ik g vs it cd e) ρ = ((evalE T it ρ).bind (itemsOf ik)).bind fun l => if l.length ≤ lim then (compF (turnF T g vs cd e ρ) l).bind fun r => .ok (.lst r) else .bad := by
  simp only [evalE]
  cases evalE T it ρ <;> rfl
abbrev E00 : L2.St → XK := fun _ _ _ _ => False
def tC0 (W : Wd) (T : Tab) : CE → TT
  | .nil => tYes
  | cd => tDT W T E00 cd
theorem tC0_ok {S : Addr → Prop} {H : Hp} {ρ : Env} {σ : L2.St} {cd : CE} {b : Bool} {Q : Bool → Hp → Prop} (V : View W S ρ σ H) (h : (match cd with
        | .nil => R.ok true
        | _ => (evalE T cd ρ).bind fun r => onT (truth r) (.ok true) (.ok false)) = .ok b) (q : ∀ S' H', Step S H S' H' → Q b H') : tC0 W T cd σ H Q := by
  have gen : (evalE T cd ρ).bind (fun r => onT (truth r) (.ok true) (.ok false)) = .ok b → tDT W T E00 cd σ H Q := fun h _ => by
    refine ⟨S, ρ, V, ?_⟩
    cases r : evalE T cd ρ with
    | ok d =>
      rw [r, R.bind_ok] at h
      simp only [PostT]
      cases t : truth d with
      | none => rw [t] at h; cases h
      | some z =>
        rw [t] at h
        cases z with
        | true => cases h; exact fun S' H' _ st => q S' H' st
        | false => cases h; exact fun S' H' _ st => q S' H' st
    | exc c => rw [r] at h; cases h
    | bad => rw [r] at h; cases h
  cases cd <;> first | exact gen h | skip
  cases h
  exact q S H (Step.refl V.liv)
theorem lc_imp {ik : IK} {g : Tg} {vs : List Nat} {it cd e : CE} (htg : tgIn g vs = true) (σ : L2.St) (H : Hp) (Q : VK) (dj : Disj W H) (h : tF W T Ex (.comp ik g vs it cd e) σ H Q) : tLc (tI W T Ex ik it) (tG W.K g) (tC0 W T cd) (tD W T E00 e) vs σ H fun v H' => Disj W H' → Q v H' := by
  obtain ⟨S, ρ, V, P⟩ := h dj
  rw [eval_comp] at P
  intro _
  refine ⟨S, ρ, V, ?_⟩
  cases r : (evalE T it ρ).bind (itemsOf ik) with
  | exc c => rw [r] at P; exact P
  | bad => rw [r] at P; exact P
  | ok l =>
    rw [r, R.bind_ok] at P
    intro J S1 H1 dj1 s1 wk _ Dl hD
    by_cases hlim : l.length ≤ lim
    case neg => rw [if_neg hlim] at P; exact P.elim
    rw [if_pos hlim] at P
    cases rc : compF (turnF T g vs cd e ρ) l with
    | exc c => exact absurd rc (compF_nox _ _)
    | bad => rw [rc] at P; exact P.elim
    | ok total =>
      rw [rc, R.bind_ok] at P
      have V1 : View W S1 ρ σ H1 := V.step s1
      refine ⟨fun i m H' => m = l.length - i ∧ i ≤ l.length ∧ ∃ S' av ad rest, Step S1 H1 S' H' ∧ ¬ S' Dl ∧ H' Dl = some (.lst av) ∧ Dps W S' H' av ad ∧ ad.length ≤ i ∧ compF (turnF T g vs cd e ρ) (l.drop i) = .ok rest ∧ total = ad ++ rest,
        ⟨l.length, by simp, Nat.zero_le _, S1, [], [], total, Step.new0 V1.liv hD, fun z => V1.liv _ z hD, upd_same, .nil, Nat.le_refl _, by simpa using rc, by simp⟩, ?_⟩
      rintro i m H2 ⟨rfl, hi, S2, av, ad, rest, st, nD, hDl, pa, hal, hc, ht⟩
      by_cases hlt : i < l.length
      · have hd : l[i]? = some l[i] := List.getElem?_eq_getElem hlt
        obtain ⟨go, yl⟩ := wk.turn i l[i] hd S2 H2 st.keep st.liv
        rw [List.drop_eq_getElem_cons hlt] at hc
        obtain ⟨o, ys, h1, h2, h3⟩ := compF_cons hc
        refine .inr ⟨go, fun H' => i + 1 ≤ l.length ∧ ∃ S' av ad rest, Step S1 H1 S' H' ∧ ¬ S' Dl ∧ H' Dl = some (.lst av) ∧ Dps W S' H' av ad ∧ ad.length ≤ i + 1 ∧ compF (turnF T g vs cd e ρ) (l.drop (i + 1)) = .ok rest ∧ total = ad ++ rest,
          fun H' ⟨q1, q2⟩ => ⟨l.length - (i + 1), by omega, rfl, q1, q2⟩, fun x H3 y => ?_⟩
        obtain ⟨s3, px⟩ := yl x H3 y
        have st3 := st.trans s3
        have V3 : View W S2 (wipeS ρ vs) (L2.wipe σ vs) H3 := (V1.step st3).wipe vs
        unfold turnF at h1
        cases hbT : bindT g l[i] (wipeS ρ vs) with
        | exc c => rw [hbT] at h1; cases h1
        | bad => rw [hbT] at h1; cases h1
        | ok ρ' =>
          rw [hbT, R.bind_ok] at h1
          refine tG_ok V3 px hbT fun σ' V4 off => ⟨(off vs htg).wipe.trans (off_wipe σ vs).wipe, ?_⟩
          cases hcd : (match cd with
            | .nil => R.ok true
            | _ => (evalE T cd ρ').bind fun r => onT (truth r) (.ok true) (.ok false)) with
          | exc c => rw [hcd] at h1; cases h1
          | bad => rw [hcd] at h1; cases h1
          | ok b =>
            rw [hcd, R.bind_ok] at h1
            have hD3 : H3 Dl = some (.lst av) := s3.same _ _ hDl
            refine tC0_ok V4 hcd fun S5 H5 s5 => ?_
            have V5 := V4.step s5
            have st5 := st3.trans s5
            have hD5 : H5 Dl = some (.lst av) := s5.same _ _ hD3
            have nD5 : ¬ S5 Dl := fun z => by
              rcases s5.new _ z with q | q
              · exact nD q
              · rw [hD3] at q; cases q
            have pa5 := pa.keep (s3.trans s5).keep
            cases b with
            | false =>
              rw [if_neg Bool.false_ne_true] at h1
              cases h1
              refine iteF ⟨hlt, S5, av, ad, ys, st5, nD5, hD5, pa5, by omega, h2, ?_⟩
              rw [ht, h3]
            | true =>
              rw [if_pos rfl] at h1
              cases hy : evalE T e ρ' with
              | exc c => rw [hy] at h1; cases h1
              | bad => rw [hy] at h1; cases h1
              | ok y =>
                rw [hy, R.bind_ok] at h1
                cases h1
                refine iteT fun _ => ⟨S5, ρ', V5, ?_⟩
                rw [hy]
                intro yv S6 H6 dj6 s6 py
                have hD6 : H6 Dl = some (.lst av) := s6.same _ _ hD5
                have nD6 : ¬ S6 Dl := fun z => by
                  rcases s6.new _ z with q | q
                  · exact nD5 q
                  · rw [hD5] at q; cases q
                have kp : Keep S6 H6 S6 (upd H6 Dl (.lst (av ++ [yv]))) := Keep.mut nD6 hD6
                refine ⟨av, hD6, ?_, hlt, S6, av ++ [yv], ad ++ [y], ys, (st5.trans s6).mut hD, nD6, upd_same, ((pa5.keep s6.keep).append (.cons py .nil)).keep kp, by rw [List.length_append]; simp; omega, h2, ?_⟩
                · rw [pa.length]
                  exact lt_lim (by omega)
                · rw [ht, h3]
                  simp
      · have e0 : i = l.length := by omega
        subst e0
        refine .inl ⟨wk.stop S2 H2 st.keep, fun dj' => ?_⟩
        rw [List.drop_length] at hc
        simp only [compF] at hc
        cases hc
        rw [List.append_nil] at ht
        subst ht
        exact P Dl av S2 H2 dj' (s1.trans st) (s1.same.free hD) nD hDl pa
theorem sf_comp (C : Cok W T k Ex c X) {ik : IK} {g : Tg} {vs : List Nat} {it cd e : CE} {elt tg iter : Expr} {ifs : List Expr} {scope : Scope} {pos : Pos} (hst : noSet iter = true) (hb : blkC c.N c.sc scope (ownOf c.N vs) = true) (hv : (ownOf c.N vs).map (·.2) = vs) (htg : tgIn g vs = true)
    (hi : PI X tg iter (tI W T Ex ik it))
    (hg : ∀ (s : Shared) (H : Hp) (D : Addr) (cl : List (Str × Addr)) (fp : List Addr), PG (X.blk s H scope (compEnvC scope cl D X.env) fp) tg (tG W.K g))
    (ht : ∀ (s : Shared) (H : Hp) (D : Addr) (cl : List (Str × Addr)) (fp : List Addr), PTs (X.blk s H scope (compEnvC scope cl D X.env) fp) ifs (tC0 W T cd))
    (he : ∀ (s : Shared) (H : Hp) (D : Addr) (cl : List (Str × Addr)) (fp : List Addr), PE (X.blk s H scope (compEnvC scope cl D X.env) fp) elt (tD W T E00 e)) :
    PE X (.ListComp elt [⟨tg, iter, ifs, 0⟩] scope pos) (tF W T Ex (.comp ik g vs it cd e)) := by
  have ok : BlkOk X.N X.env.scope scope (ownOf c.N vs) := by rw [C.N, C.sc]; exact blkOk_by hb
  have L := pe_lc (pos := pos) C.calm C.nd hi ok hg ht he (set_fold hst)
  rw [hv] at L
  exact PE.imp C.K L fun σ H Q dj h => lc_imp htg σ H Q dj h
end
end RF

end S_RF8
section S_RFO
set_option maxHeartbeats 4000000
/-! RFO: objects: fields, making, isinstance, methods. -/
namespace RF
open PySem PySem.Spec L2

/-! ### fields -/
theorem lookup_zip : ∀ {ns : List Str} {vs : List V} {i : Nat} {x : Str} {v : V}, ns.Nodup → ns[i]? = some x → vs[i]? = some v → (ns.zip vs).lookup x = some v
  | [], _, _, _, _, _, h, _ => by simp at h
  | n :: ns, [], _, _, _, _, _, h => by simp at h
  | n :: ns, u :: vs, 0, x, v, _, h, h' => by
    simp only [List.getElem?_cons_zero, Option.some.injEq] at h h'
    subst h; subst h'
    simp [List.lookup]
  | n :: ns, u :: vs, i + 1, x, v, nd, h, h' => by
    simp only [List.getElem?_cons_succ] at h h'
    have hm : x ∈ ns := List.mem_of_getElem? h
    have hne : (x == n) = false := by
      apply beq_false_of_ne
      intro z
      subst z
      exact (List.nodup_cons.mp nd).1 hm
    simp only [List.zip_cons_cons, List.lookup, hne]
    exact lookup_zip (List.nodup_cons.mp nd).2 h h'
theorem lookup_zip_none : ∀ {ns : List Str} {vs : List V} {x : Str}, x ∉ ns → (ns.zip vs).lookup x = none
  | [], _, _, _ => by simp
  | n :: ns, [], _, _ => by simp
  | n :: ns, u :: vs, x, h => by
    have hne : (x == n) = false := by
      apply beq_false_of_ne
      intro z
      subst z
      exact h List.mem_cons_self
    simp only [List.zip_cons_cons, List.lookup, hne]
    exact lookup_zip_none fun z => h (List.mem_cons_of_mem _ z)
section
variable {W : Wd} {T : Tab} {k : Nat} {Ex : L2.St → XK} {c : Ctx} {X : Cx}
theorem Dp.obj_of {S : Addr → Prop} {H : Hp} {v : V} {n : Nat} {ds : List D} (h : Dp W S H v (.obj n ds)) : ∃ a dx C vs, v = .ref a ∧ S a ∧ W.cl n = some C ∧ H a = some (.ins C dx ((W.cn n).zip vs)) ∧ vs.length = (W.cn n).length ∧ Dps W S H vs ds := by
  cases h with
  | obj s hc h l r => exact ⟨_, _, _, _, rfl, s, hc, h, l, r⟩
theorem sd_fld (C : Cok W T k Ex c X) {a : CE} {f : Nat} {e : Expr} {x : Str} {pos : Pos} (hx : c.atr[f]? = some x) (hb : noCall0 e = true) (ha : PE X e (tD W T Ex a)) : PE X (.Attribute e x pos) (tD W T Ex (.fld a f)) := by
  refine PE.imp C.K (pe_fld ha (attr_base hb)) fun σ H Q dj h => ?_
  obtain ⟨S, ρ, V, P⟩ := h dj
  simp only [evalE] at P
  refine tD_bind V P fun d v S1 H1 dj1 s1 V1 p P => ?_
  cases d <;> first | exact P.elim | skip
  rename_i n ds
  obtain ⟨b, dx, Ca, vs, rfl, hs, hc, hb, hl, r⟩ := p.obj_of
  obtain ⟨cf, hcn, hnd, hno⟩ := C.cls n Ca hc
  simp only [fldD] at P
  cases ei : (T.cf.cf n).idxOf? f with
  | none => simp only [ei] at P; exact P.elim
  | some i =>
    simp only [ei] at P
    have hf : (T.cf.cf n)[i]? = some f := by
      have h := List.idxOf?_eq_some_iff.mp ei
      obtain ⟨h1, h2, _⟩ := h
      rw [List.getElem?_eq_getElem h1, h2]
    have hn : (W.cn n)[i]? = some x := by
      rw [hcn, List.getElem?_map, hf]
      simp only [Option.map_some, List.getD_eq_getElem?_getD, hx]
      rfl
    cases ed : ds[i]? with
    | none => simp only [ed] at P; exact P.elim
    | some d =>
      simp only [ed] at P
      obtain ⟨v, hv, q⟩ := r.get ed
      exact ⟨b, Ca, dx, _, v, rfl, hb, cf.c, hno x (List.mem_of_getElem? hn), lookup_zip hnd hn hv, fun dj' => Post.fin P dj' V1.liv q⟩
/-! ### isinstance -/
def tyV (W : Wd) : D → Option Value
  | .non => some (.type "NoneType")
  | .bl _ => some (.type "bool")
  | .int _ => some (.type "int")
  | .str _ => some (.type "str")
  | .tup _ => some (.type "tuple")
  | .lst _ => some (.type "list")
  | .obj n _ => (W.cl n).map .ref
theorem ty_all (C : Cok W T k Ex c X) {S : Addr → Prop} {H : Hp} {v : V} {d : D} (p : Dp W S H v d) : ∃ t, tyV W d = some t ∧ TyX X.K H v t := by
  rw [C.K]
  cases p with
  | non => exact ⟨_, rfl, .base .non⟩
  | bl b => exact ⟨_, rfl, .base (.bl b)⟩
  | int b => exact ⟨_, rfl, .base (.int b)⟩
  | str b => exact ⟨_, rfl, .base (.str b)⟩
  | tup h' _ =>
    rcases h' with h' | ⟨o, h'⟩
    · exact ⟨_, rfl, .base (.tup h')⟩
    · exact ⟨_, rfl, .fTuple h'⟩
  | tupK h' _ =>
    obtain ⟨o, _, _, e, cc, _⟩ := h'
    exact ⟨_, rfl, .kTuple e cc⟩
  | lst _ h' _ =>
    rcases h' with h' | ⟨o, h'⟩
    · exact ⟨_, rfl, .base (.lst h')⟩
    · exact ⟨_, rfl, .base (.frz h')⟩
  | lstK h' _ =>
    obtain ⟨o, _, _, e, cc, _⟩ := h'
    exact ⟨_, rfl, .kList e cc⟩
  | obj _ hc h _ _ =>
    have f := (C.cls _ _ hc).1
    rw [C.K] at f
    exact ⟨.ref _, by rw [tyV, hc]; rfl, .base (.ins h f.c f.ha f.hn f.htk f.hm)⟩
theorem sd_isC (C : Cok W T k Ex c X) {a : CE} {n : Nat} {x y : Str} {e : Expr} {p p2 pos : Pos} (hx : x = "isinstance") (hy : c.cls n = some y) (hg : glB c.sc x = true) (hg2 : glB c.sc y = true) (hs : noStar e = true) (ha : PE X e (tD W T Ex a)) :
    PE X (.Call (.Name x p) [e, .Name y p2] [] pos) (tD W T Ex (.isC a n)) := by
  obtain ⟨h1, h2⟩ := look_gl C hg
  obtain ⟨h3, h4⟩ := look_gl C hg2
  have hm : X.mg x = none := C.blt x (by rw [hx]; decide +kernel)
  obtain ⟨Cn, hm2, i1, i2⟩ := C.isc n y hy
  have hb : PE X (.Name y p2) (tC (.ref Cn)) := pe_glob h3 hm2 rfl h4
  refine PE.imp C.K (pe_callB call_isi h1 hm (by rw [hx]; decide +kernel : bootBuiltins x = some (.builtin "isinstance")) (pa_cons ha (pa_cons hb pa_nil (star1 rfl)) (star1 hs)) (by rw [hx]; decide +kernel) h2 (star1 hs) rfl) fun σ H Q dj h => ?_
  obtain ⟨S, ρ, V, P⟩ := h dj
  simp only [evalE] at P
  refine tD_bind V P fun x v S1 H1 dj1 s1 V1 p P => ?_
  obtain ⟨t, ht, ty⟩ := ty_all C p
  refine ⟨v, .ref Cn, t, .ref Cn, isCD T n x, rfl, .own Cn, ty, ?_, fun dj' => Post.fin P dj' V1.liv (.bl _)⟩
  cases x with
  | obj m l =>
    simp only [tyV, Option.map_eq_some_iff] at ht
    obtain ⟨C', hC', rfl⟩ := ht
    exact i1 m C' hC'
  | non => cases ht; exact i2 _ (by decide)
  | bl _ => cases ht; exact i2 _ (by decide)
  | int _ => cases ht; exact i2 _ (by decide)
  | str _ => cases ht; exact i2 _ (by decide)
  | tup _ => cases ht; exact i2 _ (by decide)
  | lst _ => cases ht; exact i2 _ (by decide)
/-! ### making -/
theorem putF_new {f : Str} {v : V} : ∀ {fs : List (Str × V)}, f ∉ fs.map (·.1) → putF f v fs = fs ++ [(f, v)]
  | [], _ => rfl
  | (g, u) :: fs, h => by
    have hg : g ≠ f := fun z => h (by rw [List.map_cons, z]; exact List.mem_cons_self)
    rw [putF, if_neg hg, putF_new (fun z => h (by rw [List.map_cons]; exact List.mem_cons_of_mem _ z))]
    rfl
theorem Keep.mutI {S : Addr → Prop} {H : Hp} {p C dx : Addr} {fs : List (Str × V)} {o : HO} (np : ¬ S p) (hp : H p = some (.ins C dx fs)) : Keep S H S (upd H p o) :=
  ⟨fun _ h => h, fun a u s e => by
    have z : a ≠ p := fun z => by subst z; exact np s
    rw [upd_ne z]; exact e, fun a vs e => by
    have z : a ≠ p := fun z => by rw [z, hp] at e; cases e
    rw [upd_ne z]; exact e, fun a u x e => by
    have z : a ≠ p := fun z => by rw [z, hp] at e; cases e
    rw [upd_ne z]; exact e⟩
theorem iP_ok {K : PySem.W.Frag} {x C dx : Addr} {S0 : Addr → Prop} {H0 : Hp} (hK : K = W.K) (hx0 : H0 x = none) : ∀ {fl : List Bool} {names : List Str} {vs : List V} {xs ds : List D} {fs : List (Str × V)} {S : Addr → Prop} {H : Hp} {Q : Hp → Prop},
    mkFs fl xs = some ds → names.length = fl.length → (∀ f ∈ names, f ∉ fs.map (·.1)) → names.Nodup → Dps W S H vs xs → Step S0 H0 S H → ¬ S x → H x = some (.ins C dx fs) →
    (∀ ws S' H', Keep S H S' H' → Step S0 H0 S' H' → ¬ S' x → H' x = some (.ins C dx (fs ++ names.zip ws)) → ws.length = names.length → Dps W S' H' ws ds → Q H') → iP K x C dx (names.zip fl) vs fs H Q
  | [], [], _, [], ds, fs, S, H, Q, hm, _, _, _, .nil, st, nx, hx, q => by
    simp only [mkFs, Option.some.injEq] at hm
    subst hm
    exact q [] S H Keep.refl st nx (by simpa using hx) rfl .nil
  | [], [], _, _ :: _, _, _, _, _, _, hm, _, _, _, _, _, _, _, _ => by simp [mkFs] at hm
  | [], _ :: _, _, _, _, _, _, _, _, _, hl, _, _, _, _, _, _, _ => by simp at hl
  | _ :: _, [], _, _, _, _, _, _, _, _, hl, _, _, _, _, _, _, _ => by simp at hl
  | b :: _, _ :: _, _, [], _, _, _, _, _, hm, _, _, _, _, _, _, _, _ => by cases b <;> simp [mkFs] at hm
  | false :: fl, n :: names, _, d :: xs, ds, fs, S, H, Q, hm, hl, hf, hnd, .cons (v := v) (vs := vs) p ps, st, nx, hx, q => by
    simp only [mkFs, Option.map_eq_some_iff] at hm
    obtain ⟨es, hm, rfl⟩ := hm
    rw [List.zip_cons_cons, iP, putF_new (hf n List.mem_cons_self)]
    have kp : Keep S H S (upd H x (.ins C dx (fs ++ [(n, v)]))) := Keep.mutI nx hx
    refine iP_ok hK hx0 (S := S) hm (by simpa using hl) (fun f hfm => ?_) (List.nodup_cons.mp hnd).2 (ps.keep kp) (st.mut hx0) nx upd_same fun ws S' H' kp' st' nx' hx' hw ps' => ?_
    · rw [List.map_append, List.mem_append]
      rintro (z | z)
      · exact hf f (List.mem_cons_of_mem _ hfm) z
      · simp at z
        subst z
        exact (List.nodup_cons.mp hnd).1 hfm
    · refine q (v :: ws) S' H' (kp.trans kp') st' nx' (by rw [hx', List.zip_cons_cons, List.append_assoc]; rfl) (by simp [hw]) (.cons (p.keep (kp.trans kp')) ps')
  | true :: fl, n :: names, _, d :: xs, ds, fs, S, H, Q, hm, hl, hf, hnd, .cons (v := v) (vs := vs) p ps, st, nx, hx, q => by
    have main : ∀ (l : List D) (es : List D) (a : Addr) (us : List V), mkFs fl xs = some es → ds = .lst l :: es → v = .ref a → (SqL K H a us ∨ SqT K H a us) → Dps W S H us l → iP K x C dx ((n :: names).zip (true :: fl)) (v :: vs) fs H Q := by
      intro l es a us hm2 hd hv sq pu
      subst hd
      rw [List.zip_cons_cons, iP]
      refine ⟨a, us, hv, sq, fun t ht => ?_⟩
      rw [putF_new (hf n List.mem_cons_self)]
      have tx : t ≠ x := fun z => by rw [z, hx] at ht; cases ht
      have st1 : Step S H (fun a => S a ∨ a = t) (upd H t (.lst us)) := Step.new1 st.liv ht
      have hx1 : (upd H t (.lst us)) x = some (.ins C dx fs) := by rw [upd_ne (Ne.symm tx)]; exact hx
      have nx1 : ¬ (S x ∨ x = t) := fun z => z.elim nx fun z => tx z.symm
      have kp : Keep S H (fun a => S a ∨ a = t) (upd (upd H t (.lst us)) x (.ins C dx (fs ++ [(n, .ref t)]))) := st1.keep.trans (Keep.mutI nx1 hx1)
      refine iP_ok hK hx0 (S := fun a => S a ∨ a = t) hm2 (by simpa using hl) (fun f hfm => ?_) (List.nodup_cons.mp hnd).2 (ps.keep kp) ((st.trans st1).mut hx0) nx1 upd_same fun ws S' H' kp' st' nx' hx' hw ps' => ?_
      · rw [List.map_append, List.mem_append]
        rintro (z | z)
        · exact hf f (List.mem_cons_of_mem _ hfm) z
        · simp at z
          subst z
          exact (List.nodup_cons.mp hnd).1 hfm
      · refine q (.ref t :: ws) S' H' (kp.trans kp') st' nx' (by rw [hx', List.zip_cons_cons, List.append_assoc]; rfl) (by simp [hw]) (.cons ?_ ps')
        refine .lst (kp'.sub t (.inr rfl)) (.inl (kp'.obs t _ (.inr rfl) ?_)) (pu.keep (kp.trans kp'))
        rw [upd_ne tx, upd_same]
    cases d with
    | lst l =>
      simp only [mkFs, Option.map_eq_some_iff] at hm
      obtain ⟨es, hm, rfl⟩ := hm
      obtain ⟨a, us, hv, sq, pu⟩ := p.lst_of
      exact main l es a us hm rfl hv (.inl (by rw [hK]; exact sq)) pu
    | tup l =>
      simp only [mkFs, Option.map_eq_some_iff] at hm
      obtain ⟨es, hm, rfl⟩ := hm
      obtain ⟨a, us, hv, sq, pu⟩ := p.tup_of
      exact main l es a us hm rfl hv (.inr (by rw [hK]; exact sq)) pu
    | _ => simp [mkFs] at hm
theorem mkD_of {n : Nat} {xs : List D} (h : mkD T n xs ≠ .bad) : ∃ fl ds, T.cf.ini n = some fl ∧ mkFs fl xs = some ds ∧ mkD T n xs = .ok (.obj n ds) := by
  unfold mkD at h ⊢
  cases e : T.cf.ini n with
  | none => rw [e] at h; exact absurd rfl h
  | some fl =>
    rw [e] at h
    simp only at h ⊢
    cases e2 : mkFs fl xs with
    | none => rw [e2] at h; exact absurd rfl h
    | some ds => exact ⟨fl, ds, rfl, e2, rfl⟩
theorem Post.notBad {S : Addr → Prop} {H : Hp} {r : R D} {Q : VK} {E : XK} (h : Post W S H r Q E) : r ≠ .bad := fun z => by rw [z] at h; exact h
theorem mkFs_len : ∀ {fl : List Bool} {xs ds : List D}, mkFs fl xs = some ds → xs.length = fl.length
  | [], [], _, _ => rfl
  | [], _ :: _, _, h => by simp [mkFs] at h
  | b :: _, [], _, h => by cases b <;> simp [mkFs] at h
  | false :: fl, d :: xs, _, h => by
    simp only [mkFs, Option.map_eq_some_iff] at h
    obtain ⟨es, h, _⟩ := h
    rw [List.length_cons, List.length_cons, mkFs_len h]
  | true :: fl, d :: xs, _, h => by
    cases d <;> simp only [mkFs, Option.map_eq_some_iff, reduceCtorEq] at h <;> (obtain ⟨es, h, _⟩ := h; rw [List.length_cons, List.length_cons, mkFs_len h])
abbrev XF : XK := fun _ _ _ => False
theorem passF : Passes (L2.CX X.prog X.w) X XF := fun pins σ H s e s' I h => by
  obtain ⟨_, _, _, _, _, _, _, _, _, _, _, _, z⟩ := h
  exact z.elim
/-- the new object, told -/
theorem mkd_ok (C : Cok W T k Ex c X) {n : Nat} {Cn : Addr} {fl : List Bool} {S : Addr → Prop} {H : Hp} {Q : VK} {E : XK} {xs ds : List D} {vs : List V} (hc : W.cl n = some Cn) (hi : T.cf.ini n = some fl) (hm : mkFs fl xs = some ds) (hl : (W.cn n).length = fl.length)
    (lv : ∀ a, S a → H a ≠ none) (ps : Dps W S H vs xs) (P : Post W S H (.ok (.obj n ds)) Q E) (x dx : Addr) (hx : H x = none) (hdx : H dx = none) (hne : dx ≠ x) :
    iP X.K x Cn dx ((W.cn n).zip fl) vs [] (upd (upd H dx (.own x)) x (.ins Cn dx [])) (fun H2 => Disj W H2 → Q (.ref x) H2) := by
  obtain ⟨cf, hcn, hnd, hno⟩ := C.cls n Cn hc
  have nS : ¬ S x := fun z => lv x z hx
  have st : Step S H S (upd (upd H dx (.own x)) x (.ins Cn dx [])) := (Step.new0 lv hdx).mut hx
  refine iP_ok C.K hx hm hl (fun f _ h => by simp at h) hnd (ps.keep st.keep) st nS upd_same fun ws S' H' kp st' nx' hx' hw ps' dj' => ?_
  refine P (.ref x) (fun a => S' a ∨ a = x) H' dj' ⟨st'.same, fun _ z => .inl (st'.sub _ z), fun a z => ?_, fun a z => ?_⟩ (.obj (.inr rfl) hc hx' hw (ps'.keep ⟨fun _ z => .inl z, fun _ _ _ z => z, fun _ _ z => z, fun _ _ _ z => z⟩))
  · rcases z with z | z
    · exact st'.new a z
    · exact .inr (z ▸ hx)
  · rcases z with z | z
    · exact st'.liv a z
    · rw [z, hx']; intro q; cases q
/-- C() where there is no __init__ but object's -/
theorem pe_mk0 {C : Addr} {x : Str} {p pos : Pos} (hm : PySem.W.makesIn X.K C = true) (hi : PySem.W.findIn X.K (.ref C) "__init__" = some (some (.builtin "object.__init__"))) (hk : PySem.W.keepIn X.K (.ref C) = true) (hg : Gl X x) (hmg : X.mg x = some (.ref C)) (hdb : (x == ("__debug__" : Str)) = false) :
    PE X (.Call (.Name x p) [] [] pos) (fun σ H Q => ∀ x dx, H x = none → H dx = none → dx ≠ x → Q (.ref x) (upd (upd H dx (.own x)) x (.ins C dx []))) := by
  refine ⟨fun pins s σ H Q I h => ?_⟩
  refine PySem.wpAny_Call_Name_kw (ld_glob I hg hmg ?_ hdb)
  refine PySem.W.callWith_K0 I.kIn hk (wpAny_call ?_)
  have hq := h (s.heap.objs.size + 1) s.heap.objs.size (I.hok.fresh (Nat.le_succ _)) (I.hok.fresh (Nat.le_refl _)) (Nat.ne_of_lt (Nat.lt_succ_self _))
  have I2 := Inv.made (C := C) I
  have Y := PySem.W.makes_of (M := model X.prog X.w) I.kIn hm
  refine make_map0 I.kIn hm hi (fun self => PySem.W.Looks.of_pure (PySem.W.oi_bind self)) ?_
  have e2 : ((s.heap.push PySem.W.emptyDict).push (PySem.W.instObj C s.heap.objs.size)).get? (s.heap.objs.size + 1) = some (PySem.W.instObj C s.heap.objs.size) := by
    have := Heap.get?_push_size (s.heap.push PySem.W.emptyDict) (o := PySem.W.instObj C s.heap.objs.size) rfl
    rwa [Heap.size_push] at this
  have t1 : PySem.W.Looks (model X.prog X.w) ((s.heap.push PySem.W.emptyDict).push (PySem.W.instObj C s.heap.objs.size)) (typeOf (.ref (s.heap.objs.size + 1))) (.ref C) := (PySem.W.Looks.ld e2).andThen .now
  have t2 : PySem.W.Looks (model X.prog X.w) ((s.heap.push PySem.W.emptyDict).push (PySem.W.instObj C s.heap.objs.size)) (isInstance (.ref (s.heap.objs.size + 1)) (.type "object")) true := t1.andThen (Y.top.keeps fun b o e => Heap.get?_push_of_some _ (Heap.get?_push_of_some _ e))
  refine codeAny_call_builtin PySem.W.oi_plain PySem.W.entry_oi (@PySem.W.check_slot (model X.prog X.w) _ _ _ "object.__init__" "object" "__init__" (.ref (s.heap.objs.size + 1)) [] [] _ PySem.W.oi_kind PySem.W.oi_split t2 (PySem.W.oi_args (.ref (s.heap.objs.size + 1))) ?_)
  rw [PySem.W.oi_run]
  exact wpAny_pure (And.intro rfl ⟨V.ref (s.heap.objs.size + 1), _, I2, rfl, hq⟩)
theorem sd_mk (C : Cok W T k Ex c X) {n : Nat} {as : CE} {x : Str} {es : List Expr} {p pos : Pos} (hy : c.mkn n = some x) (h0 : c.m0 n = es.isEmpty) (hg : glB c.sc x = true) (hck : chkA as c es = true) (ha : PA X es (tDA W T Ex as)) :
    PE X (.Call (.Name x p) es [] pos) (tD W T Ex (.mk n as)) := by
  have hs := chkA_star hck
  obtain ⟨h1, h2⟩ := look_gl C hg
  obtain ⟨Cn, fl, hcn, hm, hi, he, hl, h⟩ := C.mkc n x hy
  rcases h with ⟨hf, m1, m2, m3⟩ | ⟨hf, fa, fd, qs, M, hb, F⟩
  · subst hf
    rw [h0] at he
    cases es with
    | cons e es => cases he
    | nil =>
      refine PE.imp C.K (pe_mk0 m1 m2 m3 h1 hm h2) fun σ H Q dj h => ?_
      obtain ⟨S, ρ, V, P⟩ := h dj
      have ea : as = .nil := by cases as <;> first | rfl | simp [chkA] at hck
      subst ea
      simp only [evalE, R.bind_ok] at P
      obtain ⟨fl, ds, g1, g2, g3⟩ := mkD_of P.notBad
      rw [g3] at P
      rw [hi] at g1
      cases g1
      intro x dx hx hdx hne
      have q := mkd_ok C hcn hi g2 hl V.liv .nil P x dx hx hdx hne
      have en : W.cn n = [] := List.length_eq_zero_iff.mp hl
      rw [en] at q
      exact q
  · have hne : fl.isEmpty = false := by cases fl with
      | nil => exact absurd rfl hf
      | cons _ _ => rfl
    rw [h0, hne] at he
    cases es with
    | nil => cases he
    | cons e es =>
      refine PE.imp C.K (pe_make (CX := L2.CX X.prog X.w) (E := XF) (ds := []) (dvs := []) M F (C.room.mono (by omega)) h1 hm hb .nil passF ha h2 (star1 (hs e List.mem_cons_self)) (stars_none fun a h => hs a (List.mem_cons_of_mem _ h))) fun σ H Q dj h => ?_
      obtain ⟨S, ρ, V, P⟩ := h dj
      simp only [evalE] at P
      refine tDA_bind V P fun xs vs S1 H1 dj1 s1 V1 ps P => ?_
      obtain ⟨fl, ds, g1, g2, g3⟩ := mkD_of P.notBad
      rw [g3] at P
      rw [hi] at g1
      cases g1
      intro x dx hx hdx hxne
      rw [List.append_nil]
      refine ⟨x, dx, vs, rfl, ?_, upd_same, ?_⟩
      · rw [ps.length, mkFs_len g2, List.length_zip, hl, Nat.min_self]
      · have q := mkd_ok C hcn hi g2 hl V1.liv ps P x dx hx hdx hxne
        refine cast (by congr 1; funext H2; simp) q
/-! ### methods -/
theorem meth_of {M : Model} {A : Around} {E : Value → Shared → Prop} {s : Shared} {env : PySem.Env} {o : Expr} {m : Str} {apos pos : Pos} {es : List Expr} {Q : Value → Shared → Prop} (hbase : attributeBase o m env (eval o env) = eval o env) (hl : (apos.endLine == pos.line) = true)
    (hform : methodCallForm (es.length + ([] : List Keyword).length) (backTo pos (starEach es env)) [] = true)
    (h : wpAny M A (eval o env) (fun ov s₁ => wpAny M A (getMethod ov m (do return (← importBound o env).getD true)) (fun fx s₂ => wpAny M A (callWith pos fx.1 fx.2 (backTo pos (starEach es env)) []) Q E s₂) E s₁) E s) :
    wpAny M A (eval (.Call (.Attribute o m apos) es [] pos) env) Q E s := by
  have hke : backToKw pos (keywordEach [] env) = [] := rfl
  have hpos : methodCallPos true o env apos pos = pure pos := by unfold methodCallPos; rw [hl]; rfl
  have hcal : ∀ ov, calleeOf true o env ov m = getMethod ov m (do return (← importBound o env).getD true) := fun _ => rfl
  rw [arm_eval_Call, hbase, hke]
  refine wpAny_bind (wpAny_mono h (fun ov s₁ h₁ => ?_) fun _ _ x => x)
  refine wpAny_bind (wpAny_standAt ?_)
  unfold methodCall
  rw [hform, hpos, hcal]
  refine wpAny_bind (wpAny_holding (wpAny_mono h₁ (fun f s₂ h₂ => ?_) fun _ _ x => x))
  exact wpAny_bind (wpAny_pure h₂)
theorem form_ok {es : List Expr} {env : PySem.Env} {pos : Pos} (hs : ∀ e ∈ es, noStar e = true) (hl : es.length < 30) : methodCallForm (es.length + ([] : List Keyword).length) (backTo pos (starEach es env)) [] = true := by
  have h := stars_none (env := env) (pos := pos) hs
  unfold methodCallForm
  simp only [List.all_nil, Bool.and_true, List.isEmpty_nil, if_true, Bool.and_eq_true, decide_eq_true_eq, List.length_nil, Nat.add_zero]
  refine ⟨?_, hl⟩
  rw [List.all_eq_true]
  intro x hx
  rw [List.any_eq_false] at h
  simpa using h x hx
theorem sd_meth (C : Cok W T k Ex c X) {a as : CE} {m : Nat} {x : Str} {o e : Expr} {es : List Expr} {apos pos : Pos} (hx : c.mts m = some x) (hb : noCall0 o = true) (hln : (apos.endLine == pos.line) = true) (hlt : es.length < 20) (hs : ∀ a ∈ e :: es, noStar a = true) (ho : PE X o (tD W T Ex a)) (ha : PA X (e :: es) (tDA W T Ex as)) :
    PE X (.Call (.Attribute o x apos) (e :: es) [] pos) (tD W T Ex (.meth a m as)) := by
  have key : PE X (.Call (.Attribute o x apos) (e :: es) [] pos) (fun σ H Q => tD W T Ex a σ H fun v H1 => ∃ b dx C fs n f, v = .ref b ∧ H1 b = some (.ins C dx fs) ∧ W.cl n = some C ∧ T.cf.mt n m = some f ∧ fs = (W.cn n).zip (fs.map (·.2)) ∧ tDA W T Ex as σ H1 fun vs H2 => ∃ d, T.call f d ≠ .bad ∧ d.length = vs.length + 1 ∧ spD W (vs.length + 1) (T.call f) (v :: vs) H2 Q (Ex σ)) := by
    refine ⟨fun pins s σ H Q I h => ?_⟩
    refine meth_of (attr_base hb) hln (form_ok hs (by simp; omega)) (thn (ho.run pins s σ H _ I h) fun u s1 ⟨y, H1, I1, ry, b, dx, Cc, fs, n, f, ey, ea, hc, hmt, hfs, q⟩ => ?_)
    subst ey
    obtain rfl : u = Value.ref b := ry
    obtain ⟨fa, fd, ps, hno, hme, hbi, hlen, F⟩ := C.mth n m f x Cc hmt hx hc
    obtain ⟨cf, _, _, _⟩ := C.cls n Cc hc
    refine getmeth_ok I1 ea cf.c hme (by rw [hfs]; exact lookup_zip_none hno) ?_
    refine PySem.W.callWith_K (first := [.ref b]) (h₀ := X.base) I.ok.mod.kin hme.kp (thn (ha.run pos pins s1 σ H1 _ I1 q) fun us s2 ⟨vs, H2, I2, r, dd, hnb, e1, hsp⟩ => ⟨I2.kIn, ?_⟩) (star1 (hs e List.mem_cons_self)) (stars_none fun a h => hs a (List.mem_cons_of_mem _ h))
    refine run_fnS (E := Ex) (us := .ref b :: us) (vs := .ref b :: vs) F C.room hbi (passAt C.takes σ) I2 (.cons rfl r) ?_
    have e2 := hlen dd hnb
    rw [← e2, e1]
    exact hsp
  refine PE.imp C.K key fun σ H Q dj h => ?_
  obtain ⟨S, ρ, V, P⟩ := h dj
  simp only [evalE] at P
  refine tD_bind V P fun d v S1 H1 dj1 s1 V1 p P => ?_
  cases em : methO T m d with
  | none => rw [em] at P; exact P.elim
  | some f =>
    rw [em, withO_s] at P
    cases d <;> first | (cases em; done) | skip
    rename_i n ds
    obtain ⟨b, dx, Cc, us, rfl, hs', hc, hb', hl, r⟩ := p.obj_of
    refine ⟨b, dx, Cc, _, n, f, rfl, hb', hc, em, ?_, ?_⟩
    · rw [List.map_snd_zip (by omega)]
    · refine tDA_bind (f := fun l => T.call f (D.obj n ds :: l)) V1 P fun xs vs S2 H2 dj2 s2 V2 ps P => ?_
      exact ⟨D.obj n ds :: xs, P.notBad, by rw [List.length_cons, ps.length], rfl, fun _ => ⟨S2, D.obj n ds :: xs, V2.liv, .cons (p.keep s2.keep) ps, P.guard⟩⟩
end
/-! ### __init__ -/
def inmB (N : List Str) (sc : Scope) (j : Nat) (x : Str) : Bool := decide (N[j]? = some x) && visB sc x && !(x == ("__debug__" : Str)) && !(x == ("__classdict__" : Str))
def nmE (N : List Str) (sc : Scope) (j : Nat) : Expr → Bool
  | .Name x _ => inmB N sc j x
  | _ => false
def selfE (N : List Str) (sc : Scope) (f : Str) : Expr → Bool
  | .Attribute e g _ => nmE N sc 0 e && decide (g = f)
  | _ => false
def listE (sc : Scope) : Expr → Bool
  | .Name l _ => decide (l = ("list" : Str)) && glB sc l
  | _ => false
def valE (N : List Str) (sc : Scope) (j : Nat) : Bool → Expr → Bool
  | false, e => nmE N sc j e
  | true, .Call l [e] [] _ => listE sc l && nmE N sc j e
  | _, _ => false
def iniS (N : List Str) (sc : Scope) (j : Nat) (f : Str) (b : Bool) : Stmt → Bool
  | .Assign [t] v _ => selfE N sc f t && valE N sc j b v
  | _ => false
def chkI (N : List Str) (sc : Scope) : Nat → List (Str × Bool) → List Stmt → Bool
  | _, [], [] => true
  | j, (f, b) :: r, st :: rest => iniS N sc j f b st && chkI N sc (j + 1) r rest
  | _, _, _ => false
section
variable {X : Cx}
def tIni (K : PySem.W.Frag) (C : Addr) (j : Nat) (flds : List (Str × Bool)) : TS := fun Z σ H => ∃ x dx fs us, σ[0]? = some (some (.ref x)) ∧ us.length = flds.length ∧ (∀ (i : Nat) v, us[i]? = some v → σ[j + i]? = some (some v)) ∧ H x = some (.ins C dx fs) ∧ fs.length + flds.length < 1000 ∧ iP K x C dx flds us fs H (fun H' => Z.nx σ H')
theorem putF_len {f : Str} {v : V} : ∀ fs : List (Str × V), (putF f v fs).length ≤ fs.length + 1
  | [] => Nat.le_refl _
  | (g, u) :: fs => by
    rw [putF]
    split
    · simp
    · have := putF_len (f := f) (v := v) fs
      simp; omega
theorem vis_of {sc : Scope} {x : Str} (hs : X.env.scope = sc) (h : visB sc x = true) : Vis X.env.scope x := by
  unfold visB at h
  rw [← hs] at h
  split at h <;> first | exact .inl (by assumption) | exact .inr (.inl (by assumption)) | exact .inr (.inr (by assumption)) | cases h
theorem gl_of {sc : Scope} {x : Str} (hs : X.env.scope = sc) (h : glB sc x = true) : Gl X x ∧ (x == ("__debug__" : Str)) = false := by
  unfold glB at h
  rw [← hs] at h
  split at h
  · rename_i e
    exact ⟨e, by simpa using h⟩
  · cases h
def tI1 (K : PySem.W.Frag) (C : Addr) (j : Nat) (f : Str) : Bool → TS
  | false => fun Z σ H => ∃ x dx fs u, σ[0]? = some (some (.ref x)) ∧ σ[j]? = some (some u) ∧ H x = some (.ins C dx fs) ∧ fs.length < 1000 ∧ Z.nx σ (upd H x (.ins C dx (putF f u fs)))
  | true => fun Z σ H => ∃ x dx fs u, σ[0]? = some (some (.ref x)) ∧ σ[j]? = some (some u) ∧ H x = some (.ins C dx fs) ∧ fs.length < 1000 ∧ ∃ a us, u = .ref a ∧ (SqL K H a us ∨ SqT K H a us) ∧ ∀ p, H p = none → Z.nx σ (upd (upd H p (.lst us)) x (.ins C dx (putF f (.ref p) fs)))
theorem nm_pe {N : List Str} {sc : Scope} (hN : X.N = N) (hs : X.env.scope = sc) {j : Nat} {e : Expr} (h : nmE N sc j e = true) : PE X e (fun σ H Q => ∃ v, σ[j]? = some (some v) ∧ Q v H) := by
  cases e <;> first | (cases h; done) | skip
  simp only [nmE, inmB, Bool.and_eq_true, decide_eq_true_eq, Bool.not_eq_true'] at h
  exact pe_var (by rw [hN]; exact h.1.1.1) (vis_of hs h.1.1.2) h.1.2 h.2
theorem ini_st {N : List Str} {sc : Scope} {C : Addr} (hN : X.N = N) (hs : X.env.scope = sc) (hcl : Cls X.K C) (hli : X.mg "list" = none) {j : Nat} {f : Str} {b : Bool} {st : Stmt} (hno : NoAttr X.K C f) (h : iniS N sc j f b st = true) : PS X st (tI1 X.K C j f b) := by
  cases st <;> first | (cases h; done) | skip
  rename_i ts v pos
  cases ts with
  | nil => cases h
  | cons t ts =>
    cases ts with
    | cons _ _ => cases h
    | nil =>
      simp only [iniS, Bool.and_eq_true] at h
      obtain ⟨h1, h2⟩ := h
      cases t <;> first | (cases h1; done) | skip
      rename_i o g gp
      simp only [selfE, Bool.and_eq_true, decide_eq_true_eq] at h1
      obtain ⟨h1, rfl⟩ := h1
      have po := nm_pe hN hs h1
      cases b with
      | false =>
        have pv := nm_pe hN hs h2
        have hsw : swapsWith v (some (.Attribute o g gp)) pos.line X.env = pure false := by
          cases v <;> first | (cases h2; done) | rfl
        refine ⟨fun pins s σ H Z I q => (ps_fld po pv hsw).run pins s σ H Z I ?_⟩
        obtain ⟨x, dx, fs, u, q1, q2, q3, q4, q5⟩ := q
        exact ⟨u, q2, .ref x, q1, x, C, dx, fs, rfl, q3, hcl, hno, q4, q5⟩
      | true =>
        cases v <;> first | (cases h2; done) | skip
        rename_i l es ks cp
        cases es with
        | nil => cases h2
        | cons e es =>
          cases es with
          | cons _ _ => cases h2
          | nil =>
            cases ks with
            | cons _ _ => cases h2
            | nil =>
              simp only [valE, Bool.and_eq_true] at h2
              obtain ⟨h2, h3⟩ := h2
              cases l <;> first | (cases h2; done) | skip
              rename_i lx lp
              simp only [listE, Bool.and_eq_true, decide_eq_true_eq] at h2
              obtain ⟨rfl, h2⟩ := h2
              obtain ⟨g1, g2⟩ := gl_of (X := X) hs h2
              have pv := nm_pe hN hs h3
              have hst : noStar e = true := by cases e <;> first | rfl | cases h3
              have pl := pe_callTy (p := lp) (pos := cp) call_list_of g1 hli (by decide +kernel : bootBuiltins "list" = some (.type "list")) (pa_cons pv pa_nil (star1 hst)) (by decide +kernel) g2 (star1 hst) rfl
              refine ⟨fun pins s σ H Z I q => (ps_fld po pl rfl).run pins s σ H Z I ?_⟩
              obtain ⟨x, dx, fs, u, q1, q2, q3, q4, a, us, rfl, sq, q5⟩ := q
              refine ⟨.ref a, q2, a, us, rfl, sq, fun p hp => ?_⟩
              have ne : x ≠ p := fun z => by rw [z, hp] at q3; cases q3
              exact ⟨.ref x, q1, x, C, dx, fs, rfl, by rw [upd_ne ne]; exact q3, hcl, hno, q4, q5 p hp⟩
theorem ini_ok {N : List Str} {sc : Scope} {C : Addr} (hN : X.N = N) (hs : X.env.scope = sc) (hcl : Cls X.K C) (hli : X.mg "list" = none) : ∀ (flds : List (Str × Bool)) (j : Nat) (sts : List Stmt), (∀ f ∈ flds, NoAttr X.K C f.1) → chkI N sc j flds sts = true → PSs X sts (tIni X.K C j flds)
  | [], j, [], _, _ => ⟨fun pins s σ H Z I h => pss_nil.run pins s σ H Z I (by
      obtain ⟨x, dx, fs, us, h1, h2, h3, h4, h5, h6⟩ := h
      cases us with
      | nil => exact h6
      | cons _ _ => simp at h2)⟩
  | [], j, _ :: _, _, h => by simp [chkI] at h
  | (f, b) :: r, j, [], _, h => by simp [chkI] at h
  | (f, b) :: r, j, st :: rest, hno, h => by
    simp only [chkI, Bool.and_eq_true] at h
    obtain ⟨h1, h2⟩ := h
    have ih := ini_ok hN hs hcl hli r (j + 1) rest (fun g hg => hno g (List.mem_cons_of_mem _ hg)) h2
    refine ⟨fun pins s σ H Z I q => (pss_cons (ini_st hN hs hcl hli (hno _ List.mem_cons_self) h1) ih).run pins s σ H Z I ?_⟩
    obtain ⟨x, dx, fs, us, q1, q2, q3, q4, q5, q6⟩ := q
    cases us with
    | nil => simp at q2
    | cons u us =>
      have q3' : ∀ (i : Nat) v, us[i]? = some v → σ[j + 1 + i]? = some (some v) := fun i v hv => by
        have e : j + 1 + i = j + (i + 1) := by omega
        rw [e]
        exact q3 (i + 1) v (by simpa using hv)
      simp only [List.length_cons] at q2 q5
      have lp : ∀ v, (putF f v fs).length + r.length < 1000 := fun v => by
        have := putF_len (f := f) (v := v) fs
        omega
      cases b with
      | false =>
        rw [iP] at q6
        exact ⟨x, dx, fs, u, q1, q3 0 u rfl, q4, by omega, x, dx, _, us, q1, by omega, q3', upd_same, lp _, q6⟩
      | true =>
        rw [iP] at q6
        obtain ⟨a, ws, e, sq, k⟩ := q6
        exact ⟨x, dx, fs, u, q1, q3 0 u rfl, q4, by omega, a, ws, e, sq, fun p hp => ⟨x, dx, _, us, q1, by omega, q3', upd_same, lp _, k p hp⟩⟩
end
theorem start_get {N : List Str} {vs : List V} {i : Nat} {v : V} (h : vs[i]? = some v) : (L2.start N vs)[i]? = some (some v) := by
  unfold L2.start
  rw [List.getElem?_append_left (by rw [List.length_map]; exact (List.getElem?_eq_some_iff.mp h).1), List.getElem?_map, h]
  rfl
/-- __init__ keeps its promise -/
theorem init_fn {P : Program} {w : World} {K : PySem.W.Frag} {mg : Str → Option Value} {base : Heap} {x qual : Str} {st : Stmt} {f C : Addr} {fd : FuncData} {N ps : List Str} {flds : List (Str × Bool)} (F : Fun K x qual st f fd) (S : FnScope N ps (defScope st)) (hl : ps.length = flds.length + 1) (hNl : ps.length ≤ N.length)
    (hcl : Cls K C) (hli : mg "list" = none) (hno : ∀ f ∈ flds, NoAttr K C f.1) (hn : flds.length < 1000) (hc : chkI N (defScope st) 1 flds (defBody st) = true) : FnOk P w K mg base (L2.CX P w) 1 f fd ps (spI K C flds) := by
  refine F.okX (k := 0) S (fun vs H Q E h => ?_) (fun cdv A outer s H vs Q E hr h => ⟨tIni K C 1 flds, ?_, ?_⟩)
  · obtain ⟨x, dx, us, rfl, h1, _⟩ := h
    rw [List.length_cons, h1, hl]
  · exact ini_ok (X := cxOf (L2.CX P w) P w K mg base N qual (defScope st) f cdv A outer s H E) rfl rfl hcl hli flds 1 (defBody st) hno hc
  · obtain ⟨x, dx, us, rfl, h1, h2, h3⟩ := h
    refine ⟨x, dx, [], us, start_get (i := 0) rfl, h1, fun i v hv => start_get (by rw [Nat.add_comm]; simpa using hv), h2, by simpa using hn, h3⟩
end RF

end S_RFO
section S_RF9
set_option maxHeartbeats 8000000
/-! RF9: every checked expression keeps its reading. -/
namespace RF
open PySem PySem.Spec L2
section
variable {W : Wd} {T : Tab} {k : Nat} {Ex : L2.St → XK} {c : Ctx} {X : Cx}
theorem Cok.blk (C : Cok W T k Ex c X) (scope : Scope) (s : Shared) (H : Hp) (D : Addr) (cl : List (Str × Addr)) (fp : List Addr) : Cok W T k E00 (c.blk scope) (X.blk s H scope (compEnvC scope cl D X.env) fp) where
  K := C.K
  N := C.N
  sc := by
    show relS scope X.env.scope = relS scope c.sc
    rw [C.sc]
  nd := C.nd
  calm := C.calm
  room := C.room
  fnc := fun h => by cases h
  fn := C.fn
  fnf := C.fnf
  blt := C.blt
  glb := C.glb
  takes := takes0
  cls := C.cls
  mkc := C.mkc
  isc := C.isc
  mth := C.mth
  exn := C.exn
/-- what is shown of an expression's IR -/
structure Good (W : Wd) (T : Tab) (a : CE) : Prop where
  e : ∀ {k : Nat} {Ex : L2.St → XK} {c : Ctx} {X : Cx} (_ : Cok W T k Ex c X) (x : Expr), chkE a c x = true → PE X x (tD W T Ex a) ∧ PT X x (tDT W T Ex a) ∧ (a.fresh = true → PE X x (tF W T Ex a))
  l : ∀ {k : Nat} {Ex : L2.St → XK} {c : Ctx} {X : Cx} (_ : Cok W T k Ex c X) (xs : List Expr), chkA a c xs = true → PA X xs (tDA W T Ex a)
theorem noA {a : CE} (h1 : a ≠ .nil) (h2 : ∀ x y, a ≠ .cons x y) {c : Ctx} {xs : List Expr} : chkA a c xs = true → False := by
  intro h
  cases a <;> first | exact h1 rfl | exact h2 _ _ rfl | (cases xs <;> simp [chkA] at h)
theorem good_nil : Good W T .nil := ⟨fun C x h => by simp [chkE] at h, fun C xs h => by
  cases xs with
  | nil => exact sa_nil C
  | cons _ _ => simp [chkA] at h⟩
theorem good_cons {a as : CE} (ha : Good W T a) (hs : Good W T as) : Good W T (.cons a as) := ⟨fun C x h => by simp [chkE] at h, fun C xs h => by
  cases xs with
  | nil => simp [chkA] at h
  | cons e es =>
    simp only [chkA, Bool.and_eq_true] at h
    exact sa_cons C h.1.1 (ha.e C e h.1.2).1 (hs.l C es h.2)⟩
theorem good_var (i : Nat) : Good W T (.var i) := ⟨fun C x h => by
  cases x <;> simp only [chkE, Bool.false_eq_true, Bool.and_eq_true, decide_eq_true_eq, Bool.not_eq_true'] at h
  have p := sd_var (pos := by assumption) C h.1.1.1 h.1.1.2 h.1.2 h.2
  exact ⟨p, sd_test C p (fun _ => rfl), fun z => by cases z⟩, fun C xs h => (noA (by simp) (by simp) h).elim⟩
theorem good_c (d : D) : Good W T (.c d) := ⟨fun {k Ex c X} C x h => by
  have fin : PE X x (tD W T Ex (.c d)) → (∀ whole, isTrue x X.env whole = (do let v ← whole; standAt x.pos; holding [v] (truthy v))) → PE X x (tD W T Ex (.c d)) ∧ PT X x (tDT W T Ex (.c d)) ∧ ((CE.c d).fresh = true → PE X x (tF W T Ex (.c d))) := fun p q => ⟨p, sd_test C p q, fun z => by cases z⟩
  cases x with
  | Constant v j pos =>
    cases d with
    | int n =>
      cases v <;> simp only [chkE, decide_eq_true_eq, Bool.false_eq_true] at h
      subst h
      exact fin (sd_c C pe_int fun S H => .int _) fun _ => rfl
    | bl n =>
      cases v <;> simp only [chkE, decide_eq_true_eq, Bool.false_eq_true] at h
      subst h
      exact fin (sd_c C pe_bl fun S H => .bl _) fun _ => rfl
    | non =>
      cases v <;> simp only [chkE, decide_eq_true_eq, Bool.false_eq_true] at h
      exact fin (sd_c C pe_non fun S H => .non) fun _ => rfl
    | str n =>
      cases v <;> simp only [chkE, decide_eq_true_eq, Bool.false_eq_true] at h
      subst h
      exact fin (sd_c C pe_str fun S H => .str _) fun _ => rfl
    | _ => cases v <;> simp only [chkE, decide_eq_true_eq, Bool.false_eq_true] at h
  | _ => cases d <;> simp only [chkE, Bool.false_eq_true] at h, fun C xs h => (noA (by simp) (by simp) h).elim⟩
theorem good_glb (g : Nat) : Good W T (.glb g) := ⟨fun C x h => by
  cases x <;> simp only [chkE, Bool.false_eq_true, Bool.and_eq_true, decide_eq_true_eq] at h
  have p := sd_glb (pos := by assumption) C h.1 h.2
  exact ⟨p, sd_test C p (fun _ => rfl), fun z => by cases z⟩, fun C xs h => (noA (by simp) (by simp) h).elim⟩
theorem good_neg {a : CE} (ha : Good W T a) : Good W T (.neg a) := ⟨fun C x h => by
  cases x <;> first | (simp only [chkE, Bool.false_eq_true] at h; done) | skip
  rename_i op e pos
  cases op <;> simp only [chkE, Bool.false_eq_true] at h
  have p := sd_neg (pos := pos) C (ha.e C e h).1
  exact ⟨p, sd_test C p (fun _ => rfl), fun z => by cases z⟩, fun C xs h => (noA (by simp) (by simp) h).elim⟩
theorem good_nt {a : CE} (ha : Good W T a) : Good W T (.nt a) := ⟨fun C x h => by
  cases x <;> first | (simp only [chkE, Bool.false_eq_true] at h; done) | skip
  rename_i op e pos
  cases op <;> simp only [chkE, Bool.false_eq_true] at h
  exact ⟨sd_nt C (ha.e C e h).1, sd_ntT C (ha.e C e h).2.1, fun z => by cases z⟩, fun C xs h => (noA (by simp) (by simp) h).elim⟩
theorem good_bin {o : BOp} {a b : CE} (ha : Good W T a) (hb : Good W T b) : Good W T (.bin o a b) := ⟨fun C x h => by
  cases x <;> simp only [chkE, Bool.false_eq_true, Bool.and_eq_true] at h
  rename_i x op y pos
  have p := bin_all (pos := pos) C h.1.1 (ha.e C x h.1.2).1 (hb.e C y h.2).1
  refine ⟨p, sd_test C p (fun _ => rfl), fun z => ?_⟩
  cases o <;> first | (cases z; done) | skip
  exact binF_all C h.1.1 (ha.e C x h.1.2).1 (hb.e C y h.2).1, fun C xs h => (noA (by simp) (by simp) h).elim⟩
theorem good_cmp {o : COp} {a b : CE} (ha : Good W T a) (hb : Good W T b) : Good W T (.cmp o a b) := ⟨fun C x h => by
  cases x <;> first | (simp only [chkE, Bool.false_eq_true] at h; done) | skip
  rename_i x ops ys pos
  match ops, ys, h with
  | [op], [y], h =>
    simp only [chkE, Bool.and_eq_true] at h
    obtain ⟨r, h1, h2⟩ := cmp_rule C h.1.1.1
    exact ⟨sd_cmp C h1 h2 (ha.e C x h.1.2).1 (hb.e C y h.2).1 h.1.1.2, sd_cmpT C h1 h2 (ha.e C x h.1.2).1 (hb.e C y h.2).1 h.1.1.2, fun z => by cases z⟩
  | [], _, h => simp only [chkE, Bool.false_eq_true] at h
  | [_], [], h => simp only [chkE, Bool.false_eq_true] at h
  | [_], _ :: _ :: _, h => simp only [chkE, Bool.false_eq_true] at h
  | _ :: _ :: _, _, h => simp only [chkE, Bool.false_eq_true] at h, fun C xs h => (noA (by simp) (by simp) h).elim⟩
theorem good_cmp2 {o o' : COp} {a b d : CE} (ha : Good W T a) (hb : Good W T b) (hd : Good W T d) : Good W T (.cmp2 o o' a b d) := ⟨fun C x h => by
  cases x <;> first | (simp only [chkE, Bool.false_eq_true] at h; done) | skip
  rename_i x ops ys pos
  match ops, ys, h with
  | [op, op'], [y, z], h =>
    simp only [chkE, Bool.and_eq_true] at h
    obtain ⟨r, h1, h2⟩ := cmp_rule C h.1.1.1.1.1.1
    obtain ⟨r', h1', h2'⟩ := cmp_rule C h.1.1.1.1.1.2
    exact ⟨sd_cmp2 C h1 h2 h1' h2' (ha.e C x h.1.1.2).1 (hb.e C y h.1.2).1 (hd.e C z h.2).1 h.1.1.1.1.2 h.1.1.1.2, sd_cmp2T C h1 h2 h1' h2' (ha.e C x h.1.1.2).1 (hb.e C y h.1.2).1 (hd.e C z h.2).1 h.1.1.1.1.2 h.1.1.1.2, fun z => by cases z⟩
  | [], _, h => simp only [chkE, Bool.false_eq_true] at h
  | [_], _, h => simp only [chkE, Bool.false_eq_true] at h
  | [_, _], [], h => simp only [chkE, Bool.false_eq_true] at h
  | [_, _], [_], h => simp only [chkE, Bool.false_eq_true] at h
  | [_, _], _ :: _ :: _ :: _, h => simp only [chkE, Bool.false_eq_true] at h
  | _ :: _ :: _ :: _, _, h => simp only [chkE, Bool.false_eq_true] at h, fun C xs h => (noA (by simp) (by simp) h).elim⟩
theorem good_and {a b : CE} (ha : Good W T a) (hb : Good W T b) : Good W T (.and a b) := ⟨fun C x h => by
  cases x <;> first | (simp only [chkE, Bool.false_eq_true] at h; done) | skip
  rename_i op vs pos
  cases op
  · match vs, h with
    | [x, y], h =>
      simp only [chkE, Bool.and_eq_true] at h
      exact ⟨sd_and C (ha.e C x h.1).1 (pe_one (hb.e C y h.2).1), sd_andT C (ha.e C x h.1).2.1 (pw_and1 (hb.e C y h.2).2.1), fun z => by cases z⟩
    | x :: y :: z :: r, h =>
      simp only [chkE, Bool.and_eq_true] at h
      have q := hb.e C _ h.2
      exact ⟨sd_and C (ha.e C x h.1).1 q.1, sd_andT C (ha.e C x h.1).2.1 (pw_of (x := x) q.2.1), fun z => by cases z⟩
    | [], h => simp only [chkE, Bool.false_eq_true] at h
    | [_], h => simp only [chkE, Bool.false_eq_true] at h
  · simp only [chkE, Bool.false_eq_true] at h, fun C xs h => (noA (by simp) (by simp) h).elim⟩
theorem good_or {a b : CE} (ha : Good W T a) (hb : Good W T b) : Good W T (.or a b) := ⟨fun C x h => by
  cases x <;> first | (simp only [chkE, Bool.false_eq_true] at h; done) | skip
  rename_i op vs pos
  cases op
  · simp only [chkE, Bool.false_eq_true] at h
  · match vs, h with
    | [x, y], h =>
      simp only [chkE, Bool.and_eq_true] at h
      exact ⟨sd_or C (ha.e C x h.1).1 (pe_one (hb.e C y h.2).1), sd_orT C (ha.e C x h.1).2.1 (pw_or1 (hb.e C y h.2).2.1), fun z => by cases z⟩
    | x :: y :: z :: r, h =>
      simp only [chkE, Bool.and_eq_true] at h
      have q := hb.e C _ h.2
      exact ⟨sd_or C (ha.e C x h.1).1 q.1, sd_orT C (ha.e C x h.1).2.1 (pw_of (x := x) q.2.1), fun z => by cases z⟩
    | [], h => simp only [chkE, Bool.false_eq_true] at h
    | [_], h => simp only [chkE, Bool.false_eq_true] at h, fun C xs h => (noA (by simp) (by simp) h).elim⟩
theorem good_ife {t a b : CE} (ht : Good W T t) (ha : Good W T a) (hb : Good W T b) : Good W T (.ife t a b) := ⟨fun C x h => by
  cases x <;> simp only [chkE, Bool.false_eq_true, Bool.and_eq_true] at h
  exact ⟨sd_ife C (ht.e C _ h.1.1).2.1 (ha.e C _ h.1.2).1 (hb.e C _ h.2).1, sd_ifeT C (ht.e C _ h.1.1).2.1 (ha.e C _ h.1.2).2.1 (hb.e C _ h.2).2.1, fun z => by cases z⟩, fun C xs h => (noA (by simp) (by simp) h).elim⟩
theorem good_tup {as : CE} (ha : Good W T as) : Good W T (.tup as) := ⟨fun C x h => by
  cases x <;> simp only [chkE, Bool.false_eq_true] at h
  have p := sd_tup (n := by assumption) (pos := by assumption) C (ha.l C _ h)
  exact ⟨p, sd_test C p (fun _ => rfl), fun z => by cases z⟩, fun C xs h => (noA (by simp) (by simp) h).elim⟩
theorem good_lst {as : CE} (ha : Good W T as) : Good W T (.lst as) := ⟨fun C x h => by
  cases x <;> simp only [chkE, Bool.false_eq_true] at h
  have p := sf_lst (pos := by assumption) C (ha.l C _ h)
  exact ⟨weak C.K p, sd_test C (weak C.K p) (fun _ => rfl), fun _ => p⟩, fun C xs h => (noA (by simp) (by simp) h).elim⟩
theorem good_idx {a b : CE} (ha : Good W T a) (hb : Good W T b) : Good W T (.idx a b) := ⟨fun C x h => by
  cases x <;> simp only [chkE, Bool.false_eq_true, Bool.and_eq_true] at h
  have p := sd_idx (pos := by assumption) C h.1.1 (ha.e C _ h.1.2).1 (hb.e C _ h.2).1
  exact ⟨p, sd_test C p (fun _ => rfl), fun z => by cases z⟩, fun C xs h => (noA (by simp) (by simp) h).elim⟩
theorem part_ok {a : CE} (ha : Good W T a) (C : Cok W T k Ex c X) {l : Option Expr} (h : optB l a.isNil (fun e => chkE a c e) = true) : PO X l (tO W T Ex a) := by
  cases l with
  | none => cases a <;> first | exact so_none C.K | cases h
  | some e =>
    have h' : chkE a c e = true := h
    exact so_some C.K (fun z => by subst z; simp [chkE] at h') (ha.e C e h').1
theorem good_sl {a lo hi : CE} (ha : Good W T a) (hl : Good W T lo) (hh : Good W T hi) : Good W T (.sl a lo hi) := ⟨fun C x h => by
  cases x <;> first | (simp only [chkE, Bool.false_eq_true] at h; done) | skip
  rename_i x sl pos
  cases sl <;> first | (simp only [chkE, Bool.false_eq_true] at h; done) | skip
  rename_i l u st p2
  cases st <;> simp only [chkE, Bool.false_eq_true, Bool.and_eq_true] at h
  have p := sf_sl (p2 := p2) (pos := pos) C (ha.e C _ h.1.1).1 (part_ok hl C h.1.2) (part_ok hh C h.2)
  exact ⟨weak C.K p, sd_test C (weak C.K p) (fun _ => rfl), fun _ => p⟩, fun C xs h => (noA (by simp) (by simp) h).elim⟩
theorem good_call {f : Nat} {as : CE} (ha : Good W T as) : Good W T (.call f as) := ⟨fun C x h => by
  cases x <;> first | (simp only [chkE, Bool.false_eq_true] at h; done) | skip
  rename_i fn es ks pos
  cases fn <;> first | (simp only [chkE, Bool.false_eq_true] at h; done) | skip
  rename_i x p
  cases es <;> cases ks <;> simp only [chkE, Bool.false_eq_true, Bool.and_eq_true, decide_eq_true_eq] at h
  have q := sd_call (p := p) (pos := pos) C h.1.1 h.1.2 (chkA_star h.2) (ha.l C _ h.2)
  exact ⟨q, sd_test C q (fun _ => rfl), fun z => by cases z⟩, fun C xs h => (noA (by simp) (by simp) h).elim⟩
theorem good_callf {f : Nat} {as : CE} (ha : Good W T as) : Good W T (.callf f as) := ⟨fun C x h => by
  cases x <;> first | (simp only [chkE, Bool.false_eq_true] at h; done) | skip
  rename_i fn es ks pos
  cases fn <;> first | (simp only [chkE, Bool.false_eq_true] at h; done) | skip
  rename_i x p
  cases es <;> cases ks <;> simp only [chkE, Bool.false_eq_true, Bool.and_eq_true, decide_eq_true_eq] at h
  have q := sf_callf (p := p) (pos := pos) C h.1.1.1 h.1.1.2 h.1.2 (chkA_star h.2) (ha.l C _ h.2)
  have q2 := weak C.K q
  exact ⟨q2, sd_test C q2 (fun _ => rfl), fun _ => q⟩, fun C xs h => (noA (by simp) (by simp) h).elim⟩
theorem good_rep {as b : CE} (ha : Good W T as) (hb : Good W T b) : Good W T (.rep as b) := ⟨fun C x h => by
  cases x <;> first | (simp only [chkE, Bool.false_eq_true] at h; done) | skip
  rename_i x op y pos
  cases x <;> first | (simp only [chkE, Bool.false_eq_true] at h; done) | skip
  rename_i es p
  simp only [chkE, Bool.and_eq_true] at h
  cases op <;> first | (exact absurd h.1.1 (by decide)) | skip
  have q := sf_rep (p := p) (pos := pos) C (ha.l C _ h.1.2) (hb.e C y h.2).1
  have q2 := weak C.K q
  exact ⟨q2, sd_test C q2 (fun _ => rfl), fun _ => q⟩, fun C xs h => (noA (by simp) (by simp) h).elim⟩
theorem good_lrg {a : CE} (ha : Good W T a) : Good W T (.lrg a) := ⟨fun {k Ex c X} C x h => by
  match x, h with
  | .Call (.Name x p) [.Call (.Name y p2) [e] [] pos2] [] pos, h =>
    simp only [chkE, Bool.and_eq_true, decide_eq_true_eq] at h
    obtain ⟨⟨⟨⟨⟨h1, h2⟩, h3⟩, h4⟩, h5⟩, h6⟩ := h
    subst h1; subst h3
    have q := sf_lrg (p := p) (p2 := p2) (pos := pos) (pos2 := pos2) C h2 h4 h5 (ha.e C e h6).1
    have q2 := weak C.K q
    exact ⟨q2, sd_test C q2 (fun _ => rfl), fun _ => q⟩, fun C xs h => (noA (by simp) (by simp) h).elim⟩
theorem good_rev {a : CE} (ha : Good W T a) : Good W T (.rev a) := ⟨fun {k Ex c X} C x h => by
  match x, h with
  | .Subscript e (.Slice none none (some (.UnaryOp .USub (.Constant (.int n) j p1) p2)) p3) pos, h =>
    simp only [chkE, Bool.and_eq_true, decide_eq_true_eq] at h
    obtain ⟨h1, h2⟩ := h
    subst h1
    have q := sf_rev (j := j) (p1 := p1) (p2 := p2) (p3 := p3) (pos := pos) C (ha.e C e h2).1
    have q2 := weak C.K q
    exact ⟨q2, sd_test C q2 (fun _ => rfl), fun _ => q⟩, fun C xs h => (noA (by simp) (by simp) h).elim⟩
theorem good_bi {b : BI} {as : CE} (ha : Good W T as) : Good W T (.bi b as) := ⟨fun C x h => by
  cases x <;> first | (simp only [chkE, Bool.false_eq_true] at h; done) | skip
  rename_i fn es ks pos
  cases fn <;> first | (simp only [chkE, Bool.false_eq_true] at h; done) | skip
  rename_i x p
  cases es <;> cases ks <;> simp only [chkE, Bool.false_eq_true, Bool.and_eq_true, decide_eq_true_eq] at h
  have q := bi_all (p := p) (pos := pos) C h.1.1 h.1.2 (chkA_star h.2) (ha.l C _ h.2)
  exact ⟨weak C.K q, sd_test C (weak C.K q) (fun _ => rfl), fun _ => q⟩, fun C xs h => (noA (by simp) (by simp) h).elim⟩
theorem good_isi {a : CE} {t : Ty} (ha : Good W T a) : Good W T (.isi a t) := ⟨fun C x h => by
  cases x <;> first | (simp only [chkE, Bool.false_eq_true] at h; done) | skip
  rename_i fn es ks pos
  cases fn <;> first | (simp only [chkE, Bool.false_eq_true] at h; done) | skip
  rename_i x p
  match es, ks, h with
  | [], _, h => simp only [chkE, Bool.false_eq_true] at h
  | [_], _, h => simp only [chkE, Bool.false_eq_true] at h
  | _ :: _ :: _ :: _, _, h => simp only [chkE, Bool.false_eq_true] at h
  | [_, _], _ :: _, h => simp only [chkE, Bool.false_eq_true] at h
  | [e, y], [], h =>
    cases y <;> first | (simp only [chkE, Bool.false_eq_true] at h; done) | skip
    rename_i y p2
    simp only [chkE, Bool.false_eq_true, Bool.and_eq_true, decide_eq_true_eq] at h
    have q := sd_isi (p := p) (p2 := p2) (pos := pos) C h.1.1.1.1.1 h.1.1.1.2 h.1.1.1.1.2 h.1.1.2 h.1.2 (ha.e C e h.2).1
    exact ⟨q, sd_test C q (fun _ => rfl), fun z => by cases z⟩, fun C xs h => (noA (by simp) (by simp) h).elim⟩
/-- the iterable -/
theorem iter_ok {ik : IK} {it : CE} (hi : Good W T it) (C : Cok W T k Ex c X) {iter tg : Expr} (h : (bif ik.isSeq then chkE it c iter else optB (iterArgs c ik tg iter) false (fun es => chkA it c es)) = true) : PI X tg iter (tI W T Ex ik it) := by
  have arg : ∀ {j : IK}, j.isSeq = false → optB (iterArgs c j tg iter) false (fun es => chkA it c es) = true → ∃ es, iterArgs c j tg iter = some es ∧ chkA it c es = true := fun {j} _ h => by
    cases e : iterArgs c j tg iter with
    | none => rw [e] at h; cases h
    | some es => rw [e] at h; exact ⟨es, rfl, h⟩
  cases ik with
  | seq => exact si_seq C (hi.e C iter h).1
  | rng =>
    obtain ⟨es, h1, h2⟩ := arg (j := .rng) rfl h
    unfold iterArgs at h1
    split at h1
    · dsimp only at h1
      split at h1
      · rename_i hc
        simp only [Bool.and_eq_true, decide_eq_true_eq] at hc
        cases h1
        exact si_rng C hc.1.1 hc.1.2 hc.2 h2 (hi.l C _ h2)
      · cases h1
    · cases h1
  | enum =>
    obtain ⟨es, h1, h2⟩ := arg (j := .enum) rfl h
    unfold iterArgs at h1
    split at h1
    · dsimp only at h1
      split at h1
      · rename_i hc
        simp only [Bool.and_eq_true, decide_eq_true_eq] at hc
        cases h1
        obtain ⟨⟨⟨h3, h4⟩, h5⟩, h6⟩ := hc
        match es, h5, h2 with
        | [e], _, h2 =>
          cases tg <;> first | cases h6 | skip
          exact si_enum C h3 h4 (chkA_star h2 e (by simp)) (hi.l C _ h2)
      · cases h1
    · cases h1
  | zip =>
    obtain ⟨es, h1, h2⟩ := arg (j := .zip) rfl h
    unfold iterArgs at h1
    split at h1
    · dsimp only at h1
      split at h1
      · rename_i hc
        simp only [Bool.and_eq_true, decide_eq_true_eq] at hc
        cases h1
        obtain ⟨⟨⟨h3, h4⟩, h5⟩, h6⟩ := hc
        match es, h5, h2 with
        | [e, e2], _, h2 =>
          cases tg <;> first | cases h6 | skip
          exact si_zip C h3 h4 (chkA_star h2 e (by simp)) (chkA_star h2 e2 (by simp)) (hi.l C _ h2)
      · cases h1
    · cases h1
theorem ifs_ok {cd : CE} (hc : Good W T cd) (C : Cok W T k E00 c X) {ifs : List Expr} (h : ifsB ifs cd.isNil (fun i => chkE cd c i) = true) : PTs X ifs (tC0 W T cd) := by
  match ifs, h with
  | [], h => cases cd <;> first | exact pts_nil | cases h
  | [i], h =>
    have h' : chkE cd c i = true := h
    have q := pts_one (hc.e C i h').2.1
    cases cd <;> first | exact q | (simp [chkE] at h')
  | _ :: _ :: _, h => cases h
theorem good_comp {ik : IK} {g : Tg} {vs : List Nat} {it cd e : CE} (hi : Good W T it) (hc : Good W T cd) (he : Good W T e) : Good W T (.comp ik g vs it cd e) := ⟨fun C x h => by
  cases x <;> first | (simp only [chkE, Bool.false_eq_true] at h; done) | skip
  rename_i elt gs scope pos
  match gs, h with
  | [⟨tg, iter, ifs, as⟩], h =>
    simp only [chkE, Bool.and_eq_true, decide_eq_true_eq] at h
    obtain ⟨⟨⟨⟨⟨⟨⟨⟨h0, h1⟩, h2⟩, h3⟩, h4⟩, h5⟩, h6⟩, h7⟩, h8⟩ := h
    subst h0
    have p := sf_comp (pos := pos) C h1 h2 h3 h4 (iter_ok hi C h6) (fun s H D cl fp => sg_tg (C.blk scope s H D cl fp) h5) (fun s H D cl fp => ifs_ok hc (C.blk scope s H D cl fp) h7) (fun s H D cl fp => (he.e (C.blk scope s H D cl fp) elt h8).1)
    exact ⟨weak C.K p, sd_test C (weak C.K p) (fun _ => rfl), fun _ => p⟩
  | [], h => simp only [chkE, Bool.false_eq_true] at h
  | _ :: _ :: _, h => simp only [chkE, Bool.false_eq_true] at h, fun C xs h => (noA (by simp) (by simp) h).elim⟩
theorem good_fld {a : CE} {f : Nat} (ha : Good W T a) : Good W T (.fld a f) := ⟨fun C x h => by
  cases x <;> first | (simp only [chkE, Bool.false_eq_true] at h; done) | skip
  rename_i e x pos
  simp only [chkE, Bool.and_eq_true, decide_eq_true_eq] at h
  have q := sd_fld (pos := pos) C h.1.1 h.1.2 (ha.e C e h.2).1
  exact ⟨q, sd_test C q (fun _ => rfl), fun z => by cases z⟩, fun C xs h => (noA (by simp) (by simp) h).elim⟩
theorem good_mk {n : Nat} {as : CE} (ha : Good W T as) : Good W T (.mk n as) := ⟨fun C x h => by
  cases x <;> first | (simp only [chkE, Bool.false_eq_true] at h; done) | skip
  rename_i fn es ks pos
  cases fn <;> first | (simp only [chkE, Bool.false_eq_true] at h; done) | skip
  rename_i x p
  cases ks <;> simp only [chkE, Bool.false_eq_true, Bool.and_eq_true, decide_eq_true_eq] at h
  have q := sd_mk (p := p) (pos := pos) C h.1.1.1 h.1.1.2 h.1.2 h.2 (ha.l C _ h.2)
  exact ⟨q, sd_test C q (fun _ => rfl), fun z => by cases z⟩, fun C xs h => (noA (by simp) (by simp) h).elim⟩
theorem good_isC {a : CE} {n : Nat} (ha : Good W T a) : Good W T (.isC a n) := ⟨fun C x h => by
  cases x <;> first | (simp only [chkE, Bool.false_eq_true] at h; done) | skip
  rename_i fn es ks pos
  cases fn <;> first | (simp only [chkE, Bool.false_eq_true] at h; done) | skip
  rename_i x p
  match es, ks, h with
  | [], _, h => simp only [chkE, Bool.false_eq_true] at h
  | [_], _, h => simp only [chkE, Bool.false_eq_true] at h
  | _ :: _ :: _ :: _, _, h => simp only [chkE, Bool.false_eq_true] at h
  | [_, _], _ :: _, h => simp only [chkE, Bool.false_eq_true] at h
  | [e, y], [], h =>
    cases y <;> first | (simp only [chkE, Bool.false_eq_true] at h; done) | skip
    rename_i y p2
    simp only [chkE, Bool.false_eq_true, Bool.and_eq_true, decide_eq_true_eq] at h
    have q := sd_isC (p := p) (p2 := p2) (pos := pos) C h.1.1.1.1.1 h.1.1.1.2 h.1.1.1.1.2 h.1.1.2 h.1.2 (ha.e C e h.2).1
    exact ⟨q, sd_test C q (fun _ => rfl), fun z => by cases z⟩, fun C xs h => (noA (by simp) (by simp) h).elim⟩
theorem good_meth {a as : CE} {m : Nat} (ha : Good W T a) (hs : Good W T as) : Good W T (.meth a m as) := ⟨fun C x h => by
  cases x <;> first | (simp only [chkE, Bool.false_eq_true] at h; done) | skip
  rename_i fn es ks pos
  cases fn <;> first | (simp only [chkE, Bool.false_eq_true] at h; done) | skip
  rename_i o x p
  cases es <;> cases ks <;> simp only [chkE, Bool.false_eq_true, Bool.and_eq_true, decide_eq_true_eq] at h
  have q := sd_meth (apos := p) (pos := pos) C h.1.1.1.1.1 h.1.1.1.1.2 h.1.1.1.2 h.1.1.2 (chkA_star h.2) (ha.e C o h.1.2).1 (hs.l C _ h.2)
  exact ⟨q, sd_test C q (fun _ => rfl), fun z => by cases z⟩, fun C xs h => (noA (by simp) (by simp) h).elim⟩
theorem good (W : Wd) (T : Tab) : ∀ a : CE, Good W T a
  | .var i => good_var i
  | .c d => good_c d
  | .glb g => good_glb g
  | .neg a => good_neg (good W T a)
  | .nt a => good_nt (good W T a)
  | .bin _ a b => good_bin (good W T a) (good W T b)
  | .cmp _ a b => good_cmp (good W T a) (good W T b)
  | .cmp2 _ _ a b d => good_cmp2 (good W T a) (good W T b) (good W T d)
  | .and a b => good_and (good W T a) (good W T b)
  | .or a b => good_or (good W T a) (good W T b)
  | .ife t a b => good_ife (good W T t) (good W T a) (good W T b)
  | .nil => good_nil
  | .cons a as => good_cons (good W T a) (good W T as)
  | .tup as => good_tup (good W T as)
  | .lst as => good_lst (good W T as)
  | .idx a b => good_idx (good W T a) (good W T b)
  | .sl a lo hi => good_sl (good W T a) (good W T lo) (good W T hi)
  | .call _ as => good_call (good W T as)
  | .callf _ as => good_callf (good W T as)
  | .rep a b => good_rep (good W T a) (good W T b)
  | .lrg a => good_lrg (good W T a)
  | .rev a => good_rev (good W T a)
  | .bi _ as => good_bi (good W T as)
  | .isi a _ => good_isi (good W T a)
  | .comp _ _ _ it cd e => good_comp (good W T it) (good W T cd) (good W T e)
  | .fld a _ => good_fld (good W T a)
  | .mk _ as => good_mk (good W T as)
  | .isC a _ => good_isC (good W T a)
  | .meth a _ as => good_meth (good W T a) (good W T as)
end
end RF

end S_RF9
section S_RFA
set_option maxHeartbeats 4000000
/-! RFA: a def's state: slots that are fixed data, slots that are the frame's own lists. -/
namespace RF
open PySem PySem.Spec L2

/-! ### only what is read counts -/
structure Agree (e : CE) (ρ ρ' : Env) : Prop where
  len : ρ.length = ρ'.length
  at' : ∀ i, e.men i = true → slotD ρ i = slotD ρ' i
theorem slotD_set (ρ : Env) (i j : Nat) (s : Slot) : slotD (ρ.set i s) j = if i = j ∧ i < ρ.length then s.d else slotD ρ j := by
  unfold slotD
  by_cases hj : i = j
  · subst hj
    by_cases hi : i < ρ.length
    · rw [List.getElem?_set_self hi, if_pos ⟨rfl, hi⟩]
    · rw [if_neg (fun z => hi z.2), List.getElem?_eq_none (by simpa using hi), List.getElem?_eq_none (by omega)]
  · rw [List.getElem?_set_ne hj, if_neg (fun z => hj z.1)]
theorem Agree.set {e : CE} {ρ ρ' : Env} (h : Agree e ρ ρ') (i : Nat) (s : Slot) : Agree e (ρ.set i s) (ρ'.set i s) :=
  ⟨by rw [List.length_set, List.length_set, h.len], fun j hj => by rw [slotD_set, slotD_set, h.len, h.at' j hj]⟩
theorem Agree.wipe {e : CE} {ρ ρ' : Env} (h : Agree e ρ ρ') : ∀ vs, Agree e (wipeS ρ vs) (wipeS ρ' vs)
  | [] => h
  | v :: vs => by unfold wipeS; exact (Agree.wipe h vs).set v .no
theorem Agree.bindL {e : CE} : ∀ {l : List Nat} {ds : List D} {ρ ρ' : Env}, Agree e ρ ρ' → (∃ r r', bindL l ds ρ = .ok r ∧ bindL l ds ρ' = .ok r' ∧ Agree e r r') ∨ (bindL l ds ρ = .bad ∧ bindL l ds ρ' = .bad)
  | [], [], ρ, ρ', h => .inl ⟨ρ, ρ', rfl, rfl, h⟩
  | [], _ :: _, _, _, _ => .inr ⟨rfl, rfl⟩
  | _ :: _, [], _, _, _ => .inr ⟨rfl, rfl⟩
  | i :: is, d :: ds, ρ, ρ', h => by
    simp only [RF.bindL]
    exact Agree.bindL (h.set i (.val d))
theorem Agree.bindT {e : CE} {g : Tg} {d : D} {ρ ρ' : Env} (h : Agree e ρ ρ') : (∃ r r', bindT g d ρ = .ok r ∧ bindT g d ρ' = .ok r' ∧ Agree e r r') ∨ (bindT g d ρ = .bad ∧ bindT g d ρ' = .bad) := by
  cases g with
  | nm i => exact .inl ⟨_, _, rfl, rfl, h.set i _⟩
  | tp l =>
    cases d <;> first | exact .inr ⟨rfl, rfl⟩ | exact Agree.bindL h
theorem compF_ext {f g : D → R (Option D)} (h : ∀ x, f x = g x) : ∀ l, compF f l = compF g l := fun l => by
  have : f = g := funext h
  rw [this]
theorem Agree.left {a : CE} {e : CE} {ρ ρ' : Env} (h : Agree e ρ ρ') (hm : ∀ i, a.men i = true → e.men i = true) : Agree a ρ ρ' := ⟨h.len, fun i hi => h.at' i (hm i hi)⟩
theorem eval_agree {T : Tab} : ∀ (e : CE) {ρ ρ' : Env}, Agree e ρ ρ' → evalE T e ρ = evalE T e ρ' := by
  intro e
  induction e with
  | var i => intro ρ ρ' h; simp only [evalE]; rw [h.at' i (by simp [CE.men])]
  | c d => intro ρ ρ' h; rfl
  | glb g => intro ρ ρ' h; rfl
  | neg a ih => intro ρ ρ' h; simp only [evalE]; rw [ih (h.left fun i z => by simpa [CE.men] using z)]
  | nt a ih => intro ρ ρ' h; simp only [evalE]; rw [ih (h.left fun i z => by simpa [CE.men] using z)]
  | bin o a b iha ihb => intro ρ ρ' h; simp only [evalE]; rw [iha (h.left fun i z => by simp [CE.men, z]), ihb (h.left fun i z => by simp [CE.men, z])]
  | cmp o a b iha ihb => intro ρ ρ' h; simp only [evalE]; rw [iha (h.left fun i z => by simp [CE.men, z]), ihb (h.left fun i z => by simp [CE.men, z])]
  | cmp2 o o' a b c iha ihb ihc => intro ρ ρ' h; simp only [evalE]; rw [iha (h.left fun i z => by simp [CE.men, z]), ihb (h.left fun i z => by simp [CE.men, z]), ihc (h.left fun i z => by simp [CE.men, z])]
  | and a b iha ihb => intro ρ ρ' h; simp only [evalE]; rw [iha (h.left fun i z => by simp [CE.men, z]), ihb (h.left fun i z => by simp [CE.men, z])]
  | or a b iha ihb => intro ρ ρ' h; simp only [evalE]; rw [iha (h.left fun i z => by simp [CE.men, z]), ihb (h.left fun i z => by simp [CE.men, z])]
  | ife c a b ihc iha ihb => intro ρ ρ' h; simp only [evalE]; rw [iha (h.left fun i z => by simp [CE.men, z]), ihb (h.left fun i z => by simp [CE.men, z]), ihc (h.left fun i z => by simp [CE.men, z])]
  | nil => intro ρ ρ' h; rfl
  | cons a b iha ihb => intro ρ ρ' h; simp only [evalE]; rw [iha (h.left fun i z => by simp [CE.men, z]), ihb (h.left fun i z => by simp [CE.men, z])]
  | tup a ih => intro ρ ρ' h; simp only [evalE]; rw [ih (h.left fun i z => by simpa [CE.men] using z)]
  | lst a ih => intro ρ ρ' h; simp only [evalE]; rw [ih (h.left fun i z => by simpa [CE.men] using z)]
  | idx a b iha ihb => intro ρ ρ' h; simp only [evalE]; rw [iha (h.left fun i z => by simp [CE.men, z]), ihb (h.left fun i z => by simp [CE.men, z])]
  | sl a b c iha ihb ihc => intro ρ ρ' h; simp only [evalE]; rw [iha (h.left fun i z => by simp [CE.men, z]), ihb (h.left fun i z => by simp [CE.men, z]), ihc (h.left fun i z => by simp [CE.men, z])]
  | lrg a ih => intro ρ ρ' h; simp only [evalE]; rw [ih (h.left fun i z => by simpa [CE.men] using z)]
  | rev a ih => intro ρ ρ' h; simp only [evalE]; rw [ih (h.left fun i z => by simpa [CE.men] using z)]
  | callf f a ih => intro ρ ρ' h; simp only [evalE]; rw [ih (h.left fun i z => by simpa [CE.men] using z)]
  | rep a b iha ihb => intro ρ ρ' h; simp only [evalE]; rw [iha (h.left fun i z => by simp [CE.men, z]), ihb (h.left fun i z => by simp [CE.men, z])]
  | call f a ih => intro ρ ρ' h; simp only [evalE]; rw [ih (h.left fun i z => by simpa [CE.men] using z)]
  | bi f a ih => intro ρ ρ' h; simp only [evalE]; rw [ih (h.left fun i z => by simpa [CE.men] using z)]
  | isi a t ih => intro ρ ρ' h; simp only [evalE]; rw [ih (h.left fun i z => by simpa [CE.men] using z)]
  | comp ik g vs it cd e ih1 ih2 ih3 =>
    intro ρ ρ' h
    rw [eval_comp, eval_comp, ih1 (h.left fun i z => by simp [CE.men, z])]
    have ex : ∀ x, turnF T g vs cd e ρ x = turnF T g vs cd e ρ' x := fun x => by
      unfold turnF
      rcases (h.wipe vs).bindT (g := g) (d := x) with ⟨r, r', e1, e2, ag⟩ | ⟨e1, e2⟩
      · rw [e1, e2, R.bind_ok, R.bind_ok, ih3 (ag.left fun i z => by simp [CE.men, z]), ih2 (ag.left fun i z => by simp [CE.men, z])]
      · rw [e1, e2]
    congr 1
    funext l
    rw [compF_ext ex]
  | fld a f ih => intro ρ ρ' h; simp only [evalE]; rw [ih (h.left fun i z => by simpa [CE.men] using z)]
  | mk c a ih => intro ρ ρ' h; simp only [evalE]; rw [ih (h.left fun i z => by simpa [CE.men] using z)]
  | isC a t ih => intro ρ ρ' h; simp only [evalE]; rw [ih (h.left fun i z => by simpa [CE.men] using z)]
  | meth a m b iha ihb => intro ρ ρ' h; simp only [evalE]; rw [iha (h.left fun i z => by simp [CE.men, z]), ihb (h.left fun i z => by simp [CE.men, z])]

/-! ### strip, of many -/
section
variable {W : Wd} {S : Addr → Prop} {H : Hp}
mutual
theorem Dp.stripB {B : Addr → Prop} (dj : Disj W H) : ∀ {v : V} {d : D}, (∀ p, B p → ∃ ws l S', H p = some (.lst ws) ∧ Dps W S' H ws l ∧ D.occ l d = false) → Dp W S H v d → Dp W (fun a => S a ∧ ¬ B a) H v d
  | _, _, _, .non => .non
  | _, _, _, .bl b => .bl b
  | _, _, _, .int i => .int i
  | _, _, _, .str x => .str x
  | _, _, hB, .tup h r => .tup h (Dps.stripB dj (fun p b => let ⟨ws, l, S', h1, h2, h3⟩ := hB p b; ⟨ws, l, S', h1, h2, by simpa [D.occ] using h3⟩) r)
  | _, _, hB, .tupK h r => .tupK h (Dps.stripB dj (fun p b => let ⟨ws, l, S', h1, h2, h3⟩ := hB p b; ⟨ws, l, S', h1, h2, by simpa [D.occ] using h3⟩) r)
  | _, _, hB, .lst s h r => by
    refine .lst ⟨s, fun z => ?_⟩ h (Dps.stripB dj (fun p b => let ⟨ws, l, S', h1, h2, h3⟩ := hB p b; ⟨ws, l, S', h1, h2, by simp only [D.occ, Bool.or_eq_false_iff] at h3; exact h3.2⟩) r)
    obtain ⟨ws, l, S', h1, h2, h3⟩ := hB _ z
    have q := rd_inj h (.inl h1) (fun _ _ z => nomatch z) (fun _ _ z => nomatch z)
    cases q
    have q2 := Dps.inj dj r h2
    simp only [D.occ, Bool.or_eq_false_iff] at h3
    rw [q2, D.beqs_refl] at h3
    exact absurd h3.1 (by decide)
  | _, _, hB, .lstK h r => .lstK h (Dps.stripB dj (fun p b => let ⟨ws, l, S', h1, h2, h3⟩ := hB p b; ⟨ws, l, S', h1, h2, by simp only [D.occ, Bool.or_eq_false_iff] at h3; exact h3.2⟩) r)
  | _, _, hB, .obj s hc h ll r => .obj ⟨s, fun z => by
      obtain ⟨ws, l, S', h1, h2, h3⟩ := hB _ z
      rw [h1] at h; cases h⟩ hc h ll (Dps.stripB dj (fun p b => let ⟨ws, l, S', h1, h2, h3⟩ := hB p b; ⟨ws, l, S', h1, h2, by simpa [D.occ] using h3⟩) r)
theorem Dps.stripB {B : Addr → Prop} (dj : Disj W H) : ∀ {vs : List V} {ds : List D}, (∀ p, B p → ∃ ws l S', H p = some (.lst ws) ∧ Dps W S' H ws l ∧ D.occs l ds = false) → Dps W S H vs ds → Dps W (fun a => S a ∧ ¬ B a) H vs ds
  | _, _, _, .nil => .nil
  | _, _, hB, .cons h t => .cons (Dp.stripB dj (fun p b => let ⟨ws, l, S', h1, h2, h3⟩ := hB p b; ⟨ws, l, S', h1, h2, by simp only [D.occs, Bool.or_eq_false_iff] at h3; exact h3.1⟩) h)
      (Dps.stripB dj (fun p b => let ⟨ws, l, S', h1, h2, h3⟩ := hB p b; ⟨ws, l, S', h1, h2, by simp only [D.occs, Bool.or_eq_false_iff] at h3; exact h3.2⟩) t)
end
end

/-! ### the state -/
structure Rep (W : Wd) (S0 : Addr → Prop) (H0 : Hp) (S : Addr → Prop) (ρ : Env) (σ : L2.St) (H : Hp) : Prop where
  step : Step S0 H0 S H
  len : ρ.length = σ.length
  val : ∀ (i : Nat) d, ρ[i]? = some (.val d) → ∃ v, σ[i]? = some (some v) ∧ Dp W S H v d
  own : ∀ (i : Nat) l, ρ[i]? = some (.own l) → ∃ p vs, σ[i]? = some (some (.ref p)) ∧ H p = some (.lst vs) ∧ ¬ S p ∧ H0 p = none ∧ Dps W S H vs l
  inj : ∀ (i j : Nat) l m p, ρ[i]? = some (.own l) → ρ[j]? = some (.own m) → σ[i]? = some (some (.ref p)) → σ[j]? = some (some (.ref p)) → i = j
section
variable {W : Wd} {S0 S S1 : Addr → Prop} {H0 H H1 : Hp} {ρ : Env} {σ : L2.St}
/-- the frame's own lists that e reads, and that hold f -/
def OwnA (ρ : Env) (σ : L2.St) (e : CE) (f : List D → Bool) (a : Addr) : Prop := ∃ (i : Nat) (l : List D), ρ[i]? = some (.own l) ∧ σ[i]? = some (some (.ref a)) ∧ e.men i = true ∧ f l = true
def maskAt (e : CE) : Nat → Env → Env
  | _, [] => []
  | i, .own l :: r => (if e.men i = true then .own l else .no) :: maskAt e (i + 1) r
  | i, s :: r => s :: maskAt e (i + 1) r
theorem maskAt_len (e : CE) : ∀ (ρ : Env) (n : Nat), (maskAt e n ρ).length = ρ.length
  | [], _ => rfl
  | s :: r, n => by cases s <;> simp [maskAt, maskAt_len e r]
theorem maskAt_get (e : CE) : ∀ (ρ : Env) (n i : Nat), (maskAt e n ρ)[i]? = (ρ[i]?).map fun s => match s with | .own l => if e.men (n + i) = true then .own l else .no | s => s
  | [], _, _ => by simp [maskAt]
  | s :: r, n, 0 => by cases s <;> simp [maskAt]
  | s :: r, n, i + 1 => by
    have ih := maskAt_get e r (n + 1) i
    have e1 : n + 1 + i = n + (i + 1) := by omega
    rw [e1] at ih
    cases s <;> (simp only [maskAt, List.getElem?_cons_succ]; exact ih)
theorem mask_agree (e : CE) (ρ : Env) : Agree e ρ (maskAt e 0 ρ) := ⟨(maskAt_len e ρ 0).symm, fun i hi => by
  unfold slotD
  rw [maskAt_get]
  cases h : ρ[i]? with
  | none => rfl
  | some s =>
    cases s with
    | own l => simp [hi]
    | _ => rfl⟩
/-- what e may read -/
theorem Rep.view (r : Rep W S0 H0 S ρ σ H) (e : CE) : View W (fun a => S a ∨ OwnA ρ σ e (fun _ => true) a) (maskAt e 0 ρ) σ H := by
  refine ⟨fun a h => ?_, by rw [maskAt_len]; exact r.len, fun i d h => ?_⟩
  · rcases h with h | ⟨i, l, h1, h2, h3, _⟩
    · exact r.step.liv a h
    · obtain ⟨p, vs, q1, q2, _⟩ := r.own i l h1
      rw [h2] at q1
      cases q1
      rw [q2]; intro z; cases z
  · unfold slotD at h
    rw [maskAt_get] at h
    cases hs : ρ[i]? with
    | none => rw [hs] at h; cases h
    | some s =>
      rw [hs] at h
      cases s with
      | no => cases h
      | val d' =>
        cases h
        obtain ⟨v, q1, q2⟩ := r.val i d hs
        exact ⟨v, q1, q2.keep ⟨fun _ z => .inl z, fun _ _ _ z => z, fun _ _ z => z, fun _ _ _ z => z⟩⟩
      | own l =>
        simp only [Option.map_some, Nat.zero_add] at h
        by_cases hm : e.men i = true
        · rw [if_pos hm] at h
          cases h
          obtain ⟨p, vs, q1, q2, q3, q4, q5⟩ := r.own i l hs
          exact ⟨.ref p, q1, .lst (.inr ⟨i, l, hs, q1, hm, rfl⟩) (.inl q2) (q5.keep ⟨fun _ z => .inl z, fun _ _ _ z => z, fun _ _ z => z, fun _ _ _ z => z⟩)⟩
        · rw [if_neg hm] at h
          cases h
theorem frzAt_len (e : CE) (d : D) : ∀ (ρ : Env) (n : Nat), (frzAt e d n ρ).length = ρ.length
  | [], _ => rfl
  | s :: r, n => by cases s <;> simp [frzAt, frzAt_len e d r]
theorem frzAt_get (e : CE) (d : D) : ∀ (ρ : Env) (n i : Nat), (frzAt e d n ρ)[i]? = (ρ[i]?).map fun s => match s with | .own l => if (e.men (n + i) && D.occ l d) = true then .val (.lst l) else .own l | s => s
  | [], _, _ => by simp [frzAt]
  | s :: r, n, 0 => by cases s <;> simp [frzAt]
  | s :: r, n, i + 1 => by
    have ih := frzAt_get e d r (n + 1) i
    have e1 : n + 1 + i = n + (i + 1) := by omega
    rw [e1] at ih
    cases s <;> (simp only [frzAt, List.getElem?_cons_succ]; exact ih)
theorem frz_get (e : CE) (d : D) (ρ : Env) (i : Nat) : (frz ρ e d)[i]? = (ρ[i]?).map fun (s : Slot) => match s with | .own l => if (e.men i && D.occ l d) = true then Slot.val (.lst l) else Slot.own l | s => s := by
  have := frzAt_get e d ρ 0 i
  rw [Nat.zero_add] at this
  exact this
/-- behind e: S2 is what was found fixed, but for the frame's own lists that don't stand in d -/
theorem Rep.after (r : Rep W S0 H0 S ρ σ H) (e : CE) (d : D) (st : Step (fun a => S a ∨ OwnA ρ σ e (fun _ => true) a) H S1 H1) :
    Rep W S0 H0 (fun a => S1 a ∧ ¬ OwnA ρ σ e (fun l => !D.occ l d) a) (frz ρ e d) σ H1 := by
  have nS : ∀ a, S a → ¬ OwnA ρ σ e (fun l => !D.occ l d) a := fun a h z => by
    obtain ⟨i, l, h1, h2, _⟩ := z
    obtain ⟨p, vs, q1, q2, q3, _⟩ := r.own i l h1
    rw [h2] at q1; cases q1
    exact q3 h
  have kp : Keep S H (fun a => S1 a ∧ ¬ OwnA ρ σ e (fun l => !D.occ l d) a) H1 := ⟨fun a h => ⟨st.sub a (.inl h), nS a h⟩, fun a o _ z => st.same a o z, fun a _ z => st.same a _ z, fun a _ _ z => st.same a _ z⟩
  have getF := frz_get e d ρ
  refine ⟨⟨r.step.same.trans st.same, fun a h => ⟨st.sub a (.inl (r.step.sub a h)), nS a (r.step.sub a h)⟩, fun a h => ?_, fun a h => st.liv a h.1⟩, by rw [frz, frzAt_len]; exact r.len, fun i x h => ?_, fun i l h => ?_, fun i j l m p h h' q q' => ?_⟩
  · rcases st.new a h.1 with z | z
    · rcases z with z | ⟨i, l, h1, h2, _⟩
      · exact r.step.new a z
      · obtain ⟨p, vs, q1, q2, q3, q4, _⟩ := r.own i l h1
        rw [h2] at q1; cases q1
        exact .inr q4
    · exact .inr (r.step.same.free z)
  · rw [getF] at h
    cases hs : ρ[i]? with
    | none => rw [hs] at h; cases h
    | some s =>
      rw [hs] at h
      cases s with
      | no => cases h
      | val d' =>
        cases h
        obtain ⟨v, q1, q2⟩ := r.val i x hs
        exact ⟨v, q1, q2.keep kp⟩
      | own l =>
        simp only [Option.map_some] at h
        by_cases hm : (e.men i && D.occ l d) = true
        · rw [if_pos hm] at h
          cases h
          rw [Bool.and_eq_true] at hm
          obtain ⟨p, vs, q1, q2, q3, q4, q5⟩ := r.own i l hs
          refine ⟨.ref p, q1, .lst ⟨st.sub p (.inr ⟨i, l, hs, q1, hm.1, rfl⟩), fun z => ?_⟩ (.inl (st.same _ _ q2)) (q5.keep kp)⟩
          obtain ⟨j, m, h1, h2, h3, h4⟩ := z
          have ej := r.inj i j l m p hs h1 q1 h2
          subst ej
          rw [hs] at h1
          cases h1
          have h5 : (!D.occ l d) = true := h4
          rw [hm.2] at h5
          cases h5
        · rw [if_neg hm] at h
          cases h
  · rw [getF] at h
    cases hs : ρ[i]? with
    | none => rw [hs] at h; cases h
    | some s =>
      rw [hs] at h
      cases s with
      | no => cases h
      | val d' => cases h
      | own l' =>
        simp only [Option.map_some] at h
        by_cases hm : (e.men i && D.occ l' d) = true
        · rw [if_pos hm] at h
          cases h
        · rw [if_neg hm] at h
          cases h
          obtain ⟨p, vs, q1, q2, q3, q4, q5⟩ := r.own i l hs
          refine ⟨p, vs, q1, st.same _ _ q2, fun z => ?_, q4, q5.keep kp⟩
          by_cases hme : e.men i = true
          · refine z.2 ⟨i, l, hs, q1, hme, ?_⟩
            rw [hme, Bool.true_and] at hm
            simpa using hm
          · rcases st.new p z.1 with y | y
            · rcases y with y | ⟨j, m, h1, h2, h3, _⟩
              · exact q3 y
              · have ej := r.inj i j l m p hs h1 q1 h2
                subst ej
                exact hme h3
            · rw [q2] at y; cases y
  · have back : ∀ (i : Nat) l, (frz ρ e d)[i]? = some (.own l) → ρ[i]? = some (.own l) := fun i l h => by
      rw [getF] at h
      cases hs : ρ[i]? with
      | none => rw [hs] at h; cases h
      | some s =>
        rw [hs] at h
        cases s with
        | no => cases h
        | val d' => cases h
        | own l' =>
          simp only [Option.map_some] at h
          split at h
          · cases h
          · cases h; rfl
    exact r.inj i j l m p (back i l h) (back j m h') q q'
/-- .. and the value stands without them -/
theorem Rep.valOf (r : Rep W S0 H0 S ρ σ H) (e : CE) {d : D} {v : V} (st : Step (fun a => S a ∨ OwnA ρ σ e (fun _ => true) a) H S1 H1) (dj : Disj W H1) (p : Dp W S1 H1 v d) : Dp W (fun a => S1 a ∧ ¬ OwnA ρ σ e (fun l => !D.occ l d) a) H1 v d := by
  refine Dp.stripB dj (fun p b => ?_) p
  obtain ⟨i, l, h1, h2, h3, h4⟩ := b
  obtain ⟨q, vs, q1, q2, q3, q4, q5⟩ := r.own i l h1
  rw [h2] at q1
  cases q1
  exact ⟨vs, l, S1, st.same _ _ q2, q5.keep ⟨fun a z => st.sub a (.inl z), fun a o _ z => st.same a o z, fun a _ z => st.same a _ z, fun a _ _ z => st.same a _ z⟩, by simpa using h4⟩
theorem Rep.valsOf (r : Rep W S0 H0 S ρ σ H) (e : CE) {ds : List D} {vs : List V} (st : Step (fun a => S a ∨ OwnA ρ σ e (fun _ => true) a) H S1 H1) (dj : Disj W H1) (p : Dps W S1 H1 vs ds) : Dps W (fun a => S1 a ∧ ¬ OwnA ρ σ e (fun l => !D.occ l (.tup ds)) a) H1 vs ds := by
  refine Dps.stripB dj (fun p b => ?_) p
  obtain ⟨i, l, h1, h2, h3, h4⟩ := b
  obtain ⟨q, vs, q1, q2, q3, q4, q5⟩ := r.own i l h1
  rw [h2] at q1
  cases q1
  exact ⟨vs, l, S1, st.same _ _ q2, q5.keep ⟨fun a z => st.sub a (.inl z), fun a o _ z => st.same a o z, fun a _ z => st.same a _ z, fun a _ _ z => st.same a _ z⟩, by simpa [D.occ] using h4⟩
/-- a value into a slot -/
theorem Rep.setV (r : Rep W S0 H0 S ρ σ H) (i : Nat) {v : V} {d : D} (p : Dp W S H v d) : Rep W S0 H0 S (ρ.set i (.val d)) (σ.set i (some v)) H := by
  have ne : ∀ (j : Nat) l, (ρ.set i (Slot.val d))[j]? = some (.own l) → i ≠ j ∧ ρ[j]? = some (.own l) := fun j l h => by
    by_cases hj : i = j
    · subst hj
      by_cases hi : i < ρ.length
      · rw [List.getElem?_set_self hi] at h; cases h
      · rw [List.getElem?_eq_none (by simpa using hi)] at h; cases h
    · rw [List.getElem?_set_ne hj] at h; exact ⟨hj, h⟩
  refine ⟨r.step, by simp [r.len], fun j e h => ?_, fun j l h => ?_, fun j k l m q h h' e e' => ?_⟩
  · by_cases hj : i = j
    · subst hj
      by_cases hi : i < ρ.length
      · rw [List.getElem?_set_self hi] at h
        cases h
        exact ⟨v, List.getElem?_set_self (by rw [← r.len]; exact hi), p⟩
      · rw [List.getElem?_eq_none (by simpa using hi)] at h; cases h
    · rw [List.getElem?_set_ne hj] at h
      obtain ⟨u, h1, h2⟩ := r.val j e h
      exact ⟨u, by rw [List.getElem?_set_ne hj]; exact h1, h2⟩
  · obtain ⟨hj, h⟩ := ne j l h
    obtain ⟨q, vs, h1, h2⟩ := r.own j l h
    exact ⟨q, vs, by rw [List.getElem?_set_ne hj]; exact h1, h2⟩
  · obtain ⟨hj, h⟩ := ne j l h
    obtain ⟨hk, h'⟩ := ne k m h'
    rw [List.getElem?_set_ne hj] at e
    rw [List.getElem?_set_ne hk] at e'
    exact r.inj j k l m q h h' e e'
/-- a slot forgotten -/
theorem Rep.drop (r : Rep W S0 H0 S ρ σ H) (i : Nat) : Rep W S0 H0 S (ρ.set i .no) σ H := by
  have ne : ∀ (j : Nat) s, (ρ.set i Slot.no)[j]? = some s → s ≠ .no → ρ[j]? = some s := fun j s h hs => by
    by_cases hj : i = j
    · subst hj
      by_cases hi : i < ρ.length
      · rw [List.getElem?_set_self hi] at h; cases h; exact absurd rfl hs
      · rw [List.getElem?_eq_none (by simpa using hi)] at h; cases h
    · rw [List.getElem?_set_ne hj] at h; exact h
  exact ⟨r.step, by simp [r.len], fun j e h => r.val j e (ne j _ h (fun z => nomatch z)), fun j l h => r.own j l (ne j _ h (fun z => nomatch z)),
    fun j k l m q h h' e e' => r.inj j k l m q (ne j _ h (fun z => nomatch z)) (ne k _ h' (fun z => nomatch z)) e e'⟩
theorem Rep.wipe (r : Rep W S0 H0 S ρ σ H) : ∀ vs, Rep W S0 H0 S (wipeS ρ vs) σ H
  | [] => r
  | v :: vs => by unfold wipeS; exact (Rep.wipe r vs).drop v
/-- a new list into a slot -/
theorem Rep.setO (r : Rep W S0 H0 S ρ σ H) (i : Nat) {p : Addr} {vs : List V} {l : List D} (hp : H p = some (.lst vs)) (np : ¬ S p) (h0 : H0 p = none) (ps : Dps W S H vs l) (nw : ∀ (j : Nat) m, ρ[j]? = some (.own m) → σ[j]? ≠ some (some (.ref p))) :
    Rep W S0 H0 S (ρ.set i (.own l)) (σ.set i (some (.ref p))) H := by
  have ne : ∀ (j : Nat) m, (ρ.set i (Slot.own l))[j]? = some (.own m) → (i = j ∧ i < ρ.length ∧ m = l) ∨ (i ≠ j ∧ ρ[j]? = some (.own m)) := fun j m h => by
    by_cases hj : i = j
    · subst hj
      by_cases hi : i < ρ.length
      · rw [List.getElem?_set_self hi] at h; cases h; exact .inl ⟨rfl, hi, rfl⟩
      · rw [List.getElem?_eq_none (by simpa using hi)] at h; cases h
    · rw [List.getElem?_set_ne hj] at h; exact .inr ⟨hj, h⟩
  refine ⟨r.step, by simp [r.len], fun j e h => ?_, fun j m h => ?_, fun j k m n q h h' e e' => ?_⟩
  · by_cases hj : i = j
    · subst hj
      by_cases hi : i < ρ.length
      · rw [List.getElem?_set_self hi] at h; cases h
      · rw [List.getElem?_eq_none (by simpa using hi)] at h; cases h
    · rw [List.getElem?_set_ne hj] at h
      obtain ⟨u, h1, h2⟩ := r.val j e h
      exact ⟨u, by rw [List.getElem?_set_ne hj]; exact h1, h2⟩
  · rcases ne j m h with ⟨rfl, hi, rfl⟩ | ⟨hj, h⟩
    · exact ⟨p, vs, List.getElem?_set_self (by rw [← r.len]; exact hi), hp, np, h0, ps⟩
    · obtain ⟨q, us, h1, h2⟩ := r.own j m h
      exact ⟨q, us, by rw [List.getElem?_set_ne hj]; exact h1, h2⟩
  · rcases ne j m h with ⟨ej, hi, em⟩ | ⟨hj, hh⟩
    · rcases ne k n h' with ⟨ek, _, _⟩ | ⟨hk, hh'⟩
      · exact ej.symm.trans ek
      · rw [← ej, List.getElem?_set_self (by rw [← r.len]; exact hi)] at e
        cases e
        rw [List.getElem?_set_ne hk] at e'
        exact absurd e' (nw k n hh')
    · rcases ne k n h' with ⟨ek, hi, en⟩ | ⟨hk, hh'⟩
      · rw [← ek, List.getElem?_set_self (by rw [← r.len]; exact hi)] at e'
        cases e'
        rw [List.getElem?_set_ne hj] at e
        exact absurd e (nw j m hh)
      · rw [List.getElem?_set_ne hj] at e
        rw [List.getElem?_set_ne hk] at e'
        exact r.inj j k m n q hh hh' e e'
/-- an own list changed -/
theorem Rep.mut (r : Rep W S0 H0 S ρ σ H) {i : Nat} {l l' : List D} {p : Addr} {ws : List V} (hi : ρ[i]? = some (.own l)) (hσ : σ[i]? = some (some (.ref p))) (ps : Dps W S H ws l') :
    Rep W S0 H0 S (ρ.set i (.own l')) σ (upd H p (.lst ws)) := by
  obtain ⟨p', vs, q1, q2, q3, q4, q5⟩ := r.own i l hi
  rw [hσ] at q1
  cases q1
  have hil : i < ρ.length := (List.getElem?_eq_some_iff.mp hi).1
  have kp : Keep S H S (upd H p (.lst ws)) := Keep.mut q3 q2
  refine ⟨r.step.mut q4, by simp [r.len], fun j e h => ?_, fun j m h => ?_, fun j k m n q h h' e e' => ?_⟩
  · have hj : i ≠ j := fun z => by subst z; rw [List.getElem?_set_self hil] at h; cases h
    rw [List.getElem?_set_ne hj] at h
    obtain ⟨u, h1, h2⟩ := r.val j e h
    exact ⟨u, h1, h2.keep kp⟩
  · by_cases hj : i = j
    · subst hj
      rw [List.getElem?_set_self hil] at h
      cases h
      exact ⟨p, ws, hσ, upd_same, q3, q4, ps.keep kp⟩
    · rw [List.getElem?_set_ne hj] at h
      obtain ⟨q, us, h1, h2, h3, h4, h5⟩ := r.own j m h
      have hq : q ≠ p := fun z => by
        subst z
        exact hj (r.inj i j l m q hi h hσ h1)
      exact ⟨q, us, h1, by rw [upd_ne hq]; exact h2, h3, h4, h5.keep kp⟩
  · have old : ∀ (j : Nat) m, (ρ.set i (Slot.own l'))[j]? = some (.own m) → ∃ m', ρ[j]? = some (.own m') := fun j m h => by
      by_cases hj : i = j
      · subst hj; exact ⟨l, hi⟩
      · rw [List.getElem?_set_ne hj] at h; exact ⟨m, h⟩
    obtain ⟨m', h⟩ := old j m h
    obtain ⟨n', h'⟩ := old k n h'
    exact r.inj j k m' n' q h h' e e'
end
end RF

end S_RFA
section S_RFB
set_option maxHeartbeats 4000000
/-! RFB: statements. -/
namespace RF
open PySem PySem.Spec L2
theorem frz_non (ρ : Env) (e : CE) : frz ρ e .non = ρ := by
  apply List.ext_getElem?
  intro i
  rw [frz_get]
  cases ρ[i]? with
  | none => rfl
  | some s => cases s <;> simp [D.occ]
section
variable (W : Wd) (T : Tab) (fuel : Nat) (Ex : L2.St → XK)
/-- what is told: a value, or a new list -/
def Ret (S0 : Addr → Prop) (H0 : Hp) (fr : Bool) (d : D) (Q : VK) : Prop := match fr, d with
  | true, .lst l => ∀ p vs S' H', Disj W H' → Step S0 H0 S' H' → H0 p = none → ¬ S' p → H' p = some (.lst vs) → Dps W S' H' vs l → Q (.ref p) H'
  | true, _ => False
  | false, d => ∀ v S' H', Disj W H' → Step S0 H0 S' H' → Dp W S' H' v d → Q v H'
def PostS (S0 : Addr → Prop) (H0 : Hp) (S : Addr → Prop) (H : Hp) (r : R Out) (Z : Ends) : Prop := match r with
  | .ok (.nx ρ) => ∀ S' σ H', Disj W H' → Rep W S0 H0 S' ρ σ H' → Keep S H S' H' → Z.nx σ H'
  | .ok (.bk ρ) => ∀ S' σ H', Disj W H' → Rep W S0 H0 S' ρ σ H' → Keep S H S' H' → Z.bk σ H'
  | .ok (.rt fr d) => Ret W S0 H0 fr d Z.rt
  | .exc c => ∀ σ H, Same H0 H → Ex σ (.ref (W.xc c)) none H
  | .bad => False
def tS (s : CS) : TS := fun Z σ H => Disj W H → ∃ S0 H0 S ρ, Rep W S0 H0 S ρ σ H ∧ PostS W Ex S0 H0 S H (exec T fuel s ρ) Z
end
section
variable {W : Wd} {T : Tab} {fuel k : Nat} {Ex : L2.St → XK} {c : Ctx} {X : Cx}
/-- ends that ask Disj -/
def gd (W : Wd) (Z : Ends) : Ends := ⟨fun σ H => Disj W H → Z.nx σ H, fun v H => Disj W H → Z.rt v H, fun σ H => Disj W H → Z.bk σ H, fun σ H => Disj W H → Z.ct σ H⟩
theorem SP.ungd {pins : List (Addr × Obj)} {Z : Ends} {f : Flow} {s : Shared} (hK : X.K = W.K) (h : SP X pins (gd W Z) f s) : SP X pins Z f s := by
  cases f with
  | next => obtain ⟨σ, H, I, q⟩ := h; exact ⟨σ, H, I, q (RF.Inv.disj hK I)⟩
  | brk => obtain ⟨σ, H, I, q⟩ := h; exact ⟨σ, H, I, q (RF.Inv.disj hK I)⟩
  | cont => obtain ⟨σ, H, I, q⟩ := h; exact ⟨σ, H, I, q (RF.Inv.disj hK I)⟩
  | ret u => obtain ⟨v, σ, H, I, r, q⟩ := h; exact ⟨v, σ, H, I, r, q (RF.Inv.disj hK I)⟩
theorem PS.imp {st : Stmt} {t t' : TS} (hK : X.K = W.K) (h : PS X st t) (i : ∀ Z σ H, Disj W H → t' Z σ H → t (gd W Z) σ H) : PS X st t' := ⟨fun pins s σ H Z I q =>
  wpAny_mono (h.run pins s σ H _ I (i Z σ H (RF.Inv.disj hK I) q)) (fun _ _ z => SP.ungd hK z) fun _ _ z => z⟩
theorem PSs.imp {st : List Stmt} {t t' : TS} (hK : X.K = W.K) (h : PSs X st t) (i : ∀ Z σ H, Disj W H → t' Z σ H → t (gd W Z) σ H) : PSs X st t' := ⟨fun pins s σ H Z I q =>
  wpAny_mono (h.run pins s σ H _ I (i Z σ H (RF.Inv.disj hK I) q)) (fun _ _ z => SP.ungd hK z) fun _ _ z => z⟩
theorem Ret.gd {S0 : Addr → Prop} {H0 : Hp} {fr : Bool} {d : D} {Q : VK} (h : Ret W S0 H0 fr d Q) : Ret W S0 H0 fr d (fun v H => Disj W H → Q v H) := by
  cases fr with
  | false => exact fun v S H dj st p _ => h v S H dj st p
  | true =>
    cases d with
    | lst l => exact fun p vs S H dj st h1 h2 h3 h4 _ => h p vs S H dj st h1 h2 h3 h4
    | _ => exact h
theorem PostS.gd {S0 S : Addr → Prop} {H0 H : Hp} {r : R Out} {Z : Ends} (h : PostS W Ex S0 H0 S H r Z) : PostS W Ex S0 H0 S H r (gd W Z) := by
  cases r with
  | ok o =>
    cases o with
    | nx ρ => exact fun S σ H dj q kp _ => h S σ H dj q kp
    | bk ρ => exact fun S σ H dj q kp _ => h S σ H dj q kp
    | rt fr d => exact Ret.gd h
  | exc c => exact h
  | bad => exact h
theorem PostS.mono {S0 S S' : Addr → Prop} {H0 H H' : Hp} {r : R Out} {Z : Ends} (h : PostS W Ex S0 H0 S H r Z) (kp : Keep S H S' H') : PostS W Ex S0 H0 S' H' r Z := by
  cases r with
  | ok o =>
    cases o with
    | nx ρ => exact fun S2 σ H2 dj q k2 => h S2 σ H2 dj q (kp.trans k2)
    | bk ρ => exact fun S2 σ H2 dj q k2 => h S2 σ H2 dj q (kp.trans k2)
    | rt fr d => exact h
  | exc c => exact h
  | bad => exact h
theorem after_keep {S0 S S1 : Addr → Prop} {H0 H H1 : Hp} {ρ : Env} {σ : L2.St} (r : Rep W S0 H0 S ρ σ H) (e : CE) (d : D) (st : Step (fun a => S a ∨ OwnA ρ σ e (fun _ => true) a) H S1 H1) : Keep S H (fun a => S1 a ∧ ¬ OwnA ρ σ e (fun l => !D.occ l d) a) H1 :=
  ⟨fun a h => ⟨st.sub a (.inl h), fun z => by
    obtain ⟨i, l, h1, h2, _⟩ := z
    obtain ⟨p, vs, q1, q2, q3, _⟩ := r.own i l h1
    rw [h2] at q1; cases q1
    exact q3 h⟩, fun a o _ z => st.same a o z, fun a _ z => st.same a _ z, fun a _ _ z => st.same a _ z⟩
/-- an expression of a statement: read, then go on -/
theorem st_eval {e : CE} {f : D → R Out} {Z : Ends} {R' : VK} {S0 S : Addr → Prop} {H0 H : Hp} {ρ : Env} {σ : L2.St} (r : Rep W S0 H0 S ρ σ H) (P : PostS W Ex S0 H0 S H ((evalE T e ρ).bind f) Z)
    (q : ∀ d v S1 H1, Disj W H1 → Step (fun a => S a ∨ OwnA ρ σ e (fun _ => true) a) H S1 H1 → Dp W S1 H1 v d → PostS W Ex S0 H0 S H (f d) Z → R' v H1) : tD W T Ex e σ H R' := fun dj => by
  refine ⟨_, _, r.view e, ?_⟩
  rw [← eval_agree e (mask_agree e ρ)]
  cases h : evalE T e ρ with
  | ok d => rw [h] at P; exact fun v S1 H1 dj1 s1 p => q d v S1 H1 dj1 s1 p P
  | exc c => rw [h] at P; exact fun H' s' => P σ H' (r.step.same.trans s')
  | bad => rw [h] at P; exact P
theorem st_evalF {e : CE} {f : D → R Out} {Z : Ends} {R' : VK} {S0 S : Addr → Prop} {H0 H : Hp} {ρ : Env} {σ : L2.St} (r : Rep W S0 H0 S ρ σ H) (P : PostS W Ex S0 H0 S H ((evalE T e ρ).bind f) Z) (hf : ∀ d, (∀ l, d ≠ .lst l) → f d = .bad)
    (q : ∀ l p vs S1 H1, Disj W H1 → Step (fun a => S a ∨ OwnA ρ σ e (fun _ => true) a) H S1 H1 → H p = none → ¬ S1 p → H1 p = some (.lst vs) → Dps W S1 H1 vs l → PostS W Ex S0 H0 S H (f (.lst l)) Z → R' (.ref p) H1) : tF W T Ex e σ H R' := fun dj => by
  refine ⟨_, _, r.view e, ?_⟩
  rw [← eval_agree e (mask_agree e ρ)]
  cases h : evalE T e ρ with
  | ok d =>
    rw [h, R.bind_ok] at P
    cases d with
    | lst l => exact fun p vs S1 H1 dj1 s1 h1 h2 h3 h4 => q l p vs S1 H1 dj1 s1 h1 h2 h3 h4 P
    | _ => rw [hf _ (fun l z => by cases z)] at P; exact P.elim
  | exc c => rw [h] at P; exact fun H' s' => P σ H' (r.step.same.trans s')
  | bad => rw [h] at P; exact P
theorem st_test {e : CE} {f : Bool → R Out} {Z : Ends} {R' : Bool → Hp → Prop} {S0 S : Addr → Prop} {H0 H : Hp} {ρ : Env} {σ : L2.St} (r : Rep W S0 H0 S ρ σ H) (P : PostS W Ex S0 H0 S H ((evalE T e ρ).bind fun x => onT (truth x) (f true) (f false)) Z)
    (q : ∀ b S1 H1, Disj W H1 → Rep W S0 H0 S1 ρ σ H1 → PostS W Ex S0 H0 S1 H1 (f b) Z → R' b H1) : tDT W T Ex e σ H R' := fun dj => by
  refine ⟨_, _, r.view e, ?_⟩
  rw [← eval_agree e (mask_agree e ρ)]
  have aft : ∀ S1 H1, Step (fun a => S a ∨ OwnA ρ σ e (fun _ => true) a) H S1 H1 → Rep W S0 H0 (fun a => S1 a ∧ ¬ OwnA ρ σ e (fun l => !D.occ l .non) a) ρ σ H1 := fun S1 H1 st => by
    have z := r.after e .non st
    rw [frz_non] at z
    exact z
  cases h : evalE T e ρ with
  | ok d =>
    rw [h, R.bind_ok] at P
    simp only [PostT]
    cases t : truth d with
    | none => rw [t] at P; exact P.elim
    | some b =>
      rw [t] at P
      cases b with
      | true => exact fun S1 H1 dj1 s1 => q true _ H1 dj1 (aft S1 H1 s1) (P.mono (after_keep r e .non s1))
      | false => exact fun S1 H1 dj1 s1 => q false _ H1 dj1 (aft S1 H1 s1) (P.mono (after_keep r e .non s1))
  | exc c => rw [h] at P; exact fun H' s' => P σ H' (r.step.same.trans s')
  | bad => rw [h] at P; exact P
/-! ### rules -/
theorem ss_nil (C : Cok W T k Ex c X) : PSs X [] (tS W T fuel Ex .nil) := by
  refine PSs.imp C.K pss_nil fun Z σ H dj h => ?_
  obtain ⟨S0, H0, S, ρ, r, P⟩ := h dj
  exact fun dj' => P S σ H dj' r Keep.refl
/-- one statement, then the rest -/
theorem ss_seq (hK : X.K = W.K) {st : Stmt} {rest : List Stmt} {s k' : CS} {t : TS} (h1 : PS X st t) (h2 : PSs X rest (tS W T fuel Ex k')) (i : ∀ Z σ H, Disj W H → tS W T fuel Ex s Z σ H → t { gd W Z with nx := tS W T fuel Ex k' (gd W Z) } σ H) : PSs X (st :: rest) (tS W T fuel Ex s) :=
  PSs.imp hK (pss_cons h1 h2) fun Z σ H dj h => i Z σ H dj h
/-- go on at a state -/
theorem st_go {Z : Ends} {S0 S : Addr → Prop} {H0 H : Hp} {ρ : Env} {σ : L2.St} {s : CS} (r : Rep W S0 H0 S ρ σ H) (P : PostS W Ex S0 H0 S H (exec T fuel s ρ) Z) : tS W T fuel Ex s (gd W Z) σ H := fun _ => ⟨S0, H0, S, ρ, r, P.gd⟩
theorem ss_set (C : Cok W T k Ex c X) {i : Nat} {e : CE} {k' : CS} {x : Str} {px pos : Pos} {v : Expr} {rest : List Stmt} (h1 : PS X (.Assign [.Name x px] v pos) (tAsg (tD W T Ex e) (gName i))) (h2 : PSs X rest (tS W T fuel Ex k')) :
    PSs X (.Assign [.Name x px] v pos :: rest) (tS W T fuel Ex (.set i e k')) := by
  refine ss_seq C.K h1 h2 fun Z σ H dj h => ?_
  obtain ⟨S0, H0, S, ρ, r, P⟩ := h dj
  simp only [exec] at P
  refine st_eval r P fun d v S1 H1 dj1 s1 p P => ?_
  exact st_go ((r.after e d s1).setV i (r.valOf e s1 dj1 p)) (P.mono (after_keep r e d s1))
theorem own_new {S0 S S1 : Addr → Prop} {H0 H H1 : Hp} {ρ : Env} {σ : L2.St} {e : CE} {d : D} {p : Addr} (r : Rep W S0 H0 S ρ σ H) (hp : H p = none) : ∀ (j : Nat) m, (frz ρ e d)[j]? = some (.own m) → σ[j]? ≠ some (some (.ref p)) := fun j m h z => by
  rw [frz_get] at h
  cases hs : ρ[j]? with
  | none => rw [hs] at h; cases h
  | some s =>
    rw [hs] at h
    cases s with
    | no => cases h
    | val d' => cases h
    | own l' =>
      obtain ⟨q, vs, q1, q2, _⟩ := r.own j l' hs
      rw [z] at q1
      cases q1
      rw [hp] at q2
      cases q2
theorem put_true {e : CE} {l : List D} {f : Slot × D → R Out} (h : e.fresh = true) : (put true e (.lst l)).bind f = f (.own l, .tup l) := by
  simp only [put, if_true, h]
  rfl
theorem put_bad {e : CE} {d : D} {f : Slot × D → R Out} (h : ∀ l, d ≠ .lst l) : (put true e d).bind f = .bad := by
  cases d <;> first | exact absurd rfl (h _) | rfl
theorem ss_own (C : Cok W T k Ex c X) {i : Nat} {e : CE} {k' : CS} {x : Str} {px pos : Pos} {v : Expr} {rest : List Stmt} (hf : e.fresh = true) (h1 : PS X (.Assign [.Name x px] v pos) (tAsg (tF W T Ex e) (gName i))) (h2 : PSs X rest (tS W T fuel Ex k')) :
    PSs X (.Assign [.Name x px] v pos :: rest) (tS W T fuel Ex (.own i e k')) := by
  refine ss_seq C.K h1 h2 fun Z σ H dj h => ?_
  obtain ⟨S0, H0, S, ρ, r, P⟩ := h dj
  simp only [exec] at P
  refine st_evalF r P (fun d hd => put_bad hd) fun l p vs S1 H1 dj1 s1 hp np hp1 ps P => ?_
  rw [put_true hf] at P
  exact st_go ((r.after e (.tup l) s1).setO i hp1 (fun z => np z.1) (r.step.same.free hp) (r.valsOf e s1 dj1 ps) (own_new (S1 := S1) (H1 := H1) r hp)) (P.mono (after_keep r e (.tup l) s1))
theorem ss_ex (C : Cok W T k Ex c X) {e : CE} {k' : CS} {v : Expr} {pos : Pos} {rest : List Stmt} (h1 : PE X v (tD W T Ex e)) (hs : swapsWith v none pos.line X.env = pure false) (h2 : PSs X rest (tS W T fuel Ex k')) : PSs X (.Expr v pos :: rest) (tS W T fuel Ex (.ex e k')) := by
  refine ss_seq C.K (ps_expr h1 hs) h2 fun Z σ H dj h => ?_
  obtain ⟨S0, H0, S, ρ, r, P⟩ := h dj
  simp only [exec] at P
  refine st_eval r P fun d v S1 H1 dj1 s1 p P => ?_
  have z := r.after e .non s1
  rw [frz_non] at z
  exact st_go z (P.mono (after_keep r e .non s1))
theorem ss_ret (C : Cok W T k Ex c X) {e : CE} {v : Expr} {pos : Pos} {rest : List Stmt} (h1 : PE X v (tD W T Ex e)) : PSs X (.Return (some v) pos :: rest) (tS W T fuel Ex (.ret e)) := by
  refine PSs.imp C.K (pss_cons (ps_ret h1) pss_never) fun Z σ H dj h => ?_
  obtain ⟨S0, H0, S, ρ, r, P⟩ := h dj
  simp only [exec] at P
  refine st_eval r P fun d v S1 H1 dj1 s1 p P => ?_
  exact fun dj' => P v _ H1 dj' (r.after e d s1).step (r.valOf e s1 dj1 p)
theorem ss_reto (C : Cok W T k Ex c X) {i : Nat} {x : Str} {px pos : Pos} {rest : List Stmt} (hN : c.N[i]? = some x) (hv : visB c.sc x = true) (hd : (x == ("__debug__" : Str)) = false) (hcd : (x == ("__classdict__" : Str)) = false) : PSs X (.Return (some (.Name x px)) pos :: rest) (tS W T fuel Ex (.reto i)) := by
  refine PSs.imp C.K (pss_cons (ps_ret (pe_var (by rw [C.N]; exact hN) (look_vis C hv) hd hcd)) pss_never) fun Z σ H dj h => ?_
  obtain ⟨S0, H0, S, ρ, r, P⟩ := h dj
  simp only [exec, ownAt] at P
  cases e : ρ[i]? with
  | none => rw [e] at P; exact P.elim
  | some s =>
    rw [e] at P
    cases s with
    | no => exact P.elim
    | val d => exact P.elim
    | own l =>
      obtain ⟨p, vs, h1, h2, h3, h4, h5⟩ := r.own i l e
      exact ⟨.ref p, h1, fun dj' => P p vs S H dj' r.step h4 h3 h2 h5⟩
theorem ss_retf (C : Cok W T k Ex c X) {e : CE} {v : Expr} {pos : Pos} {rest : List Stmt} (h1 : PE X v (tF W T Ex e)) : PSs X (.Return (some v) pos :: rest) (tS W T fuel Ex (.retf e)) := by
  refine PSs.imp C.K (pss_cons (ps_ret h1) pss_never) fun Z σ H dj h => ?_
  obtain ⟨S0, H0, S, ρ, r, P⟩ := h dj
  simp only [exec] at P
  refine st_evalF r P (fun d hd => asL_bad hd) fun l p vs S1 H1 dj1 s1 hp np hp1 ps P => ?_
  rw [asL_l] at P
  split at P
  · exact fun dj' => P p vs _ H1 dj' (r.after e (.tup l) s1).step (r.step.same.free hp) (fun z => np z.1) hp1 (r.valsOf e s1 dj1 ps)
  · exact P.elim
theorem ss_pas (C : Cok W T k Ex c X) {k' : CS} {pos : Pos} {rest : List Stmt} (h2 : PSs X rest (tS W T fuel Ex k')) : PSs X (.Pass pos :: rest) (tS W T fuel Ex (.pas k')) := by
  refine ss_seq C.K ps_pass h2 fun Z σ H dj h => ?_
  obtain ⟨S0, H0, S, ρ, r, P⟩ := h dj
  exact st_go r P
theorem ss_wip (C : Cok W T k Ex c X) {vs : List Nat} {k' : CS} {st : List Stmt} (h2 : PSs X st (tS W T fuel Ex k')) : PSs X st (tS W T fuel Ex (.wip vs k')) := by
  refine PSs.imp C.K h2 fun Z σ H dj h => ?_
  obtain ⟨S0, H0, S, ρ, r, P⟩ := h dj
  exact st_go (r.wipe vs) P
theorem ss_brk (C : Cok W T k Ex c X) {pos : Pos} {rest : List Stmt} : PSs X (.Break pos :: rest) (tS W T fuel Ex .brk) := by
  refine PSs.imp C.K (pss_cons ps_break pss_never) fun Z σ H dj h => ?_
  obtain ⟨S0, H0, S, ρ, r, P⟩ := h dj
  exact fun dj' => P S σ H dj' r Keep.refl
theorem ss_ite (C : Cok W T k Ex c X) {e : CE} {a b k' : CS} {t : Expr} {sa sb rest : List Stmt} {pos : Pos} (ht : PT X t (tDT W T Ex e)) (ha : PSs X sa (tS W T fuel Ex a)) (hb : PSs X sb (tS W T fuel Ex b)) (h2 : PSs X rest (tS W T fuel Ex k')) :
    PSs X (.If t sa sb pos :: rest) (tS W T fuel Ex (.ite e a b k')) := by
  refine ss_seq C.K (ps_if ht ha hb) h2 fun Z σ H dj h => ?_
  obtain ⟨S0, H0, S, ρ, r, P⟩ := h dj
  simp only [exec] at P
  have P' : PostS W Ex S0 H0 S H ((evalE T e ρ).bind fun x => onT (truth x) ((exec T fuel a ρ).bind fun o => match o with
        | .nx ρ1 => exec T fuel k' ρ1
        | .bk ρ1 => .ok (.bk ρ1)
        | .rt fr d => .ok (.rt fr d)) ((exec T fuel b ρ).bind fun o => match o with
        | .nx ρ1 => exec T fuel k' ρ1
        | .bk ρ1 => .ok (.bk ρ1)
        | .rt fr d => .ok (.rt fr d))) Z := by
    cases h : evalE T e ρ with
    | ok d =>
      rw [h] at P
      simp only [R.bind_ok] at P ⊢
      cases t : truth d with
      | none => rw [t] at P; exact P
      | some z => cases z <;> (rw [t] at P; exact P)
    | exc c => rw [h] at P; exact P
    | bad => rw [h] at P; exact P
  have go : ∀ {s : CS} {S1 : Addr → Prop} {H1 : Hp}, Rep W S0 H0 S1 ρ σ H1 → PostS W Ex S0 H0 S1 H1 ((exec T fuel s ρ).bind fun o => match o with
        | .nx ρ1 => exec T fuel k' ρ1
        | .bk ρ1 => .ok (.bk ρ1)
        | .rt fr d => .ok (.rt fr d)) Z → tS W T fuel Ex s { gd W Z with nx := tS W T fuel Ex k' (gd W Z) } σ H1 := fun {s S1 H1} r1 P1 _ => by
    refine ⟨S0, H0, S1, ρ, r1, ?_⟩
    cases h : exec T fuel s ρ with
    | ok o =>
      rw [h, R.bind_ok] at P1
      cases o with
      | nx ρ1 => exact fun S2 σ2 H2 dj2 r2 k2 => st_go r2 (P1.mono k2)
      | bk ρ1 => exact fun S2 σ2 H2 dj2 r2 k2 _ => P1 S2 σ2 H2 dj2 r2 k2
      | rt fr d => exact Ret.gd P1
    | exc c => rw [h] at P1; exact P1
    | bad => rw [h] at P1; exact P1
  refine st_test (f := fun b' => match b' with
    | true => (exec T fuel a ρ).bind fun o => match o with
        | .nx ρ1 => exec T fuel k' ρ1
        | .bk ρ1 => .ok (.bk ρ1)
        | .rt fr d => .ok (.rt fr d)
    | false => (exec T fuel b ρ).bind fun o => match o with
        | .nx ρ1 => exec T fuel k' ρ1
        | .bk ρ1 => .ok (.bk ρ1)
        | .rt fr d => .ok (.rt fr d)) r P' fun b' S1 H1 dj1 r1 P1 => ?_
  cases b' with
  | true => exact iteT (go r1 P1)
  | false => exact iteF (go r1 P1)
end
end RF

end S_RFB
section S_RFC
set_option maxHeartbeats 4000000
/-! RFC: assignments of several, append, loops, raise. -/
namespace RF
open PySem PySem.Spec L2

/-! ### what swappedStores tells -/
theorem any_none {vs : List Expr} {f : Expr → Bool} (hf : ∀ e, noStar e = true → f e = false) (h : ∀ e ∈ vs, noStar e = true) : vs.any f = false := by
  rw [List.any_eq_false]
  intro x hx
  rw [hf x (h x hx)]
  decide
theorem sw2_some {x y : Str} {px py pt p2 : Pos} {a b : Expr} {kt k2 : Nat} {env : PySem.Env} (hk : env.scope.kind = .function) (hx : env.scope.names.lookup x = some .local) (hy : env.scope.names.lookup y = some .local) (hl : py.line = px.line) (hne : x ≠ y)
    (hs : noStar a = true ∧ noStar b = true) (hf : [a, b].all (foldedForSure 8) = false) (hc : [a, b].all (constantsAlone 8) = false) :
    swappedStores [.Tuple [.Name x px, .Name y py] kt pt] (.Tuple [a, b] k2 p2) env = pure (some [x, y]) := by
  have kx : env.kindOf x = some .local := hx
  have ky : env.kindOf y = some .local := hy
  have hb : env.blockKind = .function := by unfold Env.blockKind; rw [hk]; rfl
  have hst : ∀ e ∈ [a, b], noStar e = true := by simp [hs]
  have hd : [x, y].eraseDups = [x, y] := by
    simp [List.eraseDups_cons, Ne.symm hne]
  unfold swappedStores
  dsimp only
  rw [if_neg (by rw [hb]; simp)]
  rw [if_neg]
  rotate_left
  · rw [any_none (fun e he => by cases e <;> first | rfl | simp [noStar] at he) hst]; decide
  simp only [List.head?_cons, Option.map_some, Option.getD_some, Expr.pos, List.filterMap_cons, kx, ky, hl, beq_self_eq_true, Bool.and_self, if_true, List.filterMap_nil]
  rw [if_neg (by rw [hd]; simp), if_neg (by rw [hf]; decide), if_neg (by rw [hc]; decide)]
theorem sw3_some {x y z : Str} {px py pz pt p2 : Pos} {a b d : Expr} {kt k2 : Nat} {env : PySem.Env} (hk : env.scope.kind = .function) (hx : env.scope.names.lookup x = some .local) (hy : env.scope.names.lookup y = some .local) (hz : env.scope.names.lookup z = some .local) (hl : py.line = px.line) (hl2 : pz.line = px.line) (hne : x ≠ y) (hne2 : x ≠ z) (hne3 : y ≠ z)
    (hs : noStar a = true ∧ noStar b = true ∧ noStar d = true) (hf : [a, b, d].all (foldedForSure 8) = false) (hc : [a, b, d].all (constantsAlone 8) = false) :
    swappedStores [.Tuple [.Name x px, .Name y py, .Name z pz] kt pt] (.Tuple [a, b, d] k2 p2) env = pure (some [x, y, z]) := by
  have kx : env.kindOf x = some .local := hx
  have ky : env.kindOf y = some .local := hy
  have kz : env.kindOf z = some .local := hz
  have hb : env.blockKind = .function := by unfold Env.blockKind; rw [hk]; rfl
  have hst : ∀ e ∈ [a, b, d], noStar e = true := by simp [hs]
  have hd : [x, y, z].eraseDups = [x, y, z] := by
    simp [List.eraseDups_cons, Ne.symm hne, Ne.symm hne2, Ne.symm hne3]
  unfold swappedStores
  dsimp only
  rw [if_neg (by rw [hb]; simp)]
  rw [if_neg]
  rotate_left
  · rw [any_none (fun e he => by cases e <;> first | rfl | simp [noStar] at he) hst]; decide
  simp only [List.head?_cons, Option.map_some, Option.getD_some, Expr.pos, List.filterMap_cons, kx, ky, kz, hl, hl2, beq_self_eq_true, Bool.and_self, if_true, List.filterMap_nil]
  rw [if_neg (by rw [hd]; simp), if_neg (by rw [hf]; decide), if_neg (by rw [hc]; decide)]
theorem sw_none {ts vs : List Expr} {kt k2 : Nat} {pt p2 : Pos} {env : PySem.Env} (h : vs.all (foldedForSure 8) = true) : swappedStores [.Tuple ts kt pt] (.Tuple vs k2 p2) env = pure none := by
  unfold swappedStores
  dsimp only
  split
  · rfl
  split
  · rfl
  split
  · rfl
  rfl
def noTup : Expr → Bool
  | .Tuple _ _ _ => false
  | _ => true
def noComp : Expr → Bool
  | .ListComp _ _ _ _ => false
  | .SetComp _ _ _ _ => false
  | .DictComp _ _ _ _ _ => false
  | _ => true
theorem sw_tup {ts : List Expr} {v : Expr} {kt : Nat} {pt : Pos} {env : PySem.Env} (h : noTup v = true) : swappedStores [.Tuple ts kt pt] v env = pure none := by
  cases v <;> first | rfl | simp [noTup] at h
theorem sw_comp {v : Expr} {t : Option Expr} {l : Nat} {env : PySem.Env} (h : noComp v = true) : swapsWith v t l env = pure false := by
  cases v <;> first | rfl | simp [noComp] at h
theorem sw_sole {v t : Expr} {l : Nat} {env : PySem.Env} (h : noComp v = true) : swapsWithSole [t] v l env = pure false := sw_comp h

section
variable {X : Cx} {pos : Pos}
/-- a, b, c = x, y, z with plain local names (as ps_par, for three) -/
def tPar3 (i j h : Nat) (ta : TA) : TS := fun D σ H => ta σ H fun vs H1 => ∃ v w u, vs = [v, w, u] ∧ D.nx (((σ.set i (some v)).set j (some w)).set h (some u)) H1
theorem ps_par3 {i j h : Nat} {x y z : Str} {a b d : Expr} {ta : TA} {px py pz pt : Pos} {kt k2 pt2} (hc : X.calm = true) (hN : X.N.Nodup) (hi : X.N[i]? = some x) (hj : X.N[j]? = some y) (hh : X.N[h]? = some z) (hij : i ≠ j) (hih : i ≠ h) (hjh : j ≠ h)
    (hx : X.env.scope.names.lookup x = some .local) (hy : X.env.scope.names.lookup y = some .local) (hz : X.env.scope.names.lookup z = some .local) (ha : PA X [a, b, d] ta)
    (hw : swappedStores [.Tuple [.Name x px, .Name y py, .Name z pz] kt pt] (.Tuple [a, b, d] k2 pt2) X.env = pure (some [x, y, z])) :
    PS X (.Assign [.Tuple [.Name x px, .Name y py, .Name z pz] kt pt] (.Tuple [a, b, d] k2 pt2) pos) (tPar3 i j h ta) := by
  refine ⟨fun pins s σ H D I hq => ?_⟩
  rw [exec_Assign_arm]
  refine wpAny_bind (wpAny_standAt ?_)
  refine wpAny_bind (wpAny_pure ?_)
  rw [if_neg (by decide)]
  refine wpAny_bind (PyProof.Rows.Tuple_ (thn (ha.run _ pins s σ H _ I hq) fun us s1 ⟨vs, H1, I1, r1, q1⟩ => ?_))
  obtain ⟨v, w, u, e1, q1⟩ := q1
  subst e1
  obtain ⟨u1, u2, u3, rfl, rv, rw', ru⟩ : ∃ u1 u2 u3, us = [u1, u2, u3] ∧ RelV v u1 ∧ RelV w u2 ∧ RelV u u3 := by
    cases r1 with
    | cons p q =>
      cases q with
      | cons p' q' =>
        cases q' with
        | cons p'' q'' =>
          cases q''
          exact ⟨_, _, _, rfl, p, p', p''⟩
  refine wpAny_newObj_type ?_ (by show 3 ≤ sizeLine; decide)
  have I2 : Inv X pins σ H1 { s1 with heap := s1.heap.push { cls := .type "tuple", data := .seq [u1, u2, u3].toArray } } := I1.kept (t' := s1.toks) fun b o e => Heap.get?_push_of_some _ e
  rw [hw]
  refine wpAny_bind (wpAny_pure ?_)
  show wpAny (model X.prog X.w) X.A (do rule "assign.swapped-stores"; let items ← unpackItems (.ref s1.heap.objs.size) 3 none; assignInOrder [fun v => bindName X.env z v, fun v => bindName X.env y v, fun v => bindName X.env x v] items.reverse; pure Flow.next) _ _ _
  refine wpAny_bind (wpAny_rule (wpAny_bind (PyProof.Rows.unpackItems_tuple (items := #[u1, u2, u3]) (I.ok.hd hc) (PyProof.Rows.IsTup.new s1.heap _) fun h' hx' => ?_)))
  have I3 := I2.kept (h' := h') (t' := s1.toks) fun b o e => hx' b o (Nat.ne_of_lt (Heap.lt_size e)) e
  show wpAny _ _ (assignInOrder [fun v => bindName X.env z v, fun v => bindName X.env y v, fun v => bindName X.env x v] [u3, u2, u1] >>= fun _ => pure Flow.next) _ _ _
  refine wpAny_bind (PyProof.Rows.assignInOrder_cons (wpAny_bindName (store_ok I3 hN hh (.inl hz) ru (fun s2 I4 => ?_) (.inr hz))))
  refine PyProof.Rows.assignInOrder_cons (wpAny_bindName (store_ok I4 hN hj (.inl hy) rw' (fun s3 I5 => ?_) (.inr hy)))
  refine PyProof.Rows.assignInOrder_cons (wpAny_bindName (store_ok I5 hN hi (.inl hx) rv (fun s4 I6 => PyProof.Rows.assignInOrder_nil (wpAny_pure ?_)) (.inr hx)))
  have e : ((σ.set h (some u)).set j (some w)).set i (some v) = ((σ.set i (some v)).set j (some w)).set h (some u) := by
    rw [List.set_comm _ _ (Ne.symm hjh), List.set_comm _ _ (Ne.symm hih), List.set_comm _ _ (Ne.symm hij)]
  rw [e] at I6
  exact ⟨_, H1, I6, q1⟩
end

section
variable {W : Wd} {T : Tab} {fuel k : Nat} {Ex : L2.St → XK} {c : Ctx} {X : Cx}
/-- what comes for a slot; Hb: the heap ahead of it -/
def PutV (W : Wd) (Hb : Hp) (S : Addr → Prop) (H : Hp) (s : Slot × D) (v : V) : Prop := match s.1 with
  | .val d => Dp W S H v d ∧ s.2 = d
  | .own l => (∃ p vs, v = .ref p ∧ Hb p = none ∧ ¬ S p ∧ H p = some (.lst vs) ∧ Dps W S H vs l) ∧ s.2 = .tup l
  | .no => False
theorem PutV.step {Hb : Hp} {S S' : Addr → Prop} {H H' : Hp} {s : Slot × D} {v : V} (h : PutV W Hb S H s v) (st : Step S H S' H') : PutV W Hb S' H' s v := by
  obtain ⟨s1, s2⟩ := s
  cases s1 with
  | no => exact h
  | val d => exact ⟨h.1.keep st.keep, h.2⟩
  | own l =>
    obtain ⟨⟨p, vs, e, h1, h2, h3, h4⟩, h5⟩ := h
    refine ⟨⟨p, vs, e, h1, fun z => ?_, st.same _ _ h3, h4.keep st.keep⟩, h5⟩
    rcases st.new p z with q | q
    · exact h2 q
    · rw [h3] at q; cases q
def tP (W : Wd) (T : Tab) (Ex : L2.St → XK) (p : Bool) (e : CE) : TE := if p = true then tF W T Ex e else tD W T Ex e
theorem put_ok {p : Bool} {e : CE} {d : D} : (∃ s, put p e d = .ok s) ∨ put p e d = .bad := by
  unfold put
  split
  · split
    · split
      · exact .inl ⟨_, rfl⟩
      · exact .inr rfl
    · exact .inr rfl
  · exact .inl ⟨_, rfl⟩
/-- one part of several: read, then go on -/
theorem tP_ok {p : Bool} {e : CE} {S : Addr → Prop} {H : Hp} {ρ ρ' : Env} {σ : L2.St} {R' : VK} {α : Type} {f : Slot × D → R α} {PP : R α → Prop} (V : View W S ρ' σ H) (ag : Agree e ρ ρ')
    (hx : ∀ c, PP (.exc c) → PX W H c (Ex σ)) (hb : ¬ PP .bad) (P : PP ((evalE T e ρ).bind fun x => (put p e x).bind f))
    (q : ∀ s v S1 H1, Disj W H1 → Step S H S1 H1 → PutV W H S1 H1 s v → PP (f s) → R' v H1) : tP W T Ex p e σ H R' := by
  cases hr : evalE T e ρ with
  | exc c =>
    rw [hr] at P
    cases p with
    | true => exact fun _ => ⟨S, ρ', V, by rw [← eval_agree e ag, hr]; exact hx c P⟩
    | false => exact fun _ => ⟨S, ρ', V, by rw [← eval_agree e ag, hr]; exact hx c P⟩
  | bad => rw [hr] at P; exact (hb P).elim
  | ok d =>
    rw [hr, R.bind_ok] at P
    rcases (put_ok (p := p) (e := e) (d := d)).symm with hs | ⟨s, hs⟩
    · rw [hs] at P; exact (hb P).elim
    rw [hs, R.bind_ok] at P
    cases p with
    | false =>
      have e1 : s = (.val d, d) := by
        unfold put at hs
        rw [if_neg (by decide)] at hs
        exact (R.ok.inj hs).symm
      subst e1
      refine fun _ => ⟨S, ρ', V, ?_⟩
      rw [← eval_agree e ag, hr]
      exact fun v S1 H1 dj s1 pv => q (.val d, d) v S1 H1 dj s1 ⟨pv, rfl⟩ P
    | true =>
      unfold put at hs
      rw [if_pos rfl] at hs
      cases d with
      | lst l =>
        simp only at hs
        split at hs
        · have e1 := (R.ok.inj hs).symm
          subst e1
          refine fun _ => ⟨S, ρ', V, ?_⟩
          rw [← eval_agree e ag, hr]
          exact fun a vs S1 H1 dj s1 h1 h2 h3 h4 => q (.own l, .tup l) (.ref a) S1 H1 dj s1 ⟨⟨a, vs, rfl, h1, h2, h3, h4⟩, rfl⟩ P
        · cases hs
      | _ => cases hs
/-- the own lists of a state are alive in Hk -/
def Alive (ρ : Env) (σ : L2.St) (Hk : Hp) : Prop := ∀ (j : Nat) m q, ρ[j]? = some (.own m) → σ[j]? = some (some (.ref q)) → Hk q ≠ none
theorem Rep.putS {S0 S : Addr → Prop} {H0 H Hb : Hp} {ρ : Env} {σ : L2.St} (r : Rep W S0 H0 S ρ σ H) (al : Alive ρ σ Hb) (h0 : Same H0 Hb) (i : Nat) {s : Slot × D} {v : V} (h : PutV W Hb S H s v) : Rep W S0 H0 S (ρ.set i s.1) (σ.set i (some v)) H := by
  obtain ⟨s1, s2⟩ := s
  cases s1 with
  | no => exact h.elim
  | val d => exact r.setV i h.1
  | own l =>
    obtain ⟨⟨p, vs, rfl, h1, h2, h3, h4⟩, _⟩ := h
    exact r.setO i h3 h2 (h0.free h1) h4 fun j m hj z => al j m p hj z h1
theorem Alive.put {ρ : Env} {σ : L2.St} {Hb Hk : Hp} {S : Addr → Prop} {H : Hp} (al : Alive ρ σ Hb) (sm : Same Hb Hk) (i : Nat) {s : Slot × D} {v : V} (h : PutV W Hb S Hk s v) (hl : ρ.length = σ.length) : Alive (ρ.set i s.1) (σ.set i (some v)) Hk := fun j m q hj hq => by
  by_cases hij : i = j
  · subst hij
    by_cases hi : i < ρ.length
    · rw [List.getElem?_set_self hi] at hj
      rw [List.getElem?_set_self (by rw [← hl]; exact hi)] at hq
      cases hq
      have e := Option.some.inj hj
      obtain ⟨s1, s2⟩ := s
      cases e
      obtain ⟨⟨p, vs, e2, h1, h2, h3, h4⟩, _⟩ := h
      cases e2
      rw [h3]; intro z; cases z
    · rw [List.getElem?_eq_none (by simpa using hi)] at hj; cases hj
  · rw [List.getElem?_set_ne hij] at hj hq
    have z := al j m q hj hq
    cases e : Hb q with
    | none => exact absurd e z
    | some o => rw [sm q o e]; intro y; cases y
/-- .. without the own lists that do not stand in it -/
theorem PutV.strip {S0 S S1 : Addr → Prop} {H0 H H1 Hb : Hp} {ρ : Env} {σ : L2.St} (r : Rep W S0 H0 S ρ σ H) (e : CE) {ds : D} (st : Step (fun a => S a ∨ OwnA ρ σ e (fun _ => true) a) H S1 H1) (dj : Disj W H1) {s : Slot × D} {v : V} (h : PutV W Hb S1 H1 s v) (ho : ∀ l, D.occ l ds = false → D.occ l s.2 = false) :
    PutV W Hb (fun a => S1 a ∧ ¬ OwnA ρ σ e (fun l => !D.occ l ds) a) H1 s v := by
  have base : ∀ p, OwnA ρ σ e (fun l => !D.occ l ds) p → ∃ ws l S', H1 p = some (.lst ws) ∧ Dps W S' H1 ws l ∧ D.occ l ds = false := fun p b => by
    obtain ⟨i, l, h1, h2, h3, h4⟩ := b
    obtain ⟨q, vs, q1, q2, q3, q4, q5⟩ := r.own i l h1
    rw [h2] at q1
    cases q1
    exact ⟨vs, l, S1, st.same _ _ q2, q5.keep ⟨fun a z => st.sub a (.inl z), fun a o _ z => st.same a o z, fun a _ z => st.same a _ z, fun a _ _ z => st.same a _ z⟩, by simpa using h4⟩
  obtain ⟨s1, s2⟩ := s
  cases s1 with
  | no => exact h
  | val d =>
    obtain ⟨h1, h2⟩ := h
    have e2 : s2 = d := h2
    subst e2
    exact ⟨Dp.stripB dj (fun p b => let ⟨ws, l, S', a1, a2, a3⟩ := base p b; ⟨ws, l, S', a1, a2, ho l a3⟩) h1, rfl⟩
  | own l =>
    obtain ⟨⟨p, vs, e1, h1, h2, h3, h4⟩, h5⟩ := h
    have e2 : s2 = .tup l := h5
    subst e2
    exact ⟨⟨p, vs, e1, h1, fun z => h2 z.1, h3, Dps.stripB dj (fun p b => let ⟨ws, l', S', a1, a2, a3⟩ := base p b; ⟨ws, l', S', a1, a2, by simpa [D.occ] using ho l' a3⟩) h4⟩, rfl⟩
theorem alive0 {S0 S : Addr → Prop} {H0 H : Hp} {ρ : Env} {σ : L2.St} (r : Rep W S0 H0 S ρ σ H) (e : CE) (d : D) : Alive (frz ρ e d) σ H := fun j m q hj hq => by
  rw [frz_get] at hj
  cases hs : ρ[j]? with
  | none => rw [hs] at hj; cases hj
  | some s =>
    rw [hs] at hj
    cases s with
    | no => cases hj
    | val d' => cases hj
    | own l' =>
      obtain ⟨p, vs, q1, q2, _⟩ := r.own j l' hs
      rw [hq] at q1
      cases q1
      rw [q2]; intro z; cases z
theorem tP_pe (C : Cok W T k Ex c X) {p : Bool} {e : CE} {x : Expr} (hp : p = true → e.fresh = true) (h : chkE e c x = true) : PE X x (tP W T Ex p e) := by
  cases p with
  | true => exact ((good W T e).e C x h).2.2 (hp rfl)
  | false => exact ((good W T e).e C x h).1
theorem ss_par (C : Cok W T k Ex c X) {i j : Nat} {p q : Bool} {a b : CE} {k' : CS} {x y : Str} {px py pt p2 pos : Pos} {kt k2 : Nat} {ea eb : Expr} {rest : List Stmt} (hi : c.N[i]? = some x) (hj : c.N[j]? = some y) (hij : i ≠ j) (hx : c.sc.names.lookup x = some .local) (hy : c.sc.names.lookup y = some .local)
    (hw : swappedStores [.Tuple [.Name x px, .Name y py] kt pt] (.Tuple [ea, eb] k2 p2) X.env = pure (some [x, y])) (hs : noStar ea = true ∧ noStar eb = true) (hp : p = true → a.fresh = true) (hq : q = true → b.fresh = true) (ha : chkE a c ea = true) (hb : chkE b c eb = true) (h2 : PSs X rest (tS W T fuel Ex k')) :
    PSs X (.Assign [.Tuple [.Name x px, .Name y py] kt pt] (.Tuple [ea, eb] k2 p2) pos :: rest) (tS W T fuel Ex (.par i j p q a b k')) := by
  have PA1 : PA X [ea, eb] (tCons (tP W T Ex p a) (tCons (tP W T Ex q b) tNil)) := pa_cons (tP_pe C hp ha) (pa_cons (tP_pe C hq hb) pa_nil (star1 hs.2)) (star1 hs.1)
  refine ss_seq C.K (ps_par C.calm C.nd (by rw [C.N]; exact hi) (by rw [C.N]; exact hj) hij (by rw [C.sc]; exact hx) (by rw [C.sc]; exact hy) PA1 hw rfl) h2 fun Z σ H dj h => ?_
  obtain ⟨S0, H0, S, ρ, r, P⟩ := h dj
  simp only [exec] at P
  have ag := mask_agree (.cons a (.cons b .nil)) ρ
  refine tP_ok (r.view _) (ag.left fun i z => by simp [CE.men, z]) (PP := fun r => PostS W Ex S0 H0 S H r Z) (fun c z H' s' => z σ H' (r.step.same.trans s')) (fun z => z) P fun s v S1 H1 dj1 s1 pv P1 => ?_
  refine tP_ok ((r.view _).step s1) (ag.left fun i z => by simp [CE.men, z]) (PP := fun r => PostS W Ex S0 H0 S H r Z) (fun c z H' s' => z σ H' ((r.step.same.trans s1.same).trans s')) (fun z => z) P1 fun t w S2 H2 dj2 s2 pw P2 => ?_
  refine ⟨v, w, rfl, ?_⟩
  have st := s1.trans s2
  have r1 := r.after (.cons a (.cons b .nil)) (.tup [s.2, t.2]) st
  have pv' := (pv.step s2).strip r (.cons a (.cons b .nil)) (ds := .tup [s.2, t.2]) st dj2 fun l hl => by simp only [D.occ, D.occs, Bool.or_eq_false_iff] at hl; exact hl.1
  have pw' := pw.strip r (.cons a (.cons b .nil)) (ds := .tup [s.2, t.2]) st dj2 fun l hl => by simp only [D.occ, D.occs, Bool.or_eq_false_iff] at hl; exact hl.2.1
  have al := alive0 r (.cons a (.cons b .nil)) (.tup [s.2, t.2])
  have r2 := r1.putS al r.step.same i pv'
  have r3 := r2.putS (al.put (H := H1) s1.same i pv r1.len) (r.step.same.trans s1.same) j pw'
  exact st_go r3 (P2.mono (after_keep r _ _ st))
theorem ss_par3 (C : Cok W T k Ex c X) {i j h : Nat} {p q o : Bool} {a b d : CE} {k' : CS} {x y z : Str} {px py pz pt p2 pos : Pos} {kt k2 : Nat} {ea eb ed : Expr} {rest : List Stmt} (hi : c.N[i]? = some x) (hj : c.N[j]? = some y) (hh : c.N[h]? = some z) (hij : i ≠ j) (hih : i ≠ h) (hjh : j ≠ h) (hx : c.sc.names.lookup x = some .local) (hy : c.sc.names.lookup y = some .local) (hz : c.sc.names.lookup z = some .local)
    (hw : swappedStores [.Tuple [.Name x px, .Name y py, .Name z pz] kt pt] (.Tuple [ea, eb, ed] k2 p2) X.env = pure (some [x, y, z])) (hs : noStar ea = true ∧ noStar eb = true ∧ noStar ed = true) (hp : p = true → a.fresh = true) (hq : q = true → b.fresh = true) (ho : o = true → d.fresh = true) (ha : chkE a c ea = true) (hb : chkE b c eb = true) (hd : chkE d c ed = true) (h2 : PSs X rest (tS W T fuel Ex k')) :
    PSs X (.Assign [.Tuple [.Name x px, .Name y py, .Name z pz] kt pt] (.Tuple [ea, eb, ed] k2 p2) pos :: rest) (tS W T fuel Ex (.par3 i j h p q o a b d k')) := by
  have PA1 : PA X [ea, eb, ed] (tCons (tP W T Ex p a) (tCons (tP W T Ex q b) (tCons (tP W T Ex o d) tNil))) := pa_cons (tP_pe C hp ha) (pa_cons (tP_pe C hq hb) (pa_cons (tP_pe C ho hd) pa_nil (star1 hs.2.2)) (star1 hs.2.1)) (star1 hs.1)
  refine ss_seq C.K (ps_par3 C.calm C.nd (by rw [C.N]; exact hi) (by rw [C.N]; exact hj) (by rw [C.N]; exact hh) hij hih hjh (by rw [C.sc]; exact hx) (by rw [C.sc]; exact hy) (by rw [C.sc]; exact hz) PA1 hw) h2 fun Z σ H dj hr => ?_
  obtain ⟨S0, H0, S, ρ, r, P⟩ := hr dj
  simp only [exec] at P
  have ag := mask_agree (.cons a (.cons b (.cons d .nil))) ρ
  refine tP_ok (r.view _) (ag.left fun i z => by simp [CE.men, z]) (PP := fun r => PostS W Ex S0 H0 S H r Z) (fun c z H' s' => z σ H' (r.step.same.trans s')) (fun z => z) P fun s v S1 H1 dj1 s1 pv P1 => ?_
  refine tP_ok ((r.view _).step s1) (ag.left fun i z => by simp [CE.men, z]) (PP := fun r => PostS W Ex S0 H0 S H r Z) (fun c z H' s' => z σ H' ((r.step.same.trans s1.same).trans s')) (fun z => z) P1 fun t w S2 H2 dj2 s2 pw P2 => ?_
  refine tP_ok (((r.view _).step s1).step s2) (ag.left fun i z => by simp [CE.men, z]) (PP := fun r => PostS W Ex S0 H0 S H r Z) (fun c z H' s' => z σ H' (((r.step.same.trans s1.same).trans s2.same).trans s')) (fun z => z) P2 fun u y S3 H3 dj3 s3 pu P3 => ?_
  refine ⟨v, w, y, rfl, ?_⟩
  have st := (s1.trans s2).trans s3
  have r1 := r.after (.cons a (.cons b (.cons d .nil))) (.tup [s.2, t.2, u.2]) st
  have pv' := ((pv.step s2).step s3).strip r (.cons a (.cons b (.cons d .nil))) (ds := .tup [s.2, t.2, u.2]) st dj3 fun l hl => by simp only [D.occ, D.occs, Bool.or_eq_false_iff] at hl; exact hl.1
  have pw' := (pw.step s3).strip r (.cons a (.cons b (.cons d .nil))) (ds := .tup [s.2, t.2, u.2]) st dj3 fun l hl => by simp only [D.occ, D.occs, Bool.or_eq_false_iff] at hl; exact hl.2.1
  have pu' := pu.strip r (.cons a (.cons b (.cons d .nil))) (ds := .tup [s.2, t.2, u.2]) st dj3 fun l hl => by simp only [D.occ, D.occs, Bool.or_eq_false_iff] at hl; exact hl.2.2.1
  have al := alive0 r (.cons a (.cons b (.cons d .nil))) (.tup [s.2, t.2, u.2])
  have r2 := r1.putS al r.step.same i pv'
  have al1 := al.put (H := H1) s1.same i pv r1.len
  have r3 := r2.putS al1 (r.step.same.trans s1.same) j pw'
  have al2 := al1.put (H := H2) s2.same j pw r2.len
  have r4 := r3.putS al2 ((r.step.same.trans s1.same).trans s2.same) h pu'
  exact st_go r4 (P3.mono (after_keep r _ _ st))
/-! ### a, b, .. = e -/
theorem Rep.bindL {S0 S : Addr → Prop} {H0 H : Hp} : ∀ {l : List Nat} {vs : List V} {ds : List D} {ρ ρ' : Env} {σ : L2.St} {Q : L2.St → Hp → Prop}, Rep W S0 H0 S ρ σ H → Dps W S H vs ds → bindL l ds ρ = .ok ρ' → (∀ σ', Rep W S0 H0 S ρ' σ' H → Q σ' H) → gNames l vs σ H Q
  | [], _, _, _, _, σ, _, r, .nil, h, q => by
    simp only [RF.bindL] at h
    cases h
    exact ⟨rfl, q σ r⟩
  | [], _, _, _, _, _, _, _, .cons _ _, h, _ => by simp [RF.bindL] at h
  | _ :: _, _, _, _, _, _, _, _, .nil, h, _ => by simp [RF.bindL] at h
  | i :: is, _, _, ρ, ρ', σ, Q, r, .cons (v := v) (d := d) p t, h, q => by
    simp only [RF.bindL] at h
    refine ⟨v, _, rfl, ?_⟩
    show gNames is _ (σ.set i (some v)) H Q
    exact Rep.bindL (r.setV i p) t h q
theorem Rep.bindT {S0 S : Addr → Prop} {H0 H : Hp} {g : Tg} {v : V} {d : D} {ρ ρ' : Env} {σ : L2.St} {Q : L2.St → Hp → Prop} (r : Rep W S0 H0 S ρ σ H) (p : Dp W S H v d) (h : bindT g d ρ = .ok ρ') (q : ∀ σ', Rep W S0 H0 S ρ' σ' H → Q σ' H) : tG W.K g v σ H Q := by
  cases g with
  | nm i =>
    simp only [RF.bindT] at h
    cases h
    exact q _ (r.setV i p)
  | tp l =>
    cases d <;> simp only [RF.bindT, reduceCtorEq] at h
    · obtain ⟨a, vs, rfl, sq, rr⟩ := p.tup_of
      exact .inl ⟨a, vs, rfl, sq, by rw [rr.length]; exact bindL_len h, Rep.bindL r rr h q⟩
    · obtain ⟨a, vs, rfl, sq, rr⟩ := p.lst_of
      exact .inr ⟨a, vs, rfl, sq, by rw [rr.length]; exact bindL_len h, Rep.bindL r rr h q⟩
theorem bindT_nox {g : Tg} {d : D} {ρ : Env} {c : Nat} : bindT g d ρ ≠ .exc c := by
  cases g with
  | nm i => intro z; cases z
  | tp l =>
    have key : ∀ ds, bindL l ds ρ ≠ .exc c := by
      induction l generalizing ρ with
      | nil => intro ds; cases ds <;> (intro z; cases z)
      | cons i is ih =>
        intro ds
        cases ds with
        | nil => intro z; cases z
        | cons d ds => exact ih ds
    cases d <;> first | (intro z; cases z; done) | exact key _
theorem ss_unp (C : Cok W T k Ex c X) {l : List Nat} {e : CE} {k' : CS} {t v : Expr} {pos : Pos} {rest : List Stmt} (hv : PE X v (tD W T Ex e)) (hg : PG X t (tG W.K (.tp l))) (hs : swapsWithSole [t] v pos.line X.env = pure false) (hw : swappedStores [t] v X.env = pure none) (h1 : (assignEach [t] X.env).map (·.2) = [assign t X.env]) (h2 : PSs X rest (tS W T fuel Ex k')) :
    PSs X (.Assign [t] v pos :: rest) (tS W T fuel Ex (.unp l e k')) := by
  refine ss_seq C.K (ps_asg hv hg hs hw h1) h2 fun Z σ H dj h => ?_
  obtain ⟨S0, H0, S, ρ, r, P⟩ := h dj
  simp only [exec] at P
  refine st_eval r P fun d v S1 H1 dj1 s1 p P => ?_
  cases hb : bindT (.tp l) d (frz ρ e d) with
  | ok ρ1 =>
    rw [hb, R.bind_ok] at P
    exact (r.after e d s1).bindT (r.valOf e s1 dj1 p) hb fun σ' r' => st_go r' (P.mono (after_keep r e d s1))
  | exc c => exact absurd hb bindT_nox
  | bad => rw [hb] at P; exact P.elim
/-! ### xs.append(e) -/
theorem ss_app (C : Cok W T k Ex c X) {i : Nat} {e : CE} {k' : CS} {x : Str} {v : Expr} {px ap cp pos : Pos} {rest : List Stmt} (hi : c.N[i]? = some x) (hvs : visB c.sc x = true) (hd : (x == ("__debug__" : Str)) = false) (hcd : (x == ("__classdict__" : Str)) = false) (hl : (ap.endLine == cp.line) = true) (hs : noStar v = true) (hv : PE X v (tD W T Ex e)) (h2 : PSs X rest (tS W T fuel Ex k')) :
    PSs X (.Expr (.Call (.Attribute (.Name x px) "append" ap) [v] [] cp) pos :: rest) (tS W T fuel Ex (.app i e k')) := by
  have nm : PE X (.Name x px) (tVar i) := pe_var (by rw [C.N]; exact hi) (look_vis C hvs) hd hcd
  have st1 : starEach [v] X.env = [(false, eval v X.env)] := by rw [star1 hs]; rfl
  have app := pe_bm (cpos := cp) (apos := ap) PySem.F.plainAttrs_list PySem.F.slot_list_append PySem.F.type_list_append mt_append nm (pa_cons hv pa_nil (star1 hs)) rfl (by rw [st1]; rfl) hl (star1 hs) rfl
  refine ss_seq C.K (ps_expr app rfl) h2 fun Z σ H dj h => ?_
  obtain ⟨S0, H0, S, ρ, r, P⟩ := h dj
  simp only [exec] at P
  cases ho : ownAt ρ i with
  | none => rw [ho] at P; exact P.elim
  | some l =>
    rw [ho, withO_s] at P
    have hρ : ρ[i]? = some (.own l) := by
      unfold ownAt at ho
      split at ho
      · rename_i e1; cases ho; exact e1
      · cases ho
    obtain ⟨p, vs, q1, q2, q3, q4, q5⟩ := r.own i l hρ
    refine ⟨.ref p, q1, .inl ⟨rfl, vs, .inl (.inl q2)⟩, ?_⟩
    refine st_eval r P fun d v S1 H1 dj1 s1 pd P => ?_
    split at P
    · rename_i hc
      simp only [Bool.and_eq_true, decide_eq_true_eq, Bool.not_eq_true'] at hc
      have r1 := r.after e d s1
      have hf : (frz ρ e d)[i]? = some (.own l) := by
        rw [frz_get, hρ]
        simp only [Option.map_some, hc.2, Bool.false_eq_true, if_false]
      have hp1 : H1 p = some (.lst vs) := s1.same _ _ q2
      refine ⟨p, vs, v, rfl, rfl, hp1, lt_lim (by rw [q5.length]; exact hc.1), ?_⟩
      obtain ⟨p', vs', a1, a2, a3, a4, a5⟩ := r1.own i l hf
      rw [q1] at a1
      cases a1
      rw [hp1] at a2
      cases a2
      exact st_go (r1.mut hf q1 (a5.append (.cons (r.valOf e s1 dj1 pd) .nil))) (P.mono ((after_keep r e d s1).trans (Keep.mut a3 hp1)))
    · exact P.elim
/-! ### xs[i] = e -/
theorem ss_sto (C : Cok W T k Ex c X) {i : Nat} {ix e : CE} {k' : CS} {x : Str} {v iv : Expr} {px ps pos : Pos} {rest : List Stmt} (hi : c.N[i]? = some x) (hvs : visB c.sc x = true) (hd : (x == ("__debug__" : Str)) = false) (hcd : (x == ("__classdict__" : Str)) = false) (hsl : noSlice iv = true) (hnc : noComp v = true) (hv : PE X v (tD W T Ex e)) (hx : PE X iv (tD W T Ex ix)) (h2 : PSs X rest (tS W T fuel Ex k')) :
    PSs X (.Assign [.Subscript (.Name x px) iv ps] v pos :: rest) (tS W T fuel Ex (.sto i ix e k')) := by
  have nm : PE X (.Name x px) (tVar i) := pe_var (by rw [C.N]; exact hi) (look_vis C hvs) hd hcd
  have g := pg_sub (pos := ps) nm hx set_list (fun v => by cases iv <;> first | rfl | (simp [noSlice] at hsl))
  refine ss_seq C.K (ps_asg hv g (sw_sole hnc) (by cases v <;> rfl)) h2 fun Z σ H dj h => ?_
  obtain ⟨S0, H0, S, ρ, r, P⟩ := h dj
  simp only [exec] at P
  refine st_eval r P fun d v S1 H1 dj1 s1 pd P => ?_
  have r1 := r.after e d s1
  have pv := r.valOf e s1 dj1 pd
  have P1 := P.mono (after_keep r e d s1)
  cases ho : ownAt (frz ρ e d) i with
  | none => rw [ho] at P1; exact P1.elim
  | some l =>
    have hρ : (frz ρ e d)[i]? = some (.own l) := by
      unfold ownAt at ho
      split at ho
      · rename_i e1; cases ho; exact e1
      · cases ho
    obtain ⟨p, vs, q1, q2, q3, q4, q5⟩ := r1.own i l hρ
    refine ⟨.ref p, q1, ?_⟩
    rw [ho, withO_s] at P1
    refine st_eval r1 P1 fun y u S2 H2 dj2 s2 py P2 => ?_
    have r2 := r1.after ix .non s2
    rw [frz_non] at r2
    cases y <;> first | exact P2.elim | skip
    rename_i n
    cases py.int_of
    cases hj : ixD l.length (.int n) with
    | none => rw [hj] at P2; exact P2.elim
    | some j =>
      rw [hj, withO_s] at P2
      have hp2 : H2 p = some (.lst vs) := s2.same _ _ q2
      obtain ⟨p', vs', a1, a2, a3, a4, a5⟩ := r2.own i l hρ
      rw [q1] at a1
      cases a1
      rw [hp2] at a2
      cases a2
      have kp2 := after_keep r1 ix .non s2
      exact ⟨p, vs, n, j, rfl, rfl, hp2, by rw [q5.length]; exact hj, st_go (r2.mut hρ q1 (Dps.set (pv.keep kp2) j a5)) (P2.mono (kp2.trans (Keep.mut a3 hp2)))⟩
/-! ### xs.extend([..]) -/
theorem ss_ext (C : Cok W T k Ex c X) {i : Nat} {e : CE} {k' : CS} {x : Str} {v : Expr} {px ap cp pos : Pos} {rest : List Stmt} (hi : c.N[i]? = some x) (hvs : visB c.sc x = true) (hd : (x == ("__debug__" : Str)) = false) (hcd : (x == ("__classdict__" : Str)) = false) (hl : (ap.endLine == cp.line) = true) (hs : noStar v = true) (hv : PE X v (tF W T Ex e)) (h2 : PSs X rest (tS W T fuel Ex k')) :
    PSs X (.Expr (.Call (.Attribute (.Name x px) "extend" ap) [v] [] cp) pos :: rest) (tS W T fuel Ex (.ext i e k')) := by
  have nm : PE X (.Name x px) (tVar i) := pe_var (by rw [C.N]; exact hi) (look_vis C hvs) hd hcd
  have st1 : starEach [v] X.env = [(false, eval v X.env)] := by rw [star1 hs]; rfl
  have app := pe_bm (cpos := cp) (apos := ap) PySem.F.plainAttrs_list PySem.F.slot_list_extend PySem.F.type_list_extend mt_extend nm (pa_cons hv pa_nil (star1 hs)) rfl (by rw [st1]; rfl) hl (star1 hs) rfl
  refine ss_seq C.K (ps_expr app rfl) h2 fun Z σ H dj h => ?_
  obtain ⟨S0, H0, S, ρ, r, P⟩ := h dj
  simp only [exec] at P
  cases ho : ownAt ρ i with
  | none => rw [ho] at P; exact P.elim
  | some l =>
    rw [ho, withO_s] at P
    have hρ : ρ[i]? = some (.own l) := by
      unfold ownAt at ho
      split at ho
      · rename_i e1; cases ho; exact e1
      · cases ho
    obtain ⟨p, vs, q1, q2, q3, q4, q5⟩ := r.own i l hρ
    refine ⟨.ref p, q1, .inl ⟨rfl, vs, .inl (.inl q2)⟩, ?_⟩
    refine st_evalF r P (fun d hd => asL_bad hd) fun m b ws S1 H1 dj1 s1 hb nb hb1 pm P => ?_
    rw [asL_l] at P
    split at P
    · rename_i hc
      simp only [Bool.and_eq_true, decide_eq_true_eq, Bool.not_eq_true'] at hc
      have r1 := r.after e (.tup m) s1
      have hf : (frz ρ e (.tup m))[i]? = some (.own l) := by
        rw [frz_get, hρ]
        simp only [Option.map_some, hc.2, Bool.false_eq_true, if_false]
      have hp1 : H1 p = some (.lst vs) := s1.same _ _ q2
      refine ⟨p, b, vs, ws, rfl, rfl, hp1, hb1, le_lim (by rw [q5.length, pm.length]; exact hc.1), ?_⟩
      obtain ⟨p', vs', a1, a2, a3, a4, a5⟩ := r1.own i l hf
      rw [q1] at a1
      cases a1
      rw [hp1] at a2
      cases a2
      exact st_go (r1.mut hf q1 (a5.append (r.valsOf e s1 dj1 pm))) (P.mono ((after_keep r e (.tup m) s1).trans (Keep.mut a3 hp1)))
    · exact P.elim
/-! ### raise X('..') -/
theorem ss_rai (C : Cok W T k Ex c X) {n : Nat} {e : Expr} {pos : Pos} {rest : List Stmt} (hm : PMk X e (fun _ H Q => Q (.ref (W.xc n)) none H)) : PSs X (.Raise (some e) none pos :: rest) (tS W T fuel Ex (.rai n)) := by
  refine PSs.imp C.K (pss_cons (ps_raise C.calm C.takes hm) pss_never) fun Z σ H dj h => ?_
  obtain ⟨S0, H0, S, ρ, r, P⟩ := h dj
  exact P σ H r.step.same
/-! ### while -/
theorem ss_whl (C : Cok W T k Ex c X) (hp : PassesOwn (model X.prog X.w) X.A X.env X.xe) {e : CE} {b k' : CS} {t : Expr} {sb rest : List Stmt} {pos : Pos} (ht : PT X t (tDT W T Ex e)) (hb : PSs X sb (tS W T fuel Ex b)) (h2 : PSs X rest (tS W T fuel Ex k')) :
    PSs X (.While t sb [] pos :: rest) (tS W T fuel Ex (.whl e b k')) := by
  refine ss_seq C.K (ps_while hp ht hb) h2 fun Z σ H dj h => ?_
  obtain ⟨S0, H0, S, ρ, r, P⟩ := h dj
  simp only [exec] at P
  refine ⟨fun m σ' H' => ∃ S' ρ', Rep W S0 H0 S' ρ' σ' H' ∧ PostS W Ex S0 H0 S' H' ((whileF (evalE T e) (exec T fuel b) m ρ').bind fun o => match o with
        | .nx ρ1 => exec T fuel k' ρ1
        | .bk _ => .bad
        | .rt fr d => .ok (.rt fr d)) Z, ⟨fuel, S, ρ, r, P⟩, ?_⟩
  rintro m σ1 H1 ⟨S1, ρ1, r1, P1⟩
  cases m with
  | zero => exact (show False from P1).elim
  | succ m =>
    simp only [whileF] at P1
    have P2 : PostS W Ex S0 H0 S1 H1 ((evalE T e ρ1).bind fun x => onT (truth x) (((exec T fuel b ρ1).bind fun o => match o with
          | .nx ρ2 => whileF (evalE T e) (exec T fuel b) m ρ2
          | .bk ρ2 => .ok (.nx ρ2)
          | .rt fr d => .ok (.rt fr d)).bind fun o => match o with
        | .nx ρ1 => exec T fuel k' ρ1
        | .bk _ => .bad
        | .rt fr d => .ok (.rt fr d)) (exec T fuel k' ρ1)) Z := by
      cases h : evalE T e ρ1 with
      | ok d =>
        rw [h] at P1
        simp only [R.bind_ok] at P1 ⊢
        cases t : truth d with
        | none => rw [t] at P1; exact P1
        | some z => cases z <;> (rw [t] at P1; exact P1)
      | exc c => rw [h] at P1; exact P1
      | bad => rw [h] at P1; exact P1
    refine st_test (f := fun b' => match b' with
      | true => (((exec T fuel b ρ1).bind fun o => match o with
          | .nx ρ2 => whileF (evalE T e) (exec T fuel b) m ρ2
          | .bk ρ2 => .ok (.nx ρ2)
          | .rt fr d => .ok (.rt fr d)).bind fun o => match o with
        | .nx ρ1 => exec T fuel k' ρ1
        | .bk _ => .bad
        | .rt fr d => .ok (.rt fr d))
      | false => exec T fuel k' ρ1) r1 P2 fun b' S2 H2 dj2 r2 P3 => ?_
    cases b' with
    | false => exact iteF (st_go r2 P3)
    | true =>
      refine iteT ⟨fun σ' H' => ∃ S' ρ', Rep W S0 H0 S' ρ' σ' H' ∧ PostS W Ex S0 H0 S' H' ((whileF (evalE T e) (exec T fuel b) m ρ').bind fun o => match o with
        | .nx ρ1 => exec T fuel k' ρ1
        | .bk _ => .bad
        | .rt fr d => .ok (.rt fr d)) Z, fun σ' H' q => ⟨m, Nat.lt_succ_self m, q⟩, fun _ => ⟨S0, H0, S2, ρ1, r2, ?_⟩⟩
      cases hx : exec T fuel b ρ1 with
      | ok o =>
        simp only [hx] at P3
        cases o with
        | nx ρ2 => exact fun S' σ' H' dj' r' kp => ⟨S', ρ2, r', P3.mono kp⟩
        | bk ρ2 => exact fun S' σ' H' dj' r' kp => st_go r' (PostS.mono (S := S2) (H := H2) P3 kp)
        | rt fr d => exact Ret.gd P3
      | exc c => simp only [hx] at P3; exact P3
      | bad => simp only [hx] at P3; exact P3
/-! ### for -/
theorem holdAt_get (e : CE) : ∀ (ρ : Env) (n i : Nat), (holdAt e n ρ)[i]? = (ρ[i]?).map fun (s : Slot) => match s with | .own l => if e.men (n + i) = true then Slot.val (.lst l) else Slot.own l | s => s
  | [], _, _ => by simp [holdAt]
  | s :: r, n, 0 => by cases s <;> simp [holdAt]
  | s :: r, n, i + 1 => by
    have ih := holdAt_get e r (n + 1) i
    have e1 : n + 1 + i = n + (i + 1) := by omega
    rw [e1] at ih
    cases s <;> (simp only [holdAt, List.getElem?_cons_succ]; exact ih)
theorem holdAt_len (e : CE) : ∀ (ρ : Env) (n : Nat), (holdAt e n ρ).length = ρ.length
  | [], _ => rfl
  | s :: r, n => by cases s <;> simp [holdAt, holdAt_len e r]
/-- what is walked is fixed from now on -/
theorem Rep.held {S0 S S1 : Addr → Prop} {H0 H H1 : Hp} {ρ : Env} {σ : L2.St} (r : Rep W S0 H0 S ρ σ H) (e : CE) (st : Step (fun a => S a ∨ OwnA ρ σ e (fun _ => true) a) H S1 H1) : Rep W S0 H0 S1 (holdAt e 0 ρ) σ H1 := by
  have kp : Keep S H S1 H1 := ⟨fun a h => st.sub a (.inl h), fun a o _ z => st.same a o z, fun a _ z => st.same a _ z, fun a _ _ z => st.same a _ z⟩
  have back : ∀ (i : Nat) l, (holdAt e 0 ρ)[i]? = some (.own l) → ρ[i]? = some (.own l) ∧ ¬ e.men i = true := fun i l h => by
    rw [holdAt_get] at h
    cases hs : ρ[i]? with
    | none => rw [hs] at h; cases h
    | some s =>
      rw [hs] at h
      cases s with
      | no => cases h
      | val d' => cases h
      | own l' =>
        simp only [Option.map_some, Nat.zero_add] at h
        split at h
        · cases h
        · rename_i hm; cases h; exact ⟨rfl, hm⟩
  refine ⟨⟨r.step.same.trans st.same, fun a h => st.sub a (.inl (r.step.sub a h)), fun a h => ?_, fun a h => st.liv a h⟩, by rw [holdAt_len]; exact r.len, fun i x h => ?_, fun i l h => ?_, fun i j l m p h h' q q' => r.inj i j l m p (back i l h).1 (back j m h').1 q q'⟩
  · rcases st.new a h with z | z
    · rcases z with z | ⟨i, l, h1, h2, _⟩
      · exact r.step.new a z
      · obtain ⟨p, vs, q1, q2, q3, q4, _⟩ := r.own i l h1
        rw [h2] at q1; cases q1
        exact .inr q4
    · exact .inr (r.step.same.free z)
  · rw [holdAt_get] at h
    cases hs : ρ[i]? with
    | none => rw [hs] at h; cases h
    | some s =>
      rw [hs] at h
      cases s with
      | no => cases h
      | val d' =>
        cases h
        obtain ⟨v, q1, q2⟩ := r.val i x hs
        exact ⟨v, q1, q2.keep kp⟩
      | own l =>
        simp only [Option.map_some, Nat.zero_add] at h
        split at h
        · rename_i hm
          cases h
          obtain ⟨p, vs, q1, q2, q3, q4, q5⟩ := r.own i l hs
          exact ⟨.ref p, q1, .lst (st.sub p (.inr ⟨i, l, hs, q1, hm, rfl⟩)) (.inl (st.same _ _ q2)) (q5.keep kp)⟩
        · cases h
  · obtain ⟨hs, hm⟩ := back i l h
    obtain ⟨p, vs, q1, q2, q3, q4, q5⟩ := r.own i l hs
    refine ⟨p, vs, q1, st.same _ _ q2, fun z => ?_, q4, q5.keep kp⟩
    rcases st.new p z with y | y
    · rcases y with y | ⟨j, m, h1, h2, h3, _⟩
      · exact q3 y
      · have ej := r.inj i j l m p hs h1 q1 h2
        subst ej
        exact hm h3
    · rw [q2] at y; cases y
theorem loopF_cons {g : Tg} {f : Env → R Out} {x : D} {xs : List D} {ρ : Env} : loopF g f (x :: xs) ρ = (bindT g x ρ).bind fun ρ1 => (f ρ1).bind fun o => match o with
    | .nx ρ2 => loopF g f xs ρ2
    | .bk ρ2 => .ok (.nx ρ2)
    | .rt fr d => .ok (.rt fr d) := rfl
theorem ss_for (C : Cok W T k Ex c X) (hp : PassesOwn (model X.prog X.w) X.A X.env X.xe) {ik : IK} {g : Tg} {it : CE} {b k' : CS} {tg iter : Expr} {sb rest : List Stmt} {pos : Pos} (hst : noSet iter = true) (hi : PI X tg iter (tI W T Ex ik it)) (hg : PG X tg (tG W.K g)) (hb : PSs X sb (tS W T fuel Ex b)) (h2 : PSs X rest (tS W T fuel Ex k')) :
    PSs X (.For tg iter sb [] pos :: rest) (tS W T fuel Ex (.forE ik g it b k')) := by
  refine ss_seq C.K (ps_for hp C.calm hi hg hb (set_fold hst)) h2 fun Z σ H dj h => ?_
  obtain ⟨S0, H0, S, ρ, r, P⟩ := h dj
  have P' : PostS W Ex S0 H0 S H (((evalE T it ρ).bind (itemsOf ik)).bind fun l => if l.length ≤ lim then (loopF g (exec T fuel b) l (hold ρ ik it)).bind fun o => match o with
        | .nx ρ1 => exec T fuel k' ρ1
        | .bk _ => .bad
        | .rt fr d => .ok (.rt fr d) else .bad) Z := by
    simp only [exec] at P
    cases h : evalE T it ρ with
    | ok d => rw [h] at P; exact P
    | exc c => rw [h] at P; exact P
    | bad => rw [h] at P; exact P
  clear P
  intro _
  refine ⟨_, _, r.view it, ?_⟩
  rw [← eval_agree it (mask_agree it ρ)]
  cases hl : (evalE T it ρ).bind (itemsOf ik) with
  | exc c => rw [hl] at P'; exact fun H' s' => P' σ H' (r.step.same.trans s')
  | bad => rw [hl] at P'; exact P'
  | ok l =>
    rw [hl, R.bind_ok] at P'
    intro J S1 H1 dj1 s1 wk wk2
    by_cases hlim : l.length ≤ lim
    case neg => rw [if_neg hlim] at P'; exact P'.elim
    rw [if_pos hlim] at P'
    -- the state at the loop's start, and the walk over it
    obtain ⟨S3, r3, w3, k3⟩ : ∃ S3, Rep W S0 H0 S3 (hold ρ ik it) σ H1 ∧ Walks W J S3 H1 l ∧ Keep S H S3 H1 := by
      have kp : Keep S H S1 H1 := ⟨fun a h => s1.sub a (.inl h), fun a o _ z => s1.same a o z, fun a _ z => s1.same a _ z, fun a _ _ z => s1.same a _ z⟩
      cases ik with
      | rng =>
        have z := r.after it .non s1
        rw [frz_non] at z
        exact ⟨_, z, wk2 rfl _ _, after_keep r it .non s1⟩
      | seq => exact ⟨S1, r.held it s1, wk, kp⟩
      | enum => exact ⟨S1, r.held it s1, wk, kp⟩
      | zip => exact ⟨S1, r.held it s1, wk, kp⟩
    refine ⟨fun i m σ' H' => m = l.length - i ∧ i ≤ l.length ∧ ∃ S' ρ', Rep W S0 H0 S' ρ' σ' H' ∧ Keep S3 H1 S' H' ∧ PostS W Ex S0 H0 S' H' ((loopF g (exec T fuel b) (l.drop i) ρ').bind fun o => match o with
        | .nx ρ1 => exec T fuel k' ρ1
        | .bk _ => .bad
        | .rt fr d => .ok (.rt fr d)) Z, ⟨l.length, by simp, Nat.zero_le _, S3, _, r3, Keep.refl, by simpa using P'.mono k3⟩, ?_⟩
    rintro i m σ4 H4 ⟨rfl, hile, S4, ρ4, r4, kp4, P4⟩
    by_cases hlt : i < l.length
    · have hd : l[i]? = some l[i] := List.getElem?_eq_getElem hlt
      obtain ⟨go, yl⟩ := w3.turn i l[i] hd S4 H4 kp4 r4.step.liv
      rw [List.drop_eq_getElem_cons hlt, loopF_cons] at P4
      refine .inr ⟨go, fun σ' H' => i + 1 ≤ l.length ∧ ∃ S' ρ', Rep W S0 H0 S' ρ' σ' H' ∧ Keep S3 H1 S' H' ∧ PostS W Ex S0 H0 S' H' ((loopF g (exec T fuel b) (l.drop (i + 1)) ρ').bind fun o => match o with
        | .nx ρ1 => exec T fuel k' ρ1
        | .bk _ => .bad
        | .rt fr d => .ok (.rt fr d)) Z, fun σ' H' ⟨q1, q2⟩ => ⟨l.length - (i + 1), by omega, rfl, q1, q2⟩, fun x H5 y => ?_⟩
      obtain ⟨s5, px⟩ := yl x H5 y
      cases hbT : bindT g l[i] ρ4 with
      | exc c => exact absurd hbT bindT_nox
      | bad => rw [hbT] at P4; exact P4.elim
      | ok ρ5 =>
        rw [hbT, R.bind_ok] at P4
        have r5 : Rep W S0 H0 S4 ρ4 σ4 H5 := ⟨r4.step.trans s5, r4.len, fun i d h => let ⟨v, h1, h2⟩ := r4.val i d h; ⟨v, h1, h2.keep s5.keep⟩, fun i l h => let ⟨p, vs, h1, h2, h3, h4, h5⟩ := r4.own i l h; ⟨p, vs, h1, s5.same _ _ h2, h3, h4, h5.keep s5.keep⟩, r4.inj⟩
        have P5 := P4.mono s5.keep
        refine r5.bindT px hbT fun σ6 r6 => ?_
        intro _
        refine ⟨S0, H0, S4, ρ5, r6, ?_⟩
        cases hx : exec T fuel b ρ5 with
        | ok o =>
          rw [hx, R.bind_ok] at P5
          cases o with
          | nx ρ6 => exact fun S' σ' H' dj' r' kp => ⟨hlt, S', ρ6, r', (kp4.trans s5.keep).trans kp, P5.mono kp⟩
          | bk ρ6 => exact fun S' σ' H' dj' r' kp => st_go r' (PostS.mono (S := S4) (H := H5) P5 kp)
          | rt fr d => exact Ret.gd P5
        | exc c => rw [hx] at P5; exact P5
        | bad => rw [hx] at P5; exact P5
    · have e0 : i = l.length := by omega
      subst e0
      refine .inl ⟨w3.stop S4 H4 kp4, ?_⟩
      rw [List.drop_length] at P4
      exact st_go r4 P4
end
end RF

end S_RFC
section S_RFD
set_option maxHeartbeats 8000000
/-! RFD: the check of statements and of defs; every checked def keeps its promise. -/
namespace RF
open PySem PySem.Spec L2

def allFold : Expr → Bool
  | .Tuple vs _ _ => vs.all (foldedForSure 8)
  | _ => false
def lcl (sc : Scope) (x : Str) : Bool := match sc.names.lookup x with
  | some .local => true
  | _ => false
/-- a name gets a value: plain, or a comprehension on the name's own line -/
def asgB (sc : Scope) (x : Str) (px : Pos) : Expr → Bool
  | .ListComp _ _ scope p => lcl sc x && (px.line == p.line) && !(scope.names.any fun (n, k) => n == x && (k == .local || k == .cell))
  | v => noComp v
def nmB (c : Ctx) (x : Str) (i : Nat) : Bool := decide (c.N[i]? = some x) && locB c.df c.sc x
def rdB (c : Ctx) (x : Str) (i : Nat) : Bool := decide (c.N[i]? = some x) && visB c.sc x && !(x == ("__debug__" : Str)) && !(x == ("__classdict__" : Str))
def lcB (c : Ctx) (x : Str) (i : Nat) : Bool := decide (c.N[i]? = some x) && lcl c.sc x
def vAsg1 : List Stmt → Option (Str × Pos × Expr × Pos × List Stmt)
  | .Assign [.Name x px] v pos :: rest => some (x, px, v, pos, rest)
  | _ => none
theorem vAsg1_of {st : List Stmt} {x px v pos rest} (h : vAsg1 st = some (x, px, v, pos, rest)) : st = .Assign [.Name x px] v pos :: rest := by
  unfold vAsg1 at h
  split at h
  · cases h; rfl
  · cases h
def vAsgT : List Stmt → Option (List Expr × Nat × Pos × Expr × Pos × List Stmt)
  | .Assign [.Tuple ts k p] v pos :: rest => some (ts, k, p, v, pos, rest)
  | _ => none
theorem vAsgT_of {st : List Stmt} {ts k p v pos rest} (h : vAsgT st = some (ts, k, p, v, pos, rest)) : st = .Assign [.Tuple ts k p] v pos :: rest := by
  unfold vAsgT at h
  split at h
  · cases h; rfl
  · cases h
def vNm : Expr → Option (Str × Pos)
  | .Name x p => some (x, p)
  | _ => none
theorem vNm_of {e : Expr} {x p} (h : vNm e = some (x, p)) : e = .Name x p := by
  unfold vNm at h
  split at h
  · cases h; rfl
  · cases h
def vTup : Expr → Option (List Expr × Nat × Pos)
  | .Tuple es k p => some (es, k, p)
  | _ => none
theorem vTup_of {e : Expr} {es k p} (h : vTup e = some (es, k, p)) : e = .Tuple es k p := by
  unfold vTup at h
  split at h
  · cases h; rfl
  · cases h
def vTwo {α : Type} : List α → Option (α × α)
  | [a, b] => some (a, b)
  | _ => none
theorem vTwo_of {α : Type} {l : List α} {a b} (h : vTwo l = some (a, b)) : l = [a, b] := by
  unfold vTwo at h
  split at h
  · cases h; rfl
  · cases h
def vThree {α : Type} : List α → Option (α × α × α)
  | [a, b, c] => some (a, b, c)
  | _ => none
theorem vThree_of {α : Type} {l : List α} {a b c} (h : vThree l = some (a, b, c)) : l = [a, b, c] := by
  unfold vThree at h
  split at h
  · cases h; rfl
  · cases h
def vExpr : List Stmt → Option (Expr × Pos × List Stmt)
  | .Expr v pos :: rest => some (v, pos, rest)
  | _ => none
theorem vExpr_of {st : List Stmt} {v pos rest} (h : vExpr st = some (v, pos, rest)) : st = .Expr v pos :: rest := by
  unfold vExpr at h
  split at h
  · cases h; rfl
  · cases h
def vRet : List Stmt → Option (Expr × Pos × List Stmt)
  | .Return (some v) pos :: rest => some (v, pos, rest)
  | _ => none
theorem vRet_of {st : List Stmt} {v pos rest} (h : vRet st = some (v, pos, rest)) : st = .Return (some v) pos :: rest := by
  unfold vRet at h
  split at h
  · cases h; rfl
  · cases h
def vRai : List Stmt → Option (Str × Pos × Str × Nat × Pos × Pos × Pos × List Stmt)
  | .Raise (some (.Call (.Name x p) [.Constant (.str m) j p2] [] p3)) none pos :: rest => some (x, p, m, j, p2, p3, pos, rest)
  | _ => none
theorem vRai_of {st : List Stmt} {x p m j p2 p3 pos rest} (h : vRai st = some (x, p, m, j, p2, p3, pos, rest)) : st = .Raise (some (.Call (.Name x p) [.Constant (.str m) j p2] [] p3)) none pos :: rest := by
  unfold vRai at h
  split at h
  · cases h; rfl
  · cases h
def vIf : List Stmt → Option (Expr × List Stmt × List Stmt × Pos × List Stmt)
  | .If t a b pos :: rest => some (t, a, b, pos, rest)
  | _ => none
theorem vIf_of {st : List Stmt} {t a b pos rest} (h : vIf st = some (t, a, b, pos, rest)) : st = .If t a b pos :: rest := by
  unfold vIf at h
  split at h
  · cases h; rfl
  · cases h
def vFor : List Stmt → Option (Expr × Expr × List Stmt × Pos × List Stmt)
  | .For tg it b [] pos :: rest => some (tg, it, b, pos, rest)
  | _ => none
theorem vFor_of {st : List Stmt} {tg it b pos rest} (h : vFor st = some (tg, it, b, pos, rest)) : st = .For tg it b [] pos :: rest := by
  unfold vFor at h
  split at h
  · cases h; rfl
  · cases h
def vWhl : List Stmt → Option (Expr × List Stmt × Pos × List Stmt)
  | .While t b [] pos :: rest => some (t, b, pos, rest)
  | _ => none
theorem vWhl_of {st : List Stmt} {t b pos rest} (h : vWhl st = some (t, b, pos, rest)) : st = .While t b [] pos :: rest := by
  unfold vWhl at h
  split at h
  · cases h; rfl
  · cases h
/-- x.m(v) -/
def vMt1 : Expr → Option (Str × Pos × Str × Pos × Expr × Pos)
  | .Call (.Attribute (.Name x px) a ap) [v] [] cp => some (x, px, a, ap, v, cp)
  | _ => none
theorem vMt1_of {e : Expr} {x px a ap v cp} (h : vMt1 e = some (x, px, a, ap, v, cp)) : e = .Call (.Attribute (.Name x px) a ap) [v] [] cp := by
  unfold vMt1 at h
  split at h
  · cases h; rfl
  · cases h
def vPas : List Stmt → Option (Pos × List Stmt)
  | .Pass pos :: rest => some (pos, rest)
  | _ => none
theorem vPas_of {st : List Stmt} {pos rest} (h : vPas st = some (pos, rest)) : st = .Pass pos :: rest := by
  unfold vPas at h
  split at h
  · cases h; rfl
  · cases h
def vBrk : List Stmt → Option (Pos × List Stmt)
  | .Break pos :: rest => some (pos, rest)
  | _ => none
theorem vBrk_of {st : List Stmt} {pos rest} (h : vBrk st = some (pos, rest)) : st = .Break pos :: rest := by
  unfold vBrk at h
  split at h
  · cases h; rfl
  · cases h
theorem optB_of {α : Type} {o : Option α} {f : α → Bool} (h : optB o false f = true) : ∃ x, o = some x ∧ f x = true := by
  cases o with
  | none => cases h
  | some x => exact ⟨x, rfl, h⟩
def vSto : List Stmt → Option (Str × Pos × Expr × Pos × Expr × Pos × List Stmt)
  | .Assign [.Subscript (.Name x px) iv ps] v pos :: rest => some (x, px, iv, ps, v, pos, rest)
  | _ => none
theorem vSto_of {st : List Stmt} {x px iv ps v pos rest} (h : vSto st = some (x, px, iv, ps, v, pos, rest)) : st = .Assign [.Subscript (.Name x px) iv ps] v pos :: rest := by
  unfold vSto at h
  split at h
  · cases h; rfl
  · cases h
def chkS : CS → Ctx → List Stmt → Bool
  | .nil, _, st => st.isEmpty
  | .set i e k, c, st => optB (vAsg1 st) false fun (x, px, v, _, rest) => nmB c x i && asgB c.sc x px v && chkE e c v && chkS k c rest
  | .own i e k, c, st => optB (vAsg1 st) false fun (x, px, v, _, rest) => e.fresh && nmB c x i && asgB c.sc x px v && chkE e c v && chkS k c rest
  | .unp l e k, c, st => optB (vAsgT st) false fun (ts, _, _, v, _, rest) => chkNms c l ts && (noTup v || allFold v) && noComp v && chkE e c v && chkS k c rest
  | .par i j p q a b k, c, st => optB (vAsgT st) false fun (ts, _, _, v, _, rest) => optB (vTup v) false fun (vs, _, _) => optB (vTwo ts) false fun (t1, t2) => optB (vTwo vs) false fun (ea, eb) => optB (vNm t1) false fun (x, px) => optB (vNm t2) false fun (y, py) =>
      lcB c x i && lcB c y j && !(i == j) && !(x == y) && (py.line == px.line) && noStar ea && noStar eb && !([ea, eb].all (foldedForSure 8)) && !([ea, eb].all (constantsAlone 8)) && (!p || a.fresh) && (!q || b.fresh) && chkE a c ea && chkE b c eb && chkS k c rest
  | .par3 i j h p q o a b d k, c, st => optB (vAsgT st) false fun (ts, _, _, v, _, rest) => optB (vTup v) false fun (vs, _, _) => optB (vThree ts) false fun (t1, t2, t3) => optB (vThree vs) false fun (ea, eb, ed) => optB (vNm t1) false fun (x, px) => optB (vNm t2) false fun (y, py) => optB (vNm t3) false fun (z, pz) =>
      lcB c x i && lcB c y j && lcB c z h && !(i == j) && !(i == h) && !(j == h) && !(x == y) && !(x == z) && !(y == z) && (py.line == px.line) && (pz.line == px.line) && noStar ea && noStar eb && noStar ed &&
      !([ea, eb, ed].all (foldedForSure 8)) && !([ea, eb, ed].all (constantsAlone 8)) && (!p || a.fresh) && (!q || b.fresh) && (!o || d.fresh) && chkE a c ea && chkE b c eb && chkE d c ed && chkS k c rest
  | .ex e k, c, st => optB (vExpr st) false fun (v, _, rest) => noComp v && chkE e c v && chkS k c rest
  | .ret e, c, st => optB (vRet st) false fun (v, _, _) => chkE e c v
  | .reto i, c, st => optB (vRet st) false fun (v, _, _) => optB (vNm v) false fun (x, _) => rdB c x i
  | .retf e, c, st => optB (vRet st) false fun (v, _, _) => e.fresh && chkE e c v
  | .rai n, c, st => optB (vRai st) false fun (x, _) => decide (c.xcs n = some x) && glB c.sc x
  | .ite e a b k, c, st => optB (vIf st) false fun (t, sa, sb, _, rest) => chkE e c t && chkS a c sa && chkS b c sb && chkS k c rest
  | .forE ik g it b k, c, st => optB (vFor st) false fun (tg, iter, sb, _, rest) => noSet iter && chkTg c g tg && (bif ik.isSeq then chkE it c iter else optB (iterArgs c ik tg iter) false (fun es => chkA it c es)) && chkS b c sb && chkS k c rest
  | .whl e b k, c, st => optB (vWhl st) false fun (t, sb, _, rest) => chkE e c t && chkS b c sb && chkS k c rest
  | .app i e k, c, st => optB (vExpr st) false fun (v, _, rest) => optB (vMt1 v) false fun (x, _, a, ap, v, cp) => rdB c x i && decide (a = ("append" : Str)) && (ap.endLine == cp.line) && noStar v && chkE e c v && chkS k c rest
  | .ext i e k, c, st => optB (vExpr st) false fun (v, _, rest) => optB (vMt1 v) false fun (x, _, a, ap, v, cp) => e.fresh && rdB c x i && decide (a = ("extend" : Str)) && (ap.endLine == cp.line) && noStar v && chkE e c v && chkS k c rest
  | .pas k, c, st => optB (vPas st) false fun (_, rest) => chkS k c rest
  | .brk, _, st => optB (vBrk st) false fun _ => true
  | .wip _ k, c, st => chkS k c st
  | .sto i ix e k, c, st => optB (vSto st) false fun (x, _, iv, _, v, _, rest) => rdB c x i && noSlice iv && noComp v && chkE e c v && chkE ix c iv && chkS k c rest

/-- a def's context -/
structure Sok (W : Wd) (T : Tab) (k : Nat) (Ex : L2.St → XK) (c : Ctx) (X : Cx) : Prop extends Cok W T k Ex c X where
  df : c.df = true
  kind : X.env.scope.kind = .function
  pass : PassesOwn (model X.prog X.w) X.A X.env X.xe
section
variable {W : Wd} {T : Tab} {fuel k : Nat} {Ex : L2.St → XK} {c : Ctx} {X : Cx}
theorem lcl_of {sc : Scope} {x : Str} (h : lcl sc x = true) : sc.names.lookup x = some .local := by
  unfold lcl at h
  split at h
  · assumption
  · cases h
theorem chk_lc {e : CE} {c : Ctx} {elt : Expr} {gs : List Comprehension} {scope : Scope} {p : Pos} (h : chkE e c (.ListComp elt gs scope p) = true) : ∃ ik g vs it cd el, e = .comp ik g vs it cd el := by
  cases e
  case comp => exact ⟨_, _, _, _, _, _, rfl⟩
  case c d => cases d <;> exact Bool.noConfusion (show false = true from h)
  all_goals exact Bool.noConfusion (show false = true from h)
/-- name = e -/
theorem asg_ok (C : Sok W T k Ex c X) {p : Bool} {i : Nat} {e : CE} {x : Str} {px pos : Pos} {v : Expr} (hn : nmB c x i = true) (ha : asgB c.sc x px v = true) (hp : p = true → e.fresh = true) (hv : chkE e c v = true) : PS X (.Assign [.Name x px] v pos) (tAsg (tP W T Ex p e) (gName i)) := by
  simp only [nmB, Bool.and_eq_true, decide_eq_true_eq] at hn
  obtain ⟨h3, h4⟩ := look_loc C.toCok hn.2
  have hN : X.N[i]? = some x := by rw [C.N]; exact hn.1
  have pe := tP_pe C.toCok hp hv
  by_cases hc : noComp v = true
  · exact ps_set C.nd hN h3 pe (sw_comp hc) h4
  · cases v <;> first | exact absurd rfl hc | skip
    · rename_i elt gs scope p2
      simp only [asgB, Bool.and_eq_true, Bool.not_eq_true'] at ha
      have hl := lcl_of ha.1.1
      have hsw : swapsWith (.ListComp elt gs scope p2) (some (.Name x px)) pos.line X.env = pure true := sw_true C.kind (by rw [C.sc]; exact hl) ha.1.2 ha.2
      -- the comprehension's own parts
      obtain ⟨ik, g, vs, it, cd, el, rfl⟩ := chk_lc hv
      match gs, hv with
      | [⟨tg, iter, ifs, as⟩], hv =>
        simp only [chkE, Bool.and_eq_true, decide_eq_true_eq] at hv
        obtain ⟨⟨⟨⟨⟨⟨⟨⟨h0, h1⟩, h2⟩, h3'⟩, h4'⟩, h5⟩, h6⟩, h7⟩, h8⟩ := hv
        subst h0
        have ok : BlkOk X.N X.env.scope scope (ownOf c.N vs) := by rw [C.N, C.sc]; exact blkOk_by h2
        have L := ps_setLc (i := i) (y := x) (py := px) (pos := p2) (spos := pos) C.calm C.nd hN (by rw [C.sc]; exact hl) hsw (iter_ok (good W T it) C.toCok h6) ok (fun s H D cl fp => sg_tg (C.toCok.blk scope s H D cl fp) h5) (fun s H D cl fp => ifs_ok (good W T cd) (C.toCok.blk scope s H D cl fp) h7) (fun s H D cl fp => ((good W T el).e (C.toCok.blk scope s H D cl fp) elt h8).1) (set_fold h1)
        rw [h3'] at L
        refine PS.imp C.K L fun Z σ H dj h => ?_
        have h' : tF W T Ex (.comp ik g vs it cd el) σ H fun x H1 => gName i x σ H1 Z.nx := by
          cases p with
          | true => exact h
          | false => exact tF_of h
        exact lc_imp h4' σ H _ dj h'
      | [], hv => simp only [chkE, Bool.false_eq_true] at hv
      | _ :: _ :: _, hv => simp only [chkE, Bool.false_eq_true] at hv
    · simp [asgB, noComp] at ha
    · simp [asgB, noComp] at ha
theorem sound (hC : Sok W T k Ex c X) : ∀ (s : CS) (st : List Stmt), chkS s c st = true → PSs X st (tS W T fuel Ex s) := by
  have C := hC.toCok
  intro s
  induction s with
  | nil =>
    intro st h
    cases st with
    | nil => exact ss_nil C
    | cons _ _ => exact Bool.noConfusion (show false = true from h)
  | set i e k' ih =>
    intro st h
    · obtain ⟨⟨x, px, v, pos, rest⟩, hv, h⟩ := optB_of h
      rw [vAsg1_of hv]
      simp only [Bool.and_eq_true] at h
      exact ss_set C (asg_ok (p := false) hC h.1.1.1 h.1.1.2 (fun z => by cases z) h.1.2) (ih rest h.2)
  | own i e k' ih =>
    intro st h
    · obtain ⟨⟨x, px, v, pos, rest⟩, hv, h⟩ := optB_of h
      rw [vAsg1_of hv]
      simp only [Bool.and_eq_true] at h
      exact ss_own C h.1.1.1.1 (asg_ok (p := true) hC h.1.1.1.2 h.1.1.2 (fun _ => h.1.1.1.1) h.1.2) (ih rest h.2)
  | unp l e k' ih =>
    intro st h
    · obtain ⟨⟨ts, kt, pt, v, pos, rest⟩, hv, h⟩ := optB_of h
      rw [vAsgT_of hv]
      simp only [Bool.and_eq_true, Bool.or_eq_true] at h
      refine ss_unp C ((good W T e).e C v h.1.2).1 (sg_tg C (g := .tp l) h.1.1.1.1) (sw_sole h.1.1.2) ?_ rfl (ih rest h.2)
      rcases h.1.1.1.2 with z | z
      · exact sw_tup z
      · cases v <;> first | exact Bool.noConfusion (show false = true from z) | skip
        exact sw_none z
  | par i j p q a b k' ih =>
    intro st h
    · obtain ⟨⟨ts, kt, pt, v, pos, rest⟩, hv, h⟩ := optB_of h
      obtain ⟨⟨vs, k2, p2⟩, hv2, h⟩ := optB_of h
      obtain ⟨⟨t1, t2⟩, hv3, h⟩ := optB_of h
      obtain ⟨⟨ea, eb⟩, hv4, h⟩ := optB_of h
      obtain ⟨⟨x, px⟩, hv5, h⟩ := optB_of h
      obtain ⟨⟨y, py⟩, hv6, h⟩ := optB_of h
      rw [vAsgT_of hv, vTup_of hv2, vTwo_of hv3, vTwo_of hv4, vNm_of hv5, vNm_of hv6]
      simp only [Bool.and_eq_true, lcB, decide_eq_true_eq, Bool.not_eq_true', beq_iff_eq, beq_eq_false_iff_ne, Bool.or_eq_true] at h
      obtain ⟨⟨⟨⟨⟨⟨⟨⟨⟨⟨⟨⟨⟨⟨a1, a2⟩, ⟨a3, a4⟩⟩, a5⟩, a6⟩, a7⟩, a8⟩, a9⟩, b1⟩, b2⟩, b3⟩, b4⟩, b5⟩, b6⟩, b7⟩ := h
      have ka := lcl_of a2
      have kb := lcl_of a4
      refine ss_par C a1 a3 a5 ka kb (sw2_some hC.kind (by rw [C.sc]; exact ka) (by rw [C.sc]; exact kb) a7 a6 ⟨a8, a9⟩ b1 b2) ⟨a8, a9⟩ (fun z => ?_) (fun z => ?_) b5 b6 (ih rest b7)
      · rcases b3 with y | y
        · rw [z] at y; cases y
        · exact y
      · rcases b4 with y | y
        · rw [z] at y; cases y
        · exact y
  | par3 i j h' p q o a b d k' ih =>
    intro st h
    · obtain ⟨⟨ts, kt, pt, v, pos, rest⟩, hv, h⟩ := optB_of h
      obtain ⟨⟨vs, k2, p2⟩, hv2, h⟩ := optB_of h
      obtain ⟨⟨t1, t2, t3⟩, hv3, h⟩ := optB_of h
      obtain ⟨⟨ea, eb, ed⟩, hv4, h⟩ := optB_of h
      obtain ⟨⟨x, px⟩, hv5, h⟩ := optB_of h
      obtain ⟨⟨y, py⟩, hv6, h⟩ := optB_of h
      obtain ⟨⟨z, pz⟩, hv7, h⟩ := optB_of h
      rw [vAsgT_of hv, vTup_of hv2, vThree_of hv3, vThree_of hv4, vNm_of hv5, vNm_of hv6, vNm_of hv7]
      simp only [Bool.and_eq_true, lcB, decide_eq_true_eq, Bool.not_eq_true', beq_iff_eq, beq_eq_false_iff_ne, Bool.or_eq_true] at h
      obtain ⟨⟨⟨⟨⟨⟨⟨⟨⟨⟨⟨⟨⟨⟨⟨⟨⟨⟨⟨⟨⟨⟨⟨a1, a2⟩, ⟨a3, a4⟩⟩, ⟨a5, a6⟩⟩, n1⟩, n2⟩, n3⟩, m1⟩, m2⟩, m3⟩, l1⟩, l2⟩, s1⟩, s2⟩, s3⟩, f1⟩, f2⟩, b1⟩, b2⟩, b3⟩, c1⟩, c2⟩, c3⟩, c4⟩ := h
      have ka := lcl_of a2
      have kb := lcl_of a4
      have kc := lcl_of a6
      refine ss_par3 C a1 a3 a5 n1 n2 n3 ka kb kc (sw3_some hC.kind (by rw [C.sc]; exact ka) (by rw [C.sc]; exact kb) (by rw [C.sc]; exact kc) l1 l2 m1 m2 m3 ⟨s1, s2, s3⟩ f1 f2) ⟨s1, s2, s3⟩ (fun z => ?_) (fun z => ?_) (fun z => ?_) c1 c2 c3 (ih rest c4)
      · rcases b1 with y | y
        · rw [z] at y; cases y
        · exact y
      · rcases b2 with y | y
        · rw [z] at y; cases y
        · exact y
      · rcases b3 with y | y
        · rw [z] at y; cases y
        · exact y
  | ex e k' ih =>
    intro st h
    · obtain ⟨⟨v, pos, rest⟩, hv, h⟩ := optB_of h
      rw [vExpr_of hv]
      simp only [Bool.and_eq_true] at h
      exact ss_ex C ((good W T e).e C v h.1.2).1 (sw_comp h.1.1) (ih rest h.2)
  | ret e =>
    intro st h
    · obtain ⟨⟨v, pos, rest⟩, hv, h⟩ := optB_of h
      rw [vRet_of hv]
      exact ss_ret C ((good W T e).e C v h).1
  | reto i =>
    intro st h
    · obtain ⟨⟨v, pos, rest⟩, hv, h⟩ := optB_of h
      obtain ⟨⟨x, px⟩, hv2, h⟩ := optB_of h
      rw [vRet_of hv, vNm_of hv2]
      simp only [rdB, Bool.and_eq_true, decide_eq_true_eq, Bool.not_eq_true'] at h
      exact ss_reto C h.1.1.1 h.1.1.2 h.1.2 h.2
  | retf e =>
    intro st h
    · obtain ⟨⟨v, pos, rest⟩, hv, h⟩ := optB_of h
      rw [vRet_of hv]
      simp only [Bool.and_eq_true] at h
      exact ss_retf C (((good W T e).e C v h.2).2.2 h.1)
  | rai n =>
    intro st h
    · obtain ⟨⟨x, p, m, j, p2, p3, pos, rest⟩, hv, h⟩ := optB_of h
      rw [vRai_of hv]
      simp only [Bool.and_eq_true, decide_eq_true_eq] at h
      obtain ⟨e1, e2, e3, e4, e5⟩ := C.exn n x h.1
      obtain ⟨g1, g2⟩ := look_gl C h.2
      exact ss_rai C (pmk_own PySem.F.excBase_ValueError e3 e1 e2 (raises_own e4 e5) g1 g2)
  | ite e a b k' iha ihb ih =>
    intro st h
    · obtain ⟨⟨t, sa, sb, pos, rest⟩, hv, h⟩ := optB_of h
      rw [vIf_of hv]
      simp only [Bool.and_eq_true] at h
      exact ss_ite C ((good W T e).e C t h.1.1.1).2.1 (iha sa h.1.1.2) (ihb sb h.1.2) (ih rest h.2)
  | forE ik g it b k' ihb ih =>
    intro st h
    · obtain ⟨⟨tg, iter, sb, pos, rest⟩, hv, h⟩ := optB_of h
      rw [vFor_of hv]
      simp only at h
      rw [Bool.and_eq_true, Bool.and_eq_true, Bool.and_eq_true, Bool.and_eq_true] at h
      exact ss_for C hC.pass h.1.1.1.1 (iter_ok (good W T it) C h.1.1.2) (sg_tg C h.1.1.1.2) (ihb sb h.1.2) (ih rest h.2)
  | whl e b k' ihb ih =>
    intro st h
    · obtain ⟨⟨t, sb, pos, rest⟩, hv, h⟩ := optB_of h
      rw [vWhl_of hv]
      simp only [Bool.and_eq_true] at h
      exact ss_whl C hC.pass ((good W T e).e C t h.1.1).2.1 (ihb sb h.1.2) (ih rest h.2)
  | app i e k' ih =>
    intro st h
    · obtain ⟨⟨v0, pos, rest⟩, hv, h⟩ := optB_of h
      obtain ⟨⟨x, px, a, ap, v, cp⟩, hv2, h⟩ := optB_of h
      rw [vExpr_of hv, vMt1_of hv2]
      simp only [Bool.and_eq_true, rdB, decide_eq_true_eq, Bool.not_eq_true'] at h
      obtain ⟨⟨⟨⟨⟨⟨⟨⟨a1, a2⟩, a3⟩, a4⟩, a5⟩, a6⟩, a7⟩, a8⟩, a9⟩ := h
      subst a5
      exact ss_app C a1 a2 a3 a4 a6 a7 ((good W T e).e C v a8).1 (ih rest a9)
  | ext i e k' ih =>
    intro st h
    · obtain ⟨⟨v0, pos, rest⟩, hv, h⟩ := optB_of h
      obtain ⟨⟨x, px, a, ap, v, cp⟩, hv2, h⟩ := optB_of h
      rw [vExpr_of hv, vMt1_of hv2]
      simp only [Bool.and_eq_true, rdB, decide_eq_true_eq, Bool.not_eq_true'] at h
      obtain ⟨⟨⟨⟨⟨⟨a0, ⟨⟨⟨a1, a2⟩, a3⟩, a4⟩⟩, a5⟩, a6⟩, a7⟩, a8⟩, a9⟩ := h
      subst a5
      exact ss_ext C a1 a2 a3 a4 a6 a7 (((good W T e).e C v a8).2.2 a0) (ih rest a9)
  | pas k' ih =>
    intro st h
    · obtain ⟨⟨pos, rest⟩, hv, h⟩ := optB_of h
      rw [vPas_of hv]
      exact ss_pas C (ih rest h)
  | brk =>
    intro st h
    · obtain ⟨⟨pos, rest⟩, hv, h⟩ := optB_of h
      rw [vBrk_of hv]
      exact ss_brk C
  | sto i ix e k' ih =>
    intro st h
    · obtain ⟨⟨x, px, iv, ps, v, pos, rest⟩, hv, h⟩ := optB_of h
      rw [vSto_of hv]
      simp only [Bool.and_eq_true, rdB, decide_eq_true_eq, Bool.not_eq_true'] at h
      obtain ⟨⟨⟨⟨⟨⟨⟨⟨a1, a2⟩, a3⟩, a4⟩, b1⟩, b2⟩, b4⟩, b5⟩, b6⟩ := h
      exact ss_sto C a1 a2 a3 a4 b1 b2 ((good W T e).e C v b4).1 ((good W T ix).e C iv b5).1 (ih rest b6)
  | wip vs k' ih =>
    intro st h
    exact ss_wip C (ih st h)
end
end RF

end S_RFD
section S_RFE
set_option maxHeartbeats 8000000
/-! RFE: defs, the table of defs, the end. -/
namespace RF
open PySem PySem.Spec L2

/-- a def of the text, by its number in the table -/
structure Row where
  id : Nat
  x : Str
  qual : Str
  st : Stmt
  N : List Str
  ps : List Str
def fnScopeC (N ps : List Str) (sc : Scope) : Bool := (match sc.kind with | .function => true | _ => false) && !sc.isCoroutine && !sc.isGenerator && decide N.Nodup && decide (N.take ps.length = ps) &&
  (ps.all fun x => match sc.names.lookup x with | some .local => true | some .cell => true | _ => false) && (sc.names.all fun y => match y.2 with | .free => false | _ => true)
theorem fnScope_of {N ps : List Str} {sc : Scope} (h : fnScopeC N ps sc = true) : FnScope N ps sc := by
  simp only [fnScopeC, Bool.and_eq_true, Bool.not_eq_true', decide_eq_true_eq, List.all_eq_true] at h
  obtain ⟨⟨⟨⟨⟨⟨h1, h2⟩, h3⟩, h4⟩, h5⟩, h6⟩, h7⟩ := h
  refine ⟨?_, h2, h3, h4, h5, fun x hx => ?_, fun y hy e => ?_⟩
  · split at h1
    · assumption
    · cases h1
  · have q := h6 x hx
    split at q
    · exact .inl (by assumption)
    · exact .inr (by assumption)
    · cases q
  · have q := h7 y hy
    rw [e] at q
    cases q
/-- the names that all defs share -/
structure Gx where
  fns : Nat → Option Str
  gls : Nat → Option Str
  atr : List Str
  xcs : Nat → Option Str
  frs : Nat → Bool
  cls : Nat → Option Str
  mkn : Nat → Option Str
  m0 : Nat → Bool
  mts : Nat → Option Str
def ctxOf (G : Gx) (r : Row) : Ctx := ⟨r.N, defScope r.st, G.fns, G.gls, G.atr, G.xcs, G.frs, G.cls, G.mkn, G.m0, G.mts, true⟩
def chkFn (G : Gx) (r : Row) (fn : Fn) : Bool := (!G.frs r.id || fn.fr) && fnScopeC r.N r.ps (defScope r.st) && decide (fn.ar = r.ps.length) && decide (fn.sl = r.N.length) && decide (r.ps.length ≤ r.N.length) && chkS fn.body (ctxOf G r) (defBody r.st)
def chkRow (G : Gx) (tab : List Fn) (r : Row) : Bool := match tab[r.id]? with
  | some fn => chkFn G r fn
  | none => false
theorem chkRow_of {G : Gx} {tab : List Fn} {r : Row} (h : chkRow G tab r = true) : ∃ fn, tab[r.id]? = some fn ∧ chkFn G r fn = true := by
  unfold chkRow at h
  split at h
  · rename_i fn e; exact ⟨fn, e, h⟩
  · cases h
/-- the defs' names by their numbers -/
def namesOf (rows : List Row) (f : Nat) : Option Str := (rows.find? fun r => r.id == f).map (·.x)
theorem namesOf_of {rows : List Row} {f : Nat} {x : Str} (h : namesOf rows f = some x) : ∃ r ∈ rows, r.id = f ∧ r.x = x := by
  unfold namesOf at h
  cases e : rows.find? fun r => r.id == f with
  | none => rw [e] at h; cases h
  | some r =>
    rw [e] at h
    cases h
    exact ⟨r, List.mem_of_find?_eq_some e, by simpa using List.find?_some e, rfl⟩

section
variable {P : Program} {w : World} {W : Wd} {mg : Str → Option Value} {base : Heap} {T : Tab} {fuel k : Nat} {G : Gx}
/-- what the module tells of everything but the defs -/
structure Modl (P : Program) (w : World) (base : Heap) (W : Wd) (mg : Str → Option Value) (T : Tab) (G : Gx) : Prop where
  cls : ∀ (n : Nat) (C : Addr), W.cl n = some C → Clf W.K C ∧ W.cn n = (T.cf.cf n).map (fun i => G.atr.getD i "") ∧ (W.cn n).Nodup ∧ ∀ f ∈ W.cn n, NoAttr W.K C f
  isc : ∀ (n : Nat) (x : Str), G.cls n = some x → ∃ C, mg x = some (.ref C) ∧ (∀ (m : Nat) (C' : Addr), W.cl m = some C' → PySem.W.kitOne W.K (.ref C') (.ref C) = some (T.cf.sub m n)) ∧ ∀ t ∈ bltTypes, PySem.W.kitOne W.K (.type t) (.ref C) = some false
  mkc : ∀ (n : Nat) (x : Str), G.mkn n = some x → ∃ C fl, W.cl n = some C ∧ mg x = some (.ref C) ∧ T.cf.ini n = some fl ∧ G.m0 n = fl.isEmpty ∧ MkOk P w W.K mg base C (W.cn n) fl
  blt : ∀ x ∈ bltNames, mg x = none
  glb : ∀ (g : Nat) (x : Str) (d : D), G.gls g = some x → T.gl g = some d → ∃ v u, mg x = some u ∧ RelV v u ∧ ∀ S H, Dp W S H v d
  exn : ∀ (n : Nat) (x : Str), G.xcs n = some x → mg x = some (.ref (W.xc n)) ∧ PySem.W.keepIn W.K (.ref (W.xc n)) = true ∧ PySem.W.excIn W.K (W.xc n) [.type "ValueError", .type "Exception", .type "BaseException", .type "object"] "ValueError.__new__" = true ∧
    PySem.W.subIn W.K (.ref (W.xc n)) (.type "BaseException") = some true ∧ PySem.W.typeIn W.K (.ref (W.xc n)) = some (.type "type")
/-- what is known of the defs that may be called, at a level -/
structure Callees (P : Program) (w : World) (W : Wd) (mg : Str → Option Value) (base : Heap) (T : Tab) (k : Nat) (G : Gx) : Prop where
  fx : ∀ (f : Nat) (x : Str), G.fns f = some x → ∃ fa fd ps, mg x = some (.ref fa) ∧ PySem.W.keepIn W.K (.ref fa) = true ∧ Binds W.K fd ps [] ∧ (∀ ds, T.call f ds ≠ .bad → ds.length = ps.length) ∧ FnOk P w W.K mg base (L2.CX P w) (k + 2) fa fd ps (spD W ps.length (T.call f)) ∧
    (G.frs f = true → FnOk P w W.K mg base (L2.CX P w) (k + 2) fa fd ps (spF W ps.length (T.call f)))
  mx : ∀ (n m f : Nat) (x : Str) (C : Addr), T.cf.mt n m = some f → G.mts m = some x → W.cl n = some C → ∃ fa fd ps, x ∉ W.cn n ∧ Meth W.K C x fa ∧ Binds W.K fd ps [] ∧ (∀ ds, T.call f ds ≠ .bad → ds.length = ps.length) ∧ FnOk P w W.K mg base (L2.CX P w) (k + 2) fa fd ps (spD W ps.length (T.call f))
theorem Callees.fn {G : Gx} (h : Callees P w W mg base T k G) (f : Nat) (x : Str) (hf : G.fns f = some x) : ∃ fa fd ps, mg x = some (.ref fa) ∧ PySem.W.keepIn W.K (.ref fa) = true ∧ Binds W.K fd ps [] ∧ (∀ ds, T.call f ds ≠ .bad → ds.length = ps.length) ∧ FnOk P w W.K mg base (L2.CX P w) (k + 2) fa fd ps (spD W ps.length (T.call f)) :=
  let ⟨fa, fd, ps, h1, h2, h3, h4, h5, _⟩ := h.fx f x hf; ⟨fa, fd, ps, h1, h2, h3, h4, h5⟩
theorem Callees.fnf {G : Gx} (h : Callees P w W mg base T k G) (f : Nat) (x : Str) (hf : G.fns f = some x) (hr : G.frs f = true) : ∃ fa fd ps, mg x = some (.ref fa) ∧ PySem.W.keepIn W.K (.ref fa) = true ∧ Binds W.K fd ps [] ∧ (∀ ds, T.call f ds ≠ .bad → ds.length = ps.length) ∧ FnOk P w W.K mg base (L2.CX P w) (k + 2) fa fd ps (spF W ps.length (T.call f)) :=
  let ⟨fa, fd, ps, h1, h2, h3, h4, _, h6⟩ := h.fx f x hf; ⟨fa, fd, ps, h1, h2, h3, h4, h6 hr⟩
theorem rep_start {S : Addr → Prop} {H : Hp} {vs : List V} {ds : List D} {N : List Str} {n : Nat} (lv : ∀ a, S a → H a ≠ none) (r : Dps W S H vs ds) (hn : n = N.length - ds.length) (hl : ds.length ≤ N.length) : Rep W S H S (ds.map Slot.val ++ List.replicate n Slot.no) (L2.start N vs) H := by
  have noown : ∀ (i : Nat) l, (ds.map Slot.val ++ List.replicate n Slot.no)[i]? ≠ some (.own l) := fun i l h => by
    by_cases hi : i < (ds.map Slot.val).length
    · rw [List.getElem?_append_left hi, List.getElem?_map] at h
      cases e : ds[i]? with
      | none => rw [e] at h; cases h
      | some d => rw [e] at h; cases h
    · rw [List.getElem?_append_right (by omega), List.getElem?_replicate] at h
      split at h <;> cases h
  refine ⟨Step.refl lv, ?_, fun i d h => ?_, fun i l h => absurd h (noown i l), fun i j l m p h => absurd h (noown i l)⟩
  · unfold L2.start
    simp only [List.length_append, List.length_map, List.length_replicate]
    have := r.length
    omega
  · by_cases hi : i < (ds.map Slot.val).length
    · rw [List.getElem?_append_left hi, List.getElem?_map] at h
      cases e : ds[i]? with
      | none => rw [e] at h; cases h
      | some d' =>
        rw [e] at h
        cases h
        obtain ⟨v, h1, h2⟩ := r.get e
        exact ⟨v, start_get h1, h2⟩
    · rw [List.getElem?_append_right (by omega), List.getElem?_replicate] at h
      split at h <;> cases h
theorem run_len {fn : Fn} {ds : List D} (h : runFn T fuel fn ds ≠ .bad) : ds.length = fn.ar := by
  unfold runFn at h
  split at h
  · assumption
  · exact absurd rfl h
/-- a promise by either kind of end -/
def spX (W : Wd) (n : Nat) (fr : Bool) (f : List D → R D) : Sp := if fr = true then spF W n f else spD W n f
theorem spX_len {n : Nat} {fr : Bool} {f : List D → R D} {vs : List V} {H : Hp} {Q : VK} {E : XK} (h : spX W n fr f vs H Q E) : vs.length = n := by
  unfold spX at h
  split at h <;> exact h.1
/-- a checked def keeps its promise -/
theorem fn_okX {r : Row} {fn : Fn} {f : Addr} {fd : FuncData} (hc : chkFn G r fn = true) (F : Fun W.K r.x r.qual r.st f fd) (M : Modl P w base W mg T G) (Ca : Callees P w W mg base T k G) : FnOk P w W.K mg base (L2.CX P w) (k + 3) f fd r.ps (spX W r.ps.length fn.fr (runFn T fuel fn)) := by
  simp only [chkFn, Bool.and_eq_true, decide_eq_true_eq] at hc
  obtain ⟨⟨⟨⟨⟨_, h1⟩, h2⟩, h3⟩, h4⟩, h5⟩ := hc
  have SC := fnScope_of h1
  refine F.okX SC (fun vs H Q E h => spX_len h) (fun cdv A outer s H vs Q E hr h => ⟨tS W T fuel (fun _ => E) fn.body, ?_, ?_⟩)
  · have S : Sok W T k (fun _ => E) (ctxOf G r) (cxOf (L2.CX P w) P w W.K mg base r.N r.qual (defScope r.st) f cdv A outer s H E) :=
      { K := rfl, N := rfl, sc := rfl, nd := SC.nd, calm := rfl, room := hr, fnc := fun _ _ => rfl, fn := Ca.fn, fnf := Ca.fnf, blt := M.blt, glb := M.glb, takes := takes_of rfl rfl rfl rfl, exn := M.exn, cls := M.cls, isc := M.isc, mkc := M.mkc, mth := Ca.mx, df := rfl, kind := SC.kind, pass := passes_of rfl }
    exact sound S fn.body (defBody r.st) h5
  · intro dj
    have hl := spX_len h
    cases hfr : fn.fr with
    | false =>
      simp only [spX, hfr, Bool.false_eq_true, if_false] at h
      obtain ⟨S, ds, lv, rr, Pp⟩ := h.2 dj
      have hlen : ds.length = r.ps.length := by rw [← rr.length]; exact hl
      refine ⟨S, H, S, _, rep_start lv rr rfl (by omega), ?_⟩
      unfold runFn at Pp
      rw [if_pos (by omega)] at Pp
      have e1 : fn.sl - fn.ar = r.N.length - ds.length := by omega
      rw [e1] at Pp
      cases hx : exec T fuel fn.body (ds.map Slot.val ++ List.replicate (r.N.length - ds.length) Slot.no) with
      | ok o =>
        rw [hx, R.bind_ok] at Pp
        cases o with
        | nx ρ =>
          simp only [hfr, Bool.false_eq_true, if_false] at Pp
          exact fun S' σ' H' dj' r' kp => Pp _ S' H' dj' r'.step .non
        | rt fr d =>
          cases fr with
          | false =>
            simp only [hfr, Bool.false_eq_true, if_false] at Pp
            exact fun v S' H' dj' st p => Pp v S' H' dj' st p
          | true =>
            cases d with
            | lst l => exact fun p vs S' H' dj' st hp np e ps => Post.toF Pp p vs S' H' dj' st hp np e ps
            | _ => exact Pp.elim
        | bk ρ => exact Pp.elim
      | exc c => rw [hx] at Pp; exact fun σ' H' s' => Pp H' s'
      | bad => rw [hx] at Pp; exact Pp
    | true =>
      simp only [spX, hfr, if_true] at h
      obtain ⟨S, ds, lv, rr, Pp⟩ := h.2 dj
      have hlen : ds.length = r.ps.length := by rw [← rr.length]; exact hl
      refine ⟨S, H, S, _, rep_start lv rr rfl (by omega), ?_⟩
      unfold runFn at Pp
      rw [if_pos (by omega)] at Pp
      have e1 : fn.sl - fn.ar = r.N.length - ds.length := by omega
      rw [e1] at Pp
      cases hx : exec T fuel fn.body (ds.map Slot.val ++ List.replicate (r.N.length - ds.length) Slot.no) with
      | ok o =>
        rw [hx, R.bind_ok] at Pp
        cases o with
        | nx ρ => simp only [hfr, if_true] at Pp; exact Pp.elim
        | rt fr d =>
          cases fr with
          | false => simp only [hfr, if_true] at Pp; exact Pp.elim
          | true =>
            cases d with
            | lst l => exact fun p vs S' H' dj' st hp np e ps => Pp p vs S' H' dj' st hp np e ps
            | _ => exact Pp.elim
        | bk ρ => exact Pp.elim
      | exc c => rw [hx] at Pp; exact fun σ' H' s' => Pp H' s'
      | bad => rw [hx] at Pp; exact Pp
theorem spX_D {n : Nat} {fr : Bool} {f : List D → R D} {vs : List V} {H : Hp} {Q : VK} {E : XK} (h : spD W n f vs H Q E) : spX W n fr f vs H Q E := by
  unfold spX
  split
  · exact ⟨h.1, fun dj => let ⟨S, ds, a, b, c⟩ := h.2 dj; ⟨S, ds, a, b, c.toF⟩⟩
  · exact h
theorem fn_ok {r : Row} {fn : Fn} {f : Addr} {fd : FuncData} (hc : chkFn G r fn = true) (F : Fun W.K r.x r.qual r.st f fd) (M : Modl P w base W mg T G) (Ca : Callees P w W mg base T k G) : FnOk P w W.K mg base (L2.CX P w) (k + 3) f fd r.ps (spD W r.ps.length (runFn T fuel fn)) :=
  L2.FnOk.imp (fn_okX hc F M Ca) fun _ _ _ _ h => spX_D h
theorem fn_okF {r : Row} {fn : Fn} {f : Addr} {fd : FuncData} (hc : chkFn G r fn = true) (hr : G.frs r.id = true) (F : Fun W.K r.x r.qual r.st f fd) (M : Modl P w base W mg T G) (Ca : Callees P w W mg base T k G) : FnOk P w W.K mg base (L2.CX P w) (k + 3) f fd r.ps (spF W r.ps.length (runFn T fuel fn)) := by
  have h := fn_okX (fuel := fuel) hc F M Ca
  have e : fn.fr = true := by
    simp only [chkFn, hr, Bool.and_eq_true, Bool.not_true, Bool.false_or] at hc
    exact hc.1.1.1.1.1
  rw [e] at h
  exact h
/-- a method of a class, by its number in the table -/
structure MRow where
  c : Nat
  m : Nat
  r : Row
/-- the whole table -/
theorem all_ok {rows : List Row} {mrows : List MRow} {tab : List Fn} {cf : CT} {gl : Nat → Option D} (hG : G.fns = namesOf rows) (hc : rows.all (chkRow G tab) = true) (hcm : mrows.all (fun z => chkRow G tab z.r) = true)
    (F : ∀ r ∈ rows, ∃ fa fd, Fun W.K r.x r.qual r.st fa fd ∧ mg r.x = some (.ref fa) ∧ Binds W.K fd r.ps [])
    (Fm : ∀ z ∈ mrows, ∃ fa fd C, W.cl z.c = some C ∧ z.r.x ∉ W.cn z.c ∧ G.mts z.m = some z.r.x ∧ Fun W.K z.r.x z.r.qual z.r.st fa fd ∧ Meth W.K C z.r.x fa ∧ Binds W.K fd z.r.ps [])
    (hM : ∀ (n m f : Nat) (C : Addr) (x : Str), cf.mt n m = some f → G.mts m = some x → W.cl n = some C → ∃ z ∈ mrows, z.c = n ∧ z.m = m ∧ z.r.id = f)
    (M : ∀ T : Tab, T.gl = gl → T.cf = cf → Modl P w base W mg T G) :
    ∀ (n : Nat), Callees P w W mg base ⟨callF tab cf gl fuel n, cf, gl⟩ n G := by
  have arr : ∀ (n : Nat) (r : Row) fn, tab[r.id]? = some fn → fn.ar = r.ps.length → ∀ ds, callF tab cf gl fuel n r.id ds ≠ .bad → ds.length = r.ps.length := fun n r fn hr ha ds h => by
    cases n with
    | zero => exact absurd rfl h
    | succ n =>
      simp only [callF, hr] at h
      rw [run_len h, ha]
  have zD : ∀ (f : Nat) (fa : Addr) (fd : FuncData) (ps : List Str), FnOk P w W.K mg base (L2.CX P w) (0 + 2) fa fd ps (spD W ps.length (callF tab cf gl fuel 0 f)) := fun f fa fd ps => ⟨fun vs H Q E h => h.1, fun A outer s H args us vs Q E hr e0 hb hv h => by
    have dj : Disj W H := fun a o e => (e0.bs a o (e0.mod.kin a o e)).2
    obtain ⟨S, ds, lv, rr, Pp⟩ := h.2 dj
    exact (show False from Pp).elim⟩
  have zF : ∀ (f : Nat) (fa : Addr) (fd : FuncData) (ps : List Str), FnOk P w W.K mg base (L2.CX P w) (0 + 2) fa fd ps (spF W ps.length (callF tab cf gl fuel 0 f)) := fun f fa fd ps => ⟨fun vs H Q E h => h.1, fun A outer s H args us vs Q E hr e0 hb hv h => by
    have dj : Disj W H := fun a o e => (e0.bs a o (e0.mod.kin a o e)).2
    obtain ⟨S, ds, lv, rr, Pp⟩ := h.2 dj
    exact (show False from Pp).elim⟩
  have rowM : ∀ (n m f : Nat) (x : Str) (C : Addr), cf.mt n m = some f → G.mts m = some x → W.cl n = some C → ∃ (z : MRow) (fa : Addr) (fd : FuncData) (fn : Fn), z ∈ mrows ∧ z.r.id = f ∧ x ∉ W.cn n ∧ Meth W.K C x fa ∧ Fun W.K z.r.x z.r.qual z.r.st fa fd ∧ Binds W.K fd z.r.ps [] ∧ tab[z.r.id]? = some fn ∧ chkFn G z.r fn = true := by
    intro n m f x C h1 h2 h3
    obtain ⟨z, hz, rfl, rfl, rfl⟩ := hM n m f C x h1 h2 h3
    obtain ⟨fa, fd, C', g1, g2, g3, g4, g5, g6⟩ := Fm z hz
    rw [h3] at g1
    cases g1
    rw [h2] at g3
    cases g3
    obtain ⟨fn, hn, hc'⟩ := chkRow_of (List.all_eq_true.mp hcm z hz)
    exact ⟨z, fa, fd, fn, hz, rfl, g2, g5, g4, g6, hn, hc'⟩
  intro n
  induction n with
  | zero =>
    refine ⟨fun f x hx => ?_, fun n m f x C h1 h2 h3 => ?_⟩
    · rw [hG] at hx
      obtain ⟨r, hr, rfl, rfl⟩ := namesOf_of hx
      obtain ⟨fa, fd, h1, h2, h3⟩ := F r hr
      obtain ⟨fn, hn, hc'⟩ := chkRow_of (List.all_eq_true.mp hc r hr)
      simp only [chkFn, Bool.and_eq_true, decide_eq_true_eq] at hc'
      exact ⟨fa, fd, r.ps, h2, h1.kp, h3, arr 0 r fn hn hc'.1.1.1.2, zD r.id fa fd r.ps, fun _ => zF r.id fa fd r.ps⟩
    · obtain ⟨z, fa, fd, fn, hz, rfl, g2, g5, g4, g6, hn, hc'⟩ := rowM n m f x C h1 h2 h3
      simp only [chkFn, Bool.and_eq_true, decide_eq_true_eq] at hc'
      exact ⟨fa, fd, z.r.ps, g2, g5, g6, arr 0 z.r fn hn hc'.1.1.1.2, zD z.r.id fa fd z.r.ps⟩
  | succ n ih =>
    have cE : ∀ (r : Row) fn, tab[r.id]? = some fn → callF tab cf gl fuel (n + 1) r.id = runFn ⟨callF tab cf gl fuel n, cf, gl⟩ fuel fn := fun r fn hn => by
      funext ds
      simp only [callF, hn]
    refine ⟨fun f x hx => ?_, fun nn m f x C h1 h2 h3 => ?_⟩
    · rw [hG] at hx
      obtain ⟨r, hr, rfl, rfl⟩ := namesOf_of hx
      obtain ⟨fa, fd, h1, h2, h3⟩ := F r hr
      obtain ⟨fn, hn, hc'⟩ := chkRow_of (List.all_eq_true.mp hc r hr)
      have hc2 := hc'
      simp only [chkFn, Bool.and_eq_true, decide_eq_true_eq] at hc2
      have ok := fn_ok (T := ⟨callF tab cf gl fuel n, cf, gl⟩) (fuel := fuel) hc' h1 (M _ rfl rfl) ih
      refine ⟨fa, fd, r.ps, h2, h1.kp, h3, arr (n + 1) r fn hn hc2.1.1.1.2, ?_, fun hfr => ?_⟩
      · show FnOk P w W.K mg base (L2.CX P w) (n + 3) fa fd r.ps (spD W r.ps.length (callF tab cf gl fuel (n + 1) r.id))
        rw [cE r fn hn]
        exact ok
      · show FnOk P w W.K mg base (L2.CX P w) (n + 3) fa fd r.ps (spF W r.ps.length (callF tab cf gl fuel (n + 1) r.id))
        rw [cE r fn hn]
        exact fn_okF (T := ⟨callF tab cf gl fuel n, cf, gl⟩) (fuel := fuel) hc' hfr h1 (M _ rfl rfl) ih
    · obtain ⟨z, fa, fd, fn, hz, rfl, g2, g5, g4, g6, hn, hc'⟩ := rowM nn m f x C h1 h2 h3
      have hc2 := hc'
      simp only [chkFn, Bool.and_eq_true, decide_eq_true_eq] at hc2
      have ok := fn_ok (T := ⟨callF tab cf gl fuel n, cf, gl⟩) (fuel := fuel) hc' g4 (M _ rfl rfl) ih
      refine ⟨fa, fd, z.r.ps, g2, g5, g6, arr (n + 1) z.r fn hn hc2.1.1.1.2, ?_⟩
      show FnOk P w W.K mg base (L2.CX P w) (n + 3) fa fd z.r.ps (spD W z.r.ps.length (callF tab cf gl fuel (n + 1) z.r.id))
      rw [cE z.r fn hn]
      exact ok
theorem callF_row {tab : List Fn} {cf : CT} {gl : Nat → Option D} {n f : Nat} {fn : Fn} (hr : tab[f]? = some fn) : callF tab cf gl fuel (n + 1) f = runFn ⟨callF tab cf gl fuel n, cf, gl⟩ fuel fn := by
  funext ds
  simp only [callF, hr]
/-- the law's promise at its call -/
theorem law_sp {f : List D → R D} {a : Addr} {H : Hp} {ns : List Int} (hS : SqL W.K H a (ns.map V.int)) (hf : f [.lst (ns.map D.int)] = .ok (.bl true)) : spD W 1 f [.ref a] H (fun v _ => v = .bl true) fun _ _ _ => False := by
  refine ⟨rfl, fun dj => ?_⟩
  have dps : ∀ (S : Addr → Prop) (ns : List Int), Dps W S H (ns.map V.int) (ns.map D.int) := fun S ns => by
    induction ns with
    | nil => exact .nil
    | cons n r ih => exact .cons (.int n) ih
  have fin : ∀ S, Post W S H (f [.lst (ns.map D.int)]) (fun v _ => v = .bl true) fun _ _ _ => False := fun S => by
    rw [hf]
    exact fun v S' H' dj' st p => p.bl_of
  rcases hS with h | h
  · refine ⟨fun b => b = a, [.lst (ns.map D.int)], fun b e => ?_, .cons (.lst rfl h (dps _ ns)) .nil, fin _⟩
    subst e
    exact rd_some h
  · exact ⟨fun _ => False, [.lst (ns.map D.int)], fun b e => e.elim, .cons (.lstK h (dps _ ns)) .nil, fin _⟩
/-- the world of one law: its written part, its exceptions' addresses, its classes' -/
def injC : List (Nat × Addr) → Bool
  | [] => true
  | p :: r => r.all (fun q => !(p.2 == q.2)) && injC r
theorem injC_of : ∀ {cs : List (Nat × Addr)}, injC cs = true → ∀ c d C, cs.lookup c = some C → cs.lookup d = some C → c = d
  | [], _, c, d, C, h, _ => by cases h
  | p :: r, hi, c, d, C, h, h' => by
    simp only [injC, Bool.and_eq_true, List.all_eq_true, Bool.not_eq_true', beq_eq_false_iff_ne, ne_eq] at hi
    obtain ⟨a, b⟩ := p
    have mem : ∀ {e : Nat}, r.lookup e = some C → (e, C) ∈ r := fun {e} z => by
      clear hi h h'
      induction r with
      | nil => cases z
      | cons q r ih =>
        obtain ⟨x, y⟩ := q
        rw [List.lookup_cons] at z
        split at z
        · rename_i ee
          cases z
          rw [eq_of_beq ee]
          exact List.mem_cons_self
        · exact List.mem_cons_of_mem _ (ih z)
    rw [List.lookup_cons] at h h'
    split at h
    · rename_i e1
      cases h
      split at h'
      · rename_i e2
        rw [eq_of_beq e1, eq_of_beq e2]
      · exact absurd rfl (hi.1 (d, C) (mem h'))
    · split at h'
      · cases h'
        exact absurd rfl (hi.1 (c, C) (mem h))
      · exact injC_of hi.2 c d C h h'
def wd (K : PySem.W.Frag) (xs : List (Nat × Addr)) (cs : List (Nat × Addr)) (cn : Nat → List Str) (h : injC cs = true) : Wd := ⟨K, fun c => cs.lookup c, cn, fun n => (xs.lookup n).getD 0, injC_of h⟩
theorem walk_x {l : PySem.W.OpenLaw} {n k : Nat} {q : Program} {loose : List Str} {XP : (Str → Option Value) → Heap → Prop} {YP : World → Heap → Prop} {d : DefRec} {K : Params → PySem.W.Frag} {xs cs : List (Nat × Addr)} {cn : Nat → List Str} {hi : injC cs = true} {f : List D → R D} {x : Str}
    (hn : l.most = some n) (hn2 : n ≤ sizeLine) (hdf : d.params.defaults = []) (hr : Room k callerA)
    (hY : ∀ (w : World) (h : Heap), YP w h → (K w.params).In h)
    (F : ∀ (w : World) (mg : Str → Option Value) (fa : Addr) (h : Heap), (K w.params).In h → h.Ns mainGlobals mg → mg d.name = some (.ref fa) →
      ∃ fd : FuncData, (∀ (s : Shared) (u : Value), BindsTo s fd ⟨[u], []⟩ [(x, u)]) ∧
        ∀ base : Heap, (K w.params).In base → base.Ns mainGlobals mg → FnOk l.prog w (K w.params) mg base (L2.CX l.prog w) k fa fd [x] (spD (wd (K w.params) xs cs cn hi) 1 f))
    (hf : ∀ ns : List Int, ns.length ≤ n → (∀ z ∈ ns, Builtin.Int.intBits z ≤ 1048576) → f [.lst (ns.map D.int)] = .ok (.bl true)) :
    PySem.W.WalkO q loose XP YP l.row.toRowW d [] (fun f vs => PySem.call f vs) :=
  L2.walk_ofB (CX := fun w => L2.CX l.prog w) (sp := fun w => spD (wd (K w.params) xs cs cn hi) 1 f) hn hn2 hdf hr hY F (fun w H a ns hl hb hO hS => law_sp hS (hf ns hl hb)) fun w H s e s' h => by
    obtain ⟨_, _, _, _, _, _, _, _, _, _, _, _, z⟩ := h
    exact z
end
theorem kit_own {K : PySem.W.Frag} {t : Value} {C : Addr} {cd : ClassData} {b : Bool} (h1 : PySem.W.clsIn K C = some cd) (h2 : PySem.W.typeIn K (.ref C) = some (.type "type")) (h3 : PySem.W.subIn K t (.ref C) = some b) (h4 : (t == .ref C) = true → b = true) : PySem.W.kitOne K t (.ref C) = some b := by
  unfold PySem.W.kitOne
  split
  · rename_i h; rw [h4 h]
  · simp only [PySem.W.kitCls, h1, h2, Option.isSome_some, Bool.true_and, beq_self_eq_true, if_true]
    exact h3
theorem look_keys {α : Type} {l : List (Nat × α)} {g : Nat} {x : α} (h : l.lookup g = some x) : g ∈ l.map (·.1) := by
  induction l with
  | nil => cases h
  | cons p r ih =>
    obtain ⟨a, b⟩ := p
    rw [List.lookup_cons] at h
    split at h
    · rename_i e
      rw [eq_of_beq e]
      exact List.mem_cons_self
    · exact List.mem_cons_of_mem _ (ih h)
/-- every method of the classes at hand has its row -/
theorem mt_rows {mts : List (Nat × Nat × Nat)} {mrows : List MRow} {cs ms : List Nat} {n m f : Nat} (hc : (mts.all fun p => !cs.contains p.1 || !ms.contains p.2.1 || mrows.any fun z => z.c == p.1 && z.m == p.2.1 && z.r.id == p.2.2) = true)
    (h1 : (mts.find? fun p => p.1 == n && p.2.1 == m).map (·.2.2) = some f) (h2 : n ∈ cs) (h2' : m ∈ ms) : ∃ z ∈ mrows, z.c = n ∧ z.m = m ∧ z.r.id = f := by
  rw [Option.map_eq_some_iff] at h1
  obtain ⟨p, hp, rfl⟩ := h1
  have h3 := List.find?_some hp
  simp only [Bool.and_eq_true, beq_iff_eq] at h3
  have h4 := List.all_eq_true.mp hc p (List.mem_of_find?_eq_some hp)
  rw [Bool.or_eq_true, Bool.or_eq_true, List.any_eq_true] at h4
  rcases h4 with (h4 | h4) | ⟨z, hz, h5⟩
  · simp only [Bool.not_eq_true', List.contains_eq_mem, decide_eq_false_iff_not] at h4
    exact absurd (h3.1 ▸ h2) h4
  · simp only [Bool.not_eq_true', List.contains_eq_mem, decide_eq_false_iff_not] at h4
    exact absurd (h3.2 ▸ h2') h4
  · simp only [Bool.and_eq_true, beq_iff_eq] at h5
    exact ⟨z, hz, by rw [h5.1.1, h3.1], by rw [h5.1.2, h3.2], h5.2⟩
/-- the defs of a class -/
def clsB : Stmt → List Stmt
  | .ClassDef _ _ _ body _ _ _ _ _ _ _ => body
  | _ => []
theorem look_mem {α : Type} {l : List (Nat × α)} {g : Nat} {x : α} (h : l.lookup g = some x) : (g, x) ∈ l := by
  induction l with
  | nil => cases h
  | cons p r ih =>
    obtain ⟨a, b⟩ := p
    rw [List.lookup_cons] at h
    split at h
    · rename_i e
      cases h
      rw [eq_of_beq e]
      exact List.mem_cons_self
    · exact List.mem_cons_of_mem _ (ih h)
/-- how often a while may go round -/
def FU : Nat := 100000
def outR : Out → R D
  | .rt true d => asL d fun l => .ok (.lst l)
  | .rt false d => .ok d
  | .nx _ => .ok .non
  | .bk _ => .bad
/-- .. of a def that gives a new list -/
def outF : Out → R D
  | .rt true d => asL d fun l => .ok (.lst l)
  | .rt false _ => .bad
  | .nx _ => .bad
  | .bk _ => .bad
end RF

end S_RFE
section S_U
set_option maxHeartbeats 8000000
namespace RF
open PySem PySem.Spec L2
abbrev g_MOST_INPUTS : Nat := 0
abbrev g_MOST_STEPS : Nat := 1
abbrev g_MOST_RUN : Nat := 2
abbrev g_MOST_CHOICES : Nat := 3
abbrev g_MOST_TURNS : Nat := 4
abbrev g_KINDS : Nat := 5
abbrev g_ONE : Nat := 6
abbrev g_MOST_CARRIED : Nat := 7
abbrev g_NOUGHT : Nat := 8
abbrev g_HALF : Nat := 9
abbrev g_LEVEL : Nat := 10
abbrev g_STRAIGHT : Nat := 11
abbrev g_DOWN : Nat := 12
abbrev g_UP : Nat := 13
abbrev g_NONE : Nat := 14
abbrev x_BendError : Nat := 0
abbrev x_BadNumber : Nat := 1
abbrev x_BadProgram : Nat := 2
abbrev x_BadPlaces : Nat := 3
abbrev x_BadWays : Nat := 4
abbrev x_BadStretch : Nat := 5
abbrev x_BadPicture : Nat := 6
abbrev x_BadStep : Nat := 7
abbrev x_Others : Nat := 8
abbrev x_NoBack : Nat := 9
abbrev x_Jumpy : Nat := 10
abbrev f_is_whole : Nat := 0
abbrev f_common : Nat := 1
abbrev f_is_number : Nat := 2
abbrev f_asked_number : Nat := 3
abbrev f_lowest : Nat := 4
abbrev f_made : Nat := 5
abbrev f_add : Nat := 6
abbrev f_cut : Nat := 7
abbrev f_grow : Nat := 8
abbrev f_part : Nat := 9
abbrev f_lies : Nat := 10
abbrev f_plus : Nat := 11
abbrev f_less : Nat := 12
abbrev f_times : Nat := 13
abbrev f_over : Nat := 14
abbrev f_order : Nat := 15
abbrev f_is_ahead : Nat := 16
abbrev f_is_step : Nat := 17
abbrev f_is_turn : Nat := 18
abbrev f_are_steps : Nat := 19
abbrev f_counted : Nat := 20
abbrev f_asked_program : Nat := 21
abbrev f_size : Nat := 22
abbrev f_needs : Nat := 23
abbrev f_asked_few : Nat := 24
abbrev f_asked_places : Nat := 25
abbrev f_worth_of : Nat := 26
abbrev f_worths_of : Nat := 27
abbrev f_worths : Nat := 28
abbrev f_worth : Nat := 29
abbrev f_asked_ways : Nat := 30
abbrev f_sooner : Nat := 31
abbrev f_sign_of : Nat := 32
abbrev f_line_of : Nat := 33
abbrev f_lines_of : Nat := 34
abbrev f_begun : Nat := 35
abbrev f_moved : Nat := 36
abbrev f_side_of : Nat := 37
abbrev f_side : Nat := 38
abbrev f_Side_shows : Nat := 39
abbrev f_are_numbers : Nat := 40
abbrev f_is_piece : Nat := 41
abbrev f_asked_picture : Nat := 42
abbrev f_asked_stretch : Nat := 43
abbrev f_along : Nat := 44
abbrev f_picture : Nat := 45
abbrev f_piece_at : Nat := 46
abbrev f_told_at : Nat := 47
abbrev f_asked_within : Nat := 48
abbrev f_worth_at : Nat := 49
abbrev f_limits : Nat := 50
abbrev f_tidied : Nat := 51
abbrev f_tidy : Nat := 52
abbrev f_scaled : Nat := 53
abbrev f_mirrored : Nat := 54
abbrev f_line_at : Nat := 55
abbrev f_meeting : Nat := 56
abbrev f_asked_both : Nat := 57
abbrev f_merged : Nat := 58
abbrev f_crossed : Nat := 59
abbrev f_mixed : Nat := 60
abbrev f_together : Nat := 61
abbrev f_lesser_line : Nat := 62
abbrev f_lesser : Nat := 63
abbrev f_greater : Nat := 64
abbrev f_differing : Nat := 65
abbrev f_compared : Nat := 66
abbrev f_Alike_shows : Nat := 67
abbrev f_Differ_shows : Nat := 68
abbrev f_middle : Nat := 69
abbrev f_ends : Nat := 70
abbrev f_least_of : Nat := 71
abbrev f_least : Nat := 72
abbrev f_turned_over : Nat := 73
abbrev f_greatest : Nat := 74
abbrev f_spans : Nat := 75
abbrev f_joined : Nat := 76
abbrev f_area : Nat := 77
abbrev f_beside : Nat := 78
abbrev f_falling : Nat := 79
abbrev f_rising : Nat := 80
abbrev f_Rising_shows : Nat := 81
abbrev f_Falls_shows : Nat := 82
abbrev f_jumps : Nat := 83
abbrev f_backwards : Nat := 84
abbrev f_slope_at : Nat := 85
abbrev f_kinks : Nat := 86
abbrev f_dot : Nat := 87
abbrev f_apart_of : Nat := 88
abbrev f_sum_of : Nat := 89
abbrev f_leaning : Nat := 90
abbrev f_cone : Nat := 91
abbrev f_turn_of : Nat := 92
abbrev f_ahead : Nat := 93
abbrev f_rounded : Nat := 94
abbrev f_ways_of : Nat := 95
abbrev f_slopes_of : Nat := 96
abbrev f_flat : Nat := 97
abbrev f_Flat_shows : Nat := 98
abbrev f_Kinked_shows : Nat := 99
abbrev f_mixed_mark : Nat := 100
abbrev f_scaled_mark : Nat := 101
abbrev f_mark_of : Nat := 102
abbrev f_marks_of : Nat := 103
abbrev f_marks : Nat := 104
abbrev f_next_place : Nat := 105
abbrev f_next_at : Nat := 106
abbrev f_descent : Nat := 107
abbrev f_rests : Nat := 108
abbrev f_renamed : Nat := 109
abbrev f_laid : Nat := 110
abbrev f_unrolled_of : Nat := 111
abbrev f_shorter : Nat := 112
abbrev f_unrolled : Nat := 113
abbrev f_shortened : Nat := 114
abbrev f_ended : Nat := 115
abbrev f_behind : Nat := 116
abbrev f_stirred : Nat := 117
abbrev f_fixed : Nat := 118
abbrev f_carried : Nat := 119
abbrev f_tuned : Nat := 120
abbrev f_law_number : Nat := 121
abbrev f_law_low : Nat := 122
abbrev f_law_good : Nat := 123
abbrev f_law_share : Nat := 124
abbrev f_law_body : Nat := 125
abbrev f_law_program : Nat := 126
abbrev f_law_copied : Nat := 127
abbrev f_law_add : Nat := 128
abbrev f_law_by : Nat := 129
abbrev f_law_before : Nat := 130
abbrev f_law_places : Nat := 131
abbrev f_law_run : Nat := 132
abbrev f_law_put : Nat := 133
abbrev f_law_moved : Nat := 134
abbrev f_law_fields : Nat := 135
abbrev f_law_along : Nat := 136
abbrev f_law_worth : Nat := 137
abbrev f_law_is_picture : Nat := 138
abbrev f_law_fields2 : Nat := 139
abbrev f_law_spots : Nat := 140
abbrev f_law_stretch : Nat := 141
abbrev f_law_tidy : Nat := 142
abbrev f_law_hand : Nat := 143
abbrev f_law_in : Nat := 144
abbrev f_law_rises : Nat := 145
abbrev f_law_kinks : Nat := 146
abbrev f_law_leaning : Nat := 147
abbrev f_law_says : Nat := 148
abbrev f_law_bulging : Nat := 149
abbrev f_law_kinds : Nat := 150
abbrev f_law_refused : Nat := 151
abbrev f_law_all : Nat := 152
abbrev f_law_no_numbers : Nat := 153
abbrev c_Side : Nat := 0
abbrev c_Picture : Nat := 1
abbrev c_Answer : Nat := 2
abbrev c_Alike : Nat := 3
abbrev c_Differ : Nat := 4
abbrev c_Reached : Nat := 5
abbrev c_Near : Nat := 6
abbrev c_Rising : Nat := 7
abbrev c_Falls : Nat := 8
abbrev c_Smooth : Nat := 9
abbrev c_Bent : Nat := 10
abbrev c_Jumps : Nat := 11
abbrev c_Flat : Nat := 12
abbrev c_Kinked : Nat := 13
abbrev a_value : Nat := 0
abbrev a_beyond : Nat := 1
abbrev a_slope : Nat := 2
abbrev a_reach : Nat := 3
abbrev a_places : Nat := 4
abbrev a_worths : Nat := 5
abbrev a_pieces : Nat := 6
abbrev a_place : Nat := 7
abbrev a_up : Nat := 8
abbrev a_one : Nat := 9
abbrev a_other : Nat := 10
abbrev a_below : Nat := 11
abbrev a_above : Nat := 12
abbrev a_slopes : Nat := 13
abbrev m_0 : Nat := 0
abbrev m_1 : Nat := 1
abbrev m_2 : Nat := 2
abbrev m_3 : Nat := 3
abbrev m_4 : Nat := 4
/-- is_whole(thing): slots 0=thing -/
def b_is_whole : CS :=
  (.ret (.and (.isi (.var 0) .int) (.nt (.isi (.var 0) .bool))))
def l_common_0 : CS :=
  (.par 0 1 false false (.var 1) (.bin .mod (.var 0) (.var 1))
  .nil)
/-- common(one, other): slots 0=one 1=other -/
def b_common : CS :=
  (.par 0 1 false false (.bi .abs (.cons (.var 0) .nil)) (.bi .abs (.cons (.var 1) .nil))
  (.whl (.cmp .gt (.var 1) (.c (.int 0))) l_common_0
  (.wip [1] (.ret (.var 0)))))
/-- is_number(thing): slots 0=thing -/
def b_is_number : CS :=
  (.ite (.or (.nt (.isi (.var 0) .tuple)) (.or (.cmp .ne (.bi .len (.cons (.var 0) .nil)) (.c (.int 2))) (.or (.nt (.call f_is_whole (.cons (.idx (.var 0) (.c (.int 0))) .nil))) (.nt (.call f_is_whole (.cons (.idx (.var 0) (.c (.int 1))) .nil))))))
    (.ret (.c (.bl false)))
    .nil
  (.ret (.and (.cmp .gt (.idx (.var 0) (.c (.int 1))) (.c (.int 0))) (.cmp .eq (.call f_common (.cons (.idx (.var 0) (.c (.int 0))) (.cons (.idx (.var 0) (.c (.int 1))) .nil))) (.c (.int 1))))))
/-- asked_number(thing): slots 0=thing -/
def b_asked_number : CS :=
  (.ite (.nt (.call f_is_number (.cons (.var 0) .nil)))
    (.rai x_BadNumber)
    .nil
  .nil)
/-- lowest(above, below): slots 0=above 1=below 2=by -/
def b_lowest : CS :=
  (.set 2 (.call f_common (.cons (.var 0) (.cons (.var 1) .nil)))
  (.ite (.cmp .lt (.var 1) (.c (.int 0)))
    (.set 2 (.neg (.var 2))
      .nil)
    .nil
  (.ret (.tup (.cons (.bin .fdiv (.var 0) (.var 2)) (.cons (.bin .fdiv (.var 1) (.var 2)) .nil))))))
/-- made(above, below): slots 0=above 1=below -/
def b_made : CS :=
  (.ite (.or (.nt (.call f_is_whole (.cons (.var 0) .nil))) (.or (.nt (.call f_is_whole (.cons (.var 1) .nil))) (.cmp .eq (.var 1) (.c (.int 0)))))
    (.rai x_BadNumber)
    .nil
  (.ret (.call f_lowest (.cons (.var 0) (.cons (.var 1) .nil)))))
/-- add(one, other): slots 0=one 1=other -/
def b_add : CS :=
  (.ret (.call f_lowest (.cons (.bin .add (.bin .mul (.idx (.var 0) (.c (.int 0))) (.idx (.var 1) (.c (.int 1)))) (.bin .mul (.idx (.var 1) (.c (.int 0))) (.idx (.var 0) (.c (.int 1))))) (.cons (.bin .mul (.idx (.var 0) (.c (.int 1))) (.idx (.var 1) (.c (.int 1)))) .nil))))
/-- cut(one, other): slots 0=one 1=other -/
def b_cut : CS :=
  (.ret (.call f_lowest (.cons (.bin .sub (.bin .mul (.idx (.var 0) (.c (.int 0))) (.idx (.var 1) (.c (.int 1)))) (.bin .mul (.idx (.var 1) (.c (.int 0))) (.idx (.var 0) (.c (.int 1))))) (.cons (.bin .mul (.idx (.var 0) (.c (.int 1))) (.idx (.var 1) (.c (.int 1)))) .nil))))
/-- grow(one, other): slots 0=one 1=other -/
def b_grow : CS :=
  (.ret (.call f_lowest (.cons (.bin .mul (.idx (.var 0) (.c (.int 0))) (.idx (.var 1) (.c (.int 0)))) (.cons (.bin .mul (.idx (.var 0) (.c (.int 1))) (.idx (.var 1) (.c (.int 1)))) .nil))))
/-- part(one, other): slots 0=one 1=other -/
def b_part : CS :=
  (.ret (.call f_lowest (.cons (.bin .mul (.idx (.var 0) (.c (.int 0))) (.idx (.var 1) (.c (.int 1)))) (.cons (.bin .mul (.idx (.var 0) (.c (.int 1))) (.idx (.var 1) (.c (.int 0)))) .nil))))
/-- lies(one, other): slots 0=one 1=other 2=apart -/
def b_lies : CS :=
  (.set 2 (.bin .sub (.bin .mul (.idx (.var 0) (.c (.int 0))) (.idx (.var 1) (.c (.int 1)))) (.bin .mul (.idx (.var 1) (.c (.int 0))) (.idx (.var 0) (.c (.int 1)))))
  (.ret (.ife (.cmp .gt (.var 2) (.c (.int 0))) (.c (.int 1)) (.ife (.cmp .lt (.var 2) (.c (.int 0))) (.neg (.c (.int 1))) (.c (.int 0))))))
/-- plus(one, other): slots 0=one 1=other -/
def b_plus : CS :=
  (.ex (.call f_asked_number (.cons (.var 0) .nil))
  (.ex (.call f_asked_number (.cons (.var 1) .nil))
  (.ret (.call f_add (.cons (.var 0) (.cons (.var 1) .nil))))))
/-- less(one, other): slots 0=one 1=other -/
def b_less : CS :=
  (.ex (.call f_asked_number (.cons (.var 0) .nil))
  (.ex (.call f_asked_number (.cons (.var 1) .nil))
  (.ret (.call f_cut (.cons (.var 0) (.cons (.var 1) .nil))))))
/-- times(one, other): slots 0=one 1=other -/
def b_times : CS :=
  (.ex (.call f_asked_number (.cons (.var 0) .nil))
  (.ex (.call f_asked_number (.cons (.var 1) .nil))
  (.ret (.call f_grow (.cons (.var 0) (.cons (.var 1) .nil))))))
/-- over(one, other): slots 0=one 1=other -/
def b_over : CS :=
  (.ex (.call f_asked_number (.cons (.var 0) .nil))
  (.ex (.call f_asked_number (.cons (.var 1) .nil))
  (.ite (.cmp .eq (.idx (.var 1) (.c (.int 0))) (.c (.int 0)))
    (.rai x_BadNumber)
    .nil
  (.ret (.call f_part (.cons (.var 0) (.cons (.var 1) .nil)))))))
/-- order(one, other): slots 0=one 1=other -/
def b_order : CS :=
  (.ex (.call f_asked_number (.cons (.var 0) .nil))
  (.ex (.call f_asked_number (.cons (.var 1) .nil))
  (.ret (.call f_lies (.cons (.var 0) (.cons (.var 1) .nil))))))
/-- is_ahead(thing, at): slots 0=thing 1=at -/
def b_is_ahead : CS :=
  (.ret (.and (.call f_is_whole (.cons (.var 0) .nil)) (.cmp2 .le .lt (.c (.int 0)) (.var 0) (.var 1))))
/-- is_step(step, at, inputs, depth): slots 0=step 1=at 2=inputs 3=depth 4=kind 5=one -/
def b_is_step : CS :=
  (.ite (.or (.nt (.isi (.var 0) .tuple)) (.or (.cmp .lt (.bi .len (.cons (.var 0) .nil)) (.c (.int 2))) (.or (.cmp .nin (.idx (.var 0) (.c (.int 0))) (.glb g_KINDS)) (.nt (.isi (.idx (.var 0) (.c (.int 0))) .str)))))
    (.ret (.c (.bl false)))
    .nil
  (.set 4 (.idx (.var 0) (.c (.int 0)))
  (.ite (.cmp .eq (.var 4) (.c (.str "is")))
    (.ret (.and (.cmp .eq (.bi .len (.cons (.var 0) .nil)) (.c (.int 2))) (.call f_is_number (.cons (.idx (.var 0) (.c (.int 1))) .nil))))
    .nil
  (.ite (.cmp .eq (.var 4) (.c (.str "in")))
    (.ret (.and (.cmp .eq (.bi .len (.cons (.var 0) .nil)) (.c (.int 2))) (.and (.call f_is_whole (.cons (.idx (.var 0) (.c (.int 1))) .nil)) (.cmp2 .le .lt (.c (.int 0)) (.idx (.var 0) (.c (.int 1))) (.var 2)))))
    .nil
  (.ite (.cmp .eq (.var 4) (.c (.str "by")))
    (.ret (.and (.cmp .eq (.bi .len (.cons (.var 0) .nil)) (.c (.int 3))) (.and (.call f_is_number (.cons (.idx (.var 0) (.c (.int 1))) .nil)) (.call f_is_ahead (.cons (.idx (.var 0) (.c (.int 2))) (.cons (.var 1) .nil))))))
    .nil
  (.ite (.cmp .eq (.var 4) (.c (.str "if")))
    (.ret (.and (.cmp .eq (.bi .len (.cons (.var 0) .nil)) (.c (.int 4))) (.bi .all (.cons (.comp .seq (.nm 5) [5] (.sl (.var 0) (.c (.int 1)) .nil) .nil (.call f_is_ahead (.cons (.var 5) (.cons (.var 1) .nil)))) .nil))))
    .nil
  (.ite (.cmp .eq (.var 4) (.c (.str "turns")))
    (.ret (.call f_is_turn (.cons (.var 0) (.cons (.var 1) (.cons (.var 3) .nil)))))
    .nil
  (.ret (.and (.cmp .eq (.bi .len (.cons (.var 0) .nil)) (.c (.int 3))) (.and (.call f_is_ahead (.cons (.idx (.var 0) (.c (.int 1))) (.cons (.var 1) .nil))) (.call f_is_ahead (.cons (.idx (.var 0) (.c (.int 2))) (.cons (.var 1) .nil)))))))))))))
/-- is_turn(step, at, depth): slots 0=step 1=at 2=depth -/
def b_is_turn : CS :=
  (.ite (.or (.cmp .ne (.bi .len (.cons (.var 0) .nil)) (.c (.int 4))) (.or (.cmp .gt (.var 2) (.c (.int 0))) (.or (.nt (.call f_is_whole (.cons (.idx (.var 0) (.c (.int 1))) .nil))) (.nt (.cmp2 .le .le (.c (.int 0)) (.idx (.var 0) (.c (.int 1))) (.glb g_MOST_TURNS))))))
    (.ret (.c (.bl false)))
    .nil
  (.ret (.and (.call f_is_ahead (.cons (.idx (.var 0) (.c (.int 2))) (.cons (.var 1) .nil))) (.call f_are_steps (.cons (.idx (.var 0) (.c (.int 3))) (.cons (.c (.int 1)) (.cons (.bin .add (.var 2) (.c (.int 1))) .nil)))))))
/-- are_steps(steps, inputs, depth): slots 0=steps 1=inputs 2=depth 3=at 4=step -/
def b_are_steps : CS :=
  (.ite (.or (.nt (.isi (.var 0) .list)) (.nt (.cmp2 .le .le (.c (.int 1)) (.bi .len (.cons (.var 0) .nil)) (.glb g_MOST_STEPS))))
    (.ret (.c (.bl false)))
    .nil
  (.ret (.bi .all (.cons (.comp .enum (.tp [3, 4]) [3, 4] (.cons (.var 0) .nil) .nil (.call f_is_step (.cons (.var 4) (.cons (.var 3) (.cons (.var 1) (.cons (.var 2) .nil)))))) .nil))))
def l_counted_0 : CS :=
  (.set 1 (.bin .add (.var 1) (.c (.int 1)))
  (.ite (.cmp .inn (.idx (.var 3) (.c (.int 0))) (.tup (.cons (.c (.str "least")) (.cons (.c (.str "most")) (.cons (.c (.str "if")) .nil)))))
    (.set 2 (.bin .add (.var 2) (.c (.int 1)))
      .nil)
    .nil
  (.ite (.cmp .eq (.idx (.var 3) (.c (.int 0))) (.c (.str "turns")))
    (.set 4 (.call f_counted (.cons (.idx (.var 3) (.c (.int 3))) .nil))
      (.par 1 2 false false (.bin .add (.var 1) (.bin .mul (.idx (.var 3) (.c (.int 1))) (.idx (.var 4) (.c (.int 0))))) (.bin .add (.var 2) (.bin .mul (.idx (.var 3) (.c (.int 1))) (.idx (.var 4) (.c (.int 1)))))
      .nil))
    .nil
  (.wip [3, 4] .nil))))
/-- counted(steps): slots 0=steps 1=run 2=choices 3=step 4=inner -/
def b_counted : CS :=
  (.unp [1, 2] (.tup (.cons (.c (.int 0)) (.cons (.c (.int 0)) .nil)))
  (.forE .seq (.nm 3) (.var 0) l_counted_0
  (.wip [3, 4] (.ret (.tup (.cons (.var 1) (.cons (.var 2) .nil)))))))
/-- asked_program(program): slots 0=program 1=run 2=choices -/
def b_asked_program : CS :=
  (.ite (.or (.nt (.isi (.var 0) .tuple)) (.or (.cmp .ne (.bi .len (.cons (.var 0) .nil)) (.c (.int 2))) (.nt (.call f_is_whole (.cons (.idx (.var 0) (.c (.int 0))) .nil)))))
    (.rai x_BadProgram)
    .nil
  (.ite (.or (.nt (.cmp2 .le .le (.c (.int 1)) (.idx (.var 0) (.c (.int 0))) (.glb g_MOST_INPUTS))) (.nt (.call f_are_steps (.cons (.idx (.var 0) (.c (.int 1))) (.cons (.idx (.var 0) (.c (.int 0))) (.cons (.c (.int 0)) .nil))))))
    (.rai x_BadProgram)
    .nil
  (.unp [1, 2] (.call f_counted (.cons (.idx (.var 0) (.c (.int 1))) .nil))
  (.ite (.or (.cmp .gt (.var 1) (.glb g_MOST_RUN)) (.cmp .gt (.var 2) (.glb g_MOST_CHOICES)))
    (.rai x_BadProgram)
    .nil
  .nil))))
/-- size(program): slots 0=program -/
def b_size : CS :=
  (.ex (.call f_asked_program (.cons (.var 0) .nil))
  (.ret (.call f_counted (.cons (.idx (.var 0) (.c (.int 1))) .nil))))
/-- needs(step): slots 0=step -/
def b_needs : CS :=
  (.ite (.cmp .inn (.idx (.var 0) (.c (.int 0))) (.tup (.cons (.c (.str "is")) (.cons (.c (.str "in")) .nil))))
    (.ret (.lst .nil))
    .nil
  (.ite (.cmp .inn (.idx (.var 0) (.c (.int 0))) (.tup (.cons (.c (.str "by")) (.cons (.c (.str "turns")) .nil))))
    (.ret (.lst (.cons (.idx (.var 0) (.c (.int 2))) .nil)))
    .nil
  (.ret (.bi .list (.cons (.sl (.var 0) (.c (.int 1)) .nil) .nil)))))
/-- asked_few(programs, many, choices): slots 0=programs 1=many 2=choices 3=counts 4=program 5=count -/
def b_asked_few : CS :=
  (.set 3 (.comp .seq (.nm 4) [4] (.var 0) .nil (.call f_counted (.cons (.idx (.var 4) (.c (.int 1))) .nil)))
  (.ite (.or (.cmp .gt (.bi .sum (.cons (.comp .seq (.nm 5) [5] (.var 3) .nil (.idx (.var 5) (.c (.int 0)))) .nil)) (.var 1)) (.cmp .gt (.bi .sum (.cons (.comp .seq (.nm 5) [5] (.var 3) .nil (.idx (.var 5) (.c (.int 1)))) .nil)) (.var 2)))
    (.rai x_BadProgram)
    .nil
  .nil))
/-- asked_places(program, places): slots 0=program 1=places 2=one -/
def b_asked_places : CS :=
  (.ite (.or (.nt (.isi (.var 1) .list)) (.or (.cmp .ne (.bi .len (.cons (.var 1) .nil)) (.idx (.var 0) (.c (.int 0)))) (.nt (.bi .all (.cons (.comp .seq (.nm 2) [2] (.var 1) .nil (.call f_is_number (.cons (.var 2) .nil))) .nil)))))
    (.rai x_BadPlaces)
    .nil
  .nil)
def l_worth_of_0 : CS :=
  (.set 4 (.idx (.call f_worths_of (.cons (.idx (.var 0) (.c (.int 3))) (.cons (.lst (.cons (.var 4) .nil)) .nil))) (.neg (.c (.int 1))))
  (.wip [5] .nil))
/-- worth_of(step, found, places): slots 0=step 1=found 2=places 3=kind 4=worth 5=turn 6=one 7=other 8=lesser -/
def b_worth_of : CS :=
  (.set 3 (.idx (.var 0) (.c (.int 0)))
  (.ite (.cmp .eq (.var 3) (.c (.str "is")))
    (.ret (.idx (.var 0) (.c (.int 1))))
    .nil
  (.ite (.cmp .eq (.var 3) (.c (.str "in")))
    (.ret (.idx (.var 2) (.idx (.var 0) (.c (.int 1)))))
    .nil
  (.ite (.cmp .eq (.var 3) (.c (.str "by")))
    (.ret (.call f_grow (.cons (.idx (.var 0) (.c (.int 1))) (.cons (.idx (.var 1) (.idx (.var 0) (.c (.int 2)))) .nil))))
    .nil
  (.ite (.cmp .eq (.var 3) (.c (.str "if")))
    (.ret (.ife (.cmp .le (.idx (.idx (.var 1) (.idx (.var 0) (.c (.int 1)))) (.c (.int 0))) (.c (.int 0))) (.idx (.var 1) (.idx (.var 0) (.c (.int 2)))) (.idx (.var 1) (.idx (.var 0) (.c (.int 3))))))
    .nil
  (.ite (.cmp .eq (.var 3) (.c (.str "turns")))
    (.set 4 (.idx (.var 1) (.idx (.var 0) (.c (.int 2))))
      (.forE .rng (.nm 5) (.cons (.idx (.var 0) (.c (.int 1))) .nil) l_worth_of_0
      (.wip [5] (.ret (.var 4)))))
    .nil
  (.par 6 7 false false (.idx (.var 1) (.idx (.var 0) (.c (.int 1)))) (.idx (.var 1) (.idx (.var 0) (.c (.int 2))))
  (.ite (.cmp .eq (.var 3) (.c (.str "sum")))
    (.ret (.call f_add (.cons (.var 6) (.cons (.var 7) .nil))))
    .nil
  (.set 8 (.cmp .le (.call f_lies (.cons (.var 6) (.cons (.var 7) .nil))) (.c (.int 0)))
  (.ret (.ife (.cmp .eq (.var 8) (.cmp .eq (.var 3) (.c (.str "least")))) (.var 6) (.var 7))))))))))))
def l_worths_of_0 : CS :=
  (.app 2 (.call f_worth_of (.cons (.var 3) (.cons (.var 2) (.cons (.var 1) .nil))))
  (.wip [3] .nil))
/-- worths_of(steps, places): slots 0=steps 1=places 2=found 3=step -/
def b_worths_of : CS :=
  (.own 2 (.lst .nil)
  (.forE .seq (.nm 3) (.var 0) l_worths_of_0
  (.wip [3] (.reto 2))))
/-- worths(program, places): slots 0=program 1=places -/
def b_worths : CS :=
  (.ex (.call f_asked_program (.cons (.var 0) .nil))
  (.ex (.call f_asked_places (.cons (.var 0) (.cons (.var 1) .nil)))
  (.retf (.callf f_worths_of (.cons (.idx (.var 0) (.c (.int 1))) (.cons (.var 1) .nil))))))
/-- worth(program, places): slots 0=program 1=places -/
def b_worth : CS :=
  (.ex (.call f_asked_program (.cons (.var 0) .nil))
  (.ex (.call f_asked_places (.cons (.var 0) (.cons (.var 1) .nil)))
  (.ret (.idx (.call f_worths_of (.cons (.idx (.var 0) (.c (.int 1))) (.cons (.var 1) .nil))) (.neg (.c (.int 1)))))))
/-- asked_ways(program, ways): slots 0=program 1=ways 2=one -/
def b_asked_ways : CS :=
  (.ite (.or (.nt (.isi (.var 1) .list)) (.or (.cmp .ne (.bi .len (.cons (.var 1) .nil)) (.idx (.var 0) (.c (.int 0)))) (.nt (.bi .all (.cons (.comp .seq (.nm 2) [2] (.var 1) .nil (.call f_is_number (.cons (.var 2) .nil))) .nil)))))
    (.rai x_BadWays)
    .nil
  .nil)
/-- sooner(one, other): slots 0=one 1=other -/
def b_sooner : CS :=
  (.ite (.cmp .isN (.var 0) (.c .non))
    (.ret (.var 1))
    .nil
  (.ite (.or (.cmp .isN (.var 1) (.c .non)) (.cmp .le (.call f_lies (.cons (.var 0) (.cons (.var 1) .nil))) (.c (.int 0))))
    (.ret (.var 0))
    .nil
  (.ret (.var 1))))
/-- sign_of(line): slots 0=line 1=begin 2=slope 3=sign -/
def b_sign_of : CS :=
  (.unp [1, 2] (.var 0)
  (.ite (.cmp .eq (.idx (.var 1) (.c (.int 0))) (.c (.int 0)))
    (.ret (.tup (.cons (.call f_lies (.cons (.var 2) (.cons (.glb g_NOUGHT) .nil))) (.cons (.c .non) .nil))))
    .nil
  (.set 3 (.call f_lies (.cons (.var 1) (.cons (.glb g_NOUGHT) .nil)))
  (.ite (.or (.cmp .eq (.idx (.var 2) (.c (.int 0))) (.c (.int 0))) (.cmp .eq (.call f_lies (.cons (.var 2) (.cons (.glb g_NOUGHT) .nil))) (.var 3)))
    (.ret (.tup (.cons (.var 3) (.cons (.c .non) .nil))))
    .nil
  (.ret (.tup (.cons (.var 3) (.cons (.call f_part (.cons (.call f_cut (.cons (.glb g_NOUGHT) (.cons (.var 1) .nil))) (.cons (.var 2) .nil))) .nil))))))))
def l_line_of_0 : CS :=
  (.unp [10, 11] (.call f_lines_of (.cons (.idx (.var 0) (.c (.int 3))) (.cons (.lst (.cons (.var 8) .nil)) .nil)))
  (.par 8 7 false false (.idx (.var 10) (.neg (.c (.int 1)))) (.call f_sooner (.cons (.var 7) (.cons (.var 11) .nil)))
  (.wip [9, 10, 11] .nil)))
/-- line_of(step, found, begins): slots 0=step 1=found 2=begins 3=kind 4=begin 5=slope 6=sign 7=reach 8=line 9=turn 10=lines 11=more 12=one 13=other -/
def b_line_of : CS :=
  (.set 3 (.idx (.var 0) (.c (.int 0)))
  (.ite (.cmp .eq (.var 3) (.c (.str "is")))
    (.ret (.tup (.cons (.tup (.cons (.idx (.var 0) (.c (.int 1))) (.cons (.glb g_NOUGHT) .nil))) (.cons (.c .non) .nil))))
    .nil
  (.ite (.cmp .eq (.var 3) (.c (.str "in")))
    (.ret (.tup (.cons (.idx (.var 2) (.idx (.var 0) (.c (.int 1)))) (.cons (.c .non) .nil))))
    .nil
  (.ite (.cmp .eq (.var 3) (.c (.str "by")))
    (.unp [4, 5] (.idx (.var 1) (.idx (.var 0) (.c (.int 2))))
      (.ret (.tup (.cons (.tup (.cons (.call f_grow (.cons (.idx (.var 0) (.c (.int 1))) (.cons (.var 4) .nil))) (.cons (.call f_grow (.cons (.idx (.var 0) (.c (.int 1))) (.cons (.var 5) .nil))) .nil))) (.cons (.c .non) .nil)))))
    .nil
  (.ite (.cmp .eq (.var 3) (.c (.str "if")))
    (.unp [6, 7] (.call f_sign_of (.cons (.idx (.var 1) (.idx (.var 0) (.c (.int 1)))) .nil))
      (.ret (.tup (.cons (.ife (.cmp .le (.var 6) (.c (.int 0))) (.idx (.var 1) (.idx (.var 0) (.c (.int 2)))) (.idx (.var 1) (.idx (.var 0) (.c (.int 3))))) (.cons (.var 7) .nil)))))
    .nil
  (.ite (.cmp .eq (.var 3) (.c (.str "turns")))
    (.par 8 7 false false (.idx (.var 1) (.idx (.var 0) (.c (.int 2)))) (.c .non)
      (.forE .rng (.nm 9) (.cons (.idx (.var 0) (.c (.int 1))) .nil) l_line_of_0
      (.wip [9, 10, 11] (.ret (.tup (.cons (.var 8) (.cons (.var 7) .nil)))))))
    .nil
  (.par 12 13 false false (.idx (.var 1) (.idx (.var 0) (.c (.int 1)))) (.idx (.var 1) (.idx (.var 0) (.c (.int 2))))
  (.ite (.cmp .eq (.var 3) (.c (.str "sum")))
    (.ret (.tup (.cons (.tup (.cons (.call f_add (.cons (.idx (.var 12) (.c (.int 0))) (.cons (.idx (.var 13) (.c (.int 0))) .nil))) (.cons (.call f_add (.cons (.idx (.var 12) (.c (.int 1))) (.cons (.idx (.var 13) (.c (.int 1))) .nil))) .nil))) (.cons (.c .non) .nil))))
    .nil
  (.unp [6, 7] (.call f_sign_of (.cons (.tup (.cons (.call f_cut (.cons (.idx (.var 12) (.c (.int 0))) (.cons (.idx (.var 13) (.c (.int 0))) .nil))) (.cons (.call f_cut (.cons (.idx (.var 12) (.c (.int 1))) (.cons (.idx (.var 13) (.c (.int 1))) .nil))) .nil))) .nil))
  (.ret (.tup (.cons (.ife (.cmp .eq (.cmp .le (.var 6) (.c (.int 0))) (.cmp .eq (.var 3) (.c (.str "least")))) (.var 12) (.var 13)) (.cons (.var 7) .nil)))))))))))))
def l_lines_of_0 : CS :=
  (.unp [5, 6] (.call f_line_of (.cons (.var 4) (.cons (.var 2) (.cons (.var 1) .nil))))
  (.app 2 (.var 5)
  (.set 3 (.call f_sooner (.cons (.var 3) (.cons (.var 6) .nil)))
  (.wip [4, 5, 6] .nil))))
/-- lines_of(steps, begins): slots 0=steps 1=begins 2=found 3=reach 4=step 5=line 6=more -/
def b_lines_of : CS :=
  (.par 2 3 true false (.lst .nil) (.c .non)
  (.forE .seq (.nm 4) (.var 0) l_lines_of_0
  (.wip [4, 5, 6] (.ret (.tup (.cons (.var 2) (.cons (.var 3) .nil)))))))
/-- begun(places, ways): slots 0=places 1=ways 2=place 3=way -/
def b_begun : CS :=
  (.ret (.comp .zip (.tp [2, 3]) [2, 3] (.cons (.var 0) (.cons (.var 1) .nil)) .nil (.tup (.cons (.var 2) (.cons (.var 3) .nil)))))
/-- moved(places, ways, far): slots 0=places 1=ways 2=far 3=place 4=way -/
def b_moved : CS :=
  (.ret (.comp .zip (.tp [3, 4]) [3, 4] (.cons (.var 0) (.cons (.var 1) .nil)) .nil (.call f_add (.cons (.var 3) (.cons (.call f_grow (.cons (.var 2) (.cons (.var 4) .nil))) .nil)))))
def l_side_of_0 : CS :=
  (.set 8 (.call f_moved (.cons (.var 1) (.cons (.var 2) (.cons (.var 5) .nil))))
  (.set 9 (.call f_add (.cons (.var 6) (.cons (.call f_grow (.cons (.var 7) (.cons (.var 5) .nil))) .nil)))
  (.unp [4, 10] (.call f_lines_of (.cons (.idx (.var 0) (.c (.int 1))) (.cons (.call f_begun (.cons (.var 8) (.cons (.var 2) .nil))) .nil)))
  (.ite (.or (.cmp .ne (.idx (.call f_worths_of (.cons (.idx (.var 0) (.c (.int 1))) (.cons (.var 8) .nil))) (.neg (.c (.int 1)))) (.var 9)) (.cmp .ne (.idx (.var 4) (.neg (.c (.int 1)))) (.tup (.cons (.var 9) (.cons (.var 7) .nil)))))
    (.brk)
    .nil
  (.set 5 (.ife (.cmp .notN (.var 10) (.c .non)) (.call f_add (.cons (.var 5) (.cons (.var 10) .nil))) (.c .non))
  (.wip [4, 8, 9, 10] .nil))))))
/-- side_of(program, places, ways): slots 0=program 1=places 2=ways 3=value 4=lines 5=reach 6=beyond 7=slope 8=here 9=due 10=more -/
def b_side_of : CS :=
  (.set 3 (.idx (.call f_worths_of (.cons (.idx (.var 0) (.c (.int 1))) (.cons (.var 1) .nil))) (.neg (.c (.int 1))))
  (.unp [4, 5] (.call f_lines_of (.cons (.idx (.var 0) (.c (.int 1))) (.cons (.call f_begun (.cons (.var 1) (.cons (.var 2) .nil))) .nil)))
  (.unp [6, 7] (.idx (.var 4) (.neg (.c (.int 1))))
  (.wip [4] (.whl (.cmp .notN (.var 5) (.c .non)) l_side_of_0
  (.wip [4, 8, 9, 10] (.ret (.mk c_Side (.cons (.var 3) (.cons (.var 6) (.cons (.var 7) (.cons (.var 5) .nil))))))))))))
/-- side(program, places, ways): slots 0=program 1=places 2=ways -/
def b_side : CS :=
  (.ex (.call f_asked_program (.cons (.var 0) .nil))
  (.ex (.call f_asked_places (.cons (.var 0) (.cons (.var 1) .nil)))
  (.ex (.call f_asked_ways (.cons (.var 0) (.cons (.var 2) .nil)))
  (.ret (.call f_side_of (.cons (.var 0) (.cons (.var 1) (.cons (.var 2) .nil))))))))
/-- shows(self, far): slots 0=self 1=far -/
def b_Side_shows : CS :=
  (.ite (.and (.cmp .notN (.fld (.var 0) a_reach) (.c .non)) (.cmp .ge (.call f_lies (.cons (.var 1) (.cons (.fld (.var 0) a_reach) .nil))) (.c (.int 0))))
    (.ret (.c .non))
    .nil
  (.ret (.call f_add (.cons (.fld (.var 0) a_beyond) (.cons (.call f_grow (.cons (.fld (.var 0) a_slope) (.cons (.var 1) .nil))) .nil)))))
/-- are_numbers(thing): slots 0=thing 1=one -/
def b_are_numbers : CS :=
  (.ret (.and (.isi (.var 0) .list) (.bi .all (.cons (.comp .seq (.nm 1) [1] (.var 0) .nil (.call f_is_number (.cons (.var 1) .nil))) .nil))))
/-- is_piece(thing): slots 0=thing -/
def b_is_piece : CS :=
  (.ret (.and (.isi (.var 0) .tuple) (.and (.cmp .eq (.bi .len (.cons (.var 0) .nil)) (.c (.int 2))) (.and (.call f_is_number (.cons (.idx (.var 0) (.c (.int 0))) .nil)) (.call f_is_number (.cons (.idx (.var 0) (.c (.int 1))) .nil))))))
/-- asked_picture(picture): slots 0=picture 1=at 2=piece -/
def b_asked_picture : CS :=
  (.ite (.or (.nt (.isC (.var 0) c_Picture)) (.or (.nt (.call f_are_numbers (.cons (.fld (.var 0) a_places) .nil))) (.nt (.call f_are_numbers (.cons (.fld (.var 0) a_worths) .nil)))))
    (.rai x_BadPicture)
    .nil
  (.ite (.or (.cmp .lt (.bi .len (.cons (.fld (.var 0) a_places) .nil)) (.c (.int 2))) (.cmp .ne (.bi .len (.cons (.fld (.var 0) a_worths) .nil)) (.bi .len (.cons (.fld (.var 0) a_places) .nil))))
    (.rai x_BadPicture)
    .nil
  (.ite (.bi .any (.cons (.comp .rng (.nm 1) [1] (.cons (.c (.int 1)) (.cons (.bi .len (.cons (.fld (.var 0) a_places) .nil)) .nil)) .nil (.cmp .ge (.call f_lies (.cons (.idx (.fld (.var 0) a_places) (.bin .sub (.var 1) (.c (.int 1)))) (.cons (.idx (.fld (.var 0) a_places) (.var 1)) .nil))) (.c (.int 0)))) .nil))
    (.rai x_BadPicture)
    .nil
  (.ite (.or (.nt (.isi (.fld (.var 0) a_pieces) .list)) (.nt (.bi .all (.cons (.comp .seq (.nm 2) [2] (.fld (.var 0) a_pieces) .nil (.call f_is_piece (.cons (.var 2) .nil))) .nil))))
    (.rai x_BadPicture)
    .nil
  (.ite (.cmp .ne (.bi .len (.cons (.fld (.var 0) a_pieces) .nil)) (.bin .sub (.bi .len (.cons (.fld (.var 0) a_places) .nil)) (.c (.int 1))))
    (.rai x_BadPicture)
    .nil
  .nil)))))
/-- asked_stretch(low, high): slots 0=low 1=high -/
def b_asked_stretch : CS :=
  (.ite (.or (.nt (.call f_is_number (.cons (.var 0) .nil))) (.or (.nt (.call f_is_number (.cons (.var 1) .nil))) (.cmp .ge (.call f_lies (.cons (.var 0) (.cons (.var 1) .nil))) (.c (.int 0)))))
    (.rai x_BadStretch)
    .nil
  .nil)
/-- along(piece, begin, place): slots 0=piece 1=begin 2=place -/
def b_along : CS :=
  (.ret (.call f_add (.cons (.idx (.var 0) (.c (.int 0))) (.cons (.call f_grow (.cons (.idx (.var 0) (.c (.int 1))) (.cons (.call f_cut (.cons (.var 2) (.cons (.var 1) .nil))) .nil))) .nil))))
def l_picture_0 : CS :=
  (.set 6 (.call f_side_of (.cons (.var 0) (.cons (.lst (.cons (.idx (.var 3) (.neg (.c (.int 1)))) .nil)) (.cons (.lst (.cons (.glb g_ONE) .nil)) .nil))))
  (.app 4 (.fld (.var 6) a_value)
  (.app 5 (.tup (.cons (.fld (.var 6) a_beyond) (.cons (.fld (.var 6) a_slope) .nil)))
  (.set 7 (.ife (.cmp .isN (.fld (.var 6) a_reach) (.c .non)) (.var 2) (.call f_add (.cons (.idx (.var 3) (.neg (.c (.int 1)))) (.cons (.fld (.var 6) a_reach) .nil))))
  (.app 3 (.ife (.cmp .lt (.call f_lies (.cons (.var 7) (.cons (.var 2) .nil))) (.c (.int 0))) (.var 7) (.var 2))
  (.wip [6, 7] .nil))))))
/-- picture(program, low, high): slots 0=program 1=low 2=high 3=places 4=values 5=pieces 6=found 7=end -/
def b_picture : CS :=
  (.ex (.call f_asked_program (.cons (.var 0) .nil))
  (.ite (.cmp .ne (.idx (.var 0) (.c (.int 0))) (.c (.int 1)))
    (.rai x_Others)
    .nil
  (.ex (.call f_asked_stretch (.cons (.var 1) (.cons (.var 2) .nil)))
  (.par3 3 4 5 true true true (.lst (.cons (.var 1) .nil)) (.lst .nil) (.lst .nil)
  (.whl (.cmp .ne (.idx (.var 3) (.neg (.c (.int 1)))) (.var 2)) l_picture_0
  (.wip [6, 7] (.app 4 (.idx (.call f_worths_of (.cons (.idx (.var 0) (.c (.int 1))) (.cons (.lst (.cons (.var 2) .nil)) .nil))) (.neg (.c (.int 1))))
  (.ret (.mk c_Picture (.cons (.var 3) (.cons (.var 4) (.cons (.var 5) .nil))))))))))))
def l_piece_at_0 : CS :=
  (.ite (.cmp .eq (.var 3) (.var 1))
    (.ret (.bin .sub (.neg (.c (.int 1))) (.var 2)))
    .nil
  (.ite (.cmp .lt (.call f_lies (.cons (.var 1) (.cons (.var 3) .nil))) (.c (.int 0)))
    (.ret (.bin .sub (.var 2) (.c (.int 1))))
    .nil
  (.wip [2, 3] .nil)))
/-- piece_at(picture, place): slots 0=picture 1=place 2=at 3=one -/
def b_piece_at : CS :=
  (.forE .enum (.tp [2, 3]) (.cons (.fld (.var 0) a_places) .nil) l_piece_at_0
  (.wip [2, 3] (.ret (.c (.int 0)))))
/-- told_at(picture, place): slots 0=picture 1=place 2=at -/
def b_told_at : CS :=
  (.set 2 (.call f_piece_at (.cons (.var 0) (.cons (.var 1) .nil)))
  (.ite (.cmp .lt (.var 2) (.c (.int 0)))
    (.ret (.idx (.fld (.var 0) a_worths) (.bin .sub (.neg (.c (.int 1))) (.var 2))))
    .nil
  (.ret (.call f_along (.cons (.idx (.fld (.var 0) a_pieces) (.var 2)) (.cons (.idx (.fld (.var 0) a_places) (.var 2)) (.cons (.var 1) .nil)))))))
/-- asked_within(picture, place): slots 0=picture 1=place -/
def b_asked_within : CS :=
  (.ite (.or (.nt (.call f_is_number (.cons (.var 1) .nil))) (.or (.cmp .lt (.call f_lies (.cons (.var 1) (.cons (.idx (.fld (.var 0) a_places) (.c (.int 0))) .nil))) (.c (.int 0))) (.cmp .gt (.call f_lies (.cons (.var 1) (.cons (.idx (.fld (.var 0) a_places) (.neg (.c (.int 1)))) .nil))) (.c (.int 0)))))
    (.rai x_BadPlaces)
    .nil
  .nil)
/-- worth_at(picture, place): slots 0=picture 1=place -/
def b_worth_at : CS :=
  (.ex (.call f_asked_picture (.cons (.var 0) .nil))
  (.ex (.call f_asked_within (.cons (.var 0) (.cons (.var 1) .nil)))
  (.ret (.call f_told_at (.cons (.var 0) (.cons (.var 1) .nil))))))
/-- limits(picture, place): slots 0=picture 1=place 2=at 3=below 4=above 5=down 6=up -/
def b_limits : CS :=
  (.ex (.call f_asked_picture (.cons (.var 0) .nil))
  (.ex (.call f_asked_within (.cons (.var 0) (.cons (.var 1) .nil)))
  (.set 2 (.call f_piece_at (.cons (.var 0) (.cons (.var 1) .nil)))
  (.unp [3, 4] (.ife (.cmp .ge (.var 2) (.c (.int 0))) (.tup (.cons (.var 2) (.cons (.var 2) .nil))) (.tup (.cons (.bin .sub (.neg (.c (.int 2))) (.var 2)) (.cons (.bin .sub (.neg (.c (.int 1))) (.var 2)) .nil))))
  (.unp [5, 6] (.tup (.cons (.c .non) (.cons (.c .non) .nil)))
  (.ite (.cmp .ge (.var 3) (.c (.int 0)))
    (.set 5 (.tup (.cons (.call f_along (.cons (.idx (.fld (.var 0) a_pieces) (.var 3)) (.cons (.idx (.fld (.var 0) a_places) (.var 3)) (.cons (.var 1) .nil)))) (.cons (.idx (.idx (.fld (.var 0) a_pieces) (.var 3)) (.c (.int 1))) .nil)))
      .nil)
    .nil
  (.ite (.cmp .lt (.var 4) (.bi .len (.cons (.fld (.var 0) a_pieces) .nil)))
    (.set 6 (.tup (.cons (.call f_along (.cons (.idx (.fld (.var 0) a_pieces) (.var 4)) (.cons (.idx (.fld (.var 0) a_places) (.var 4)) (.cons (.var 1) .nil)))) (.cons (.idx (.idx (.fld (.var 0) a_pieces) (.var 4)) (.c (.int 1))) .nil)))
      .nil)
    .nil
  (.ret (.tup (.cons (.var 5) (.cons (.var 6) .nil)))))))))))
def l_tidied_0 : CS :=
  (.set 7 (.call f_along (.cons (.idx (.var 5) (.neg (.c (.int 1)))) (.cons (.idx (.var 3) (.neg (.c (.int 1)))) (.cons (.idx (.var 0) (.var 6)) .nil))))
  (.ite (.or (.cmp .ne (.idx (.var 1) (.var 6)) (.var 7)) (.cmp .ne (.idx (.var 2) (.var 6)) (.tup (.cons (.var 7) (.cons (.idx (.idx (.var 5) (.neg (.c (.int 1)))) (.c (.int 1))) .nil)))))
    (.app 3 (.idx (.var 0) (.var 6))
      (.app 4 (.idx (.var 1) (.var 6))
      (.app 5 (.idx (.var 2) (.var 6))
      .nil)))
    .nil
  (.wip [6, 7] .nil)))
/-- tidied(places, values, pieces): slots 0=places 1=values 2=pieces 3=kept 4=worths 5=lines 6=at 7=goes_on -/
def b_tidied : CS :=
  (.par3 3 4 5 true true true (.lst (.cons (.idx (.var 0) (.c (.int 0))) .nil)) (.lst (.cons (.idx (.var 1) (.c (.int 0))) .nil)) (.lst (.cons (.idx (.var 2) (.c (.int 0))) .nil))
  (.forE .rng (.nm 6) (.cons (.c (.int 1)) (.cons (.bin .sub (.bi .len (.cons (.var 0) .nil)) (.c (.int 1))) .nil)) l_tidied_0
  (.wip [6, 7] (.ret (.mk c_Picture (.cons (.bin .add (.var 3) (.lst (.cons (.idx (.var 0) (.neg (.c (.int 1)))) .nil))) (.cons (.bin .add (.var 4) (.lst (.cons (.idx (.var 1) (.neg (.c (.int 1)))) .nil))) (.cons (.var 5) .nil))))))))
/-- tidy(picture): slots 0=picture -/
def b_tidy : CS :=
  (.ex (.call f_asked_picture (.cons (.var 0) .nil))
  (.ret (.call f_tidied (.cons (.fld (.var 0) a_places) (.cons (.fld (.var 0) a_worths) (.cons (.fld (.var 0) a_pieces) .nil))))))
/-- scaled(picture, number): slots 0=picture 1=number 2=values 3=pieces 4=value 5=begin 6=slope -/
def b_scaled : CS :=
  (.ex (.call f_asked_picture (.cons (.var 0) .nil))
  (.ite (.nt (.call f_is_number (.cons (.var 1) .nil)))
    (.rai x_BadPicture)
    .nil
  (.set 2 (.comp .seq (.nm 4) [4] (.fld (.var 0) a_worths) .nil (.call f_grow (.cons (.var 1) (.cons (.var 4) .nil))))
  (.set 3 (.comp .seq (.tp [5, 6]) [5, 6] (.fld (.var 0) a_pieces) .nil (.tup (.cons (.call f_grow (.cons (.var 1) (.cons (.var 5) .nil))) (.cons (.call f_grow (.cons (.var 1) (.cons (.var 6) .nil))) .nil))))
  (.ret (.call f_tidied (.cons (.fld (.var 0) a_places) (.cons (.var 2) (.cons (.var 3) .nil)))))))))
def l_mirrored_0 : CS :=
  (.set 4 (.call f_along (.cons (.idx (.fld (.var 0) a_pieces) (.var 3)) (.cons (.idx (.fld (.var 0) a_places) (.var 3)) (.cons (.idx (.fld (.var 0) a_places) (.bin .add (.var 3) (.c (.int 1)))) .nil))))
  (.app 2 (.tup (.cons (.var 4) (.cons (.call f_cut (.cons (.glb g_NOUGHT) (.cons (.idx (.idx (.fld (.var 0) a_pieces) (.var 3)) (.c (.int 1))) .nil))) .nil)))
  (.wip [3, 4] .nil)))
/-- mirrored(picture): slots 0=picture 1=places 2=pieces 3=at 4=end 5=place -/
def b_mirrored : CS :=
  (.ex (.call f_asked_picture (.cons (.var 0) .nil))
  (.set 1 (.comp .seq (.nm 5) [5] (.rev (.fld (.var 0) a_places)) .nil (.call f_cut (.cons (.glb g_NOUGHT) (.cons (.var 5) .nil))))
  (.own 2 (.lst .nil)
  (.forE .rng (.nm 3) (.cons (.bin .sub (.bi .len (.cons (.fld (.var 0) a_pieces) .nil)) (.c (.int 1))) (.cons (.neg (.c (.int 1))) (.cons (.neg (.c (.int 1))) .nil))) l_mirrored_0
  (.wip [3, 4] (.ret (.call f_tidied (.cons (.var 1) (.cons (.rev (.fld (.var 0) a_worths)) (.cons (.var 2) .nil))))))))))
/-- line_at(picture, place): slots 0=picture 1=place 2=at -/
def b_line_at : CS :=
  (.set 2 (.call f_piece_at (.cons (.var 0) (.cons (.var 1) .nil)))
  (.set 2 (.ife (.cmp .lt (.var 2) (.c (.int 0))) (.bin .sub (.neg (.c (.int 1))) (.var 2)) (.var 2))
  (.ret (.tup (.cons (.call f_along (.cons (.idx (.fld (.var 0) a_pieces) (.var 2)) (.cons (.idx (.fld (.var 0) a_places) (.var 2)) (.cons (.var 1) .nil)))) (.cons (.idx (.idx (.fld (.var 0) a_pieces) (.var 2)) (.c (.int 1))) .nil))))))
/-- meeting(one, other, begin, end): slots 0=one 1=other 2=begin 3=end 4=apart 5=slope 6=place -/
def b_meeting : CS :=
  (.par 4 5 false false (.call f_cut (.cons (.idx (.var 0) (.c (.int 0))) (.cons (.idx (.var 1) (.c (.int 0))) .nil))) (.call f_cut (.cons (.idx (.var 0) (.c (.int 1))) (.cons (.idx (.var 1) (.c (.int 1))) .nil)))
  (.ite (.cmp .eq (.idx (.var 5) (.c (.int 0))) (.c (.int 0)))
    (.ret (.c .non))
    .nil
  (.set 6 (.call f_add (.cons (.var 2) (.cons (.call f_part (.cons (.call f_cut (.cons (.glb g_NOUGHT) (.cons (.var 4) .nil))) (.cons (.var 5) .nil))) .nil)))
  (.ret (.ife (.and (.cmp .lt (.call f_lies (.cons (.var 2) (.cons (.var 6) .nil))) (.c (.int 0))) (.cmp .lt (.call f_lies (.cons (.var 6) (.cons (.var 3) .nil))) (.c (.int 0)))) (.var 6) (.c .non))))))
/-- asked_both(one, other): slots 0=one 1=other -/
def b_asked_both : CS :=
  (.ex (.call f_asked_picture (.cons (.var 0) .nil))
  (.ex (.call f_asked_picture (.cons (.var 1) .nil))
  (.ite (.or (.cmp .ne (.idx (.fld (.var 0) a_places) (.c (.int 0))) (.idx (.fld (.var 1) a_places) (.c (.int 0)))) (.cmp .ne (.idx (.fld (.var 0) a_places) (.neg (.c (.int 1)))) (.idx (.fld (.var 1) a_places) (.neg (.c (.int 1))))))
    (.rai x_Others)
    .nil
  .nil)))
def l_crossed_0 : CS :=
  (.app 2 (.var 4)
  (.set 6 (.call f_meeting (.cons (.call f_line_at (.cons (.var 0) (.cons (.var 4) .nil))) (.cons (.call f_line_at (.cons (.var 1) (.cons (.var 4) .nil))) (.cons (.var 4) (.cons (.var 5) .nil)))))
  (.ite (.cmp .notN (.var 6) (.c .non))
    (.app 2 (.var 6)
      .nil)
    .nil
  (.wip [4, 5, 6] .nil))))
/-- crossed(one, other): slots 0=one 1=other 2=found 3=places 4=begin 5=end 6=place -/
def b_crossed : CS :=
  (.par 2 3 true false (.lst .nil) (.call f_merged (.cons (.var 0) (.cons (.var 1) .nil)))
  (.forE .zip (.tp [4, 5]) (.cons (.var 3) (.cons (.sl (.var 3) (.c (.int 1)) .nil) .nil)) l_crossed_0
  (.wip [4, 5, 6] (.ret (.bin .add (.var 2) (.lst (.cons (.idx (.var 3) (.neg (.c (.int 1)))) .nil)))))))
/-- lesser_line(one, other): slots 0=one 1=other 2=sign -/
def b_lesser_line : CS :=
  (.set 2 (.call f_lies (.cons (.idx (.var 0) (.c (.int 0))) (.cons (.idx (.var 1) (.c (.int 0))) .nil)))
  (.ite (.cmp .eq (.var 2) (.c (.int 0)))
    (.set 2 (.call f_lies (.cons (.idx (.var 0) (.c (.int 1))) (.cons (.idx (.var 1) (.c (.int 1))) .nil)))
      .nil)
    .nil
  (.ret (.ife (.cmp .le (.var 2) (.c (.int 0))) (.var 0) (.var 1)))))
def l_differing_0 : CS :=
  (.ite (.cmp .ne (.call f_told_at (.cons (.var 0) (.cons (.var 6) .nil))) (.call f_told_at (.cons (.var 1) (.cons (.var 6) .nil))))
    (.ret (.var 6))
    .nil
  (.wip [6] .nil))
def l_differing_1 : CS :=
  (.set 5 (.call f_part (.cons (.call f_cut (.cons (.var 4) (.cons (.var 3) .nil))) (.cons (.tup (.cons (.c (.int 3)) (.cons (.c (.int 1)) .nil))) .nil)))
  (.forE .seq (.nm 6) (.tup (.cons (.var 3) (.cons (.call f_add (.cons (.var 3) (.cons (.var 5) .nil))) (.cons (.call f_cut (.cons (.var 4) (.cons (.var 5) .nil))) (.cons (.var 4) .nil))))) l_differing_0
  (.wip [6] (.wip [3, 4, 5, 6] .nil))))
/-- differing(one, other): slots 0=one 1=other 2=places 3=begin 4=end 5=third 6=place -/
def b_differing : CS :=
  (.set 2 (.call f_merged (.cons (.var 0) (.cons (.var 1) .nil)))
  (.forE .zip (.tp [3, 4]) (.cons (.var 2) (.cons (.sl (.var 2) (.c (.int 1)) .nil) .nil)) l_differing_1
  (.wip [3, 4, 5, 6] (.ret (.c .non)))))
/-- compared(one, other): slots 0=one 1=other 2=place -/
def b_compared : CS :=
  (.ex (.call f_asked_both (.cons (.var 0) (.cons (.var 1) .nil)))
  (.set 2 (.call f_differing (.cons (.var 0) (.cons (.var 1) .nil)))
  (.ret (.ife (.cmp .isN (.var 2) (.c .non)) (.mk c_Alike .nil) (.mk c_Differ (.cons (.var 2) .nil))))))
/-- shows(self, one, other): slots 0=self 1=one 2=other -/
def b_Alike_shows : CS :=
  (.ret (.cmp .isN (.call f_differing (.cons (.var 1) (.cons (.var 2) .nil))) (.c .non)))
/-- shows(self, one, other): slots 0=self 1=one 2=other -/
def b_Differ_shows : CS :=
  (.ite (.or (.cmp .lt (.call f_lies (.cons (.fld (.var 0) a_place) (.cons (.idx (.fld (.var 1) a_places) (.c (.int 0))) .nil))) (.c (.int 0))) (.cmp .gt (.call f_lies (.cons (.fld (.var 0) a_place) (.cons (.idx (.fld (.var 1) a_places) (.neg (.c (.int 1)))) .nil))) (.c (.int 0))))
    (.ret (.c (.bl false)))
    .nil
  (.ret (.cmp .ne (.call f_told_at (.cons (.var 1) (.cons (.fld (.var 0) a_place) .nil))) (.call f_told_at (.cons (.var 2) (.cons (.fld (.var 0) a_place) .nil))))))
/-- middle(one, other): slots 0=one 1=other -/
def b_middle : CS :=
  (.ret (.call f_grow (.cons (.glb g_HALF) (.cons (.call f_add (.cons (.var 0) (.cons (.var 1) .nil))) .nil))))
/-- ends(picture, at): slots 0=picture 1=at 2=begin -/
def b_ends : CS :=
  (.set 2 (.idx (.idx (.fld (.var 0) a_pieces) (.var 1)) (.c (.int 0)))
  (.ret (.tup (.cons (.var 2) (.cons (.call f_along (.cons (.idx (.fld (.var 0) a_pieces) (.var 1)) (.cons (.idx (.fld (.var 0) a_places) (.var 1)) (.cons (.idx (.fld (.var 0) a_places) (.bin .add (.var 1) (.c (.int 1)))) .nil)))) .nil)))))
def l_least_of_0 : CS :=
  (.ite (.cmp .lt (.call f_lies (.cons (.var 4) (.cons (.var 1) .nil))) (.c (.int 0)))
    (.par 1 2 false false (.var 4) (.mk c_Reached (.cons (.var 4) (.cons (.var 3) .nil)))
      .nil)
    .nil
  (.wip [3, 4] .nil))
def l_least_of_1 : CS :=
  (.unp [6, 7] (.call f_ends (.cons (.var 0) (.cons (.var 5) .nil)))
  (.ite (.and (.cmp .eq (.idx (.idx (.idx (.fld (.var 0) a_pieces) (.var 5)) (.c (.int 1))) (.c (.int 0))) (.c (.int 0))) (.cmp .le (.call f_lies (.cons (.var 6) (.cons (.var 1) .nil))) (.c (.int 0))))
    (.ite (.or (.cmp .lt (.call f_lies (.cons (.var 6) (.cons (.var 1) .nil))) (.c (.int 0))) (.isC (.var 2) c_Near))
        (.par 1 2 false false (.var 6) (.mk c_Reached (.cons (.var 6) (.cons (.call f_middle (.cons (.idx (.fld (.var 0) a_places) (.var 5)) (.cons (.idx (.fld (.var 0) a_places) (.bin .add (.var 5) (.c (.int 1)))) .nil))) .nil)))
          .nil)
        .nil
      .nil)
    (.ite (.and (.cmp .lt (.call f_lies (.cons (.var 6) (.cons (.var 7) .nil))) (.c (.int 0))) (.cmp .lt (.call f_lies (.cons (.var 6) (.cons (.var 1) .nil))) (.c (.int 0))))
        (.par 1 2 false false (.var 6) (.mk c_Near (.cons (.var 6) (.cons (.idx (.fld (.var 0) a_places) (.var 5)) (.cons (.c (.bl true)) .nil))))
          .nil)
        (.ite (.and (.cmp .lt (.call f_lies (.cons (.var 7) (.cons (.var 6) .nil))) (.c (.int 0))) (.cmp .lt (.call f_lies (.cons (.var 7) (.cons (.var 1) .nil))) (.c (.int 0))))
            (.par 1 2 false false (.var 7) (.mk c_Near (.cons (.var 7) (.cons (.idx (.fld (.var 0) a_places) (.bin .add (.var 5) (.c (.int 1)))) (.cons (.c (.bl false)) .nil))))
              .nil)
            .nil
          .nil)
      .nil)
  (.wip [5, 6, 7] .nil)))
/-- least_of(picture): slots 0=picture 1=best 2=found 3=place 4=value 5=at 6=begin 7=end -/
def b_least_of : CS :=
  (.set 1 (.idx (.fld (.var 0) a_worths) (.c (.int 0)))
  (.set 2 (.mk c_Reached (.cons (.var 1) (.cons (.idx (.fld (.var 0) a_places) (.c (.int 0))) .nil)))
  (.forE .zip (.tp [3, 4]) (.cons (.fld (.var 0) a_places) (.cons (.fld (.var 0) a_worths) .nil)) l_least_of_0
  (.wip [3, 4] (.forE .rng (.nm 5) (.cons (.bi .len (.cons (.fld (.var 0) a_pieces) .nil)) .nil) l_least_of_1
  (.wip [1, 5, 6, 7] (.ret (.var 2))))))))
/-- least(picture): slots 0=picture -/
def b_least : CS :=
  (.ex (.call f_asked_picture (.cons (.var 0) .nil))
  (.ret (.call f_least_of (.cons (.var 0) .nil))))
/-- turned_over(picture): slots 0=picture 1=values 2=pieces 3=value 4=begin 5=slope -/
def b_turned_over : CS :=
  (.set 1 (.comp .seq (.nm 3) [3] (.fld (.var 0) a_worths) .nil (.call f_cut (.cons (.glb g_NOUGHT) (.cons (.var 3) .nil))))
  (.set 2 (.comp .seq (.tp [4, 5]) [4, 5] (.fld (.var 0) a_pieces) .nil (.tup (.cons (.call f_cut (.cons (.glb g_NOUGHT) (.cons (.var 4) .nil))) (.cons (.call f_cut (.cons (.glb g_NOUGHT) (.cons (.var 5) .nil))) .nil))))
  (.ret (.mk c_Picture (.cons (.fld (.var 0) a_places) (.cons (.var 1) (.cons (.var 2) .nil)))))))
/-- greatest(picture): slots 0=picture 1=found -/
def b_greatest : CS :=
  (.ex (.call f_asked_picture (.cons (.var 0) .nil))
  (.set 1 (.call f_least_of (.cons (.call f_turned_over (.cons (.var 0) .nil)) .nil))
  (.ite (.isC (.var 1) c_Reached)
    (.ret (.mk c_Reached (.cons (.call f_cut (.cons (.glb g_NOUGHT) (.cons (.fld (.var 1) a_value) .nil))) (.cons (.fld (.var 1) a_place) .nil))))
    .nil
  (.ret (.mk c_Near (.cons (.call f_cut (.cons (.glb g_NOUGHT) (.cons (.fld (.var 1) a_value) .nil))) (.cons (.fld (.var 1) a_place) (.cons (.fld (.var 1) a_up) .nil))))))))
def l_spans_0 : CS :=
  (.ite (.cmp .eq (.idx (.fld (.var 0) a_worths) (.var 3)) (.var 1))
    (.app 2 (.tup (.cons (.var 4) (.cons (.var 4) (.cons (.c (.bl true)) (.cons (.c (.bl true)) .nil)))))
      .nil)
    .nil
  (.ite (.cmp .lt (.var 3) (.bi .len (.cons (.fld (.var 0) a_pieces) .nil)))
    (.unp [5, 6] (.idx (.fld (.var 0) a_pieces) (.var 3))
      (.set 7 (.idx (.fld (.var 0) a_places) (.bin .add (.var 3) (.c (.int 1))))
      (.ite (.cmp .eq (.idx (.var 6) (.c (.int 0))) (.c (.int 0)))
        (.ite (.cmp .eq (.var 5) (.var 1))
            (.app 2 (.tup (.cons (.var 4) (.cons (.var 7) (.cons (.c (.bl false)) (.cons (.c (.bl false)) .nil)))))
              .nil)
            .nil
          .nil)
        (.set 8 (.call f_add (.cons (.var 4) (.cons (.call f_part (.cons (.call f_cut (.cons (.var 1) (.cons (.var 5) .nil))) (.cons (.var 6) .nil))) .nil)))
          (.ite (.and (.cmp .lt (.call f_lies (.cons (.var 4) (.cons (.var 8) .nil))) (.c (.int 0))) (.cmp .lt (.call f_lies (.cons (.var 8) (.cons (.var 7) .nil))) (.c (.int 0))))
            (.app 2 (.tup (.cons (.var 8) (.cons (.var 8) (.cons (.c (.bl true)) (.cons (.c (.bl true)) .nil)))))
              .nil)
            .nil
          .nil))
      .nil)))
    .nil
  (.wip [3, 4, 5, 6, 7, 8] .nil)))
/-- spans(picture, value): slots 0=picture 1=value 2=found 3=at 4=place 5=begin 6=slope 7=end 8=here -/
def b_spans : CS :=
  (.ex (.call f_asked_picture (.cons (.var 0) .nil))
  (.ex (.call f_asked_number (.cons (.var 1) .nil))
  (.own 2 (.lst .nil)
  (.forE .enum (.tp [3, 4]) (.cons (.fld (.var 0) a_places) .nil) l_spans_0
  (.wip [3, 4, 5, 6, 7, 8] (.retf (.callf f_joined (.cons (.var 2) .nil))))))))
def l_joined_0 : CS :=
  (.set 3 (.ife (.cmp .ne (.var 1) (.lst .nil)) (.idx (.var 1) (.neg (.c (.int 1)))) (.c .non))
  (.ite (.and (.cmp .notN (.var 3) (.c .non)) (.and (.cmp .eq (.idx (.var 3) (.c (.int 1))) (.idx (.var 2) (.c (.int 0)))) (.or (.idx (.var 3) (.c (.int 3))) (.idx (.var 2) (.c (.int 2))))))
    (.sto 1 (.neg (.c (.int 1))) (.tup (.cons (.idx (.var 3) (.c (.int 0))) (.cons (.idx (.var 2) (.c (.int 1))) (.cons (.idx (.var 3) (.c (.int 2))) (.cons (.idx (.var 2) (.c (.int 3))) .nil)))))
      .nil)
    (.app 1 (.var 2)
      .nil)
  (.wip [2, 3] .nil)))
/-- joined(some): slots 0=some 1=found 2=span 3=last -/
def b_joined : CS :=
  (.own 1 (.lst .nil)
  (.forE .seq (.nm 2) (.var 0) l_joined_0
  (.wip [2, 3] (.reto 1))))
def l_area_0 : CS :=
  (.unp [3, 4] (.call f_ends (.cons (.var 0) (.cons (.var 2) .nil)))
  (.set 5 (.call f_cut (.cons (.idx (.fld (.var 0) a_places) (.bin .add (.var 2) (.c (.int 1)))) (.cons (.idx (.fld (.var 0) a_places) (.var 2)) .nil)))
  (.set 1 (.call f_add (.cons (.var 1) (.cons (.call f_grow (.cons (.var 5) (.cons (.call f_middle (.cons (.var 3) (.cons (.var 4) .nil))) .nil))) .nil)))
  (.wip [2, 3, 4, 5] .nil))))
/-- area(picture): slots 0=picture 1=found 2=at 3=begin 4=end 5=wide -/
def b_area : CS :=
  (.ex (.call f_asked_picture (.cons (.var 0) .nil))
  (.set 1 (.glb g_NOUGHT)
  (.forE .rng (.nm 2) (.cons (.bi .len (.cons (.fld (.var 0) a_pieces) .nil)) .nil) l_area_0
  (.wip [2, 3, 4, 5] (.ret (.var 1))))))
/-- beside(picture, at, value, up): slots 0=picture 1=at 2=value 3=up 4=begin 5=end 6=neared 7=slope 8=here 9=half 10=there 11=inner -/
def b_beside : CS :=
  (.unp [4, 5] (.call f_ends (.cons (.var 0) (.cons (.var 1) .nil)))
  (.unp [6, 7] (.ife (.var 3) (.tup (.cons (.var 4) (.cons (.idx (.idx (.fld (.var 0) a_pieces) (.var 1)) (.c (.int 1))) .nil))) (.tup (.cons (.var 5) (.cons (.idx (.idx (.fld (.var 0) a_pieces) (.var 1)) (.c (.int 1))) .nil))))
  (.set 8 (.ife (.var 3) (.idx (.fld (.var 0) a_places) (.var 1)) (.idx (.fld (.var 0) a_places) (.bin .add (.var 1) (.c (.int 1)))))
  (.set 9 (.call f_middle (.cons (.idx (.fld (.var 0) a_places) (.var 1)) (.cons (.idx (.fld (.var 0) a_places) (.bin .add (.var 1) (.c (.int 1)))) .nil)))
  (.ite (.cmp .eq (.idx (.var 7) (.c (.int 0))) (.c (.int 0)))
    (.ret (.var 9))
    .nil
  (.set 10 (.call f_add (.cons (.var 8) (.cons (.call f_part (.cons (.call f_cut (.cons (.call f_middle (.cons (.var 6) (.cons (.var 2) .nil))) (.cons (.var 6) .nil))) (.cons (.var 7) .nil))) .nil)))
  (.set 11 (.and (.cmp .lt (.call f_lies (.cons (.idx (.fld (.var 0) a_places) (.var 1)) (.cons (.var 10) .nil))) (.c (.int 0))) (.cmp .lt (.call f_lies (.cons (.var 10) (.cons (.idx (.fld (.var 0) a_places) (.bin .add (.var 1) (.c (.int 1)))) .nil))) (.c (.int 0))))
  (.ite (.or (.nt (.var 11)) (.cmp .eq (.cmp .gt (.call f_lies (.cons (.var 10) (.cons (.var 9) .nil))) (.c (.int 0))) (.var 3)))
    (.ret (.var 9))
    .nil
  (.ret (.var 10))))))))))
def l_falling_0 : CS :=
  (.par 2 3 false false (.idx (.fld (.var 0) a_places) (.var 1)) (.idx (.fld (.var 0) a_places) (.bin .add (.var 1) (.c (.int 1))))
  (.set 4 (.call f_add (.cons (.var 2) (.cons (.call f_part (.cons (.call f_cut (.cons (.var 3) (.cons (.var 2) .nil))) (.cons (.tup (.cons (.c (.int 3)) (.cons (.c (.int 1)) .nil))) .nil))) .nil)))
  (.ite (.cmp .le (.call f_lies (.cons (.idx (.idx (.fld (.var 0) a_pieces) (.var 1)) (.c (.int 1))) (.cons (.glb g_NOUGHT) .nil))) (.c (.int 0)))
    (.ret (.tup (.cons (.var 4) (.cons (.call f_middle (.cons (.var 4) (.cons (.var 3) .nil))) .nil))))
    .nil
  (.ite (.cmp .gt (.call f_lies (.cons (.idx (.fld (.var 0) a_worths) (.var 1)) (.cons (.idx (.idx (.fld (.var 0) a_pieces) (.var 1)) (.c (.int 0))) .nil))) (.c (.int 0)))
    (.ret (.tup (.cons (.var 2) (.cons (.call f_beside (.cons (.var 0) (.cons (.var 1) (.cons (.idx (.fld (.var 0) a_worths) (.var 1)) (.cons (.c (.bl true)) .nil))))) .nil))))
    .nil
  (.ite (.cmp .gt (.call f_lies (.cons (.idx (.call f_ends (.cons (.var 0) (.cons (.var 1) .nil))) (.c (.int 1))) (.cons (.idx (.fld (.var 0) a_worths) (.bin .add (.var 1) (.c (.int 1)))) .nil))) (.c (.int 0)))
    (.ret (.tup (.cons (.call f_beside (.cons (.var 0) (.cons (.var 1) (.cons (.idx (.fld (.var 0) a_worths) (.bin .add (.var 1) (.c (.int 1)))) (.cons (.c (.bl false)) .nil))))) (.cons (.var 3) .nil))))
    .nil
  (.wip [1, 2, 3, 4] .nil))))))
/-- falling(picture): slots 0=picture 1=at 2=place 3=end 4=first -/
def b_falling : CS :=
  (.forE .rng (.nm 1) (.cons (.bi .len (.cons (.fld (.var 0) a_pieces) .nil)) .nil) l_falling_0
  (.wip [1, 2, 3, 4] (.ret (.c .non))))
/-- rising(picture): slots 0=picture 1=found -/
def b_rising : CS :=
  (.ex (.call f_asked_picture (.cons (.var 0) .nil))
  (.set 1 (.call f_falling (.cons (.var 0) .nil))
  (.ret (.ife (.cmp .isN (.var 1) (.c .non)) (.mk c_Rising .nil) (.mk c_Falls (.cons (.idx (.var 1) (.c (.int 0))) (.cons (.idx (.var 1) (.c (.int 1))) .nil)))))))
/-- shows(self, picture): slots 0=self 1=picture -/
def b_Rising_shows : CS :=
  (.ret (.cmp .isN (.call f_falling (.cons (.var 1) .nil)) (.c .non)))
/-- shows(self, picture): slots 0=self 1=picture 2=low 3=high -/
def b_Falls_shows : CS :=
  (.par 2 3 false false (.idx (.fld (.var 1) a_places) (.c (.int 0))) (.idx (.fld (.var 1) a_places) (.neg (.c (.int 1))))
  (.ite (.or (.cmp .gt (.call f_lies (.cons (.var 2) (.cons (.fld (.var 0) a_one) .nil))) (.c (.int 0))) (.or (.cmp .ge (.call f_lies (.cons (.fld (.var 0) a_one) (.cons (.fld (.var 0) a_other) .nil))) (.c (.int 0))) (.cmp .gt (.call f_lies (.cons (.fld (.var 0) a_other) (.cons (.var 3) .nil))) (.c (.int 0)))))
    (.ret (.c (.bl false)))
    .nil
  (.ret (.cmp .ge (.call f_lies (.cons (.call f_told_at (.cons (.var 1) (.cons (.fld (.var 0) a_one) .nil))) (.cons (.call f_told_at (.cons (.var 1) (.cons (.fld (.var 0) a_other) .nil))) .nil))) (.c (.int 0))))))
def l_jumps_0 : CS :=
  (.set 4 (.and (.cmp .gt (.var 2) (.c (.int 0))) (.cmp .ne (.idx (.call f_ends (.cons (.var 0) (.cons (.bin .sub (.var 2) (.c (.int 1))) .nil))) (.c (.int 1))) (.idx (.fld (.var 0) a_worths) (.var 2))))
  (.ite (.or (.var 4) (.and (.cmp .lt (.var 2) (.bi .len (.cons (.fld (.var 0) a_pieces) .nil))) (.cmp .ne (.idx (.idx (.fld (.var 0) a_pieces) (.var 2)) (.c (.int 0))) (.idx (.fld (.var 0) a_worths) (.var 2)))))
    (.app 1 (.var 3)
      .nil)
    .nil
  (.wip [2, 3, 4] .nil)))
/-- jumps(picture): slots 0=picture 1=found 2=at 3=place 4=below -/
def b_jumps : CS :=
  (.ex (.call f_asked_picture (.cons (.var 0) .nil))
  (.own 1 (.lst .nil)
  (.forE .enum (.tp [2, 3]) (.cons (.fld (.var 0) a_places) .nil) l_jumps_0
  (.wip [2, 3, 4] (.reto 1)))))
/-- slope_at(program, place): slots 0=program 1=place 2=down 3=up 4=below -/
def b_slope_at : CS :=
  (.ex (.call f_asked_program (.cons (.var 0) .nil))
  (.ite (.cmp .ne (.idx (.var 0) (.c (.int 0))) (.c (.int 1)))
    (.rai x_Others)
    .nil
  (.ex (.call f_asked_places (.cons (.var 0) (.cons (.lst (.cons (.var 1) .nil)) .nil)))
  (.par 2 3 false false (.call f_side_of (.cons (.var 0) (.cons (.lst (.cons (.var 1) .nil)) (.cons (.lst (.cons (.tup (.cons (.neg (.c (.int 1))) (.cons (.c (.int 1)) .nil))) .nil)) .nil)))) (.call f_side_of (.cons (.var 0) (.cons (.lst (.cons (.var 1) .nil)) (.cons (.lst (.cons (.glb g_ONE) .nil)) .nil))))
  (.ite (.or (.cmp .ne (.fld (.var 2) a_beyond) (.fld (.var 2) a_value)) (.cmp .ne (.fld (.var 3) a_beyond) (.fld (.var 3) a_value)))
    (.ret (.mk c_Jumps (.cons (.fld (.var 2) a_beyond) (.cons (.fld (.var 3) a_value) (.cons (.fld (.var 3) a_beyond) .nil)))))
    .nil
  (.set 4 (.call f_cut (.cons (.glb g_NOUGHT) (.cons (.fld (.var 2) a_slope) .nil)))
  (.ret (.ife (.cmp .eq (.var 4) (.fld (.var 3) a_slope)) (.mk c_Smooth (.cons (.var 4) .nil)) (.mk c_Bent (.cons (.var 4) (.cons (.fld (.var 3) a_slope) .nil)))))))))))
/-- kinks(program, places, one, other): slots 0=program 1=places 2=one 3=other 4=some 5=way 6=side -/
def b_kinks : CS :=
  (.set 4 (.comp .seq (.nm 5) [5] (.tup (.cons (.var 2) (.cons (.var 3) (.cons (.lst (.cons (.call f_add (.cons (.idx (.var 2) (.c (.int 0))) (.cons (.idx (.var 3) (.c (.int 0))) .nil))) (.cons (.call f_add (.cons (.idx (.var 2) (.c (.int 1))) (.cons (.idx (.var 3) (.c (.int 1))) .nil))) .nil))) .nil)))) .nil (.call f_side_of (.cons (.var 0) (.cons (.var 1) (.cons (.var 5) .nil)))))
  (.ite (.bi .any (.cons (.comp .seq (.nm 6) [6] (.var 4) .nil (.cmp .ne (.fld (.var 6) a_beyond) (.fld (.var 6) a_value))) .nil))
    (.ret (.c (.bl true)))
    .nil
  (.ret (.cmp .ne (.call f_add (.cons (.fld (.idx (.var 4) (.c (.int 0))) a_slope) (.cons (.fld (.idx (.var 4) (.c (.int 1))) a_slope) .nil))) (.fld (.idx (.var 4) (.c (.int 2))) a_slope)))))
/-- dot(vector, way): slots 0=vector 1=way -/
def b_dot : CS :=
  (.ret (.call f_add (.cons (.call f_grow (.cons (.idx (.var 0) (.c (.int 0))) (.cons (.idx (.var 1) (.c (.int 0))) .nil))) (.cons (.call f_grow (.cons (.idx (.var 0) (.c (.int 1))) (.cons (.idx (.var 1) (.c (.int 1))) .nil))) .nil))))
/-- apart_of(one, other): slots 0=one 1=other 2=slopes -/
def b_apart_of : CS :=
  (.set 2 (.tup (.cons (.call f_cut (.cons (.idx (.idx (.var 0) (.c (.int 1))) (.c (.int 0))) (.cons (.idx (.idx (.var 1) (.c (.int 1))) (.c (.int 0))) .nil))) (.cons (.call f_cut (.cons (.idx (.idx (.var 0) (.c (.int 1))) (.c (.int 1))) (.cons (.idx (.idx (.var 1) (.c (.int 1))) (.c (.int 1))) .nil))) .nil)))
  (.ret (.tup (.cons (.call f_cut (.cons (.idx (.var 0) (.c (.int 0))) (.cons (.idx (.var 1) (.c (.int 0))) .nil))) (.cons (.var 2) .nil)))))
/-- sum_of(one, other): slots 0=one 1=other -/
def b_sum_of : CS :=
  (.ret (.tup (.cons (.call f_add (.cons (.idx (.var 0) (.c (.int 0))) (.cons (.idx (.var 1) (.c (.int 0))) .nil))) (.cons (.tup (.cons (.call f_add (.cons (.idx (.idx (.var 0) (.c (.int 1))) (.c (.int 0))) (.cons (.idx (.idx (.var 1) (.c (.int 1))) (.c (.int 0))) .nil))) (.cons (.call f_add (.cons (.idx (.idx (.var 0) (.c (.int 1))) (.c (.int 1))) (.cons (.idx (.idx (.var 1) (.c (.int 1))) (.c (.int 1))) .nil))) .nil))) .nil))))
def l_cone_0 : CS :=
  (.set 7 (.idx (.call f_cone (.cons (.idx (.var 5) (.c (.int 3))) (.cons (.lst (.cons (.var 7) .nil)) (.cons (.var 2) (.cons (.var 3) .nil))))) (.neg (.c (.int 1))))
  (.wip [10] .nil))
def l_cone_1 : CS :=
  (.set 6 (.idx (.var 5) (.c (.int 0)))
  (.ite (.cmp .eq (.var 6) (.c (.str "is")))
    (.set 7 (.tup (.cons (.idx (.var 5) (.c (.int 1))) (.cons (.tup (.cons (.glb g_NOUGHT) (.cons (.glb g_NOUGHT) .nil))) .nil)))
      .nil)
    (.ite (.cmp .eq (.var 6) (.c (.str "in")))
        (.set 7 (.idx (.var 1) (.idx (.var 5) (.c (.int 1))))
          .nil)
        (.ite (.cmp .eq (.var 6) (.c (.str "by")))
            (.unp [8, 9] (.idx (.var 4) (.idx (.var 5) (.c (.int 2))))
              (.set 7 (.tup (.cons (.call f_grow (.cons (.idx (.var 5) (.c (.int 1))) (.cons (.var 8) .nil))) (.cons (.tup (.cons (.call f_grow (.cons (.idx (.var 5) (.c (.int 1))) (.cons (.idx (.var 9) (.c (.int 0))) .nil))) (.cons (.call f_grow (.cons (.idx (.var 5) (.c (.int 1))) (.cons (.idx (.var 9) (.c (.int 1))) .nil))) .nil))) .nil)))
              .nil))
            (.ite (.cmp .eq (.var 6) (.c (.str "if")))
                (.set 7 (.ife (.cmp .le (.call f_leaning (.cons (.idx (.var 4) (.idx (.var 5) (.c (.int 1)))) (.cons (.var 2) (.cons (.var 3) .nil)))) (.c (.int 0))) (.idx (.var 4) (.idx (.var 5) (.c (.int 2)))) (.idx (.var 4) (.idx (.var 5) (.c (.int 3)))))
                  .nil)
                (.ite (.cmp .eq (.var 6) (.c (.str "turns")))
                    (.set 7 (.idx (.var 4) (.idx (.var 5) (.c (.int 2))))
                      (.forE .rng (.nm 10) (.cons (.idx (.var 5) (.c (.int 1))) .nil) l_cone_0
                      (.wip [10] .nil)))
                    (.ite (.cmp .eq (.var 6) (.c (.str "sum")))
                        (.set 7 (.call f_sum_of (.cons (.idx (.var 4) (.idx (.var 5) (.c (.int 1)))) (.cons (.idx (.var 4) (.idx (.var 5) (.c (.int 2)))) .nil)))
                          .nil)
                        (.set 11 (.call f_leaning (.cons (.call f_apart_of (.cons (.idx (.var 4) (.idx (.var 5) (.c (.int 1)))) (.cons (.idx (.var 4) (.idx (.var 5) (.c (.int 2)))) .nil))) (.cons (.var 2) (.cons (.var 3) .nil))))
                          (.set 7 (.ife (.cmp .eq (.cmp .le (.var 11) (.c (.int 0))) (.cmp .eq (.var 6) (.c (.str "least")))) (.idx (.var 4) (.idx (.var 5) (.c (.int 1)))) (.idx (.var 4) (.idx (.var 5) (.c (.int 2)))))
                          .nil))
                      .nil)
                  .nil)
              .nil)
          .nil)
      .nil)
  (.app 4 (.var 7)
  (.wip [5, 6, 7, 8, 9, 10, 11] .nil))))
/-- cone(steps, begins, way, rays): slots 0=steps 1=begins 2=way 3=rays 4=found 5=step 6=kind 7=line 8=worth 9=slopes 10=turn 11=sign -/
def b_cone : CS :=
  (.own 4 (.lst .nil)
  (.forE .seq (.nm 5) (.var 0) l_cone_1
  (.wip [5, 6, 7, 8, 9, 10, 11] (.ret (.var 4)))))
/-- turn_of(way): slots 0=way 1=upper -/
def b_turn_of : CS :=
  (.set 1 (.or (.cmp .gt (.idx (.idx (.var 0) (.c (.int 1))) (.c (.int 0))) (.c (.int 0))) (.and (.cmp .eq (.idx (.idx (.var 0) (.c (.int 1))) (.c (.int 0))) (.c (.int 0))) (.cmp .gt (.idx (.idx (.var 0) (.c (.int 0))) (.c (.int 0))) (.c (.int 0)))))
  (.ret (.ife (.var 1) (.c (.int 0)) (.c (.int 1)))))
/-- ahead(one, other): slots 0=one 1=other -/
def b_ahead : CS :=
  (.ite (.cmp .ne (.call f_turn_of (.cons (.var 0) .nil)) (.call f_turn_of (.cons (.var 1) .nil)))
    (.ret (.cmp .lt (.call f_turn_of (.cons (.var 0) .nil)) (.call f_turn_of (.cons (.var 1) .nil))))
    .nil
  (.ret (.cmp .gt (.call f_lies (.cons (.call f_grow (.cons (.idx (.var 0) (.c (.int 0))) (.cons (.idx (.var 1) (.c (.int 1))) .nil))) (.cons (.call f_grow (.cons (.idx (.var 0) (.c (.int 1))) (.cons (.idx (.var 1) (.c (.int 0))) .nil))) .nil))) (.c (.int 0)))))
def l_ways_of_0 : CS :=
  (.ext 4 (.lst (.cons (.var 6) (.cons (.tup (.cons (.call f_add (.cons (.idx (.var 6) (.c (.int 0))) (.cons (.idx (.var 7) (.c (.int 0))) .nil))) (.cons (.call f_add (.cons (.idx (.var 6) (.c (.int 1))) (.cons (.idx (.var 7) (.c (.int 1))) .nil))) .nil))) .nil)))
  (.wip [6, 7] .nil))
def l_ways_of_1 : CS :=
  (.ex (.call f_cone (.cons (.idx (.var 0) (.c (.int 1))) (.cons (.var 2) (.cons (.var 8) (.cons (.var 5) .nil)))))
  (.wip [8] .nil))
def l_ways_of_2 : CS :=
  (.par 4 5 true false (.lst .nil) (.lst .nil)
  (.forE .zip (.tp [6, 7]) (.cons (.var 3) (.cons (.bin .add (.sl (.var 3) (.c (.int 1)) .nil) (.sl (.var 3) .nil (.c (.int 1)))) .nil)) l_ways_of_0
  (.wip [6, 7] (.forE .seq (.nm 8) (.var 4) l_ways_of_1
  (.wip [8] (.set 9 (.call f_rounded (.cons (.bin .add (.var 3) (.var 5)) .nil))
  (.ite (.cmp .eq (.bi .len (.cons (.var 9) .nil)) (.bi .len (.cons (.var 3) .nil)))
    (.ret (.var 4))
    .nil
  (.set 3 (.var 9)
  (.wip [4, 5, 6, 7, 8, 9] .nil)))))))))
/-- ways_of(program, places): slots 0=program 1=places 2=begins 3=rays 4=found 5=more 6=one 7=other 8=way 9=wider -/
def b_ways_of : CS :=
  (.set 2 (.lst (.cons (.tup (.cons (.idx (.var 1) (.c (.int 0))) (.cons (.tup (.cons (.tup (.cons (.c (.int 1)) (.cons (.c (.int 1)) .nil))) (.cons (.glb g_NOUGHT) .nil))) .nil))) (.cons (.tup (.cons (.idx (.var 1) (.c (.int 1))) (.cons (.tup (.cons (.glb g_NOUGHT) (.cons (.tup (.cons (.c (.int 1)) (.cons (.c (.int 1)) .nil))) .nil))) .nil))) .nil)))
  (.set 3 (.call f_rounded (.cons (.lst .nil) .nil))
  (.whl (.c (.bl true)) l_ways_of_2
  (.wip [3, 4, 5, 6, 7, 8, 9] .nil))))
/-- flat(program, places): slots 0=program 1=places 2=kind 3=found -/
def b_flat : CS :=
  (.ex (.call f_asked_program (.cons (.var 0) .nil))
  (.ite (.cmp .ne (.idx (.var 0) (.c (.int 0))) (.c (.int 2)))
    (.rai x_Others)
    .nil
  (.ex (.call f_asked_places (.cons (.var 0) (.cons (.var 1) .nil)))
  (.unp [2, 3] (.call f_slopes_of (.cons (.var 0) (.cons (.var 1) .nil)))
  (.ret (.ife (.cmp .eq (.var 2) (.c (.str "flat"))) (.mk c_Flat (.cons (.var 3) .nil)) (.mk c_Kinked (.cons (.idx (.var 3) (.c (.int 0))) (.cons (.idx (.var 3) (.c (.int 1))) .nil)))))))))
/-- shows(self, program, places): slots 0=self 1=program 2=places 3=found -/
def b_Flat_shows : CS :=
  (.set 3 (.call f_slopes_of (.cons (.var 1) (.cons (.var 2) .nil)))
  (.ret (.and (.cmp .eq (.idx (.var 3) (.c (.int 0))) (.c (.str "flat"))) (.cmp .eq (.fld (.var 0) a_slopes) (.idx (.var 3) (.c (.int 1)))))))
/-- shows(self, program, places): slots 0=self 1=program 2=places -/
def b_Kinked_shows : CS :=
  (.ite (.or (.cmp .ne (.bi .len (.cons (.fld (.var 0) a_one) .nil)) (.c (.int 2))) (.cmp .ne (.bi .len (.cons (.fld (.var 0) a_other) .nil)) (.c (.int 2))))
    (.ret (.c (.bl false)))
    .nil
  (.ret (.call f_kinks (.cons (.var 1) (.cons (.var 2) (.cons (.fld (.var 0) a_one) (.cons (.fld (.var 0) a_other) .nil)))))))
/-- mixed_mark(one, other, bent): slots 0=one 1=other 2=bent 3=some 4=wrong -/
def b_mixed_mark : CS :=
  (.set 3 (.tup (.cons (.var 0) (.cons (.var 1) .nil)))
  (.ite (.cmp .inn (.glb g_NONE) (.var 3))
    (.ret (.glb g_NONE))
    .nil
  (.ite (.and (.cmp .eq (.var 2) (.c (.str ""))) (.and (.cmp .inn (.glb g_UP) (.var 3)) (.cmp .inn (.glb g_DOWN) (.var 3))))
    (.ret (.glb g_NONE))
    .nil
  (.ite (.cmp .eq (.var 3) (.tup (.cons (.glb g_LEVEL) (.cons (.glb g_LEVEL) .nil))))
    (.ret (.glb g_LEVEL))
    .nil
  (.ite (.cmp .eq (.var 2) (.c (.str "")))
    (.ret (.ife (.cmp .inn (.glb g_DOWN) (.var 3)) (.glb g_DOWN) (.ife (.cmp .inn (.glb g_UP) (.var 3)) (.glb g_UP) (.glb g_STRAIGHT))))
    .nil
  (.set 4 (.ife (.cmp .eq (.var 2) (.glb g_DOWN)) (.glb g_UP) (.glb g_DOWN))
  (.ret (.ife (.cmp .inn (.var 4) (.var 3)) (.glb g_NONE) (.var 2)))))))))
/-- scaled_mark(mark, number): slots 0=mark 1=number -/
def b_scaled_mark : CS :=
  (.ite (.cmp .eq (.idx (.var 1) (.c (.int 0))) (.c (.int 0)))
    (.ret (.glb g_LEVEL))
    .nil
  (.ite (.or (.cmp .gt (.idx (.var 1) (.c (.int 0))) (.c (.int 0))) (.cmp .nin (.var 0) (.tup (.cons (.glb g_DOWN) (.cons (.glb g_UP) .nil)))))
    (.ret (.var 0))
    .nil
  (.ret (.ife (.cmp .eq (.var 0) (.glb g_DOWN)) (.glb g_UP) (.glb g_DOWN)))))
def l_mark_of_0 : CS :=
  (.set 4 (.idx (.call f_marks_of (.cons (.idx (.var 0) (.c (.int 3))) (.cons (.var 4) .nil))) (.neg (.c (.int 1))))
  (.wip [5] .nil))
/-- mark_of(step, found, begin): slots 0=step 1=found 2=begin 3=kind 4=mark 5=turn 6=one 7=other -/
def b_mark_of : CS :=
  (.set 3 (.idx (.var 0) (.c (.int 0)))
  (.ite (.cmp .eq (.var 3) (.c (.str "is")))
    (.ret (.glb g_LEVEL))
    .nil
  (.ite (.cmp .eq (.var 3) (.c (.str "in")))
    (.ret (.var 2))
    .nil
  (.ite (.cmp .eq (.var 3) (.c (.str "by")))
    (.ret (.call f_scaled_mark (.cons (.idx (.var 1) (.idx (.var 0) (.c (.int 2)))) (.cons (.idx (.var 0) (.c (.int 1))) .nil))))
    .nil
  (.ite (.cmp .eq (.var 3) (.c (.str "if")))
    (.ret (.ife (.cmp .eq (.idx (.var 0) (.c (.int 2))) (.idx (.var 0) (.c (.int 3)))) (.idx (.var 1) (.idx (.var 0) (.c (.int 2)))) (.glb g_NONE)))
    .nil
  (.ite (.cmp .eq (.var 3) (.c (.str "turns")))
    (.set 4 (.idx (.var 1) (.idx (.var 0) (.c (.int 2))))
      (.forE .rng (.nm 5) (.cons (.idx (.var 0) (.c (.int 1))) .nil) l_mark_of_0
      (.wip [5] (.ret (.var 4)))))
    .nil
  (.par 6 7 false false (.idx (.var 1) (.idx (.var 0) (.c (.int 1)))) (.idx (.var 1) (.idx (.var 0) (.c (.int 2))))
  (.ite (.and (.cmp .eq (.idx (.var 0) (.c (.int 1))) (.idx (.var 0) (.c (.int 2)))) (.cmp .ne (.var 3) (.c (.str "sum"))))
    (.ret (.var 6))
    .nil
  (.ret (.call f_mixed_mark (.cons (.var 6) (.cons (.var 7) (.cons (.ife (.cmp .eq (.var 3) (.c (.str "sum"))) (.c (.str "")) (.ife (.cmp .eq (.var 3) (.c (.str "most"))) (.glb g_DOWN) (.glb g_UP))) .nil)))))))))))))
def l_marks_of_0 : CS :=
  (.app 2 (.call f_mark_of (.cons (.var 3) (.cons (.var 2) (.cons (.var 1) .nil))))
  (.wip [3] .nil))
/-- marks_of(steps, begin): slots 0=steps 1=begin 2=found 3=step -/
def b_marks_of : CS :=
  (.own 2 (.lst .nil)
  (.forE .seq (.nm 3) (.var 0) l_marks_of_0
  (.wip [3] (.reto 2))))
/-- marks(program): slots 0=program -/
def b_marks : CS :=
  (.ex (.call f_asked_program (.cons (.var 0) .nil))
  (.retf (.callf f_marks_of (.cons (.idx (.var 0) (.c (.int 1))) (.cons (.glb g_STRAIGHT) .nil)))))
/-- next_place(picture, place): slots 0=picture 1=place 2=down 3=up 4=one -/
def b_next_place : CS :=
  (.unp [2, 3] (.call f_limits (.cons (.var 0) (.cons (.var 1) .nil)))
  (.ite (.and (.cmp .notN (.var 3) (.c .non)) (.cmp .lt (.idx (.idx (.var 3) (.c (.int 1))) (.c (.int 0))) (.c (.int 0))))
    (.ret (.idx (.comp .seq (.nm 4) [4] (.fld (.var 0) a_places) (.cmp .lt (.call f_lies (.cons (.var 1) (.cons (.var 4) .nil))) (.c (.int 0))) (.var 4)) (.c (.int 0))))
    .nil
  (.ite (.and (.cmp .notN (.var 2) (.c .non)) (.cmp .gt (.idx (.idx (.var 2) (.c (.int 1))) (.c (.int 0))) (.c (.int 0))))
    (.ret (.idx (.comp .seq (.nm 4) [4] (.fld (.var 0) a_places) (.cmp .lt (.call f_lies (.cons (.var 4) (.cons (.var 1) .nil))) (.c (.int 0))) (.var 4)) (.neg (.c (.int 1)))))
    .nil
  (.ret (.var 1)))))
/-- next_at(picture, at): slots 0=picture 1=at -/
def b_next_at : CS :=
  (.ite (.and (.cmp .lt (.var 1) (.bi .len (.cons (.fld (.var 0) a_pieces) .nil))) (.cmp .lt (.idx (.idx (.idx (.fld (.var 0) a_pieces) (.var 1)) (.c (.int 1))) (.c (.int 0))) (.c (.int 0))))
    (.ret (.bin .add (.var 1) (.c (.int 1))))
    .nil
  (.ite (.and (.cmp .gt (.var 1) (.c (.int 0))) (.cmp .gt (.idx (.idx (.idx (.fld (.var 0) a_pieces) (.bin .sub (.var 1) (.c (.int 1)))) (.c (.int 1))) (.c (.int 0))) (.c (.int 0))))
    (.ret (.bin .sub (.var 1) (.c (.int 1))))
    .nil
  (.ret (.var 1))))
/-- rests(picture, place): slots 0=picture 1=place -/
def b_rests : CS :=
  (.ite (.cmp .ne (.call f_jumps (.cons (.var 0) .nil)) (.lst .nil))
    (.rai x_Jumpy)
    .nil
  (.ex (.call f_asked_within (.cons (.var 0) (.cons (.var 1) .nil)))
  (.ret (.cmp .eq (.call f_next_place (.cons (.var 0) (.cons (.var 1) .nil))) (.var 1)))))
/-- renamed(step, names): slots 0=step 1=names 2=one -/
def b_renamed : CS :=
  (.ite (.cmp .inn (.idx (.var 0) (.c (.int 0))) (.tup (.cons (.c (.str "is")) (.cons (.c (.str "in")) .nil))))
    (.ret (.var 0))
    .nil
  (.ite (.cmp .eq (.idx (.var 0) (.c (.int 0))) (.c (.str "by")))
    (.ret (.tup (.cons (.c (.str "by")) (.cons (.idx (.var 0) (.c (.int 1))) (.cons (.idx (.var 1) (.idx (.var 0) (.c (.int 2)))) .nil)))))
    .nil
  (.ite (.cmp .eq (.idx (.var 0) (.c (.int 0))) (.c (.str "turns")))
    (.ret (.tup (.cons (.c (.str "turns")) (.cons (.idx (.var 0) (.c (.int 1))) (.cons (.idx (.var 1) (.idx (.var 0) (.c (.int 2)))) (.cons (.bi .list (.cons (.idx (.var 0) (.c (.int 3))) .nil)) .nil))))))
    .nil
  (.ret (.bin .add (.tup (.cons (.idx (.var 0) (.c (.int 0))) .nil)) (.bi .tuple (.cons (.comp .seq (.nm 2) [2] (.sl (.var 0) (.c (.int 1)) .nil) .nil (.idx (.var 1) (.var 2))) .nil)))))))
/-- unrolled_of(program): slots 0=program 1=found 2=last 3=k -/
def b_unrolled_of : CS :=
  (.set 1 (.comp .rng (.nm 3) [3] (.cons (.idx (.var 0) (.c (.int 0))) .nil) .nil (.tup (.cons (.c (.str "in")) (.cons (.var 3) .nil))))
  (.set 2 (.call f_laid (.cons (.idx (.var 0) (.c (.int 1))) (.cons (.lrg (.idx (.var 0) (.c (.int 0)))) (.cons (.var 1) .nil))))
  (.ret (.call f_shorter (.cons (.tup (.cons (.idx (.var 0) (.c (.int 0))) (.cons (.var 1) .nil))) (.cons (.var 2) .nil))))))
/-- unrolled(program): slots 0=program -/
def b_unrolled : CS :=
  (.ex (.call f_asked_program (.cons (.var 0) .nil))
  (.ret (.call f_unrolled_of (.cons (.var 0) .nil))))
/-- shortened(program): slots 0=program -/
def b_shortened : CS :=
  (.ex (.call f_asked_program (.cons (.var 0) .nil))
  (.ret (.call f_shorter (.cons (.tup (.cons (.idx (.var 0) (.c (.int 0))) (.cons (.idx (.var 0) (.c (.int 1))) .nil))) (.cons (.bin .sub (.bi .len (.cons (.idx (.var 0) (.c (.int 1))) .nil)) (.c (.int 1))) .nil)))))
/-- ended(inputs, found, last): slots 0=inputs 1=found 2=last -/
def b_ended : CS :=
  (.ite (.cmp .ne (.var 2) (.bin .sub (.bi .len (.cons (.var 1) .nil)) (.c (.int 1))))
    (.set 1 (.bin .add (.var 1) (.lst (.cons (.tup (.cons (.c (.str "by")) (.cons (.glb g_ONE) (.cons (.var 2) .nil)))) .nil)))
      .nil)
    .nil
  (.ret (.tup (.cons (.var 0) (.cons (.var 1) .nil)))))
def l_behind_0 : CS :=
  (.ite (.cmp .eq (.idx (.var 4) (.c (.int 0))) (.c (.str "in")))
    (.app 2 (.bin .sub (.bi .len (.cons (.idx (.var 1) (.c (.int 1))) .nil)) (.c (.int 1)))
      .nil)
    (.app 3 (.call f_renamed (.cons (.var 4) (.cons (.var 2) .nil)))
      (.app 2 (.bin .sub (.bi .len (.cons (.var 3) .nil)) (.c (.int 1)))
      .nil))
  (.wip [4] .nil))
/-- behind(outer, inner): slots 0=outer 1=inner 2=names 3=found 4=step -/
def b_behind : CS :=
  (.ex (.call f_asked_program (.cons (.var 0) .nil))
  (.ex (.call f_asked_program (.cons (.var 1) .nil))
  (.ite (.cmp .ne (.idx (.var 0) (.c (.int 0))) (.c (.int 1)))
    (.rai x_Others)
    .nil
  (.ex (.call f_asked_few (.cons (.lst (.cons (.var 0) (.cons (.var 1) .nil))) (.cons (.glb g_MOST_RUN) (.cons (.glb g_MOST_CHOICES) .nil))))
  (.own 2 (.lst .nil)
  (.own 3 (.comp .seq (.nm 4) [4] (.idx (.var 1) (.c (.int 1))) .nil (.call f_renamed (.cons (.var 4) (.cons (.lrg (.bi .len (.cons (.idx (.var 1) (.c (.int 1))) .nil))) .nil))))
  (.wip [4] (.forE .seq (.nm 4) (.idx (.var 0) (.c (.int 1))) l_behind_0
  (.wip [4] (.ret (.call f_ended (.cons (.idx (.var 1) (.c (.int 0))) (.cons (.var 3) (.cons (.idx (.var 2) (.neg (.c (.int 1)))) .nil))))))))))))))
def l_stirred_0 : CS :=
  (.app 3 (.call f_renamed (.cons (.var 5) (.cons (.var 2) .nil)))
  (.app 2 (.bin .sub (.bi .len (.cons (.var 3) .nil)) (.c (.int 1)))
  (.ite (.cmp .eq (.var 4) (.var 1))
    (.ext 3 (.lst (.cons (.tup (.cons (.c (.str "in")) (.cons (.idx (.var 0) (.c (.int 0))) .nil))) (.cons (.tup (.cons (.c (.str "sum")) (.cons (.bin .sub (.bi .len (.cons (.var 3) .nil)) (.c (.int 1))) (.cons (.bi .len (.cons (.var 3) .nil)) .nil)))) .nil)))
      (.sto 2 (.neg (.c (.int 1))) (.bin .sub (.bi .len (.cons (.var 3) .nil)) (.c (.int 1)))
      .nil))
    .nil
  (.wip [4, 5] .nil))))
/-- stirred(program, at): slots 0=program 1=at 2=names 3=found 4=count 5=step -/
def b_stirred : CS :=
  (.ex (.call f_asked_program (.cons (.var 0) .nil))
  (.ite (.or (.nt (.call f_is_whole (.cons (.var 1) .nil))) (.nt (.cmp2 .le .lt (.c (.int 0)) (.var 1) (.bi .len (.cons (.idx (.var 0) (.c (.int 1))) .nil)))))
    (.rai x_BadStep)
    .nil
  (.ex (.call f_asked_few (.cons (.lst (.cons (.var 0) .nil)) (.cons (.bin .sub (.glb g_MOST_RUN) (.c (.int 2))) (.cons (.glb g_MOST_CHOICES) .nil))))
  (.ite (.cmp .eq (.idx (.var 0) (.c (.int 0))) (.glb g_MOST_INPUTS))
    (.rai x_BadProgram)
    .nil
  (.par 2 3 true true (.lst .nil) (.lst .nil)
  (.forE .enum (.tp [4, 5]) (.cons (.idx (.var 0) (.c (.int 1))) .nil) l_stirred_0
  (.wip [4, 5] (.ret (.tup (.cons (.bin .add (.idx (.var 0) (.c (.int 0))) (.c (.int 1))) (.cons (.var 3) .nil)))))))))))
def l_fixed_0 : CS :=
  (.ite (.cmp .eq (.idx (.var 5) (.c (.int 0))) (.c (.str "in")))
    (.app 3 (.ife (.cmp .eq (.idx (.var 5) (.c (.int 1))) (.var 2)) (.tup (.cons (.c (.str "in")) (.cons (.c (.int 0)) .nil))) (.tup (.cons (.c (.str "is")) (.cons (.idx (.var 1) (.idx (.var 5) (.c (.int 1)))) .nil))))
      .nil)
    (.app 3 (.call f_renamed (.cons (.var 5) (.cons (.var 4) .nil)))
      .nil)
  (.wip [5] .nil))
/-- fixed(program, places, at): slots 0=program 1=places 2=at 3=found 4=names 5=step -/
def b_fixed : CS :=
  (.ex (.call f_asked_program (.cons (.var 0) .nil))
  (.ex (.call f_asked_places (.cons (.var 0) (.cons (.var 1) .nil)))
  (.ite (.or (.nt (.call f_is_whole (.cons (.var 2) .nil))) (.nt (.cmp2 .le .lt (.c (.int 0)) (.var 2) (.idx (.var 0) (.c (.int 0))))))
    (.rai x_BadStep)
    .nil
  (.par 3 4 true false (.lst .nil) (.lrg (.bi .len (.cons (.idx (.var 0) (.c (.int 1))) .nil)))
  (.forE .seq (.nm 5) (.idx (.var 0) (.c (.int 1))) l_fixed_0
  (.wip [5] (.ret (.tup (.cons (.c (.int 1)) (.cons (.var 3) .nil))))))))))
def l_carried_0 : CS :=
  (.ext 3 (.lst (.cons (.tup (.cons (.c (.str "by")) (.cons (.var 7) (.cons (.c (.int 0)) .nil)))) (.cons (.tup (.cons (.c (.str "is")) (.cons (.var 6) .nil))) (.cons (.tup (.cons (.c (.str "sum")) (.cons (.bi .len (.cons (.var 3) .nil)) (.cons (.bin .add (.bi .len (.cons (.var 3) .nil)) (.c (.int 1))) .nil)))) .nil))))
  (.app 4 (.bin .sub (.bi .len (.cons (.var 3) .nil)) (.c (.int 1)))
  (.wip [6, 7] .nil)))
def l_carried_1 : CS :=
  (.ite (.cmp .eq (.idx (.var 8) (.c (.int 0))) (.c (.str "in")))
    (.app 5 (.idx (.var 4) (.idx (.var 8) (.c (.int 1))))
      .nil)
    (.app 3 (.call f_renamed (.cons (.var 8) (.cons (.var 5) .nil)))
      (.app 5 (.bin .sub (.bi .len (.cons (.var 3) .nil)) (.c (.int 1)))
      .nil))
  (.wip [8] .nil))
/-- carried(program, places, ways): slots 0=program 1=places 2=ways 3=found 4=begins 5=names 6=place 7=way 8=step -/
def b_carried : CS :=
  (.ex (.call f_asked_program (.cons (.var 0) .nil))
  (.ex (.call f_asked_places (.cons (.var 0) (.cons (.var 1) .nil)))
  (.ex (.call f_asked_ways (.cons (.var 0) (.cons (.var 2) .nil)))
  (.ex (.call f_asked_few (.cons (.lst (.cons (.var 0) .nil)) (.cons (.glb g_MOST_CARRIED) (.cons (.glb g_MOST_CHOICES) .nil))))
  (.par3 3 4 5 true true true (.lst (.cons (.tup (.cons (.c (.str "in")) (.cons (.c (.int 0)) .nil))) .nil)) (.lst .nil) (.lst .nil)
  (.forE .zip (.tp [6, 7]) (.cons (.var 1) (.cons (.var 2) .nil)) l_carried_0
  (.wip [6, 7] (.forE .seq (.nm 8) (.idx (.var 0) (.c (.int 1))) l_carried_1
  (.wip [8] (.ite (.cmp .ne (.idx (.var 5) (.neg (.c (.int 1)))) (.bin .sub (.bi .len (.cons (.var 3) .nil)) (.c (.int 1))))
    (.app 3 (.tup (.cons (.c (.str "by")) (.cons (.tup (.cons (.c (.int 1)) (.cons (.c (.int 1)) .nil))) (.cons (.idx (.var 5) (.neg (.c (.int 1)))) .nil))))
      .nil)
    .nil
  (.ret (.tup (.cons (.c (.int 1)) (.cons (.var 3) .nil))))))))))))))
/-- tuned(program, places, at, low, high, number): slots 0=program 1=places 2=at 3=low 4=high 5=number 6=one -/
def b_tuned : CS :=
  (.ex (.call f_asked_program (.cons (.var 0) .nil))
  (.ex (.call f_asked_places (.cons (.var 0) (.cons (.var 1) .nil)))
  (.set 6 (.call f_stirred (.cons (.var 0) (.cons (.var 2) .nil)))
  (.retf (.callf f_spans (.cons (.call f_picture (.cons (.call f_fixed (.cons (.var 6) (.cons (.bin .add (.var 1) (.lst (.cons (.tup (.cons (.c (.int 0)) (.cons (.c (.int 1)) .nil))) .nil))) (.cons (.idx (.var 0) (.c (.int 0))) .nil)))) (.cons (.var 3) (.cons (.var 4) .nil)))) (.cons (.var 5) .nil)))))))
/-- _law_number(_law_cell, _law_at, _law_whole): slots 0=_law_cell 1=_law_at 2=_law_whole 3=_law_blend 4=_law_more -/
def b_law_number : CS :=
  (.ite (.cmp .ge (.bi .abs (.cons (.var 0) .nil)) (.bin .pow (.c (.int 10)) (.c (.int 60))))
    (.set 0 (.bin .mod (.var 0) (.bin .pow (.c (.int 10)) (.c (.int 18))))
      .nil)
    .nil
  (.ite (.cmp .ge (.var 0) (.bin .pow (.c (.int 10)) (.c (.int 18))))
    (.ret (.bin .fdiv (.var 0) (.bin .add (.c (.int 1)) (.bin .mod (.var 1) (.c (.int 7))))))
    .nil
  (.set 3 (.bin .mod (.bin .add (.bin .mul (.bin .add (.var 0) (.bin .mul (.c (.int 977)) (.var 1))) (.c (.int 48271))) (.var 2)) (.c (.int 2147483647)))
  (.set 4 (.bin .mul (.var 3) (.bin .add (.bin .add (.var 0) (.bin .mul (.c (.int 31)) (.var 1))) (.c (.int 7))))
  (.ret (.bin .fdiv (.bin .mul (.bin .mul (.var 4) (.bin .add (.bin .add (.var 3) (.var 0)) (.c (.int 5)))) (.bin .add (.bin .mul (.var 3) (.var 3)) (.c (.int 11)))) (.bin .add (.c (.int 1009)) (.var 1))))))))
def l_law_low_0 : CS :=
  (.par 2 3 false false (.var 3) (.bin .mod (.var 2) (.var 3))
  .nil)
/-- _law_low(_law_above, _law_below): slots 0=_law_above 1=_law_below 2=_law_one 3=_law_other -/
def b_law_low : CS :=
  (.par 2 3 false false (.bi .abs (.cons (.var 0) .nil)) (.bi .abs (.cons (.var 1) .nil))
  (.whl (.cmp .gt (.var 3) (.c (.int 0))) l_law_low_0
  (.wip [3] (.ite (.cmp .lt (.var 1) (.c (.int 0)))
    (.set 2 (.neg (.var 2))
      .nil)
    .nil
  (.ret (.tup (.cons (.bin .fdiv (.var 0) (.var 2)) (.cons (.bin .fdiv (.var 1) (.var 2)) .nil))))))))
/-- _law_good(_law_found): slots 0=_law_found 1=_law_one -/
def b_law_good : CS :=
  (.ite (.or (.nt (.isi (.var 0) .tuple)) (.cmp .ne (.bi .len (.cons (.var 0) .nil)) (.c (.int 2))))
    (.ret (.c (.bl false)))
    .nil
  (.ite (.nt (.bi .all (.cons (.comp .seq (.nm 1) [1] (.var 0) .nil (.and (.isi (.var 1) .int) (.nt (.isi (.var 1) .bool)))) .nil)))
    (.ret (.c (.bl false)))
    .nil
  (.ret (.and (.cmp .gt (.idx (.var 0) (.c (.int 1))) (.c (.int 0))) (.cmp .eq (.var 0) (.call f_law_low (.cons (.idx (.var 0) (.c (.int 0))) (.cons (.idx (.var 0) (.c (.int 1))) .nil))))))))
/-- _law_share(_law_number_here, _law_wide): slots 0=_law_number_here 1=_law_wide -/
def b_law_share : CS :=
  (.ret (.call f_law_low (.cons (.bin .sub (.bin .mod (.bin .fdiv (.var 0) (.c (.int 7))) (.bin .add (.bin .mul (.c (.int 2)) (.var 1)) (.c (.int 1)))) (.var 1)) (.cons (.idx (.tup (.cons (.c (.int 1)) (.cons (.c (.int 1)) (.cons (.c (.int 2)) (.cons (.c (.int 3)) .nil))))) (.bin .mod (.bin .fdiv (.var 0) (.c (.int 3))) (.c (.int 4)))) .nil))))
def l_law_body_0 : CS :=
  (.par 4 5 false false (.bin .mod (.bin .fdiv (.var 0) (.bin .add (.c (.int 5)) (.var 3))) (.c (.int 6))) (.bi .len (.cons (.var 1) .nil))
  (.set 6 (.bin .mod (.bin .fdiv (.var 0) (.bin .add (.c (.int 40)) (.var 3))) (.var 5))
  (.ite (.cmp .eq (.var 4) (.c (.int 0)))
    (.app 1 (.tup (.cons (.c (.str "by")) (.cons (.call f_law_share (.cons (.bin .fdiv (.var 0) (.bin .add (.c (.int 9)) (.var 3))) (.cons (.c (.int 2)) .nil))) (.cons (.bin .sub (.var 5) (.c (.int 1))) .nil))))
      .nil)
    (.ite (.and (.cmp .eq (.var 4) (.c (.int 1))) (.cmp .eq (.var 2) (.c (.int 0))))
        (.app 1 (.tup (.cons (.idx (.tup (.cons (.c (.str "least")) (.cons (.c (.str "most")) .nil))) (.bin .mod (.bin .fdiv (.var 0) (.c (.int 2))) (.c (.int 2)))) (.cons (.bin .sub (.var 5) (.c (.int 1))) (.cons (.var 6) .nil))))
          (.set 2 (.c (.int 1))
          .nil))
        (.ite (.and (.cmp .eq (.var 4) (.c (.int 2))) (.cmp .eq (.var 2) (.c (.int 0))))
            (.app 1 (.tup (.cons (.c (.str "if")) (.cons (.var 6) (.cons (.bin .sub (.var 5) (.c (.int 1))) (.cons (.bin .mod (.bin .fdiv (.var 0) (.c (.int 60))) (.var 5)) .nil)))))
              (.set 2 (.c (.int 1))
              .nil))
            (.ite (.cmp .eq (.var 4) (.c (.int 3)))
                (.app 1 (.tup (.cons (.c (.str "sum")) (.cons (.bin .sub (.var 5) (.c (.int 1))) (.cons (.var 6) .nil))))
                  .nil)
                (.ext 1 (.lst (.cons (.tup (.cons (.c (.str "is")) (.cons (.call f_law_share (.cons (.bin .fdiv (.var 0) (.bin .add (.c (.int 11)) (.var 3))) (.cons (.c (.int 3)) .nil))) .nil))) (.cons (.tup (.cons (.c (.str "sum")) (.cons (.bin .sub (.var 5) (.c (.int 1))) (.cons (.var 5) .nil)))) .nil)))
                  .nil)
              .nil)
          .nil)
      .nil)
  (.wip [3, 4, 5, 6] .nil))))
/-- _law_body(_law_number_here): slots 0=_law_number_here 1=_law_body_here 2=_law_choices 3=_law_turn 4=_law_kind 5=_law_long 6=_law_other -/
def b_law_body : CS :=
  (.par 1 2 true false (.lst (.cons (.tup (.cons (.c (.str "in")) (.cons (.c (.int 0)) .nil))) .nil)) (.c (.int 0))
  (.forE .rng (.nm 3) (.cons (.bin .add (.c (.int 1)) (.bin .mod (.var 0) (.c (.int 3)))) .nil) l_law_body_0
  (.wip [3, 4, 5, 6] (.ret (.tup (.cons (.var 1) (.cons (.var 2) .nil)))))))
def l_law_program_0 : CS :=
  (.set 10 (.call f_law_number (.cons (.var 9) (.cons (.bin .add (.var 8) (.var 1)) (.cons (.bi .len (.cons (.var 4) .nil)) .nil))))
  (.par 11 12 false false (.bin .mod (.var 10) (.c (.int 9))) (.bi .len (.cons (.var 7) .nil))
  (.par 13 14 false false (.bin .sub (.bin .sub (.var 12) (.c (.int 1))) (.bin .mod (.bin .fdiv (.var 10) (.c (.int 9))) (.bi .min (.cons (.var 12) (.cons (.c (.int 2)) .nil))))) (.bin .mod (.bin .fdiv (.var 10) (.c (.int 30))) (.var 12))
  (.set 15 (.tup (.cons (.c (.str "sum")) (.cons (.var 13) (.cons (.var 14) .nil))))
  (.ite (.cmp .eq (.var 11) (.c (.int 2)))
    (.set 15 (.tup (.cons (.c (.str "by")) (.cons (.call f_law_share (.cons (.bin .fdiv (.var 10) (.c (.int 11))) (.cons (.c (.int 3)) .nil))) (.cons (.var 13) .nil))))
      .nil)
    .nil
  (.ite (.cmp .eq (.var 11) (.c (.int 3)))
    (.set 15 (.tup (.cons (.c (.str "is")) (.cons (.call f_law_share (.cons (.bin .fdiv (.var 10) (.c (.int 13))) (.cons (.c (.int 5)) .nil))) .nil)))
      .nil)
    .nil
  (.ite (.and (.cmp2 .lt .lt (.c (.int 3)) (.var 11) (.c (.int 7))) (.cmp .gt (.var 5) (.c (.int 0))))
    (.set 16 (.bin .mod (.bin .fdiv (.var 10) (.c (.int 300))) (.var 12))
      (.set 15 (.idx (.tup (.cons (.tup (.cons (.c (.str "least")) (.cons (.var 13) (.cons (.var 14) .nil)))) (.cons (.tup (.cons (.c (.str "most")) (.cons (.var 13) (.cons (.var 14) .nil)))) (.cons (.tup (.cons (.c (.str "if")) (.cons (.var 14) (.cons (.var 13) (.cons (.var 16) .nil))))) .nil)))) (.bin .sub (.var 11) (.c (.int 4))))
      (.set 5 (.bin .sub (.var 5) (.c (.int 1)))
      .nil)))
    .nil
  (.ite (.cmp .eq (.var 11) (.c (.int 7)))
    (.unp [17, 18] (.call f_law_body (.cons (.bin .fdiv (.var 10) (.c (.int 17))) .nil))
      (.set 19 (.bin .mod (.bin .fdiv (.var 10) (.c (.int 5))) (.c (.int 4)))
      (.ite (.or (.cmp .gt (.bin .mul (.var 19) (.var 18)) (.var 5)) (.cmp .gt (.bin .mul (.var 19) (.bi .len (.cons (.var 17) .nil))) (.var 6)))
        (.set 19 (.c (.int 0))
          .nil)
        .nil
      (.set 15 (.tup (.cons (.c (.str "turns")) (.cons (.var 19) (.cons (.var 13) (.cons (.var 17) .nil)))))
      (.par 5 6 false false (.bin .sub (.var 5) (.bin .mul (.var 19) (.var 18))) (.bin .sub (.var 6) (.bin .mul (.var 19) (.bi .len (.cons (.var 17) .nil))))
      .nil)))))
    .nil
  (.app 7 (.var 15)
  (.wip [8, 9, 10, 11, 12, 13, 14, 15, 16, 17, 18, 19] .nil))))))))))
/-- _law_program(_law_script, _law_by, _law_inputs, _law_most): slots 0=_law_script 1=_law_by 2=_law_inputs 3=_law_most 4=_law_cells 5=_law_left 6=_law_room 7=_law_steps 8=_law_at 9=_law_cell 10=_law_number_here 11=_law_kind 12=_law_long 13=_law_one 14=_law_other 15=_law_step 16=_law_third 17=_law_body_here 18=_law_choices 19=_law_many 20=_law_k -/
def b_law_program : CS :=
  (.set 4 (.ife (.cmp .ne (.var 0) (.lst .nil)) (.sl (.var 0) .nil (.var 3)) (.lst (.cons (.c (.int 3)) .nil)))
  (.par 5 6 false false (.idx (.tup (.cons (.c (.int 4)) (.cons (.c (.int 2)) (.cons (.c (.int 5)) (.cons (.c (.int 3)) .nil))))) (.bin .mod (.bin .add (.bi .sum (.cons (.var 4) .nil)) (.var 1)) (.c (.int 4)))) (.c (.int 50))
  (.own 7 (.comp .rng (.nm 20) [20] (.cons (.var 2) .nil) .nil (.tup (.cons (.c (.str "in")) (.cons (.var 20) .nil))))
  (.forE .enum (.tp [8, 9]) (.cons (.var 4) .nil) l_law_program_0
  (.wip [5, 6, 8, 9, 10, 11, 12, 13, 14, 15, 16, 17, 18, 19] (.ret (.tup (.cons (.var 2) (.cons (.var 7) .nil)))))))))
def l_law_copied_0 : CS :=
  (.app 1 (.ife (.cmp .eq (.idx (.var 2) (.c (.int 0))) (.c (.str "turns"))) (.bin .add (.sl (.var 2) .nil (.c (.int 3))) (.tup (.cons (.bi .list (.cons (.idx (.var 2) (.c (.int 3))) .nil)) .nil))) (.var 2))
  (.wip [2] .nil))
/-- _law_copied(_law_program_here): slots 0=_law_program_here 1=_law_steps 2=_law_step -/
def b_law_copied : CS :=
  (.own 1 (.lst .nil)
  (.forE .seq (.nm 2) (.idx (.var 0) (.c (.int 1))) l_law_copied_0
  (.wip [2] (.ret (.tup (.cons (.idx (.var 0) (.c (.int 0))) (.cons (.var 1) .nil)))))))
/-- _law_add(_law_one, _law_other): slots 0=_law_one 1=_law_other -/
def b_law_add : CS :=
  (.ret (.call f_law_low (.cons (.bin .add (.bin .mul (.idx (.var 0) (.c (.int 0))) (.idx (.var 1) (.c (.int 1)))) (.bin .mul (.idx (.var 1) (.c (.int 0))) (.idx (.var 0) (.c (.int 1))))) (.cons (.bin .mul (.idx (.var 0) (.c (.int 1))) (.idx (.var 1) (.c (.int 1)))) .nil))))
/-- _law_by(_law_one, _law_other): slots 0=_law_one 1=_law_other -/
def b_law_by : CS :=
  (.ret (.call f_law_low (.cons (.bin .mul (.idx (.var 0) (.c (.int 0))) (.idx (.var 1) (.c (.int 0)))) (.cons (.bin .mul (.idx (.var 0) (.c (.int 1))) (.idx (.var 1) (.c (.int 1)))) .nil))))
/-- _law_before(_law_one, _law_other): slots 0=_law_one 1=_law_other -/
def b_law_before : CS :=
  (.ret (.cmp .lt (.bin .mul (.idx (.var 0) (.c (.int 0))) (.idx (.var 1) (.c (.int 1)))) (.bin .mul (.idx (.var 1) (.c (.int 0))) (.idx (.var 0) (.c (.int 1))))))
def l_law_places_0 : CS :=
  (.set 6 (.call f_law_number (.cons (.idx (.var 3) (.bin .mod (.bin .add (.var 1) (.var 5)) (.bi .len (.cons (.var 3) .nil)))) (.cons (.bin .add (.var 1) (.bin .mul (.c (.int 7)) (.var 5))) (.cons (.bi .len (.cons (.var 3) .nil)) .nil))))
  (.app 4 (.call f_law_share (.cons (.bin .fdiv (.var 6) (.c (.int 2))) (.cons (.idx (.tup (.cons (.c (.int 2)) (.cons (.c (.int 6)) (.cons (.c (.int 30)) (.cons (.bin .pow (.c (.int 10)) (.c (.int 12))) .nil))))) (.bin .mod (.bin .add (.var 6) (.var 1)) (.c (.int 4)))) .nil)))
  (.wip [5, 6] .nil)))
/-- _law_places(_law_script, _law_by, _law_many): slots 0=_law_script 1=_law_by 2=_law_many 3=_law_cells 4=_law_found 5=_law_k 6=_law_number_here -/
def b_law_places : CS :=
  (.set 3 (.ife (.cmp .ne (.var 0) (.lst .nil)) (.sl (.var 0) .nil (.c (.int 63))) (.lst (.cons (.c (.int 5)) .nil)))
  (.own 4 (.lst .nil)
  (.forE .rng (.nm 5) (.cons (.var 2) .nil) l_law_places_0
  (.wip [5, 6] (.reto 4)))))
def l_law_run_0 : CS :=
  (.set 5 (.idx (.call f_law_run (.cons (.idx (.var 3) (.c (.int 3))) (.cons (.lst (.cons (.var 5) .nil)) .nil))) (.neg (.c (.int 1))))
  (.wip [6] .nil))
def l_law_run_1 : CS :=
  (.set 4 (.idx (.var 3) (.c (.int 0)))
  (.ite (.cmp .eq (.var 4) (.c (.str "is")))
    (.set 5 (.idx (.var 3) (.c (.int 1)))
      .nil)
    (.ite (.cmp .eq (.var 4) (.c (.str "in")))
        (.set 5 (.idx (.var 1) (.idx (.var 3) (.c (.int 1))))
          .nil)
        (.ite (.cmp .eq (.var 4) (.c (.str "by")))
            (.set 5 (.call f_law_by (.cons (.idx (.var 3) (.c (.int 1))) (.cons (.idx (.var 2) (.idx (.var 3) (.c (.int 2)))) .nil)))
              .nil)
            (.ite (.cmp .eq (.var 4) (.c (.str "sum")))
                (.set 5 (.call f_law_add (.cons (.idx (.var 2) (.idx (.var 3) (.c (.int 1)))) (.cons (.idx (.var 2) (.idx (.var 3) (.c (.int 2)))) .nil)))
                  .nil)
                (.ite (.cmp .eq (.var 4) (.c (.str "if")))
                    (.set 5 (.ife (.cmp .le (.idx (.idx (.var 2) (.idx (.var 3) (.c (.int 1)))) (.c (.int 0))) (.c (.int 0))) (.idx (.var 2) (.idx (.var 3) (.c (.int 2)))) (.idx (.var 2) (.idx (.var 3) (.c (.int 3)))))
                      .nil)
                    (.ite (.cmp .eq (.var 4) (.c (.str "turns")))
                        (.set 5 (.idx (.var 2) (.idx (.var 3) (.c (.int 2))))
                          (.forE .rng (.nm 6) (.cons (.idx (.var 3) (.c (.int 1))) .nil) l_law_run_0
                          (.wip [6] .nil)))
                        (.par 7 8 false false (.idx (.var 2) (.idx (.var 3) (.c (.int 1)))) (.idx (.var 2) (.idx (.var 3) (.c (.int 2))))
                          (.set 5 (.ife (.cmp .eq (.call f_law_before (.cons (.var 7) (.cons (.var 8) .nil))) (.cmp .eq (.var 4) (.c (.str "least")))) (.var 7) (.var 8))
                          .nil))
                      .nil)
                  .nil)
              .nil)
          .nil)
      .nil)
  (.app 2 (.var 5)
  (.wip [3, 4, 5, 6, 7, 8] .nil))))
/-- _law_run(_law_steps, _law_places_here): slots 0=_law_steps 1=_law_places_here 2=_law_found 3=_law_step 4=_law_kind 5=_law_gain 6=_law_turn 7=_law_one 8=_law_other -/
def b_law_run : CS :=
  (.own 2 (.lst .nil)
  (.forE .seq (.nm 3) (.var 0) l_law_run_1
  (.wip [3, 4, 5, 6, 7, 8] (.ret (.var 2)))))
def l_law_put_0 : CS :=
  (.set 7 (.bin .add (.comp .seq (.nm 8) [8] (.var 4) .nil (.tup (.cons (.c (.str "is")) (.cons (.var 8) .nil)))) (.lst (.cons (.var 6) .nil)))
  (.set 8 (.idx (.call f_law_run (.cons (.var 7) (.cons (.var 1) .nil))) (.neg (.c (.int 1))))
  (.app 4 (.ife (.cmp .eq (.var 5) (.var 2)) (.call f_law_add (.cons (.var 8) (.cons (.var 3) .nil))) (.var 8))
  (.wip [5, 6, 7, 8] .nil))))
/-- _law_put(_law_program_here, _law_places_here, _law_at, _law_number_here): slots 0=_law_program_here 1=_law_places_here 2=_law_at 3=_law_number_here 4=_law_found 5=_law_count 6=_law_step 7=_law_steps 8=_law_one -/
def b_law_put : CS :=
  (.own 4 (.lst .nil)
  (.forE .enum (.tp [5, 6]) (.cons (.idx (.var 0) (.c (.int 1))) .nil) l_law_put_0
  (.wip [5, 6, 7, 8] (.ret (.idx (.var 4) (.neg (.c (.int 1))))))))
/-- _law_moved(_law_places_here, _law_ways, _law_far): slots 0=_law_places_here 1=_law_ways 2=_law_far 3=_law_place 4=_law_way -/
def b_law_moved : CS :=
  (.ret (.comp .zip (.tp [3, 4]) [3, 4] (.cons (.var 0) (.cons (.var 1) .nil)) .nil (.call f_law_add (.cons (.var 3) (.cons (.call f_law_by (.cons (.var 2) (.cons (.var 4) .nil))) .nil)))))
/-- _law_fields(_law_found): slots 0=_law_found -/
def b_law_fields : CS :=
  (.ret (.tup (.cons (.fld (.var 0) a_value) (.cons (.fld (.var 0) a_beyond) (.cons (.fld (.var 0) a_slope) (.cons (.fld (.var 0) a_reach) .nil))))))
/-- _law_along(_law_piece, _law_begin, _law_place): slots 0=_law_piece 1=_law_begin 2=_law_place -/
def b_law_along : CS :=
  (.ret (.call f_law_add (.cons (.idx (.var 0) (.c (.int 0))) (.cons (.call f_law_by (.cons (.idx (.var 0) (.c (.int 1))) (.cons (.call f_law_add (.cons (.var 2) (.cons (.tup (.cons (.neg (.idx (.var 1) (.c (.int 0)))) (.cons (.idx (.var 1) (.c (.int 1))) .nil))) .nil))) .nil))) .nil))))
def l_law_worth_0 : CS :=
  (.ite (.cmp .eq (.var 3) (.var 1))
    (.ret (.idx (.fld (.var 0) a_worths) (.var 2)))
    .nil
  (.ite (.call f_law_before (.cons (.var 1) (.cons (.var 3) .nil)))
    (.ret (.call f_law_along (.cons (.idx (.fld (.var 0) a_pieces) (.bin .sub (.var 2) (.c (.int 1)))) (.cons (.idx (.fld (.var 0) a_places) (.bin .sub (.var 2) (.c (.int 1)))) (.cons (.var 1) .nil)))))
    .nil
  (.wip [2, 3] .nil)))
/-- _law_worth(_law_found, _law_place): slots 0=_law_found 1=_law_place 2=_law_at 3=_law_one -/
def b_law_worth : CS :=
  (.forE .enum (.tp [2, 3]) (.cons (.fld (.var 0) a_places) .nil) l_law_worth_0
  (.wip [2, 3] (.ret (.c .non))))
def l_law_is_picture_0 : CS :=
  (.ite (.or (.nt (.isi (.var 1) .tuple)) (.or (.cmp .ne (.bi .len (.cons (.var 1) .nil)) (.c (.int 2))) (.or (.nt (.call f_law_good (.cons (.idx (.var 1) (.c (.int 0))) .nil))) (.nt (.call f_law_good (.cons (.idx (.var 1) (.c (.int 1))) .nil))))))
    (.ret (.c (.bl false)))
    .nil
  (.wip [1] .nil))
/-- _law_is_picture(_law_found): slots 0=_law_found 1=_law_piece 2=_law_one 3=_law_other -/
def b_law_is_picture : CS :=
  (.ite (.or (.nt (.isC (.var 0) c_Picture)) (.or (.nt (.isi (.fld (.var 0) a_places) .list)) (.nt (.isi (.fld (.var 0) a_worths) .list))))
    (.ret (.c (.bl false)))
    .nil
  (.ite (.or (.nt (.bi .all (.cons (.comp .seq (.nm 2) [2] (.bin .add (.fld (.var 0) a_places) (.fld (.var 0) a_worths)) .nil (.call f_law_good (.cons (.var 2) .nil))) .nil))) (.nt (.isi (.fld (.var 0) a_pieces) .list)))
    (.ret (.c (.bl false)))
    .nil
  (.forE .seq (.nm 1) (.fld (.var 0) a_pieces) l_law_is_picture_0
  (.wip [1] (.ite (.or (.cmp .ne (.bi .len (.cons (.fld (.var 0) a_worths) .nil)) (.bi .len (.cons (.fld (.var 0) a_places) .nil))) (.or (.cmp .ne (.bi .len (.cons (.fld (.var 0) a_pieces) .nil)) (.bin .sub (.bi .len (.cons (.fld (.var 0) a_places) .nil)) (.c (.int 1)))) (.cmp .lt (.bi .len (.cons (.fld (.var 0) a_places) .nil)) (.c (.int 2)))))
    (.ret (.c (.bl false)))
    .nil
  (.ret (.bi .all (.cons (.comp .zip (.tp [2, 3]) [2, 3] (.cons (.fld (.var 0) a_places) (.cons (.sl (.fld (.var 0) a_places) (.c (.int 1)) .nil) .nil)) .nil (.call f_law_before (.cons (.var 2) (.cons (.var 3) .nil)))) .nil))))))))
/-- _law_fields(_law_found): slots 0=_law_found -/
def b_law_fields2 : CS :=
  (.ret (.tup (.cons (.fld (.var 0) a_places) (.cons (.fld (.var 0) a_worths) (.cons (.fld (.var 0) a_pieces) .nil)))))
def l_law_spots_0 : CS :=
  (.app 2 (.call f_law_add (.cons (.var 3) (.cons (.call f_law_by (.cons (.var 5) (.cons (.var 6) .nil))) .nil)))
  (.wip [6] .nil))
def l_law_spots_1 : CS :=
  (.set 5 (.call f_law_add (.cons (.var 4) (.cons (.tup (.cons (.neg (.idx (.var 3) (.c (.int 0)))) (.cons (.idx (.var 3) (.c (.int 1))) .nil))) .nil)))
  (.forE .seq (.nm 6) (.lst (.cons (.tup (.cons (.c (.int 1)) (.cons (.c (.int 2)) .nil))) (.cons (.tup (.cons (.c (.int 1)) (.cons (.c (.int 1000)) .nil))) (.cons (.tup (.cons (.c (.int 999)) (.cons (.c (.int 1000)) .nil))) (.cons (.tup (.cons (.bin .add (.c (.int 1)) (.bin .mod (.var 1) (.c (.int 29)))) (.cons (.c (.int 31)) .nil))) .nil))))) l_law_spots_0
  (.wip [6] (.wip [3, 4, 5, 6] .nil))))
/-- _law_spots(_law_found, _law_number_here): slots 0=_law_found 1=_law_number_here 2=_law_spots_here 3=_law_one 4=_law_other 5=_law_wide 6=_law_bit -/
def b_law_spots : CS :=
  (.own 2 (.bi .list (.cons (.fld (.var 0) a_places) .nil))
  (.forE .zip (.tp [3, 4]) (.cons (.fld (.var 0) a_places) (.cons (.sl (.fld (.var 0) a_places) (.c (.int 1)) .nil) .nil)) l_law_spots_1
  (.wip [3, 4, 5, 6] (.reto 2))))
/-- _law_stretch(_law_script, _law_by_here): slots 0=_law_script 1=_law_by_here 2=_law_one 3=_law_other -/
def b_law_stretch : CS :=
  (.unp [2, 3] (.call f_law_places (.cons (.var 0) (.cons (.var 1) (.cons (.c (.int 2)) .nil))))
  (.ite (.cmp .eq (.var 2) (.var 3))
    (.ret (.tup (.cons (.var 2) (.cons (.call f_law_add (.cons (.var 2) (.cons (.tup (.cons (.c (.int 1)) (.cons (.c (.int 1)) .nil))) .nil))) .nil))))
    .nil
  (.ret (.ife (.call f_law_before (.cons (.var 2) (.cons (.var 3) .nil))) (.tup (.cons (.var 2) (.cons (.var 3) .nil))) (.tup (.cons (.var 3) (.cons (.var 2) .nil)))))))
def l_law_tidy_0 : CS :=
  (.set 2 (.call f_law_along (.cons (.idx (.fld (.var 0) a_pieces) (.bin .sub (.var 1) (.c (.int 1)))) (.cons (.idx (.fld (.var 0) a_places) (.bin .sub (.var 1) (.c (.int 1)))) (.cons (.idx (.fld (.var 0) a_places) (.var 1)) .nil))))
  (.ite (.and (.cmp .eq (.idx (.fld (.var 0) a_worths) (.var 1)) (.var 2)) (.cmp .eq (.idx (.fld (.var 0) a_pieces) (.var 1)) (.tup (.cons (.var 2) (.cons (.idx (.idx (.fld (.var 0) a_pieces) (.bin .sub (.var 1) (.c (.int 1)))) (.c (.int 1))) .nil)))))
    (.ret (.c (.bl false)))
    .nil
  (.wip [1, 2] .nil)))
/-- _law_tidy(_law_found): slots 0=_law_found 1=_law_at 2=_law_goes_on -/
def b_law_tidy : CS :=
  (.forE .rng (.nm 1) (.cons (.c (.int 1)) (.cons (.bin .sub (.bi .len (.cons (.fld (.var 0) a_places) .nil)) (.c (.int 1))) .nil)) l_law_tidy_0
  (.wip [1, 2] (.ret (.c (.bl true)))))
def l_law_hand_0 : CS :=
  (.set 9 (.call f_law_number (.cons (.idx (.var 3) (.bin .mod (.bin .add (.var 8) (.var 1)) (.bi .len (.cons (.var 3) .nil)))) (.cons (.bin .add (.var 8) (.var 1)) (.cons (.bi .len (.cons (.var 3) .nil)) .nil))))
  (.set 10 (.ife (.cmp .gt (.bin .mod (.var 9) (.c (.int 3))) (.c (.int 0))) (.var 7) (.call f_law_share (.cons (.bin .fdiv (.var 9) (.c (.int 3))) (.cons (.c (.int 4)) .nil))))
  (.set 11 (.call f_law_share (.cons (.bin .fdiv (.var 9) (.c (.int 40))) (.cons (.c (.int 3)) .nil)))
  (.ite (.and (.cmp .eq (.bin .mod (.bin .fdiv (.var 9) (.c (.int 11))) (.c (.int 4))) (.c (.int 0))) (.cmp .ne (.var 6) (.lst .nil)))
    (.set 11 (.idx (.idx (.var 6) (.neg (.c (.int 1)))) (.c (.int 1)))
      .nil)
    .nil
  (.app 5 (.ife (.cmp .gt (.bin .mod (.bin .fdiv (.var 9) (.c (.int 97))) (.c (.int 3))) (.c (.int 0))) (.var 7) (.call f_law_share (.cons (.bin .fdiv (.var 9) (.c (.int 8))) (.cons (.c (.int 4)) .nil))))
  (.app 6 (.tup (.cons (.var 10) (.cons (.var 11) .nil)))
  (.set 12 (.call f_law_low (.cons (.bin .add (.c (.int 1)) (.bin .mod (.bin .fdiv (.var 9) (.c (.int 5))) (.c (.int 6)))) (.cons (.bin .add (.c (.int 1)) (.bin .mod (.bin .fdiv (.var 9) (.c (.int 31))) (.c (.int 3)))) .nil)))
  (.app 4 (.call f_law_add (.cons (.idx (.var 4) (.neg (.c (.int 1)))) (.cons (.var 12) .nil)))
  (.set 7 (.call f_law_add (.cons (.var 10) (.cons (.call f_law_by (.cons (.var 11) (.cons (.var 12) .nil))) .nil)))
  (.wip [8, 9, 10, 11, 12] .nil))))))))))
/-- _law_hand(_law_script, _law_by_here, _law_many): slots 0=_law_script 1=_law_by_here 2=_law_many 3=_law_cells 4=_law_places_here 5=_law_heights 6=_law_pieces 7=_law_goes_on 8=_law_at 9=_law_number_here 10=_law_begin 11=_law_slope 12=_law_wide -/
def b_law_hand : CS :=
  (.set 3 (.ife (.cmp .ne (.var 0) (.lst .nil)) (.sl (.var 0) .nil (.c (.int 63))) (.lst (.cons (.c (.int 6)) .nil)))
  (.par3 4 5 6 true true true (.lst (.cons (.idx (.call f_law_places (.cons (.var 0) (.cons (.var 1) (.cons (.c (.int 1)) .nil)))) (.c (.int 0))) .nil)) (.lst .nil) (.lst .nil)
  (.set 7 (.tup (.cons (.c (.int 0)) (.cons (.c (.int 1)) .nil)))
  (.forE .rng (.nm 8) (.cons (.var 2) .nil) l_law_hand_0
  (.wip [8, 9, 10, 11, 12] (.app 5 (.ife (.cmp .eq (.bin .mod (.bi .len (.cons (.var 3) .nil)) (.c (.int 2))) (.c (.int 0))) (.var 7) (.tup (.cons (.c (.int 1)) (.cons (.c (.int 2)) .nil))))
  (.ret (.mk c_Picture (.cons (.var 4) (.cons (.var 5) (.cons (.var 6) .nil)))))))))))
/-- _law_in(_law_span, _law_place): slots 0=_law_span 1=_law_place -/
def b_law_in : CS :=
  (.ite (.or (.cmp .eq (.var 1) (.idx (.var 0) (.c (.int 0)))) (.cmp .eq (.var 1) (.idx (.var 0) (.c (.int 1)))))
    (.ret (.ife (.cmp .eq (.var 1) (.idx (.var 0) (.c (.int 0)))) (.idx (.var 0) (.c (.int 2))) (.idx (.var 0) (.c (.int 3)))))
    .nil
  (.ret (.and (.call f_law_before (.cons (.idx (.var 0) (.c (.int 0))) (.cons (.var 1) .nil))) (.call f_law_before (.cons (.var 1) (.cons (.idx (.var 0) (.c (.int 1))) .nil))))))
def l_law_rises_0 : CS :=
  (.set 3 (.call f_law_along (.cons (.var 2) (.cons (.idx (.fld (.var 0) a_places) (.var 1)) (.cons (.idx (.fld (.var 0) a_places) (.bin .add (.var 1) (.c (.int 1)))) .nil))))
  (.ite (.or (.cmp .le (.idx (.idx (.var 2) (.c (.int 1))) (.c (.int 0))) (.c (.int 0))) (.or (.call f_law_before (.cons (.idx (.var 2) (.c (.int 0))) (.cons (.idx (.fld (.var 0) a_worths) (.var 1)) .nil))) (.call f_law_before (.cons (.idx (.fld (.var 0) a_worths) (.bin .add (.var 1) (.c (.int 1)))) (.cons (.var 3) .nil)))))
    (.ret (.c (.bl false)))
    .nil
  (.wip [1, 2, 3] .nil)))
/-- _law_rises(_law_some): slots 0=_law_some 1=_law_at 2=_law_piece 3=_law_end -/
def b_law_rises : CS :=
  (.forE .enum (.tp [1, 2]) (.cons (.fld (.var 0) a_pieces) .nil) l_law_rises_0
  (.wip [1, 2, 3] (.ret (.c (.bl true)))))
def l_law_kinks_0 : CS :=
  (.set 6 (.call f_side (.cons (.var 0) (.cons (.var 1) (.cons (.var 5) .nil))))
  (.app 4 (.fld (.var 6) a_slope)
  (.ite (.cmp .ne (.fld (.var 6) a_beyond) (.fld (.var 6) a_value))
    (.ret (.c (.bl true)))
    .nil
  (.wip [5, 6] .nil))))
/-- _law_kinks(_law_program_here, _law_places_here, _law_one, _law_other): slots 0=_law_program_here 1=_law_places_here 2=_law_one 3=_law_other 4=_law_some 5=_law_way 6=_law_found -/
def b_law_kinks : CS :=
  (.own 4 (.lst .nil)
  (.forE .seq (.nm 5) (.lst (.cons (.var 2) (.cons (.var 3) (.cons (.lst (.cons (.call f_law_add (.cons (.idx (.var 2) (.c (.int 0))) (.cons (.idx (.var 3) (.c (.int 0))) .nil))) (.cons (.call f_law_add (.cons (.idx (.var 2) (.c (.int 1))) (.cons (.idx (.var 3) (.c (.int 1))) .nil))) .nil))) .nil)))) l_law_kinks_0
  (.wip [5, 6] (.ret (.cmp .ne (.call f_law_add (.cons (.idx (.var 4) (.c (.int 0))) (.cons (.idx (.var 4) (.c (.int 1))) .nil))) (.idx (.var 4) (.c (.int 2))))))))
/-- _law_leaning(_law_number_here, _law_place): slots 0=_law_number_here 1=_law_place 2=_law_one 3=_law_other 4=_law_level 5=_law_steps -/
def b_law_leaning : CS :=
  (.par 2 3 false false (.tup (.cons (.bin .add (.c (.int 1)) (.bin .mod (.var 0) (.c (.int 4)))) (.cons (.c (.int 1)) .nil))) (.tup (.cons (.bin .sub (.bin .mod (.bin .fdiv (.var 0) (.c (.int 4))) (.c (.int 7))) (.c (.int 3))) (.cons (.c (.int 1)) .nil)))
  (.set 4 (.call f_law_add (.cons (.call f_law_by (.cons (.var 2) (.cons (.idx (.var 1) (.c (.int 0))) .nil))) (.cons (.call f_law_by (.cons (.var 3) (.cons (.idx (.var 1) (.c (.int 1))) .nil))) .nil)))
  (.set 5 (.lst (.cons (.tup (.cons (.c (.str "in")) (.cons (.c (.int 0)) .nil))) (.cons (.tup (.cons (.c (.str "in")) (.cons (.c (.int 1)) .nil))) (.cons (.tup (.cons (.c (.str "by")) (.cons (.var 2) (.cons (.c (.int 0)) .nil)))) (.cons (.tup (.cons (.c (.str "by")) (.cons (.var 3) (.cons (.c (.int 1)) .nil)))) (.cons (.tup (.cons (.c (.str "sum")) (.cons (.c (.int 2)) (.cons (.c (.int 3)) .nil)))) (.cons (.tup (.cons (.c (.str "is")) (.cons (.tup (.cons (.neg (.idx (.var 4) (.c (.int 0)))) (.cons (.idx (.var 4) (.c (.int 1))) .nil))) .nil))) .nil)))))))
  (.ret (.tup (.cons (.bin .add (.var 5) (.lst (.cons (.tup (.cons (.c (.str "sum")) (.cons (.c (.int 4)) (.cons (.c (.int 5)) .nil)))) .nil))) (.cons (.lst (.cons (.tup (.cons (.neg (.idx (.var 3) (.c (.int 0)))) (.cons (.idx (.var 3) (.c (.int 1))) .nil))) (.cons (.var 2) .nil))) .nil)))))))
/-- _law_says(_law_said, _law_due): slots 0=_law_said 1=_law_due -/
def b_law_says : CS :=
  (.ret (.and (.isi (.var 0) .bool) (.cmp .eq (.var 0) (.var 1))))
def l_law_bulging_0 : CS :=
  (.set 9 (.call f_law_number (.cons (.var 8) (.cons (.bin .add (.var 7) (.var 1)) (.cons (.bi .len (.cons (.var 4) .nil)) .nil))))
  (.set 10 (.bi .len (.cons (.var 5) .nil))
  (.set 11 (.bin .mod (.bin .fdiv (.var 9) (.c (.int 5))) (.var 2))
  (.app 5 (.tup (.cons (.c (.str "by")) (.cons (.call f_law_share (.cons (.bin .fdiv (.var 9) (.c (.int 3))) (.cons (.c (.int 4)) .nil))) (.cons (.var 11) .nil))))
  (.app 5 (.tup (.cons (.c (.str "is")) (.cons (.call f_law_share (.cons (.bin .fdiv (.var 9) (.c (.int 7))) (.cons (.c (.int 5)) .nil))) .nil)))
  (.app 5 (.tup (.cons (.c (.str "sum")) (.cons (.var 10) (.cons (.bin .add (.var 10) (.c (.int 1))) .nil))))
  (.set 12 (.ife (.and (.cmp .lt (.bi .len (.cons (.var 6) .nil)) (.c (.int 6))) (.cmp .gt (.bin .mod (.var 9) (.c (.int 3))) (.c (.int 0)))) (.c (.str "most")) (.c (.str "sum")))
  (.app 5 (.tup (.cons (.var 12) (.cons (.idx (.var 6) (.neg (.c (.int 1)))) (.cons (.bin .add (.var 10) (.c (.int 2))) .nil))))
  (.app 6 (.bin .add (.var 10) (.c (.int 3)))
  (.wip [7, 8, 9, 10, 11, 12] .nil))))))))))
/-- _law_bulging(_law_script, _law_by_here, _law_inputs, _law_most): slots 0=_law_script 1=_law_by_here 2=_law_inputs 3=_law_most 4=_law_cells 5=_law_steps 6=_law_down 7=_law_at 8=_law_cell 9=_law_number_here 10=_law_long 11=_law_straight 12=_law_kind 13=_law_k -/
def b_law_bulging : CS :=
  (.set 4 (.ife (.cmp .ne (.var 0) (.lst .nil)) (.sl (.var 0) .nil (.var 3)) (.lst (.cons (.c (.int 3)) .nil)))
  (.own 5 (.comp .rng (.nm 13) [13] (.cons (.var 2) .nil) .nil (.tup (.cons (.c (.str "in")) (.cons (.var 13) .nil))))
  (.own 6 (.lst (.cons (.bin .sub (.var 2) (.c (.int 1))) .nil))
  (.forE .enum (.tp [7, 8]) (.cons (.var 4) .nil) l_law_bulging_0
  (.wip [7, 8, 9, 10, 11, 12] (.ret (.tup (.cons (.var 2) (.cons (.var 5) .nil)))))))))
def l_law_all_0 : CS :=
  (.ite (.nt (.bi .all (.cons (.comp .seq (.nm 4) [4] (.var 1) .nil (.call f_law_refused (.cons (.var 3) (.cons (.var 4) (.cons (.var 2) .nil))))) .nil)))
    (.ret (.c (.bl false)))
    .nil
  (.wip [3, 4] .nil))
/-- _law_all(_law_asks, _law_things, _law_due): slots 0=_law_asks 1=_law_things 2=_law_due 3=_law_ask 4=_law_thing -/
def b_law_all : CS :=
  (.forE .seq (.nm 3) (.var 0) l_law_all_0
  (.wip [3, 4] (.ret (.c (.bl true)))))
def U : List Fn := [
  ⟨1, 1, b_is_whole, false⟩,
  ⟨2, 2, b_common, false⟩,
  ⟨1, 1, b_is_number, false⟩,
  ⟨1, 1, b_asked_number, false⟩,
  ⟨2, 3, b_lowest, false⟩,
  ⟨2, 2, b_made, false⟩,
  ⟨2, 2, b_add, false⟩,
  ⟨2, 2, b_cut, false⟩,
  ⟨2, 2, b_grow, false⟩,
  ⟨2, 2, b_part, false⟩,
  ⟨2, 3, b_lies, false⟩,
  ⟨2, 2, b_plus, false⟩,
  ⟨2, 2, b_less, false⟩,
  ⟨2, 2, b_times, false⟩,
  ⟨2, 2, b_over, false⟩,
  ⟨2, 2, b_order, false⟩,
  ⟨2, 2, b_is_ahead, false⟩,
  ⟨4, 6, b_is_step, false⟩,
  ⟨3, 3, b_is_turn, false⟩,
  ⟨3, 5, b_are_steps, false⟩,
  ⟨1, 5, b_counted, false⟩,
  ⟨1, 3, b_asked_program, false⟩,
  ⟨1, 1, b_size, false⟩,
  ⟨1, 1, b_needs, false⟩,
  ⟨3, 6, b_asked_few, false⟩,
  ⟨2, 3, b_asked_places, false⟩,
  ⟨3, 9, b_worth_of, false⟩,
  ⟨2, 4, b_worths_of, true⟩,
  ⟨2, 2, b_worths, true⟩,
  ⟨2, 2, b_worth, false⟩,
  ⟨2, 3, b_asked_ways, false⟩,
  ⟨2, 2, b_sooner, false⟩,
  ⟨1, 4, b_sign_of, false⟩,
  ⟨3, 14, b_line_of, false⟩,
  ⟨2, 7, b_lines_of, false⟩,
  ⟨2, 4, b_begun, false⟩,
  ⟨3, 5, b_moved, false⟩,
  ⟨3, 11, b_side_of, false⟩,
  ⟨3, 3, b_side, false⟩,
  ⟨2, 2, b_Side_shows, false⟩,
  ⟨1, 2, b_are_numbers, false⟩,
  ⟨1, 1, b_is_piece, false⟩,
  ⟨1, 3, b_asked_picture, false⟩,
  ⟨2, 2, b_asked_stretch, false⟩,
  ⟨3, 3, b_along, false⟩,
  ⟨3, 8, b_picture, false⟩,
  ⟨2, 4, b_piece_at, false⟩,
  ⟨2, 3, b_told_at, false⟩,
  ⟨2, 2, b_asked_within, false⟩,
  ⟨2, 2, b_worth_at, false⟩,
  ⟨2, 7, b_limits, false⟩,
  ⟨3, 8, b_tidied, false⟩,
  ⟨1, 1, b_tidy, false⟩,
  ⟨2, 7, b_scaled, false⟩,
  ⟨1, 6, b_mirrored, false⟩,
  ⟨2, 3, b_line_at, false⟩,
  ⟨4, 7, b_meeting, false⟩,
  ⟨2, 2, b_asked_both, false⟩,
  ⟨0, 0, .brk, false⟩,
  ⟨2, 7, b_crossed, false⟩,
  ⟨0, 0, .brk, false⟩,
  ⟨0, 0, .brk, false⟩,
  ⟨2, 3, b_lesser_line, false⟩,
  ⟨0, 0, .brk, false⟩,
  ⟨0, 0, .brk, false⟩,
  ⟨2, 7, b_differing, false⟩,
  ⟨2, 3, b_compared, false⟩,
  ⟨3, 3, b_Alike_shows, false⟩,
  ⟨3, 3, b_Differ_shows, false⟩,
  ⟨2, 2, b_middle, false⟩,
  ⟨2, 3, b_ends, false⟩,
  ⟨1, 8, b_least_of, false⟩,
  ⟨1, 1, b_least, false⟩,
  ⟨1, 6, b_turned_over, false⟩,
  ⟨1, 2, b_greatest, false⟩,
  ⟨2, 9, b_spans, true⟩,
  ⟨1, 4, b_joined, true⟩,
  ⟨1, 6, b_area, false⟩,
  ⟨4, 12, b_beside, false⟩,
  ⟨1, 5, b_falling, false⟩,
  ⟨1, 2, b_rising, false⟩,
  ⟨2, 2, b_Rising_shows, false⟩,
  ⟨2, 4, b_Falls_shows, false⟩,
  ⟨1, 5, b_jumps, true⟩,
  ⟨0, 0, .brk, false⟩,
  ⟨2, 5, b_slope_at, false⟩,
  ⟨4, 7, b_kinks, false⟩,
  ⟨2, 2, b_dot, false⟩,
  ⟨2, 3, b_apart_of, false⟩,
  ⟨2, 2, b_sum_of, false⟩,
  ⟨0, 0, .brk, false⟩,
  ⟨4, 12, b_cone, false⟩,
  ⟨1, 2, b_turn_of, false⟩,
  ⟨2, 2, b_ahead, false⟩,
  ⟨0, 0, .brk, false⟩,
  ⟨2, 10, b_ways_of, false⟩,
  ⟨0, 0, .brk, false⟩,
  ⟨2, 4, b_flat, false⟩,
  ⟨3, 4, b_Flat_shows, false⟩,
  ⟨3, 3, b_Kinked_shows, false⟩,
  ⟨3, 5, b_mixed_mark, false⟩,
  ⟨2, 2, b_scaled_mark, false⟩,
  ⟨3, 8, b_mark_of, false⟩,
  ⟨2, 4, b_marks_of, true⟩,
  ⟨1, 1, b_marks, true⟩,
  ⟨2, 5, b_next_place, false⟩,
  ⟨2, 2, b_next_at, false⟩,
  ⟨0, 0, .brk, false⟩,
  ⟨2, 2, b_rests, false⟩,
  ⟨2, 3, b_renamed, false⟩,
  ⟨0, 0, .brk, false⟩,
  ⟨1, 4, b_unrolled_of, false⟩,
  ⟨0, 0, .brk, false⟩,
  ⟨1, 1, b_unrolled, false⟩,
  ⟨1, 1, b_shortened, false⟩,
  ⟨3, 3, b_ended, false⟩,
  ⟨2, 5, b_behind, false⟩,
  ⟨2, 6, b_stirred, false⟩,
  ⟨3, 6, b_fixed, false⟩,
  ⟨3, 9, b_carried, false⟩,
  ⟨6, 7, b_tuned, true⟩,
  ⟨3, 5, b_law_number, false⟩,
  ⟨2, 4, b_law_low, false⟩,
  ⟨1, 2, b_law_good, false⟩,
  ⟨2, 2, b_law_share, false⟩,
  ⟨1, 7, b_law_body, false⟩,
  ⟨4, 21, b_law_program, false⟩,
  ⟨1, 3, b_law_copied, false⟩,
  ⟨2, 2, b_law_add, false⟩,
  ⟨2, 2, b_law_by, false⟩,
  ⟨2, 2, b_law_before, false⟩,
  ⟨3, 7, b_law_places, true⟩,
  ⟨2, 9, b_law_run, false⟩,
  ⟨4, 9, b_law_put, false⟩,
  ⟨3, 5, b_law_moved, false⟩,
  ⟨1, 1, b_law_fields, false⟩,
  ⟨3, 3, b_law_along, false⟩,
  ⟨2, 4, b_law_worth, false⟩,
  ⟨1, 4, b_law_is_picture, false⟩,
  ⟨1, 1, b_law_fields2, false⟩,
  ⟨2, 7, b_law_spots, true⟩,
  ⟨2, 4, b_law_stretch, false⟩,
  ⟨1, 3, b_law_tidy, false⟩,
  ⟨3, 13, b_law_hand, false⟩,
  ⟨2, 2, b_law_in, false⟩,
  ⟨1, 4, b_law_rises, false⟩,
  ⟨4, 7, b_law_kinks, false⟩,
  ⟨2, 6, b_law_leaning, false⟩,
  ⟨2, 2, b_law_says, false⟩,
  ⟨4, 14, b_law_bulging, false⟩,
  ⟨0, 0, .brk, false⟩,
  ⟨0, 0, .brk, false⟩,
  ⟨3, 5, b_law_all, false⟩,
  ⟨0, 0, .brk, false⟩]
def gls : List D := [(.int 3), (.int 120), (.int 120), (.int 8), (.int 6), (.tup [(.str "is"), (.str "in"), (.str "sum"), (.str "by"), (.str "least"), (.str "most"), (.str "if"), (.str "turns")]), (.tup [(.int 1), (.int 1)]), (.int 100), (.tup [(.int 0), (.int 1)]), (.tup [(.int 1), (.int 2)]), (.str "level"), (.str "straight"), (.str "down"), (.str "up"), (.str "none")]
def glU : Nat → Option D := fun i => gls[i]?
def atrU : List Str := ["value", "beyond", "slope", "reach", "places", "worths", "pieces", "place", "up", "one", "other", "below", "above", "slopes"]
def cfs : List (List Nat) := [[a_value, a_beyond, a_slope, a_reach], [a_places, a_worths, a_pieces], [], [], [a_place], [a_value, a_place], [a_value, a_place, a_up], [], [a_one, a_other], [a_slope], [a_below, a_above], [a_below, a_value, a_above], [a_slopes], [a_one, a_other]]
def inis : List (List Bool) := [[false, false, false, false], [true, true, true], [], [], [false], [false, false], [false, false, false], [], [false, false], [false], [false, false], [false, false, false], [true], [true, true]]
def mts : List (Nat × Nat × Nat) := [(c_Side, m_0, f_Side_shows), (c_Alike, m_1, f_Alike_shows), (c_Differ, m_1, f_Differ_shows), (c_Rising, m_2, f_Rising_shows), (c_Falls, m_2, f_Falls_shows), (c_Flat, m_3, f_Flat_shows), (c_Kinked, m_3, f_Kinked_shows), (c_Side, m_4, f_Side_shows), (c_Alike, m_4, f_Alike_shows), (c_Differ, m_4, f_Differ_shows), (c_Rising, m_4, f_Rising_shows), (c_Falls, m_4, f_Falls_shows), (c_Flat, m_4, f_Flat_shows), (c_Kinked, m_4, f_Kinked_shows)]
def cfU : CT := ⟨fun c => cfs.getD c [], fun c => inis[c]?, fun d c => (d == c) || (c == c_Answer && decide (c_Answer < d)), fun c m => (mts.find? fun p => p.1 == c && p.2.1 == m).map (·.2.2)⟩
def cnU : Nat → List Str := fun c => (cfU.cf c).map fun i => atrU.getD i ""
theorem gl_MOST_INPUTS : glU g_MOST_INPUTS = some (.int 3) := rfl
theorem gl_MOST_STEPS : glU g_MOST_STEPS = some (.int 120) := rfl
theorem gl_MOST_RUN : glU g_MOST_RUN = some (.int 120) := rfl
theorem gl_MOST_CHOICES : glU g_MOST_CHOICES = some (.int 8) := rfl
theorem gl_MOST_TURNS : glU g_MOST_TURNS = some (.int 6) := rfl
theorem gl_KINDS : glU g_KINDS = some (.tup [(.str "is"), (.str "in"), (.str "sum"), (.str "by"), (.str "least"), (.str "most"), (.str "if"), (.str "turns")]) := rfl
theorem gl_ONE : glU g_ONE = some (.tup [(.int 1), (.int 1)]) := rfl
theorem gl_MOST_CARRIED : glU g_MOST_CARRIED = some (.int 100) := rfl
theorem gl_NOUGHT : glU g_NOUGHT = some (.tup [(.int 0), (.int 1)]) := rfl
theorem gl_HALF : glU g_HALF = some (.tup [(.int 1), (.int 2)]) := rfl
theorem gl_LEVEL : glU g_LEVEL = some (.str "level") := rfl
theorem gl_STRAIGHT : glU g_STRAIGHT = some (.str "straight") := rfl
theorem gl_DOWN : glU g_DOWN = some (.str "down") := rfl
theorem gl_UP : glU g_UP = some (.str "up") := rfl
theorem gl_NONE : glU g_NONE = some (.str "none") := rfl
abbrev CF (tab : List Fn) (n f : Nat) (ds : List D) : R D := callF tab cfU glU FU n f ds
abbrev TB (tab : List Fn) (n : Nat) : Tab := ⟨callF tab cfU glU FU n, cfU, glU⟩
/-- a table that begins with the shared one -/
class Ext (tab : List Fn) : Prop where
  ok : ∀ (i : Nat) fn, U[i]? = some fn → tab[i]? = some fn
theorem go_of {tab : List Fn} {f n : Nat} {fn : Fn} {ds : List D} (h : tab[f]? = some fn) (hf : fn.fr = false) (ρ : Env) (e : (if ds.length = fn.ar then some (ds.map Slot.val ++ List.replicate (fn.sl - fn.ar) Slot.no) else none) = some ρ) : CF tab (n + 1) f ds = (exec (TB tab n) FU fn.body ρ).bind outR := by
  simp only [CF, callF, h, runFn]
  split at e
  · cases e
    rw [if_pos (by assumption)]
    congr 1
    funext o
    cases o with
    | nx ρ => simp only [hf, Bool.false_eq_true, if_false]; rfl
    | rt fr d => cases fr <;> simp only [hf, Bool.false_eq_true, if_false] <;> rfl
    | bk ρ => rfl
  · cases e
theorem go_ofF {tab : List Fn} {f n : Nat} {fn : Fn} {ds : List D} (h : tab[f]? = some fn) (hf : fn.fr = true) (ρ : Env) (e : (if ds.length = fn.ar then some (ds.map Slot.val ++ List.replicate (fn.sl - fn.ar) Slot.no) else none) = some ρ) : CF tab (n + 1) f ds = (exec (TB tab n) FU fn.body ρ).bind outF := by
  simp only [CF, callF, h, runFn]
  split at e
  · cases e
    rw [if_pos (by assumption)]
    congr 1
    funext o
    cases o with
    | nx ρ => simp only [hf, if_true]; rfl
    | rt fr d => cases fr <;> simp only [hf, if_true] <;> rfl
    | bk ρ => rfl
  · cases e
theorem go_is_whole {tab : List Fn} [Ext tab] (n : Nat) (d0 : D) : CF tab (n + 1) f_is_whole [d0] = (exec (TB tab n) FU b_is_whole [.val d0]).bind outR := go_of (Ext.ok f_is_whole _ rfl) rfl _ rfl
theorem go_common {tab : List Fn} [Ext tab] (n : Nat) (d0 : D) (d1 : D) : CF tab (n + 1) f_common [d0, d1] = (exec (TB tab n) FU b_common [.val d0, .val d1]).bind outR := go_of (Ext.ok f_common _ rfl) rfl _ rfl
theorem go_is_number {tab : List Fn} [Ext tab] (n : Nat) (d0 : D) : CF tab (n + 1) f_is_number [d0] = (exec (TB tab n) FU b_is_number [.val d0]).bind outR := go_of (Ext.ok f_is_number _ rfl) rfl _ rfl
theorem go_asked_number {tab : List Fn} [Ext tab] (n : Nat) (d0 : D) : CF tab (n + 1) f_asked_number [d0] = (exec (TB tab n) FU b_asked_number [.val d0]).bind outR := go_of (Ext.ok f_asked_number _ rfl) rfl _ rfl
theorem go_lowest {tab : List Fn} [Ext tab] (n : Nat) (d0 : D) (d1 : D) : CF tab (n + 1) f_lowest [d0, d1] = (exec (TB tab n) FU b_lowest [.val d0, .val d1, .no]).bind outR := go_of (Ext.ok f_lowest _ rfl) rfl _ rfl
theorem go_made {tab : List Fn} [Ext tab] (n : Nat) (d0 : D) (d1 : D) : CF tab (n + 1) f_made [d0, d1] = (exec (TB tab n) FU b_made [.val d0, .val d1]).bind outR := go_of (Ext.ok f_made _ rfl) rfl _ rfl
theorem go_add {tab : List Fn} [Ext tab] (n : Nat) (d0 : D) (d1 : D) : CF tab (n + 1) f_add [d0, d1] = (exec (TB tab n) FU b_add [.val d0, .val d1]).bind outR := go_of (Ext.ok f_add _ rfl) rfl _ rfl
theorem go_cut {tab : List Fn} [Ext tab] (n : Nat) (d0 : D) (d1 : D) : CF tab (n + 1) f_cut [d0, d1] = (exec (TB tab n) FU b_cut [.val d0, .val d1]).bind outR := go_of (Ext.ok f_cut _ rfl) rfl _ rfl
theorem go_grow {tab : List Fn} [Ext tab] (n : Nat) (d0 : D) (d1 : D) : CF tab (n + 1) f_grow [d0, d1] = (exec (TB tab n) FU b_grow [.val d0, .val d1]).bind outR := go_of (Ext.ok f_grow _ rfl) rfl _ rfl
theorem go_part {tab : List Fn} [Ext tab] (n : Nat) (d0 : D) (d1 : D) : CF tab (n + 1) f_part [d0, d1] = (exec (TB tab n) FU b_part [.val d0, .val d1]).bind outR := go_of (Ext.ok f_part _ rfl) rfl _ rfl
theorem go_lies {tab : List Fn} [Ext tab] (n : Nat) (d0 : D) (d1 : D) : CF tab (n + 1) f_lies [d0, d1] = (exec (TB tab n) FU b_lies [.val d0, .val d1, .no]).bind outR := go_of (Ext.ok f_lies _ rfl) rfl _ rfl
theorem go_plus {tab : List Fn} [Ext tab] (n : Nat) (d0 : D) (d1 : D) : CF tab (n + 1) f_plus [d0, d1] = (exec (TB tab n) FU b_plus [.val d0, .val d1]).bind outR := go_of (Ext.ok f_plus _ rfl) rfl _ rfl
theorem go_less {tab : List Fn} [Ext tab] (n : Nat) (d0 : D) (d1 : D) : CF tab (n + 1) f_less [d0, d1] = (exec (TB tab n) FU b_less [.val d0, .val d1]).bind outR := go_of (Ext.ok f_less _ rfl) rfl _ rfl
theorem go_times {tab : List Fn} [Ext tab] (n : Nat) (d0 : D) (d1 : D) : CF tab (n + 1) f_times [d0, d1] = (exec (TB tab n) FU b_times [.val d0, .val d1]).bind outR := go_of (Ext.ok f_times _ rfl) rfl _ rfl
theorem go_over {tab : List Fn} [Ext tab] (n : Nat) (d0 : D) (d1 : D) : CF tab (n + 1) f_over [d0, d1] = (exec (TB tab n) FU b_over [.val d0, .val d1]).bind outR := go_of (Ext.ok f_over _ rfl) rfl _ rfl
theorem go_order {tab : List Fn} [Ext tab] (n : Nat) (d0 : D) (d1 : D) : CF tab (n + 1) f_order [d0, d1] = (exec (TB tab n) FU b_order [.val d0, .val d1]).bind outR := go_of (Ext.ok f_order _ rfl) rfl _ rfl
theorem go_is_ahead {tab : List Fn} [Ext tab] (n : Nat) (d0 : D) (d1 : D) : CF tab (n + 1) f_is_ahead [d0, d1] = (exec (TB tab n) FU b_is_ahead [.val d0, .val d1]).bind outR := go_of (Ext.ok f_is_ahead _ rfl) rfl _ rfl
theorem go_is_step {tab : List Fn} [Ext tab] (n : Nat) (d0 : D) (d1 : D) (d2 : D) (d3 : D) : CF tab (n + 1) f_is_step [d0, d1, d2, d3] = (exec (TB tab n) FU b_is_step [.val d0, .val d1, .val d2, .val d3, .no, .no]).bind outR := go_of (Ext.ok f_is_step _ rfl) rfl _ rfl
theorem go_is_turn {tab : List Fn} [Ext tab] (n : Nat) (d0 : D) (d1 : D) (d2 : D) : CF tab (n + 1) f_is_turn [d0, d1, d2] = (exec (TB tab n) FU b_is_turn [.val d0, .val d1, .val d2]).bind outR := go_of (Ext.ok f_is_turn _ rfl) rfl _ rfl
theorem go_are_steps {tab : List Fn} [Ext tab] (n : Nat) (d0 : D) (d1 : D) (d2 : D) : CF tab (n + 1) f_are_steps [d0, d1, d2] = (exec (TB tab n) FU b_are_steps [.val d0, .val d1, .val d2, .no, .no]).bind outR := go_of (Ext.ok f_are_steps _ rfl) rfl _ rfl
theorem go_counted {tab : List Fn} [Ext tab] (n : Nat) (d0 : D) : CF tab (n + 1) f_counted [d0] = (exec (TB tab n) FU b_counted [.val d0, .no, .no, .no, .no]).bind outR := go_of (Ext.ok f_counted _ rfl) rfl _ rfl
theorem go_asked_program {tab : List Fn} [Ext tab] (n : Nat) (d0 : D) : CF tab (n + 1) f_asked_program [d0] = (exec (TB tab n) FU b_asked_program [.val d0, .no, .no]).bind outR := go_of (Ext.ok f_asked_program _ rfl) rfl _ rfl
theorem go_size {tab : List Fn} [Ext tab] (n : Nat) (d0 : D) : CF tab (n + 1) f_size [d0] = (exec (TB tab n) FU b_size [.val d0]).bind outR := go_of (Ext.ok f_size _ rfl) rfl _ rfl
theorem go_needs {tab : List Fn} [Ext tab] (n : Nat) (d0 : D) : CF tab (n + 1) f_needs [d0] = (exec (TB tab n) FU b_needs [.val d0]).bind outR := go_of (Ext.ok f_needs _ rfl) rfl _ rfl
theorem go_asked_few {tab : List Fn} [Ext tab] (n : Nat) (d0 : D) (d1 : D) (d2 : D) : CF tab (n + 1) f_asked_few [d0, d1, d2] = (exec (TB tab n) FU b_asked_few [.val d0, .val d1, .val d2, .no, .no, .no]).bind outR := go_of (Ext.ok f_asked_few _ rfl) rfl _ rfl
theorem go_asked_places {tab : List Fn} [Ext tab] (n : Nat) (d0 : D) (d1 : D) : CF tab (n + 1) f_asked_places [d0, d1] = (exec (TB tab n) FU b_asked_places [.val d0, .val d1, .no]).bind outR := go_of (Ext.ok f_asked_places _ rfl) rfl _ rfl
theorem go_worth_of {tab : List Fn} [Ext tab] (n : Nat) (d0 : D) (d1 : D) (d2 : D) : CF tab (n + 1) f_worth_of [d0, d1, d2] = (exec (TB tab n) FU b_worth_of [.val d0, .val d1, .val d2, .no, .no, .no, .no, .no, .no]).bind outR := go_of (Ext.ok f_worth_of _ rfl) rfl _ rfl
theorem go_worths_of {tab : List Fn} [Ext tab] (n : Nat) (d0 : D) (d1 : D) : CF tab (n + 1) f_worths_of [d0, d1] = (exec (TB tab n) FU b_worths_of [.val d0, .val d1, .no, .no]).bind outF := go_ofF (Ext.ok f_worths_of _ rfl) rfl _ rfl
theorem go_worths {tab : List Fn} [Ext tab] (n : Nat) (d0 : D) (d1 : D) : CF tab (n + 1) f_worths [d0, d1] = (exec (TB tab n) FU b_worths [.val d0, .val d1]).bind outF := go_ofF (Ext.ok f_worths _ rfl) rfl _ rfl
theorem go_worth {tab : List Fn} [Ext tab] (n : Nat) (d0 : D) (d1 : D) : CF tab (n + 1) f_worth [d0, d1] = (exec (TB tab n) FU b_worth [.val d0, .val d1]).bind outR := go_of (Ext.ok f_worth _ rfl) rfl _ rfl
theorem go_asked_ways {tab : List Fn} [Ext tab] (n : Nat) (d0 : D) (d1 : D) : CF tab (n + 1) f_asked_ways [d0, d1] = (exec (TB tab n) FU b_asked_ways [.val d0, .val d1, .no]).bind outR := go_of (Ext.ok f_asked_ways _ rfl) rfl _ rfl
theorem go_sooner {tab : List Fn} [Ext tab] (n : Nat) (d0 : D) (d1 : D) : CF tab (n + 1) f_sooner [d0, d1] = (exec (TB tab n) FU b_sooner [.val d0, .val d1]).bind outR := go_of (Ext.ok f_sooner _ rfl) rfl _ rfl
theorem go_sign_of {tab : List Fn} [Ext tab] (n : Nat) (d0 : D) : CF tab (n + 1) f_sign_of [d0] = (exec (TB tab n) FU b_sign_of [.val d0, .no, .no, .no]).bind outR := go_of (Ext.ok f_sign_of _ rfl) rfl _ rfl
theorem go_line_of {tab : List Fn} [Ext tab] (n : Nat) (d0 : D) (d1 : D) (d2 : D) : CF tab (n + 1) f_line_of [d0, d1, d2] = (exec (TB tab n) FU b_line_of [.val d0, .val d1, .val d2, .no, .no, .no, .no, .no, .no, .no, .no, .no, .no, .no]).bind outR := go_of (Ext.ok f_line_of _ rfl) rfl _ rfl
theorem go_lines_of {tab : List Fn} [Ext tab] (n : Nat) (d0 : D) (d1 : D) : CF tab (n + 1) f_lines_of [d0, d1] = (exec (TB tab n) FU b_lines_of [.val d0, .val d1, .no, .no, .no, .no, .no]).bind outR := go_of (Ext.ok f_lines_of _ rfl) rfl _ rfl
theorem go_begun {tab : List Fn} [Ext tab] (n : Nat) (d0 : D) (d1 : D) : CF tab (n + 1) f_begun [d0, d1] = (exec (TB tab n) FU b_begun [.val d0, .val d1, .no, .no]).bind outR := go_of (Ext.ok f_begun _ rfl) rfl _ rfl
theorem go_moved {tab : List Fn} [Ext tab] (n : Nat) (d0 : D) (d1 : D) (d2 : D) : CF tab (n + 1) f_moved [d0, d1, d2] = (exec (TB tab n) FU b_moved [.val d0, .val d1, .val d2, .no, .no]).bind outR := go_of (Ext.ok f_moved _ rfl) rfl _ rfl
theorem go_side_of {tab : List Fn} [Ext tab] (n : Nat) (d0 : D) (d1 : D) (d2 : D) : CF tab (n + 1) f_side_of [d0, d1, d2] = (exec (TB tab n) FU b_side_of [.val d0, .val d1, .val d2, .no, .no, .no, .no, .no, .no, .no, .no]).bind outR := go_of (Ext.ok f_side_of _ rfl) rfl _ rfl
theorem go_side {tab : List Fn} [Ext tab] (n : Nat) (d0 : D) (d1 : D) (d2 : D) : CF tab (n + 1) f_side [d0, d1, d2] = (exec (TB tab n) FU b_side [.val d0, .val d1, .val d2]).bind outR := go_of (Ext.ok f_side _ rfl) rfl _ rfl
theorem go_Side_shows {tab : List Fn} [Ext tab] (n : Nat) (d0 : D) (d1 : D) : CF tab (n + 1) f_Side_shows [d0, d1] = (exec (TB tab n) FU b_Side_shows [.val d0, .val d1]).bind outR := go_of (Ext.ok f_Side_shows _ rfl) rfl _ rfl
theorem go_are_numbers {tab : List Fn} [Ext tab] (n : Nat) (d0 : D) : CF tab (n + 1) f_are_numbers [d0] = (exec (TB tab n) FU b_are_numbers [.val d0, .no]).bind outR := go_of (Ext.ok f_are_numbers _ rfl) rfl _ rfl
theorem go_is_piece {tab : List Fn} [Ext tab] (n : Nat) (d0 : D) : CF tab (n + 1) f_is_piece [d0] = (exec (TB tab n) FU b_is_piece [.val d0]).bind outR := go_of (Ext.ok f_is_piece _ rfl) rfl _ rfl
theorem go_asked_picture {tab : List Fn} [Ext tab] (n : Nat) (d0 : D) : CF tab (n + 1) f_asked_picture [d0] = (exec (TB tab n) FU b_asked_picture [.val d0, .no, .no]).bind outR := go_of (Ext.ok f_asked_picture _ rfl) rfl _ rfl
theorem go_asked_stretch {tab : List Fn} [Ext tab] (n : Nat) (d0 : D) (d1 : D) : CF tab (n + 1) f_asked_stretch [d0, d1] = (exec (TB tab n) FU b_asked_stretch [.val d0, .val d1]).bind outR := go_of (Ext.ok f_asked_stretch _ rfl) rfl _ rfl
theorem go_along {tab : List Fn} [Ext tab] (n : Nat) (d0 : D) (d1 : D) (d2 : D) : CF tab (n + 1) f_along [d0, d1, d2] = (exec (TB tab n) FU b_along [.val d0, .val d1, .val d2]).bind outR := go_of (Ext.ok f_along _ rfl) rfl _ rfl
theorem go_picture {tab : List Fn} [Ext tab] (n : Nat) (d0 : D) (d1 : D) (d2 : D) : CF tab (n + 1) f_picture [d0, d1, d2] = (exec (TB tab n) FU b_picture [.val d0, .val d1, .val d2, .no, .no, .no, .no, .no]).bind outR := go_of (Ext.ok f_picture _ rfl) rfl _ rfl
theorem go_piece_at {tab : List Fn} [Ext tab] (n : Nat) (d0 : D) (d1 : D) : CF tab (n + 1) f_piece_at [d0, d1] = (exec (TB tab n) FU b_piece_at [.val d0, .val d1, .no, .no]).bind outR := go_of (Ext.ok f_piece_at _ rfl) rfl _ rfl
theorem go_told_at {tab : List Fn} [Ext tab] (n : Nat) (d0 : D) (d1 : D) : CF tab (n + 1) f_told_at [d0, d1] = (exec (TB tab n) FU b_told_at [.val d0, .val d1, .no]).bind outR := go_of (Ext.ok f_told_at _ rfl) rfl _ rfl
theorem go_asked_within {tab : List Fn} [Ext tab] (n : Nat) (d0 : D) (d1 : D) : CF tab (n + 1) f_asked_within [d0, d1] = (exec (TB tab n) FU b_asked_within [.val d0, .val d1]).bind outR := go_of (Ext.ok f_asked_within _ rfl) rfl _ rfl
theorem go_worth_at {tab : List Fn} [Ext tab] (n : Nat) (d0 : D) (d1 : D) : CF tab (n + 1) f_worth_at [d0, d1] = (exec (TB tab n) FU b_worth_at [.val d0, .val d1]).bind outR := go_of (Ext.ok f_worth_at _ rfl) rfl _ rfl
theorem go_limits {tab : List Fn} [Ext tab] (n : Nat) (d0 : D) (d1 : D) : CF tab (n + 1) f_limits [d0, d1] = (exec (TB tab n) FU b_limits [.val d0, .val d1, .no, .no, .no, .no, .no]).bind outR := go_of (Ext.ok f_limits _ rfl) rfl _ rfl
theorem go_tidied {tab : List Fn} [Ext tab] (n : Nat) (d0 : D) (d1 : D) (d2 : D) : CF tab (n + 1) f_tidied [d0, d1, d2] = (exec (TB tab n) FU b_tidied [.val d0, .val d1, .val d2, .no, .no, .no, .no, .no]).bind outR := go_of (Ext.ok f_tidied _ rfl) rfl _ rfl
theorem go_tidy {tab : List Fn} [Ext tab] (n : Nat) (d0 : D) : CF tab (n + 1) f_tidy [d0] = (exec (TB tab n) FU b_tidy [.val d0]).bind outR := go_of (Ext.ok f_tidy _ rfl) rfl _ rfl
theorem go_scaled {tab : List Fn} [Ext tab] (n : Nat) (d0 : D) (d1 : D) : CF tab (n + 1) f_scaled [d0, d1] = (exec (TB tab n) FU b_scaled [.val d0, .val d1, .no, .no, .no, .no, .no]).bind outR := go_of (Ext.ok f_scaled _ rfl) rfl _ rfl
theorem go_mirrored {tab : List Fn} [Ext tab] (n : Nat) (d0 : D) : CF tab (n + 1) f_mirrored [d0] = (exec (TB tab n) FU b_mirrored [.val d0, .no, .no, .no, .no, .no]).bind outR := go_of (Ext.ok f_mirrored _ rfl) rfl _ rfl
theorem go_line_at {tab : List Fn} [Ext tab] (n : Nat) (d0 : D) (d1 : D) : CF tab (n + 1) f_line_at [d0, d1] = (exec (TB tab n) FU b_line_at [.val d0, .val d1, .no]).bind outR := go_of (Ext.ok f_line_at _ rfl) rfl _ rfl
theorem go_meeting {tab : List Fn} [Ext tab] (n : Nat) (d0 : D) (d1 : D) (d2 : D) (d3 : D) : CF tab (n + 1) f_meeting [d0, d1, d2, d3] = (exec (TB tab n) FU b_meeting [.val d0, .val d1, .val d2, .val d3, .no, .no, .no]).bind outR := go_of (Ext.ok f_meeting _ rfl) rfl _ rfl
theorem go_asked_both {tab : List Fn} [Ext tab] (n : Nat) (d0 : D) (d1 : D) : CF tab (n + 1) f_asked_both [d0, d1] = (exec (TB tab n) FU b_asked_both [.val d0, .val d1]).bind outR := go_of (Ext.ok f_asked_both _ rfl) rfl _ rfl
theorem go_crossed {tab : List Fn} [Ext tab] (n : Nat) (d0 : D) (d1 : D) : CF tab (n + 1) f_crossed [d0, d1] = (exec (TB tab n) FU b_crossed [.val d0, .val d1, .no, .no, .no, .no, .no]).bind outR := go_of (Ext.ok f_crossed _ rfl) rfl _ rfl
theorem go_lesser_line {tab : List Fn} [Ext tab] (n : Nat) (d0 : D) (d1 : D) : CF tab (n + 1) f_lesser_line [d0, d1] = (exec (TB tab n) FU b_lesser_line [.val d0, .val d1, .no]).bind outR := go_of (Ext.ok f_lesser_line _ rfl) rfl _ rfl
theorem go_differing {tab : List Fn} [Ext tab] (n : Nat) (d0 : D) (d1 : D) : CF tab (n + 1) f_differing [d0, d1] = (exec (TB tab n) FU b_differing [.val d0, .val d1, .no, .no, .no, .no, .no]).bind outR := go_of (Ext.ok f_differing _ rfl) rfl _ rfl
theorem go_compared {tab : List Fn} [Ext tab] (n : Nat) (d0 : D) (d1 : D) : CF tab (n + 1) f_compared [d0, d1] = (exec (TB tab n) FU b_compared [.val d0, .val d1, .no]).bind outR := go_of (Ext.ok f_compared _ rfl) rfl _ rfl
theorem go_Alike_shows {tab : List Fn} [Ext tab] (n : Nat) (d0 : D) (d1 : D) (d2 : D) : CF tab (n + 1) f_Alike_shows [d0, d1, d2] = (exec (TB tab n) FU b_Alike_shows [.val d0, .val d1, .val d2]).bind outR := go_of (Ext.ok f_Alike_shows _ rfl) rfl _ rfl
theorem go_Differ_shows {tab : List Fn} [Ext tab] (n : Nat) (d0 : D) (d1 : D) (d2 : D) : CF tab (n + 1) f_Differ_shows [d0, d1, d2] = (exec (TB tab n) FU b_Differ_shows [.val d0, .val d1, .val d2]).bind outR := go_of (Ext.ok f_Differ_shows _ rfl) rfl _ rfl
theorem go_middle {tab : List Fn} [Ext tab] (n : Nat) (d0 : D) (d1 : D) : CF tab (n + 1) f_middle [d0, d1] = (exec (TB tab n) FU b_middle [.val d0, .val d1]).bind outR := go_of (Ext.ok f_middle _ rfl) rfl _ rfl
theorem go_ends {tab : List Fn} [Ext tab] (n : Nat) (d0 : D) (d1 : D) : CF tab (n + 1) f_ends [d0, d1] = (exec (TB tab n) FU b_ends [.val d0, .val d1, .no]).bind outR := go_of (Ext.ok f_ends _ rfl) rfl _ rfl
theorem go_least_of {tab : List Fn} [Ext tab] (n : Nat) (d0 : D) : CF tab (n + 1) f_least_of [d0] = (exec (TB tab n) FU b_least_of [.val d0, .no, .no, .no, .no, .no, .no, .no]).bind outR := go_of (Ext.ok f_least_of _ rfl) rfl _ rfl
theorem go_least {tab : List Fn} [Ext tab] (n : Nat) (d0 : D) : CF tab (n + 1) f_least [d0] = (exec (TB tab n) FU b_least [.val d0]).bind outR := go_of (Ext.ok f_least _ rfl) rfl _ rfl
theorem go_turned_over {tab : List Fn} [Ext tab] (n : Nat) (d0 : D) : CF tab (n + 1) f_turned_over [d0] = (exec (TB tab n) FU b_turned_over [.val d0, .no, .no, .no, .no, .no]).bind outR := go_of (Ext.ok f_turned_over _ rfl) rfl _ rfl
theorem go_greatest {tab : List Fn} [Ext tab] (n : Nat) (d0 : D) : CF tab (n + 1) f_greatest [d0] = (exec (TB tab n) FU b_greatest [.val d0, .no]).bind outR := go_of (Ext.ok f_greatest _ rfl) rfl _ rfl
theorem go_spans {tab : List Fn} [Ext tab] (n : Nat) (d0 : D) (d1 : D) : CF tab (n + 1) f_spans [d0, d1] = (exec (TB tab n) FU b_spans [.val d0, .val d1, .no, .no, .no, .no, .no, .no, .no]).bind outF := go_ofF (Ext.ok f_spans _ rfl) rfl _ rfl
theorem go_joined {tab : List Fn} [Ext tab] (n : Nat) (d0 : D) : CF tab (n + 1) f_joined [d0] = (exec (TB tab n) FU b_joined [.val d0, .no, .no, .no]).bind outF := go_ofF (Ext.ok f_joined _ rfl) rfl _ rfl
theorem go_area {tab : List Fn} [Ext tab] (n : Nat) (d0 : D) : CF tab (n + 1) f_area [d0] = (exec (TB tab n) FU b_area [.val d0, .no, .no, .no, .no, .no]).bind outR := go_of (Ext.ok f_area _ rfl) rfl _ rfl
theorem go_beside {tab : List Fn} [Ext tab] (n : Nat) (d0 : D) (d1 : D) (d2 : D) (d3 : D) : CF tab (n + 1) f_beside [d0, d1, d2, d3] = (exec (TB tab n) FU b_beside [.val d0, .val d1, .val d2, .val d3, .no, .no, .no, .no, .no, .no, .no, .no]).bind outR := go_of (Ext.ok f_beside _ rfl) rfl _ rfl
theorem go_falling {tab : List Fn} [Ext tab] (n : Nat) (d0 : D) : CF tab (n + 1) f_falling [d0] = (exec (TB tab n) FU b_falling [.val d0, .no, .no, .no, .no]).bind outR := go_of (Ext.ok f_falling _ rfl) rfl _ rfl
theorem go_rising {tab : List Fn} [Ext tab] (n : Nat) (d0 : D) : CF tab (n + 1) f_rising [d0] = (exec (TB tab n) FU b_rising [.val d0, .no]).bind outR := go_of (Ext.ok f_rising _ rfl) rfl _ rfl
theorem go_Rising_shows {tab : List Fn} [Ext tab] (n : Nat) (d0 : D) (d1 : D) : CF tab (n + 1) f_Rising_shows [d0, d1] = (exec (TB tab n) FU b_Rising_shows [.val d0, .val d1]).bind outR := go_of (Ext.ok f_Rising_shows _ rfl) rfl _ rfl
theorem go_Falls_shows {tab : List Fn} [Ext tab] (n : Nat) (d0 : D) (d1 : D) : CF tab (n + 1) f_Falls_shows [d0, d1] = (exec (TB tab n) FU b_Falls_shows [.val d0, .val d1, .no, .no]).bind outR := go_of (Ext.ok f_Falls_shows _ rfl) rfl _ rfl
theorem go_jumps {tab : List Fn} [Ext tab] (n : Nat) (d0 : D) : CF tab (n + 1) f_jumps [d0] = (exec (TB tab n) FU b_jumps [.val d0, .no, .no, .no, .no]).bind outF := go_ofF (Ext.ok f_jumps _ rfl) rfl _ rfl
theorem go_slope_at {tab : List Fn} [Ext tab] (n : Nat) (d0 : D) (d1 : D) : CF tab (n + 1) f_slope_at [d0, d1] = (exec (TB tab n) FU b_slope_at [.val d0, .val d1, .no, .no, .no]).bind outR := go_of (Ext.ok f_slope_at _ rfl) rfl _ rfl
theorem go_kinks {tab : List Fn} [Ext tab] (n : Nat) (d0 : D) (d1 : D) (d2 : D) (d3 : D) : CF tab (n + 1) f_kinks [d0, d1, d2, d3] = (exec (TB tab n) FU b_kinks [.val d0, .val d1, .val d2, .val d3, .no, .no, .no]).bind outR := go_of (Ext.ok f_kinks _ rfl) rfl _ rfl
theorem go_dot {tab : List Fn} [Ext tab] (n : Nat) (d0 : D) (d1 : D) : CF tab (n + 1) f_dot [d0, d1] = (exec (TB tab n) FU b_dot [.val d0, .val d1]).bind outR := go_of (Ext.ok f_dot _ rfl) rfl _ rfl
theorem go_apart_of {tab : List Fn} [Ext tab] (n : Nat) (d0 : D) (d1 : D) : CF tab (n + 1) f_apart_of [d0, d1] = (exec (TB tab n) FU b_apart_of [.val d0, .val d1, .no]).bind outR := go_of (Ext.ok f_apart_of _ rfl) rfl _ rfl
theorem go_sum_of {tab : List Fn} [Ext tab] (n : Nat) (d0 : D) (d1 : D) : CF tab (n + 1) f_sum_of [d0, d1] = (exec (TB tab n) FU b_sum_of [.val d0, .val d1]).bind outR := go_of (Ext.ok f_sum_of _ rfl) rfl _ rfl
theorem go_cone {tab : List Fn} [Ext tab] (n : Nat) (d0 : D) (d1 : D) (d2 : D) (d3 : D) : CF tab (n + 1) f_cone [d0, d1, d2, d3] = (exec (TB tab n) FU b_cone [.val d0, .val d1, .val d2, .val d3, .no, .no, .no, .no, .no, .no, .no, .no]).bind outR := go_of (Ext.ok f_cone _ rfl) rfl _ rfl
theorem go_turn_of {tab : List Fn} [Ext tab] (n : Nat) (d0 : D) : CF tab (n + 1) f_turn_of [d0] = (exec (TB tab n) FU b_turn_of [.val d0, .no]).bind outR := go_of (Ext.ok f_turn_of _ rfl) rfl _ rfl
theorem go_ahead {tab : List Fn} [Ext tab] (n : Nat) (d0 : D) (d1 : D) : CF tab (n + 1) f_ahead [d0, d1] = (exec (TB tab n) FU b_ahead [.val d0, .val d1]).bind outR := go_of (Ext.ok f_ahead _ rfl) rfl _ rfl
theorem go_ways_of {tab : List Fn} [Ext tab] (n : Nat) (d0 : D) (d1 : D) : CF tab (n + 1) f_ways_of [d0, d1] = (exec (TB tab n) FU b_ways_of [.val d0, .val d1, .no, .no, .no, .no, .no, .no, .no, .no]).bind outR := go_of (Ext.ok f_ways_of _ rfl) rfl _ rfl
theorem go_flat {tab : List Fn} [Ext tab] (n : Nat) (d0 : D) (d1 : D) : CF tab (n + 1) f_flat [d0, d1] = (exec (TB tab n) FU b_flat [.val d0, .val d1, .no, .no]).bind outR := go_of (Ext.ok f_flat _ rfl) rfl _ rfl
theorem go_Flat_shows {tab : List Fn} [Ext tab] (n : Nat) (d0 : D) (d1 : D) (d2 : D) : CF tab (n + 1) f_Flat_shows [d0, d1, d2] = (exec (TB tab n) FU b_Flat_shows [.val d0, .val d1, .val d2, .no]).bind outR := go_of (Ext.ok f_Flat_shows _ rfl) rfl _ rfl
theorem go_Kinked_shows {tab : List Fn} [Ext tab] (n : Nat) (d0 : D) (d1 : D) (d2 : D) : CF tab (n + 1) f_Kinked_shows [d0, d1, d2] = (exec (TB tab n) FU b_Kinked_shows [.val d0, .val d1, .val d2]).bind outR := go_of (Ext.ok f_Kinked_shows _ rfl) rfl _ rfl
theorem go_mixed_mark {tab : List Fn} [Ext tab] (n : Nat) (d0 : D) (d1 : D) (d2 : D) : CF tab (n + 1) f_mixed_mark [d0, d1, d2] = (exec (TB tab n) FU b_mixed_mark [.val d0, .val d1, .val d2, .no, .no]).bind outR := go_of (Ext.ok f_mixed_mark _ rfl) rfl _ rfl
theorem go_scaled_mark {tab : List Fn} [Ext tab] (n : Nat) (d0 : D) (d1 : D) : CF tab (n + 1) f_scaled_mark [d0, d1] = (exec (TB tab n) FU b_scaled_mark [.val d0, .val d1]).bind outR := go_of (Ext.ok f_scaled_mark _ rfl) rfl _ rfl
theorem go_mark_of {tab : List Fn} [Ext tab] (n : Nat) (d0 : D) (d1 : D) (d2 : D) : CF tab (n + 1) f_mark_of [d0, d1, d2] = (exec (TB tab n) FU b_mark_of [.val d0, .val d1, .val d2, .no, .no, .no, .no, .no]).bind outR := go_of (Ext.ok f_mark_of _ rfl) rfl _ rfl
theorem go_marks_of {tab : List Fn} [Ext tab] (n : Nat) (d0 : D) (d1 : D) : CF tab (n + 1) f_marks_of [d0, d1] = (exec (TB tab n) FU b_marks_of [.val d0, .val d1, .no, .no]).bind outF := go_ofF (Ext.ok f_marks_of _ rfl) rfl _ rfl
theorem go_marks {tab : List Fn} [Ext tab] (n : Nat) (d0 : D) : CF tab (n + 1) f_marks [d0] = (exec (TB tab n) FU b_marks [.val d0]).bind outF := go_ofF (Ext.ok f_marks _ rfl) rfl _ rfl
theorem go_next_place {tab : List Fn} [Ext tab] (n : Nat) (d0 : D) (d1 : D) : CF tab (n + 1) f_next_place [d0, d1] = (exec (TB tab n) FU b_next_place [.val d0, .val d1, .no, .no, .no]).bind outR := go_of (Ext.ok f_next_place _ rfl) rfl _ rfl
theorem go_next_at {tab : List Fn} [Ext tab] (n : Nat) (d0 : D) (d1 : D) : CF tab (n + 1) f_next_at [d0, d1] = (exec (TB tab n) FU b_next_at [.val d0, .val d1]).bind outR := go_of (Ext.ok f_next_at _ rfl) rfl _ rfl
theorem go_rests {tab : List Fn} [Ext tab] (n : Nat) (d0 : D) (d1 : D) : CF tab (n + 1) f_rests [d0, d1] = (exec (TB tab n) FU b_rests [.val d0, .val d1]).bind outR := go_of (Ext.ok f_rests _ rfl) rfl _ rfl
theorem go_renamed {tab : List Fn} [Ext tab] (n : Nat) (d0 : D) (d1 : D) : CF tab (n + 1) f_renamed [d0, d1] = (exec (TB tab n) FU b_renamed [.val d0, .val d1, .no]).bind outR := go_of (Ext.ok f_renamed _ rfl) rfl _ rfl
theorem go_unrolled_of {tab : List Fn} [Ext tab] (n : Nat) (d0 : D) : CF tab (n + 1) f_unrolled_of [d0] = (exec (TB tab n) FU b_unrolled_of [.val d0, .no, .no, .no]).bind outR := go_of (Ext.ok f_unrolled_of _ rfl) rfl _ rfl
theorem go_unrolled {tab : List Fn} [Ext tab] (n : Nat) (d0 : D) : CF tab (n + 1) f_unrolled [d0] = (exec (TB tab n) FU b_unrolled [.val d0]).bind outR := go_of (Ext.ok f_unrolled _ rfl) rfl _ rfl
theorem go_shortened {tab : List Fn} [Ext tab] (n : Nat) (d0 : D) : CF tab (n + 1) f_shortened [d0] = (exec (TB tab n) FU b_shortened [.val d0]).bind outR := go_of (Ext.ok f_shortened _ rfl) rfl _ rfl
theorem go_ended {tab : List Fn} [Ext tab] (n : Nat) (d0 : D) (d1 : D) (d2 : D) : CF tab (n + 1) f_ended [d0, d1, d2] = (exec (TB tab n) FU b_ended [.val d0, .val d1, .val d2]).bind outR := go_of (Ext.ok f_ended _ rfl) rfl _ rfl
theorem go_behind {tab : List Fn} [Ext tab] (n : Nat) (d0 : D) (d1 : D) : CF tab (n + 1) f_behind [d0, d1] = (exec (TB tab n) FU b_behind [.val d0, .val d1, .no, .no, .no]).bind outR := go_of (Ext.ok f_behind _ rfl) rfl _ rfl
theorem go_stirred {tab : List Fn} [Ext tab] (n : Nat) (d0 : D) (d1 : D) : CF tab (n + 1) f_stirred [d0, d1] = (exec (TB tab n) FU b_stirred [.val d0, .val d1, .no, .no, .no, .no]).bind outR := go_of (Ext.ok f_stirred _ rfl) rfl _ rfl
theorem go_fixed {tab : List Fn} [Ext tab] (n : Nat) (d0 : D) (d1 : D) (d2 : D) : CF tab (n + 1) f_fixed [d0, d1, d2] = (exec (TB tab n) FU b_fixed [.val d0, .val d1, .val d2, .no, .no, .no]).bind outR := go_of (Ext.ok f_fixed _ rfl) rfl _ rfl
theorem go_carried {tab : List Fn} [Ext tab] (n : Nat) (d0 : D) (d1 : D) (d2 : D) : CF tab (n + 1) f_carried [d0, d1, d2] = (exec (TB tab n) FU b_carried [.val d0, .val d1, .val d2, .no, .no, .no, .no, .no, .no]).bind outR := go_of (Ext.ok f_carried _ rfl) rfl _ rfl
theorem go_tuned {tab : List Fn} [Ext tab] (n : Nat) (d0 : D) (d1 : D) (d2 : D) (d3 : D) (d4 : D) (d5 : D) : CF tab (n + 1) f_tuned [d0, d1, d2, d3, d4, d5] = (exec (TB tab n) FU b_tuned [.val d0, .val d1, .val d2, .val d3, .val d4, .val d5, .no]).bind outF := go_ofF (Ext.ok f_tuned _ rfl) rfl _ rfl
theorem go_law_number {tab : List Fn} [Ext tab] (n : Nat) (d0 : D) (d1 : D) (d2 : D) : CF tab (n + 1) f_law_number [d0, d1, d2] = (exec (TB tab n) FU b_law_number [.val d0, .val d1, .val d2, .no, .no]).bind outR := go_of (Ext.ok f_law_number _ rfl) rfl _ rfl
theorem go_law_low {tab : List Fn} [Ext tab] (n : Nat) (d0 : D) (d1 : D) : CF tab (n + 1) f_law_low [d0, d1] = (exec (TB tab n) FU b_law_low [.val d0, .val d1, .no, .no]).bind outR := go_of (Ext.ok f_law_low _ rfl) rfl _ rfl
theorem go_law_good {tab : List Fn} [Ext tab] (n : Nat) (d0 : D) : CF tab (n + 1) f_law_good [d0] = (exec (TB tab n) FU b_law_good [.val d0, .no]).bind outR := go_of (Ext.ok f_law_good _ rfl) rfl _ rfl
theorem go_law_share {tab : List Fn} [Ext tab] (n : Nat) (d0 : D) (d1 : D) : CF tab (n + 1) f_law_share [d0, d1] = (exec (TB tab n) FU b_law_share [.val d0, .val d1]).bind outR := go_of (Ext.ok f_law_share _ rfl) rfl _ rfl
theorem go_law_body {tab : List Fn} [Ext tab] (n : Nat) (d0 : D) : CF tab (n + 1) f_law_body [d0] = (exec (TB tab n) FU b_law_body [.val d0, .no, .no, .no, .no, .no, .no]).bind outR := go_of (Ext.ok f_law_body _ rfl) rfl _ rfl
theorem go_law_program {tab : List Fn} [Ext tab] (n : Nat) (d0 : D) (d1 : D) (d2 : D) (d3 : D) : CF tab (n + 1) f_law_program [d0, d1, d2, d3] = (exec (TB tab n) FU b_law_program [.val d0, .val d1, .val d2, .val d3, .no, .no, .no, .no, .no, .no, .no, .no, .no, .no, .no, .no, .no, .no, .no, .no, .no]).bind outR := go_of (Ext.ok f_law_program _ rfl) rfl _ rfl
theorem go_law_copied {tab : List Fn} [Ext tab] (n : Nat) (d0 : D) : CF tab (n + 1) f_law_copied [d0] = (exec (TB tab n) FU b_law_copied [.val d0, .no, .no]).bind outR := go_of (Ext.ok f_law_copied _ rfl) rfl _ rfl
theorem go_law_add {tab : List Fn} [Ext tab] (n : Nat) (d0 : D) (d1 : D) : CF tab (n + 1) f_law_add [d0, d1] = (exec (TB tab n) FU b_law_add [.val d0, .val d1]).bind outR := go_of (Ext.ok f_law_add _ rfl) rfl _ rfl
theorem go_law_by {tab : List Fn} [Ext tab] (n : Nat) (d0 : D) (d1 : D) : CF tab (n + 1) f_law_by [d0, d1] = (exec (TB tab n) FU b_law_by [.val d0, .val d1]).bind outR := go_of (Ext.ok f_law_by _ rfl) rfl _ rfl
theorem go_law_before {tab : List Fn} [Ext tab] (n : Nat) (d0 : D) (d1 : D) : CF tab (n + 1) f_law_before [d0, d1] = (exec (TB tab n) FU b_law_before [.val d0, .val d1]).bind outR := go_of (Ext.ok f_law_before _ rfl) rfl _ rfl
theorem go_law_places {tab : List Fn} [Ext tab] (n : Nat) (d0 : D) (d1 : D) (d2 : D) : CF tab (n + 1) f_law_places [d0, d1, d2] = (exec (TB tab n) FU b_law_places [.val d0, .val d1, .val d2, .no, .no, .no, .no]).bind outF := go_ofF (Ext.ok f_law_places _ rfl) rfl _ rfl
theorem go_law_run {tab : List Fn} [Ext tab] (n : Nat) (d0 : D) (d1 : D) : CF tab (n + 1) f_law_run [d0, d1] = (exec (TB tab n) FU b_law_run [.val d0, .val d1, .no, .no, .no, .no, .no, .no, .no]).bind outR := go_of (Ext.ok f_law_run _ rfl) rfl _ rfl
theorem go_law_put {tab : List Fn} [Ext tab] (n : Nat) (d0 : D) (d1 : D) (d2 : D) (d3 : D) : CF tab (n + 1) f_law_put [d0, d1, d2, d3] = (exec (TB tab n) FU b_law_put [.val d0, .val d1, .val d2, .val d3, .no, .no, .no, .no, .no]).bind outR := go_of (Ext.ok f_law_put _ rfl) rfl _ rfl
theorem go_law_moved {tab : List Fn} [Ext tab] (n : Nat) (d0 : D) (d1 : D) (d2 : D) : CF tab (n + 1) f_law_moved [d0, d1, d2] = (exec (TB tab n) FU b_law_moved [.val d0, .val d1, .val d2, .no, .no]).bind outR := go_of (Ext.ok f_law_moved _ rfl) rfl _ rfl
theorem go_law_fields {tab : List Fn} [Ext tab] (n : Nat) (d0 : D) : CF tab (n + 1) f_law_fields [d0] = (exec (TB tab n) FU b_law_fields [.val d0]).bind outR := go_of (Ext.ok f_law_fields _ rfl) rfl _ rfl
theorem go_law_along {tab : List Fn} [Ext tab] (n : Nat) (d0 : D) (d1 : D) (d2 : D) : CF tab (n + 1) f_law_along [d0, d1, d2] = (exec (TB tab n) FU b_law_along [.val d0, .val d1, .val d2]).bind outR := go_of (Ext.ok f_law_along _ rfl) rfl _ rfl
theorem go_law_worth {tab : List Fn} [Ext tab] (n : Nat) (d0 : D) (d1 : D) : CF tab (n + 1) f_law_worth [d0, d1] = (exec (TB tab n) FU b_law_worth [.val d0, .val d1, .no, .no]).bind outR := go_of (Ext.ok f_law_worth _ rfl) rfl _ rfl
theorem go_law_is_picture {tab : List Fn} [Ext tab] (n : Nat) (d0 : D) : CF tab (n + 1) f_law_is_picture [d0] = (exec (TB tab n) FU b_law_is_picture [.val d0, .no, .no, .no]).bind outR := go_of (Ext.ok f_law_is_picture _ rfl) rfl _ rfl
theorem go_law_fields2 {tab : List Fn} [Ext tab] (n : Nat) (d0 : D) : CF tab (n + 1) f_law_fields2 [d0] = (exec (TB tab n) FU b_law_fields2 [.val d0]).bind outR := go_of (Ext.ok f_law_fields2 _ rfl) rfl _ rfl
theorem go_law_spots {tab : List Fn} [Ext tab] (n : Nat) (d0 : D) (d1 : D) : CF tab (n + 1) f_law_spots [d0, d1] = (exec (TB tab n) FU b_law_spots [.val d0, .val d1, .no, .no, .no, .no, .no]).bind outF := go_ofF (Ext.ok f_law_spots _ rfl) rfl _ rfl
theorem go_law_stretch {tab : List Fn} [Ext tab] (n : Nat) (d0 : D) (d1 : D) : CF tab (n + 1) f_law_stretch [d0, d1] = (exec (TB tab n) FU b_law_stretch [.val d0, .val d1, .no, .no]).bind outR := go_of (Ext.ok f_law_stretch _ rfl) rfl _ rfl
theorem go_law_tidy {tab : List Fn} [Ext tab] (n : Nat) (d0 : D) : CF tab (n + 1) f_law_tidy [d0] = (exec (TB tab n) FU b_law_tidy [.val d0, .no, .no]).bind outR := go_of (Ext.ok f_law_tidy _ rfl) rfl _ rfl
theorem go_law_hand {tab : List Fn} [Ext tab] (n : Nat) (d0 : D) (d1 : D) (d2 : D) : CF tab (n + 1) f_law_hand [d0, d1, d2] = (exec (TB tab n) FU b_law_hand [.val d0, .val d1, .val d2, .no, .no, .no, .no, .no, .no, .no, .no, .no, .no]).bind outR := go_of (Ext.ok f_law_hand _ rfl) rfl _ rfl
theorem go_law_in {tab : List Fn} [Ext tab] (n : Nat) (d0 : D) (d1 : D) : CF tab (n + 1) f_law_in [d0, d1] = (exec (TB tab n) FU b_law_in [.val d0, .val d1]).bind outR := go_of (Ext.ok f_law_in _ rfl) rfl _ rfl
theorem go_law_rises {tab : List Fn} [Ext tab] (n : Nat) (d0 : D) : CF tab (n + 1) f_law_rises [d0] = (exec (TB tab n) FU b_law_rises [.val d0, .no, .no, .no]).bind outR := go_of (Ext.ok f_law_rises _ rfl) rfl _ rfl
theorem go_law_kinks {tab : List Fn} [Ext tab] (n : Nat) (d0 : D) (d1 : D) (d2 : D) (d3 : D) : CF tab (n + 1) f_law_kinks [d0, d1, d2, d3] = (exec (TB tab n) FU b_law_kinks [.val d0, .val d1, .val d2, .val d3, .no, .no, .no]).bind outR := go_of (Ext.ok f_law_kinks _ rfl) rfl _ rfl
theorem go_law_leaning {tab : List Fn} [Ext tab] (n : Nat) (d0 : D) (d1 : D) : CF tab (n + 1) f_law_leaning [d0, d1] = (exec (TB tab n) FU b_law_leaning [.val d0, .val d1, .no, .no, .no, .no]).bind outR := go_of (Ext.ok f_law_leaning _ rfl) rfl _ rfl
theorem go_law_says {tab : List Fn} [Ext tab] (n : Nat) (d0 : D) (d1 : D) : CF tab (n + 1) f_law_says [d0, d1] = (exec (TB tab n) FU b_law_says [.val d0, .val d1]).bind outR := go_of (Ext.ok f_law_says _ rfl) rfl _ rfl
theorem go_law_bulging {tab : List Fn} [Ext tab] (n : Nat) (d0 : D) (d1 : D) (d2 : D) (d3 : D) : CF tab (n + 1) f_law_bulging [d0, d1, d2, d3] = (exec (TB tab n) FU b_law_bulging [.val d0, .val d1, .val d2, .val d3, .no, .no, .no, .no, .no, .no, .no, .no, .no, .no]).bind outR := go_of (Ext.ok f_law_bulging _ rfl) rfl _ rfl
theorem go_law_all {tab : List Fn} [Ext tab] (n : Nat) (d0 : D) (d1 : D) (d2 : D) : CF tab (n + 1) f_law_all [d0, d1, d2] = (exec (TB tab n) FU b_law_all [.val d0, .val d1, .val d2, .no, .no]).bind outR := go_of (Ext.ok f_law_all _ rfl) rfl _ rfl
end RF

end S_U
section S_I_k11
set_option maxHeartbeats 8000000
namespace RF
open PySem PySem.Spec L2
def topS (i : Nat) : Stmt := PySem.Challenge.pw_bendwright_k11_whole_side_straight.main.body.getD i (.Pass ⟨0, 0, 0, 0⟩)
abbrev f_law_fars : Nat := 154
abbrev f_law_right : Nat := 155
abbrev f_law : Nat := 156
/-- _law_fars(_law_found, _law_number_here): slots 0=_law_found 1=_law_number_here 2=_law_parts 3=_law_bit -/
def b_law_fars : CS :=
  (.set 2 (.lst (.cons (.tup (.cons (.c (.int 1)) (.cons (.c (.int 2)) .nil))) (.cons (.tup (.cons (.c (.int 1)) (.cons (.c (.int 1000003)) .nil))) (.cons (.tup (.cons (.c (.int 999)) (.cons (.c (.int 1000)) .nil))) (.cons (.tup (.cons (.bin .add (.c (.int 1)) (.bin .mod (.var 1) (.c (.int 97)))) (.cons (.c (.int 98)) .nil))) .nil)))))
  (.ite (.cmp .isN (.fld (.var 0) a_reach) (.c .non))
    (.ret (.lst (.cons (.tup (.cons (.c (.int 1)) (.cons (.c (.int 1000003)) .nil))) (.cons (.call f_law_low (.cons (.bin .add (.c (.int 1)) (.bin .mod (.var 1) (.c (.int 97)))) (.cons (.c (.int 2)) .nil))) (.cons (.tup (.cons (.bin .pow (.c (.int 10)) (.c (.int 40))) (.cons (.c (.int 1)) .nil))) .nil)))))
    .nil
  (.ret (.comp .seq (.nm 3) [3] (.var 2) .nil (.call f_law_by (.cons (.fld (.var 0) a_reach) (.cons (.var 3) .nil)))))))
def l_law_right_0 : CS :=
  (.set 7 (.call f_law_add (.cons (.fld (.var 5) a_beyond) (.cons (.call f_law_by (.cons (.fld (.var 5) a_slope) (.cons (.var 6) .nil))) .nil)))
  (.ite (.or (.cmp .ne (.idx (.call f_law_run (.cons (.idx (.var 0) (.c (.int 1))) (.cons (.call f_law_moved (.cons (.var 1) (.cons (.var 2) (.cons (.var 6) .nil)))) .nil))) (.neg (.c (.int 1)))) (.var 7)) (.cmp .ne (.meth (.var 5) m_0 (.cons (.var 6) .nil)) (.var 7)))
    (.ret (.c (.bl false)))
    .nil
  (.wip [6, 7] .nil)))
/-- _law_right(_law_program_here, _law_places_here, _law_ways, _law_number_here): slots 0=_law_program_here 1=_law_places_here 2=_law_ways 3=_law_number_here 4=_law_handed 5=_law_found 6=_law_far 7=_law_due 8=_law_one -/
def b_law_right : CS :=
  (.set 4 (.lst (.cons (.call f_law_copied (.cons (.var 0) .nil)) (.cons (.bi .list (.cons (.var 1) .nil)) (.cons (.bi .list (.cons (.var 2) .nil)) .nil))))
  (.set 5 (.call f_side (.cons (.idx (.var 4) (.c (.int 0))) (.cons (.idx (.var 4) (.c (.int 1))) (.cons (.idx (.var 4) (.c (.int 2))) .nil))))
  (.ite (.or (.nt (.isC (.var 5) c_Side)) (.cmp .ne (.var 4) (.lst (.cons (.var 0) (.cons (.var 1) (.cons (.var 2) .nil))))))
    (.ret (.c (.bl false)))
    .nil
  (.ite (.nt (.bi .all (.cons (.comp .seq (.nm 8) [8] (.lst (.cons (.fld (.var 5) a_value) (.cons (.fld (.var 5) a_beyond) (.cons (.fld (.var 5) a_slope) .nil)))) .nil (.call f_law_good (.cons (.var 8) .nil))) .nil)))
    (.ret (.c (.bl false)))
    .nil
  (.ite (.and (.cmp .notN (.fld (.var 5) a_reach) (.c .non)) (.or (.nt (.call f_law_good (.cons (.fld (.var 5) a_reach) .nil))) (.cmp .le (.idx (.fld (.var 5) a_reach) (.c (.int 0))) (.c (.int 0)))))
    (.ret (.c (.bl false)))
    .nil
  (.ite (.cmp .ne (.fld (.var 5) a_value) (.idx (.call f_law_run (.cons (.idx (.var 0) (.c (.int 1))) (.cons (.var 1) .nil))) (.neg (.c (.int 1)))))
    (.ret (.c (.bl false)))
    .nil
  (.forE .seq (.nm 6) (.call f_law_fars (.cons (.var 5) (.cons (.var 3) .nil))) l_law_right_0
  (.wip [6, 7] (.ret (.c (.bl true)))))))))))
def l_law_0 : CS :=
  (.ite (.nt (.call f_law_right (.cons (.var 3) (.cons (.var 7) (.cons (.var 8) (.cons (.var 1) .nil))))))
    (.ret (.c (.bl false)))
    .nil
  (.wip [7, 8] .nil))
def l_law_1 : CS :=
  (.set 3 (.call f_law_program (.cons (.var 0) (.cons (.var 2) (.cons (.var 2) (.cons (.c (.int 9)) .nil)))))
  (.par 4 5 false false (.call f_law_places (.cons (.var 0) (.cons (.c (.int 0)) (.cons (.var 2) .nil)))) (.call f_law_places (.cons (.var 0) (.cons (.c (.int 9)) (.cons (.var 2) .nil))))
  (.own 6 (.rep (.cons (.tup (.cons (.c (.int 0)) (.cons (.c (.int 1)) .nil))) .nil) (.var 2))
  (.sto 6 (.bin .mod (.var 1) (.var 2)) (.tup (.cons (.bin .sub (.c (.int 1)) (.bin .mul (.bin .mod (.bin .fdiv (.var 1) (.c (.int 3))) (.c (.int 2))) (.c (.int 2)))) (.cons (.c (.int 1)) .nil)))
  (.forE .seq (.tp [7, 8]) (.lst (.cons (.tup (.cons (.var 4) (.cons (.var 5) .nil))) (.cons (.tup (.cons (.rep (.cons (.tup (.cons (.c (.int 0)) (.cons (.c (.int 1)) .nil))) .nil) (.var 2)) (.cons (.var 6) .nil))) (.cons (.tup (.cons (.var 4) (.cons (.rep (.cons (.tup (.cons (.c (.int 0)) (.cons (.c (.int 1)) .nil))) .nil) (.var 2)) .nil))) .nil)))) l_law_0
  (.wip [7, 8] (.wip [2, 3, 4, 5, 6, 7, 8] .nil)))))))
/-- law(_law_script): slots 0=_law_script 1=_law_whole 2=_law_inputs 3=_law_program_here 4=_law_places_here 5=_law_ways 6=_law_onward 7=_law_there 8=_law_way 9=_law_found -/
def b_law : CS :=
  (.set 1 (.bin .mod (.bi .abs (.cons (.bi .sum (.cons (.sl (.var 0) .nil (.c (.int 63))) .nil)) .nil)) (.bin .pow (.c (.int 10)) (.c (.int 60))))
  (.forE .seq (.nm 2) (.lst (.cons (.c (.int 1)) (.cons (.c (.int 2)) (.cons (.c (.int 3)) .nil)))) l_law_1
  (.wip [2, 3, 4, 5, 6, 7, 8] (.set 9 (.call f_side (.cons (.tup (.cons (.c (.int 1)) (.cons (.lst (.cons (.tup (.cons (.c (.str "in")) (.cons (.c (.int 0)) .nil))) (.cons (.tup (.cons (.c (.str "is")) (.cons (.tup (.cons (.c (.int 1)) (.cons (.c (.int 1)) .nil))) .nil))) (.cons (.tup (.cons (.c (.str "if")) (.cons (.c (.int 0)) (.cons (.c (.int 0)) (.cons (.c (.int 1)) .nil))))) .nil)))) .nil))) (.cons (.lst (.cons (.tup (.cons (.c (.int 0)) (.cons (.c (.int 1)) .nil))) .nil)) (.cons (.lst (.cons (.tup (.cons (.c (.int 1)) (.cons (.c (.int 1)) .nil))) .nil)) .nil))))
  (.ret (.cmp .eq (.tup (.cons (.fld (.var 9) a_value) (.cons (.fld (.var 9) a_beyond) (.cons (.fld (.var 9) a_slope) (.cons (.fld (.var 9) a_reach) .nil))))) (.tup (.cons (.tup (.cons (.c (.int 0)) (.cons (.c (.int 1)) .nil))) (.cons (.tup (.cons (.c (.int 1)) (.cons (.c (.int 1)) .nil))) (.cons (.tup (.cons (.c (.int 0)) (.cons (.c (.int 1)) .nil))) (.cons (.c .non) .nil)))))))))))
def tabL : List Fn := U ++ [
  ⟨2, 4, b_law_fars, false⟩,
  ⟨4, 9, b_law_right, false⟩,
  ⟨1, 10, b_law, false⟩]
instance : Ext tabL := ⟨fun i fn h => by rw [tabL, List.getElem?_append_left (List.getElem?_eq_some_iff.mp h).1]; exact h⟩
theorem go_law_fars (n : Nat) (d0 : D) (d1 : D) : CF tabL (n + 1) f_law_fars [d0, d1] = (exec (TB tabL n) FU b_law_fars [.val d0, .val d1, .no, .no]).bind outR := go_of (show tabL[f_law_fars]? = _ from rfl) rfl _ rfl
theorem go_law_right (n : Nat) (d0 : D) (d1 : D) (d2 : D) (d3 : D) : CF tabL (n + 1) f_law_right [d0, d1, d2, d3] = (exec (TB tabL n) FU b_law_right [.val d0, .val d1, .val d2, .val d3, .no, .no, .no, .no, .no]).bind outR := go_of (show tabL[f_law_right]? = _ from rfl) rfl _ rfl
theorem go_law (n : Nat) (d0 : D) : CF tabL (n + 1) f_law [d0] = (exec (TB tabL n) FU b_law [.val d0, .no, .no, .no, .no, .no, .no, .no, .no, .no]).bind outR := go_of (show tabL[f_law]? = _ from rfl) rfl _ rfl
def rows : List Row := [
  ⟨f_is_whole, "is_whole", "is_whole", topS 7, ["thing"], ["thing"]⟩,
  ⟨f_common, "common", "common", topS 8, ["one", "other"], ["one", "other"]⟩,
  ⟨f_is_number, "is_number", "is_number", topS 9, ["thing"], ["thing"]⟩,
  ⟨f_lowest, "lowest", "lowest", topS 10, ["above", "below", "by"], ["above", "below"]⟩,
  ⟨f_add, "add", "add", topS 11, ["one", "other"], ["one", "other"]⟩,
  ⟨f_cut, "cut", "cut", topS 12, ["one", "other"], ["one", "other"]⟩,
  ⟨f_grow, "grow", "grow", topS 13, ["one", "other"], ["one", "other"]⟩,
  ⟨f_part, "part", "part", topS 14, ["one", "other"], ["one", "other"]⟩,
  ⟨f_lies, "lies", "lies", topS 15, ["one", "other", "apart"], ["one", "other"]⟩,
  ⟨f_is_ahead, "is_ahead", "is_ahead", topS 23, ["thing", "at"], ["thing", "at"]⟩,
  ⟨f_is_step, "is_step", "is_step", topS 24, ["step", "at", "inputs", "depth", "kind", "one"], ["step", "at", "inputs", "depth"]⟩,
  ⟨f_is_turn, "is_turn", "is_turn", topS 25, ["step", "at", "depth"], ["step", "at", "depth"]⟩,
  ⟨f_are_steps, "are_steps", "are_steps", topS 26, ["steps", "inputs", "depth", "at", "step"], ["steps", "inputs", "depth"]⟩,
  ⟨f_counted, "counted", "counted", topS 27, ["steps", "run", "choices", "step", "inner"], ["steps"]⟩,
  ⟨f_asked_program, "asked_program", "asked_program", topS 28, ["program", "run", "choices"], ["program"]⟩,
  ⟨f_asked_places, "asked_places", "asked_places", topS 30, ["program", "places", "one"], ["program", "places"]⟩,
  ⟨f_worth_of, "worth_of", "worth_of", topS 31, ["step", "found", "places", "kind", "worth", "turn", "one", "other", "lesser"], ["step", "found", "places"]⟩,
  ⟨f_worths_of, "worths_of", "worths_of", topS 32, ["steps", "places", "found", "step"], ["steps", "places"]⟩,
  ⟨f_sooner, "sooner", "sooner", topS 35, ["one", "other"], ["one", "other"]⟩,
  ⟨f_sign_of, "sign_of", "sign_of", topS 36, ["line", "begin", "slope", "sign"], ["line"]⟩,
  ⟨f_line_of, "line_of", "line_of", topS 37, ["step", "found", "begins", "kind", "begin", "slope", "sign", "reach", "line", "turn", "lines", "more", "one", "other"], ["step", "found", "begins"]⟩,
  ⟨f_lines_of, "lines_of", "lines_of", topS 38, ["steps", "begins", "found", "reach", "step", "line", "more"], ["steps", "begins"]⟩,
  ⟨f_begun, "begun", "begun", topS 39, ["places", "ways", "place", "way"], ["places", "ways"]⟩,
  ⟨f_moved, "moved", "moved", topS 40, ["places", "ways", "far", "place", "way"], ["places", "ways", "far"]⟩,
  ⟨f_side_of, "side_of", "side_of", topS 41, ["program", "places", "ways", "value", "lines", "reach", "beyond", "slope", "here", "due", "more"], ["program", "places", "ways"]⟩,
  ⟨f_asked_ways, "asked_ways", "asked_ways", topS 42, ["program", "ways", "one"], ["program", "ways"]⟩,
  ⟨f_side, "side", "side", topS 43, ["program", "places", "ways"], ["program", "places", "ways"]⟩,
  ⟨f_law_number, "_law_number", "_law_number", topS 45, ["_law_cell", "_law_at", "_law_whole", "_law_blend", "_law_more"], ["_law_cell", "_law_at", "_law_whole"]⟩,
  ⟨f_law_low, "_law_low", "_law_low", topS 46, ["_law_above", "_law_below", "_law_one", "_law_other"], ["_law_above", "_law_below"]⟩,
  ⟨f_law_add, "_law_add", "_law_add", topS 47, ["_law_one", "_law_other"], ["_law_one", "_law_other"]⟩,
  ⟨f_law_by, "_law_by", "_law_by", topS 48, ["_law_one", "_law_other"], ["_law_one", "_law_other"]⟩,
  ⟨f_law_before, "_law_before", "_law_before", topS 49, ["_law_one", "_law_other"], ["_law_one", "_law_other"]⟩,
  ⟨f_law_good, "_law_good", "_law_good", topS 50, ["_law_found", "_law_one"], ["_law_found"]⟩,
  ⟨f_law_share, "_law_share", "_law_share", topS 51, ["_law_number_here", "_law_wide"], ["_law_number_here", "_law_wide"]⟩,
  ⟨f_law_places, "_law_places", "_law_places", topS 52, ["_law_script", "_law_by_here", "_law_many", "_law_cells", "_law_found", "_law_k", "_law_number_here"], ["_law_script", "_law_by_here", "_law_many"]⟩,
  ⟨f_law_body, "_law_body", "_law_body", topS 53, ["_law_number_here", "_law_body_here", "_law_choices", "_law_turn", "_law_kind", "_law_long", "_law_other"], ["_law_number_here"]⟩,
  ⟨f_law_program, "_law_program", "_law_program", topS 54, ["_law_script", "_law_by_here", "_law_inputs", "_law_most", "_law_cells", "_law_left", "_law_room", "_law_steps", "_law_at", "_law_cell", "_law_number_here", "_law_kind", "_law_long", "_law_one", "_law_other", "_law_step", "_law_third", "_law_body_here", "_law_choices", "_law_many", "_law_k"], ["_law_script", "_law_by_here", "_law_inputs", "_law_most"]⟩,
  ⟨f_law_copied, "_law_copied", "_law_copied", topS 55, ["_law_program_here", "_law_steps", "_law_step"], ["_law_program_here"]⟩,
  ⟨f_law_run, "_law_run", "_law_run", topS 56, ["_law_steps", "_law_places_here", "_law_found", "_law_step", "_law_kind", "_law_gain", "_law_turn", "_law_one", "_law_other"], ["_law_steps", "_law_places_here"]⟩,
  ⟨f_law_moved, "_law_moved", "_law_moved", topS 57, ["_law_places_here", "_law_ways", "_law_far", "_law_place", "_law_way"], ["_law_places_here", "_law_ways", "_law_far"]⟩,
  ⟨f_law_fars, "_law_fars", "_law_fars", topS 58, ["_law_found", "_law_number_here", "_law_parts", "_law_bit"], ["_law_found", "_law_number_here"]⟩,
  ⟨f_law_right, "_law_right", "_law_right", topS 59, ["_law_program_here", "_law_places_here", "_law_ways", "_law_number_here", "_law_handed", "_law_found", "_law_far", "_law_due", "_law_one"], ["_law_program_here", "_law_places_here", "_law_ways", "_law_number_here"]⟩,
  ⟨f_law, "law", "law", topS 60, ["_law_script", "_law_whole", "_law_inputs", "_law_program_here", "_law_places_here", "_law_ways", "_law_onward", "_law_there", "_law_way", "_law_found"], ["_law_script"]⟩]
def mthS (i j : Nat) : Stmt := (clsB (topS i)).getD j (.Pass ⟨0, 0, 0, 0⟩)
def mrows : List MRow := [
  ⟨c_Side, m_0, ⟨f_Side_shows, "shows", "Side.shows", mthS 34 1, ["self", "far"], ["self", "far"]⟩⟩,
  ⟨c_Side, m_4, ⟨f_Side_shows, "shows", "Side.shows", mthS 34 1, ["self", "far"], ["self", "far"]⟩⟩]
def gx : Gx := ⟨namesOf rows, fun g => [(g_NOUGHT, ("NOUGHT" : Str)), (g_MOST_INPUTS, ("MOST_INPUTS" : Str)), (g_MOST_STEPS, ("MOST_STEPS" : Str)), (g_MOST_RUN, ("MOST_RUN" : Str)), (g_MOST_CHOICES, ("MOST_CHOICES" : Str)), (g_MOST_TURNS, ("MOST_TURNS" : Str)), (g_KINDS, ("KINDS" : Str))].lookup g, atrU, fun n => [(x_BadProgram, ("BadProgram" : Str)), (x_BadPlaces, ("BadPlaces" : Str)), (x_BadWays, ("BadWays" : Str))].lookup n, fun f => [f_worths_of, f_law_places].contains f, fun n => [(c_Side, ("Side" : Str))].lookup n, fun n => [(c_Side, ("Side" : Str))].lookup n, fun n => (inis.getD n []).isEmpty, fun m => [(m_0, ("shows" : Str)), (m_4, ("shows" : Str))].lookup m⟩
theorem chk : rows.all (chkRow gx tabL) = true := by decide +kernel
def rowLaw : Row := ⟨f_law, "law", "law", topS 60, ["_law_script", "_law_whole", "_law_inputs", "_law_program_here", "_law_places_here", "_law_ways", "_law_onward", "_law_there", "_law_way", "_law_found"], ["_law_script"]⟩
theorem chkM : mrows.all (fun z => chkRow gx tabL z.r) = true := by decide +kernel
theorem all_mk {n fuel : Nat} {l : PySem.W.OpenLaw} {w : World} {K : PySem.W.Frag} {h : Heap} {mg : Str → Option Value} {fa f0 f1 f2 f3 f4 f5 f6 f7 f8 f9 f10 f11 f12 f13 f14 f15 f16 f17 f18 f19 f20 f21 f22 f23 f24 f25 f26 f27 f28 f29 f30 f31 f32 f33 f34 f35 f36 f37 f38 f39 f40 f41 f42 C0 C1 C2 D0 i0 m0 E0 : Addr} (X : K.In h) (G : h.Ns mainGlobals mg) (hfa : mg "law" = some (.ref fa))
    (hinj : injC [(c_Side, D0)] = true)
    {od0 an0 od1 an1 od2 an2 od3 an3 od4 an4 od5 an5 od6 an6 od7 an7 od8 an8 od9 an9 od10 an10 od11 an11 od12 an12 od13 an13 od14 an14 od15 an15 od16 an16 od17 an17 od18 an18 od19 an19 od20 an20 od21 an21 od22 an22 od23 an23 od24 an24 od25 an25 od26 an26 od27 an27 od28 an28 od29 an29 od30 an30 od31 an31 od32 an32 od33 an33 od34 an34 od35 an35 od36 an36 od37 an37 od38 an38 od39 an39 od40 an40 od41 an41 od42 an42 : Option Addr} {sl0 sl1 sl2 sl3 sl4 sl5 sl6 sl7 sl8 sl9 sl10 sl11 sl12 sl13 sl14 sl15 sl16 sl17 sl18 sl19 sl20 sl21 sl22 sl23 sl24 sl25 sl26 sl27 sl28 sl29 sl30 sl31 sl32 sl33 sl34 sl35 sl36 sl37 sl38 sl39 sl40 sl41 sl42 : Array (Option Value)} {oc0 kV0 dc0 pm0 cd0 ct0 oc1 kV1 dc1 pm1 cd1 ct1 oc2 kV2 dc2 pm2 cd2 ct2 oc3 kV3 dc3 pm3 cd3 ct3 oc4 kV4 dc4 pm4 cd4 ct4 oc5 kV5 dc5 pm5 cd5 ct5 oc6 kV6 dc6 pm6 cd6 ct6 oc7 kV7 dc7 pm7 cd7 ct7 oc8 kV8 dc8 pm8 cd8 ct8 oc9 kV9 dc9 pm9 cd9 ct9 oc10 kV10 dc10 pm10 cd10 ct10 oc11 kV11 dc11 pm11 cd11 ct11 oc12 kV12 dc12 pm12 cd12 ct12 oc13 kV13 dc13 pm13 cd13 ct13 oc14 kV14 dc14 pm14 cd14 ct14 oc15 kV15 dc15 pm15 cd15 ct15 oc16 kV16 dc16 pm16 cd16 ct16 oc17 kV17 dc17 pm17 cd17 ct17 oc18 kV18 dc18 pm18 cd18 ct18 oc19 kV19 dc19 pm19 cd19 ct19 oc20 kV20 dc20 pm20 cd20 ct20 oc21 kV21 dc21 pm21 cd21 ct21 oc22 kV22 dc22 pm22 cd22 ct22 oc23 kV23 dc23 pm23 cd23 ct23 oc24 kV24 dc24 pm24 cd24 ct24 oc25 kV25 dc25 pm25 cd25 ct25 oc26 kV26 dc26 pm26 cd26 ct26 oc27 kV27 dc27 pm27 cd27 ct27 oc28 kV28 dc28 pm28 cd28 ct28 oc29 kV29 dc29 pm29 cd29 ct29 oc30 kV30 dc30 pm30 cd30 ct30 oc31 kV31 dc31 pm31 cd31 ct31 oc32 kV32 dc32 pm32 cd32 ct32 oc33 kV33 dc33 pm33 cd33 ct33 oc34 kV34 dc34 pm34 cd34 ct34 oc35 kV35 dc35 pm35 cd35 ct35 oc36 kV36 dc36 pm36 cd36 ct36 oc37 kV37 dc37 pm37 cd37 ct37 oc38 kV38 dc38 pm38 cd38 ct38 oc39 kV39 dc39 pm39 cd39 ct39 oc40 kV40 dc40 pm40 cd40 ct40 oc41 kV41 dc41 pm41 cd41 ct41 oc42 kV42 dc42 pm42 cd42 ct42 : Value}
    {mod0 man0 iod0 ian0 : Option Addr} {msl0 isl0 : Array (Option Value)} {moc0 mkV0 mdc0 mpm0 mcd0 mct0 ioc0 ikV0 idc0 ipm0 icd0 ict0 : Value}
    (da0 : PySem.W.nsIn K mainGlobals "Side" = some (some (.ref D0))) (dk0 : PySem.W.keepIn K (.ref D0) = true) (dp0 : PySem.W.plainGet K D0 Str.empty = true) (dh0 : PySem.W.hasDictIn K D0 = true) (do0 : PySem.W.plainOver K D0 = true) (ds0 : PySem.W.findIn K (.ref D0) "__setattr__" = some (some (.builtin "object.__setattr__")))
    (dq0 : PySem.W.findIn K (.ref D0) "__class__" = some (some (.builtin "object.__class__"))) (dm0 : PySem.W.mroIn K D0 (.type "object") = some true) (dz0 : PySem.W.makesIn K D0 = true)
    (dn0_value : PySem.W.findIn K (.ref D0) "value" = some none)
    (dn0_beyond : PySem.W.findIn K (.ref D0) "beyond" = some none)
    (dn0_slope : PySem.W.findIn K (.ref D0) "slope" = some none)
    (dn0_reach : PySem.W.findIn K (.ref D0) "reach" = some none)
    (di0 : PySem.W.findIn K (.ref D0) "__init__" = some (some (.ref i0))) (df0 : PySem.W.isFn K (.ref i0) = true) (il0 : K.lookup i0 = some ⟨ioc0, iod0, .func (PySem.W.fnOf "__init__" "Side.__init__" (defArgs (mthS 34 0)) (defBody (mthS 34 0)) (defScope (mthS 34 0)) .none ikV0 idc0 ipm0 ian0 icd0 ict0), isl0⟩) (ic0 : PySem.W.codeIn K icd0 "Side.__init__" = true) (ik0 : PySem.W.keepIn K (.ref i0) = true)
    (dgn : PySem.W.specialIn K (.builtin "object.__class__") "__get__" = some (some (.builtin "getset_descriptor.__get__"))) (dgt : PySem.W.takesIn K (.builtin "object.__class__") = some true)
    (ma0 : PySem.W.findIn K (.ref D0) "shows" = some (some (.ref m0))) (mf0 : PySem.W.isFn K (.ref m0) = true) (ml0 : K.lookup m0 = some ⟨moc0, mod0, .func (PySem.W.fnOf "shows" "Side.shows" (defArgs (mthS 34 1)) (defBody (mthS 34 1)) (defScope (mthS 34 1)) .none mkV0 mdc0 mpm0 man0 mcd0 mct0), msl0⟩) (mc0 : PySem.W.codeIn K mcd0 "Side.shows" = true) (mk0 : PySem.W.keepIn K (.ref m0) = true)
    (ea0 : PySem.W.nsIn K mainGlobals "Side" = some (some (.ref E0)))
    (kz0_0 : PySem.W.kitOne K (.ref D0) (.ref E0) = some true)
    (kt0_NoneType : PySem.W.kitOne K (.type "NoneType") (.ref E0) = some false)
    (kt0_bool : PySem.W.kitOne K (.type "bool") (.ref E0) = some false)
    (kt0_int : PySem.W.kitOne K (.type "int") (.ref E0) = some false)
    (kt0_str : PySem.W.kitOne K (.type "str") (.ref E0) = some false)
    (kt0_tuple : PySem.W.kitOne K (.type "tuple") (.ref E0) = some false)
    (kt0_list : PySem.W.kitOne K (.type "list") (.ref E0) = some false)
    (a0 : PySem.W.nsIn K mainGlobals "is_whole" = some (some (.ref f0))) (l0 : K.lookup f0 = some ⟨oc0, od0, .func (PySem.W.fnOf "is_whole" "is_whole" (defArgs (topS 7)) (defBody (topS 7)) (defScope (topS 7)) .none kV0 dc0 pm0 an0 cd0 ct0), sl0⟩) (c0 : PySem.W.codeIn K cd0 "is_whole" = true) (k0 : PySem.W.keepIn K (.ref f0) = true)
    (a1 : PySem.W.nsIn K mainGlobals "common" = some (some (.ref f1))) (l1 : K.lookup f1 = some ⟨oc1, od1, .func (PySem.W.fnOf "common" "common" (defArgs (topS 8)) (defBody (topS 8)) (defScope (topS 8)) .none kV1 dc1 pm1 an1 cd1 ct1), sl1⟩) (c1 : PySem.W.codeIn K cd1 "common" = true) (k1 : PySem.W.keepIn K (.ref f1) = true)
    (a2 : PySem.W.nsIn K mainGlobals "is_number" = some (some (.ref f2))) (l2 : K.lookup f2 = some ⟨oc2, od2, .func (PySem.W.fnOf "is_number" "is_number" (defArgs (topS 9)) (defBody (topS 9)) (defScope (topS 9)) .none kV2 dc2 pm2 an2 cd2 ct2), sl2⟩) (c2 : PySem.W.codeIn K cd2 "is_number" = true) (k2 : PySem.W.keepIn K (.ref f2) = true)
    (a3 : PySem.W.nsIn K mainGlobals "lowest" = some (some (.ref f3))) (l3 : K.lookup f3 = some ⟨oc3, od3, .func (PySem.W.fnOf "lowest" "lowest" (defArgs (topS 10)) (defBody (topS 10)) (defScope (topS 10)) .none kV3 dc3 pm3 an3 cd3 ct3), sl3⟩) (c3 : PySem.W.codeIn K cd3 "lowest" = true) (k3 : PySem.W.keepIn K (.ref f3) = true)
    (a4 : PySem.W.nsIn K mainGlobals "add" = some (some (.ref f4))) (l4 : K.lookup f4 = some ⟨oc4, od4, .func (PySem.W.fnOf "add" "add" (defArgs (topS 11)) (defBody (topS 11)) (defScope (topS 11)) .none kV4 dc4 pm4 an4 cd4 ct4), sl4⟩) (c4 : PySem.W.codeIn K cd4 "add" = true) (k4 : PySem.W.keepIn K (.ref f4) = true)
    (a5 : PySem.W.nsIn K mainGlobals "cut" = some (some (.ref f5))) (l5 : K.lookup f5 = some ⟨oc5, od5, .func (PySem.W.fnOf "cut" "cut" (defArgs (topS 12)) (defBody (topS 12)) (defScope (topS 12)) .none kV5 dc5 pm5 an5 cd5 ct5), sl5⟩) (c5 : PySem.W.codeIn K cd5 "cut" = true) (k5 : PySem.W.keepIn K (.ref f5) = true)
    (a6 : PySem.W.nsIn K mainGlobals "grow" = some (some (.ref f6))) (l6 : K.lookup f6 = some ⟨oc6, od6, .func (PySem.W.fnOf "grow" "grow" (defArgs (topS 13)) (defBody (topS 13)) (defScope (topS 13)) .none kV6 dc6 pm6 an6 cd6 ct6), sl6⟩) (c6 : PySem.W.codeIn K cd6 "grow" = true) (k6 : PySem.W.keepIn K (.ref f6) = true)
    (a7 : PySem.W.nsIn K mainGlobals "part" = some (some (.ref f7))) (l7 : K.lookup f7 = some ⟨oc7, od7, .func (PySem.W.fnOf "part" "part" (defArgs (topS 14)) (defBody (topS 14)) (defScope (topS 14)) .none kV7 dc7 pm7 an7 cd7 ct7), sl7⟩) (c7 : PySem.W.codeIn K cd7 "part" = true) (k7 : PySem.W.keepIn K (.ref f7) = true)
    (a8 : PySem.W.nsIn K mainGlobals "lies" = some (some (.ref f8))) (l8 : K.lookup f8 = some ⟨oc8, od8, .func (PySem.W.fnOf "lies" "lies" (defArgs (topS 15)) (defBody (topS 15)) (defScope (topS 15)) .none kV8 dc8 pm8 an8 cd8 ct8), sl8⟩) (c8 : PySem.W.codeIn K cd8 "lies" = true) (k8 : PySem.W.keepIn K (.ref f8) = true)
    (a9 : PySem.W.nsIn K mainGlobals "is_ahead" = some (some (.ref f9))) (l9 : K.lookup f9 = some ⟨oc9, od9, .func (PySem.W.fnOf "is_ahead" "is_ahead" (defArgs (topS 23)) (defBody (topS 23)) (defScope (topS 23)) .none kV9 dc9 pm9 an9 cd9 ct9), sl9⟩) (c9 : PySem.W.codeIn K cd9 "is_ahead" = true) (k9 : PySem.W.keepIn K (.ref f9) = true)
    (a10 : PySem.W.nsIn K mainGlobals "is_step" = some (some (.ref f10))) (l10 : K.lookup f10 = some ⟨oc10, od10, .func (PySem.W.fnOf "is_step" "is_step" (defArgs (topS 24)) (defBody (topS 24)) (defScope (topS 24)) .none kV10 dc10 pm10 an10 cd10 ct10), sl10⟩) (c10 : PySem.W.codeIn K cd10 "is_step" = true) (k10 : PySem.W.keepIn K (.ref f10) = true)
    (a11 : PySem.W.nsIn K mainGlobals "is_turn" = some (some (.ref f11))) (l11 : K.lookup f11 = some ⟨oc11, od11, .func (PySem.W.fnOf "is_turn" "is_turn" (defArgs (topS 25)) (defBody (topS 25)) (defScope (topS 25)) .none kV11 dc11 pm11 an11 cd11 ct11), sl11⟩) (c11 : PySem.W.codeIn K cd11 "is_turn" = true) (k11 : PySem.W.keepIn K (.ref f11) = true)
    (a12 : PySem.W.nsIn K mainGlobals "are_steps" = some (some (.ref f12))) (l12 : K.lookup f12 = some ⟨oc12, od12, .func (PySem.W.fnOf "are_steps" "are_steps" (defArgs (topS 26)) (defBody (topS 26)) (defScope (topS 26)) .none kV12 dc12 pm12 an12 cd12 ct12), sl12⟩) (c12 : PySem.W.codeIn K cd12 "are_steps" = true) (k12 : PySem.W.keepIn K (.ref f12) = true)
    (a13 : PySem.W.nsIn K mainGlobals "counted" = some (some (.ref f13))) (l13 : K.lookup f13 = some ⟨oc13, od13, .func (PySem.W.fnOf "counted" "counted" (defArgs (topS 27)) (defBody (topS 27)) (defScope (topS 27)) .none kV13 dc13 pm13 an13 cd13 ct13), sl13⟩) (c13 : PySem.W.codeIn K cd13 "counted" = true) (k13 : PySem.W.keepIn K (.ref f13) = true)
    (a14 : PySem.W.nsIn K mainGlobals "asked_program" = some (some (.ref f14))) (l14 : K.lookup f14 = some ⟨oc14, od14, .func (PySem.W.fnOf "asked_program" "asked_program" (defArgs (topS 28)) (defBody (topS 28)) (defScope (topS 28)) .none kV14 dc14 pm14 an14 cd14 ct14), sl14⟩) (c14 : PySem.W.codeIn K cd14 "asked_program" = true) (k14 : PySem.W.keepIn K (.ref f14) = true)
    (a15 : PySem.W.nsIn K mainGlobals "asked_places" = some (some (.ref f15))) (l15 : K.lookup f15 = some ⟨oc15, od15, .func (PySem.W.fnOf "asked_places" "asked_places" (defArgs (topS 30)) (defBody (topS 30)) (defScope (topS 30)) .none kV15 dc15 pm15 an15 cd15 ct15), sl15⟩) (c15 : PySem.W.codeIn K cd15 "asked_places" = true) (k15 : PySem.W.keepIn K (.ref f15) = true)
    (a16 : PySem.W.nsIn K mainGlobals "worth_of" = some (some (.ref f16))) (l16 : K.lookup f16 = some ⟨oc16, od16, .func (PySem.W.fnOf "worth_of" "worth_of" (defArgs (topS 31)) (defBody (topS 31)) (defScope (topS 31)) .none kV16 dc16 pm16 an16 cd16 ct16), sl16⟩) (c16 : PySem.W.codeIn K cd16 "worth_of" = true) (k16 : PySem.W.keepIn K (.ref f16) = true)
    (a17 : PySem.W.nsIn K mainGlobals "worths_of" = some (some (.ref f17))) (l17 : K.lookup f17 = some ⟨oc17, od17, .func (PySem.W.fnOf "worths_of" "worths_of" (defArgs (topS 32)) (defBody (topS 32)) (defScope (topS 32)) .none kV17 dc17 pm17 an17 cd17 ct17), sl17⟩) (c17 : PySem.W.codeIn K cd17 "worths_of" = true) (k17 : PySem.W.keepIn K (.ref f17) = true)
    (a18 : PySem.W.nsIn K mainGlobals "sooner" = some (some (.ref f18))) (l18 : K.lookup f18 = some ⟨oc18, od18, .func (PySem.W.fnOf "sooner" "sooner" (defArgs (topS 35)) (defBody (topS 35)) (defScope (topS 35)) .none kV18 dc18 pm18 an18 cd18 ct18), sl18⟩) (c18 : PySem.W.codeIn K cd18 "sooner" = true) (k18 : PySem.W.keepIn K (.ref f18) = true)
    (a19 : PySem.W.nsIn K mainGlobals "sign_of" = some (some (.ref f19))) (l19 : K.lookup f19 = some ⟨oc19, od19, .func (PySem.W.fnOf "sign_of" "sign_of" (defArgs (topS 36)) (defBody (topS 36)) (defScope (topS 36)) .none kV19 dc19 pm19 an19 cd19 ct19), sl19⟩) (c19 : PySem.W.codeIn K cd19 "sign_of" = true) (k19 : PySem.W.keepIn K (.ref f19) = true)
    (a20 : PySem.W.nsIn K mainGlobals "line_of" = some (some (.ref f20))) (l20 : K.lookup f20 = some ⟨oc20, od20, .func (PySem.W.fnOf "line_of" "line_of" (defArgs (topS 37)) (defBody (topS 37)) (defScope (topS 37)) .none kV20 dc20 pm20 an20 cd20 ct20), sl20⟩) (c20 : PySem.W.codeIn K cd20 "line_of" = true) (k20 : PySem.W.keepIn K (.ref f20) = true)
    (a21 : PySem.W.nsIn K mainGlobals "lines_of" = some (some (.ref f21))) (l21 : K.lookup f21 = some ⟨oc21, od21, .func (PySem.W.fnOf "lines_of" "lines_of" (defArgs (topS 38)) (defBody (topS 38)) (defScope (topS 38)) .none kV21 dc21 pm21 an21 cd21 ct21), sl21⟩) (c21 : PySem.W.codeIn K cd21 "lines_of" = true) (k21 : PySem.W.keepIn K (.ref f21) = true)
    (a22 : PySem.W.nsIn K mainGlobals "begun" = some (some (.ref f22))) (l22 : K.lookup f22 = some ⟨oc22, od22, .func (PySem.W.fnOf "begun" "begun" (defArgs (topS 39)) (defBody (topS 39)) (defScope (topS 39)) .none kV22 dc22 pm22 an22 cd22 ct22), sl22⟩) (c22 : PySem.W.codeIn K cd22 "begun" = true) (k22 : PySem.W.keepIn K (.ref f22) = true)
    (a23 : PySem.W.nsIn K mainGlobals "moved" = some (some (.ref f23))) (l23 : K.lookup f23 = some ⟨oc23, od23, .func (PySem.W.fnOf "moved" "moved" (defArgs (topS 40)) (defBody (topS 40)) (defScope (topS 40)) .none kV23 dc23 pm23 an23 cd23 ct23), sl23⟩) (c23 : PySem.W.codeIn K cd23 "moved" = true) (k23 : PySem.W.keepIn K (.ref f23) = true)
    (a24 : PySem.W.nsIn K mainGlobals "side_of" = some (some (.ref f24))) (l24 : K.lookup f24 = some ⟨oc24, od24, .func (PySem.W.fnOf "side_of" "side_of" (defArgs (topS 41)) (defBody (topS 41)) (defScope (topS 41)) .none kV24 dc24 pm24 an24 cd24 ct24), sl24⟩) (c24 : PySem.W.codeIn K cd24 "side_of" = true) (k24 : PySem.W.keepIn K (.ref f24) = true)
    (a25 : PySem.W.nsIn K mainGlobals "asked_ways" = some (some (.ref f25))) (l25 : K.lookup f25 = some ⟨oc25, od25, .func (PySem.W.fnOf "asked_ways" "asked_ways" (defArgs (topS 42)) (defBody (topS 42)) (defScope (topS 42)) .none kV25 dc25 pm25 an25 cd25 ct25), sl25⟩) (c25 : PySem.W.codeIn K cd25 "asked_ways" = true) (k25 : PySem.W.keepIn K (.ref f25) = true)
    (a26 : PySem.W.nsIn K mainGlobals "side" = some (some (.ref f26))) (l26 : K.lookup f26 = some ⟨oc26, od26, .func (PySem.W.fnOf "side" "side" (defArgs (topS 43)) (defBody (topS 43)) (defScope (topS 43)) .none kV26 dc26 pm26 an26 cd26 ct26), sl26⟩) (c26 : PySem.W.codeIn K cd26 "side" = true) (k26 : PySem.W.keepIn K (.ref f26) = true)
    (a27 : PySem.W.nsIn K mainGlobals "_law_number" = some (some (.ref f27))) (l27 : K.lookup f27 = some ⟨oc27, od27, .func (PySem.W.fnOf "_law_number" "_law_number" (defArgs (topS 45)) (defBody (topS 45)) (defScope (topS 45)) .none kV27 dc27 pm27 an27 cd27 ct27), sl27⟩) (c27 : PySem.W.codeIn K cd27 "_law_number" = true) (k27 : PySem.W.keepIn K (.ref f27) = true)
    (a28 : PySem.W.nsIn K mainGlobals "_law_low" = some (some (.ref f28))) (l28 : K.lookup f28 = some ⟨oc28, od28, .func (PySem.W.fnOf "_law_low" "_law_low" (defArgs (topS 46)) (defBody (topS 46)) (defScope (topS 46)) .none kV28 dc28 pm28 an28 cd28 ct28), sl28⟩) (c28 : PySem.W.codeIn K cd28 "_law_low" = true) (k28 : PySem.W.keepIn K (.ref f28) = true)
    (a29 : PySem.W.nsIn K mainGlobals "_law_add" = some (some (.ref f29))) (l29 : K.lookup f29 = some ⟨oc29, od29, .func (PySem.W.fnOf "_law_add" "_law_add" (defArgs (topS 47)) (defBody (topS 47)) (defScope (topS 47)) .none kV29 dc29 pm29 an29 cd29 ct29), sl29⟩) (c29 : PySem.W.codeIn K cd29 "_law_add" = true) (k29 : PySem.W.keepIn K (.ref f29) = true)
    (a30 : PySem.W.nsIn K mainGlobals "_law_by" = some (some (.ref f30))) (l30 : K.lookup f30 = some ⟨oc30, od30, .func (PySem.W.fnOf "_law_by" "_law_by" (defArgs (topS 48)) (defBody (topS 48)) (defScope (topS 48)) .none kV30 dc30 pm30 an30 cd30 ct30), sl30⟩) (c30 : PySem.W.codeIn K cd30 "_law_by" = true) (k30 : PySem.W.keepIn K (.ref f30) = true)
    (a31 : PySem.W.nsIn K mainGlobals "_law_before" = some (some (.ref f31))) (l31 : K.lookup f31 = some ⟨oc31, od31, .func (PySem.W.fnOf "_law_before" "_law_before" (defArgs (topS 49)) (defBody (topS 49)) (defScope (topS 49)) .none kV31 dc31 pm31 an31 cd31 ct31), sl31⟩) (c31 : PySem.W.codeIn K cd31 "_law_before" = true) (k31 : PySem.W.keepIn K (.ref f31) = true)
    (a32 : PySem.W.nsIn K mainGlobals "_law_good" = some (some (.ref f32))) (l32 : K.lookup f32 = some ⟨oc32, od32, .func (PySem.W.fnOf "_law_good" "_law_good" (defArgs (topS 50)) (defBody (topS 50)) (defScope (topS 50)) .none kV32 dc32 pm32 an32 cd32 ct32), sl32⟩) (c32 : PySem.W.codeIn K cd32 "_law_good" = true) (k32 : PySem.W.keepIn K (.ref f32) = true)
    (a33 : PySem.W.nsIn K mainGlobals "_law_share" = some (some (.ref f33))) (l33 : K.lookup f33 = some ⟨oc33, od33, .func (PySem.W.fnOf "_law_share" "_law_share" (defArgs (topS 51)) (defBody (topS 51)) (defScope (topS 51)) .none kV33 dc33 pm33 an33 cd33 ct33), sl33⟩) (c33 : PySem.W.codeIn K cd33 "_law_share" = true) (k33 : PySem.W.keepIn K (.ref f33) = true)
    (a34 : PySem.W.nsIn K mainGlobals "_law_places" = some (some (.ref f34))) (l34 : K.lookup f34 = some ⟨oc34, od34, .func (PySem.W.fnOf "_law_places" "_law_places" (defArgs (topS 52)) (defBody (topS 52)) (defScope (topS 52)) .none kV34 dc34 pm34 an34 cd34 ct34), sl34⟩) (c34 : PySem.W.codeIn K cd34 "_law_places" = true) (k34 : PySem.W.keepIn K (.ref f34) = true)
    (a35 : PySem.W.nsIn K mainGlobals "_law_body" = some (some (.ref f35))) (l35 : K.lookup f35 = some ⟨oc35, od35, .func (PySem.W.fnOf "_law_body" "_law_body" (defArgs (topS 53)) (defBody (topS 53)) (defScope (topS 53)) .none kV35 dc35 pm35 an35 cd35 ct35), sl35⟩) (c35 : PySem.W.codeIn K cd35 "_law_body" = true) (k35 : PySem.W.keepIn K (.ref f35) = true)
    (a36 : PySem.W.nsIn K mainGlobals "_law_program" = some (some (.ref f36))) (l36 : K.lookup f36 = some ⟨oc36, od36, .func (PySem.W.fnOf "_law_program" "_law_program" (defArgs (topS 54)) (defBody (topS 54)) (defScope (topS 54)) .none kV36 dc36 pm36 an36 cd36 ct36), sl36⟩) (c36 : PySem.W.codeIn K cd36 "_law_program" = true) (k36 : PySem.W.keepIn K (.ref f36) = true)
    (a37 : PySem.W.nsIn K mainGlobals "_law_copied" = some (some (.ref f37))) (l37 : K.lookup f37 = some ⟨oc37, od37, .func (PySem.W.fnOf "_law_copied" "_law_copied" (defArgs (topS 55)) (defBody (topS 55)) (defScope (topS 55)) .none kV37 dc37 pm37 an37 cd37 ct37), sl37⟩) (c37 : PySem.W.codeIn K cd37 "_law_copied" = true) (k37 : PySem.W.keepIn K (.ref f37) = true)
    (a38 : PySem.W.nsIn K mainGlobals "_law_run" = some (some (.ref f38))) (l38 : K.lookup f38 = some ⟨oc38, od38, .func (PySem.W.fnOf "_law_run" "_law_run" (defArgs (topS 56)) (defBody (topS 56)) (defScope (topS 56)) .none kV38 dc38 pm38 an38 cd38 ct38), sl38⟩) (c38 : PySem.W.codeIn K cd38 "_law_run" = true) (k38 : PySem.W.keepIn K (.ref f38) = true)
    (a39 : PySem.W.nsIn K mainGlobals "_law_moved" = some (some (.ref f39))) (l39 : K.lookup f39 = some ⟨oc39, od39, .func (PySem.W.fnOf "_law_moved" "_law_moved" (defArgs (topS 57)) (defBody (topS 57)) (defScope (topS 57)) .none kV39 dc39 pm39 an39 cd39 ct39), sl39⟩) (c39 : PySem.W.codeIn K cd39 "_law_moved" = true) (k39 : PySem.W.keepIn K (.ref f39) = true)
    (a40 : PySem.W.nsIn K mainGlobals "_law_fars" = some (some (.ref f40))) (l40 : K.lookup f40 = some ⟨oc40, od40, .func (PySem.W.fnOf "_law_fars" "_law_fars" (defArgs (topS 58)) (defBody (topS 58)) (defScope (topS 58)) .none kV40 dc40 pm40 an40 cd40 ct40), sl40⟩) (c40 : PySem.W.codeIn K cd40 "_law_fars" = true) (k40 : PySem.W.keepIn K (.ref f40) = true)
    (a41 : PySem.W.nsIn K mainGlobals "_law_right" = some (some (.ref f41))) (l41 : K.lookup f41 = some ⟨oc41, od41, .func (PySem.W.fnOf "_law_right" "_law_right" (defArgs (topS 59)) (defBody (topS 59)) (defScope (topS 59)) .none kV41 dc41 pm41 an41 cd41 ct41), sl41⟩) (c41 : PySem.W.codeIn K cd41 "_law_right" = true) (k41 : PySem.W.keepIn K (.ref f41) = true)
    (a42 : PySem.W.nsIn K mainGlobals "law" = some (some (.ref f42))) (l42 : K.lookup f42 = some ⟨oc42, od42, .func (PySem.W.fnOf "law" "law" (defArgs (topS 60)) (defBody (topS 60)) (defScope (topS 60)) .none kV42 dc42 pm42 an42 cd42 ct42), sl42⟩) (c42 : PySem.W.codeIn K cd42 "law" = true) (k42 : PySem.W.keepIn K (.ref f42) = true)
    (z0 : PySem.W.nsIn K mainGlobals "len" = some none)
    (z1 : PySem.W.nsIn K mainGlobals "abs" = some none)
    (z2 : PySem.W.nsIn K mainGlobals "min" = some none)
    (z3 : PySem.W.nsIn K mainGlobals "list" = some none)
    (z4 : PySem.W.nsIn K mainGlobals "tuple" = some none)
    (z5 : PySem.W.nsIn K mainGlobals "all" = some none)
    (z6 : PySem.W.nsIn K mainGlobals "any" = some none)
    (z7 : PySem.W.nsIn K mainGlobals "sum" = some none)
    (z8 : PySem.W.nsIn K mainGlobals "isinstance" = some none)
    (z9 : PySem.W.nsIn K mainGlobals "int" = some none)
    (z10 : PySem.W.nsIn K mainGlobals "bool" = some none)
    (z11 : PySem.W.nsIn K mainGlobals "str" = some none)
    (z12 : PySem.W.nsIn K mainGlobals "range" = some none)
    (z13 : PySem.W.nsIn K mainGlobals "enumerate" = some none)
    (z14 : PySem.W.nsIn K mainGlobals "zip" = some none)
    (xa0 : PySem.W.nsIn K mainGlobals "BadProgram" = some (some (.ref C0))) (xk0 : PySem.W.keepIn K (.ref C0) = true) (xe0 : PySem.W.excIn K C0 [.type "ValueError", .type "Exception", .type "BaseException", .type "object"] "ValueError.__new__" = true) (xs0 : PySem.W.subIn K (.ref C0) (.type "BaseException") = some true) (xt0 : PySem.W.typeIn K (.ref C0) = some (.type "type"))
    (xa1 : PySem.W.nsIn K mainGlobals "BadPlaces" = some (some (.ref C1))) (xk1 : PySem.W.keepIn K (.ref C1) = true) (xe1 : PySem.W.excIn K C1 [.type "ValueError", .type "Exception", .type "BaseException", .type "object"] "ValueError.__new__" = true) (xs1 : PySem.W.subIn K (.ref C1) (.type "BaseException") = some true) (xt1 : PySem.W.typeIn K (.ref C1) = some (.type "type"))
    (xa2 : PySem.W.nsIn K mainGlobals "BadWays" = some (some (.ref C2))) (xk2 : PySem.W.keepIn K (.ref C2) = true) (xe2 : PySem.W.excIn K C2 [.type "ValueError", .type "Exception", .type "BaseException", .type "object"] "ValueError.__new__" = true) (xs2 : PySem.W.subIn K (.ref C2) (.type "BaseException") = some true) (xt2 : PySem.W.typeIn K (.ref C2) = some (.type "type"))
    {gA0 : Addr} {gO0 : Obj} {gI0 : Array Value} {gN0 : Nat} (ga0 : PySem.W.nsIn K mainGlobals "NOUGHT" = some (some (.ref gA0))) (gl0 : K.lookup gA0 = some gO0) (gc0 : gO0.cls = .type "tuple") (gd0 : gO0.data = .seq gI0 gN0) (gz0 : gI0.size ≤ sizeLine) (gv0 : Vals [.int 0, .int 1] gI0.toList)
    {gU1 : Value} (ga1 : PySem.W.nsIn K mainGlobals "MOST_INPUTS" = some (some gU1)) (gr1 : RelV (.int 3) gU1)
    {gU2 : Value} (ga2 : PySem.W.nsIn K mainGlobals "MOST_STEPS" = some (some gU2)) (gr2 : RelV (.int 120) gU2)
    {gU3 : Value} (ga3 : PySem.W.nsIn K mainGlobals "MOST_RUN" = some (some gU3)) (gr3 : RelV (.int 120) gU3)
    {gU4 : Value} (ga4 : PySem.W.nsIn K mainGlobals "MOST_CHOICES" = some (some gU4)) (gr4 : RelV (.int 8) gU4)
    {gU5 : Value} (ga5 : PySem.W.nsIn K mainGlobals "MOST_TURNS" = some (some gU5)) (gr5 : RelV (.int 6) gU5)
    {gA6 : Addr} {gO6 : Obj} {gI6 : Array Value} {gN6 : Nat} (ga6 : PySem.W.nsIn K mainGlobals "KINDS" = some (some (.ref gA6))) (gl6 : K.lookup gA6 = some gO6) (gc6 : gO6.cls = .type "tuple") (gd6 : gO6.data = .seq gI6 gN6) (gz6 : gI6.size ≤ sizeLine) (gv6 : Vals [.str "is", .str "in", .str "sum", .str "by", .str "least", .str "most", .str "if", .str "turns"] gI6.toList)
    : ∃ fd : FuncData, (∀ (s : Shared) (v : Value), BindsTo s fd ⟨[v], []⟩ [("_law_script", v)]) ∧ ∀ base : Heap, K.In base → base.Ns mainGlobals mg → FnOk l.prog w K mg base (L2.CX l.prog w) (n + 3) fa fd ["_law_script"] (spD (wd K [(x_BadProgram, C0), (x_BadPlaces, C1), (x_BadWays, C2)] [(c_Side, D0)] cnU hinj) 1 (callF tabL cfU glU fuel (n + 1) f_law)) := by
  have e := hfa.symm.trans (PySem.W.mg_of X G a42)
  cases e
  have F0 := fun_mk (st := topS 7) l0 c0 k0
  have B0 := F0.binds (ps := ["thing"]) fun _ _ _ _ _ _ us hl => match us, hl with | [_], _ => rfl
  have F1 := fun_mk (st := topS 8) l1 c1 k1
  have B1 := F1.binds (ps := ["one", "other"]) fun _ _ _ _ _ _ us hl => match us, hl with | [_, _], _ => rfl
  have F2 := fun_mk (st := topS 9) l2 c2 k2
  have B2 := F2.binds (ps := ["thing"]) fun _ _ _ _ _ _ us hl => match us, hl with | [_], _ => rfl
  have F3 := fun_mk (st := topS 10) l3 c3 k3
  have B3 := F3.binds (ps := ["above", "below"]) fun _ _ _ _ _ _ us hl => match us, hl with | [_, _], _ => rfl
  have F4 := fun_mk (st := topS 11) l4 c4 k4
  have B4 := F4.binds (ps := ["one", "other"]) fun _ _ _ _ _ _ us hl => match us, hl with | [_, _], _ => rfl
  have F5 := fun_mk (st := topS 12) l5 c5 k5
  have B5 := F5.binds (ps := ["one", "other"]) fun _ _ _ _ _ _ us hl => match us, hl with | [_, _], _ => rfl
  have F6 := fun_mk (st := topS 13) l6 c6 k6
  have B6 := F6.binds (ps := ["one", "other"]) fun _ _ _ _ _ _ us hl => match us, hl with | [_, _], _ => rfl
  have F7 := fun_mk (st := topS 14) l7 c7 k7
  have B7 := F7.binds (ps := ["one", "other"]) fun _ _ _ _ _ _ us hl => match us, hl with | [_, _], _ => rfl
  have F8 := fun_mk (st := topS 15) l8 c8 k8
  have B8 := F8.binds (ps := ["one", "other"]) fun _ _ _ _ _ _ us hl => match us, hl with | [_, _], _ => rfl
  have F9 := fun_mk (st := topS 23) l9 c9 k9
  have B9 := F9.binds (ps := ["thing", "at"]) fun _ _ _ _ _ _ us hl => match us, hl with | [_, _], _ => rfl
  have F10 := fun_mk (st := topS 24) l10 c10 k10
  have B10 := F10.binds (ps := ["step", "at", "inputs", "depth"]) fun _ _ _ _ _ _ us hl => match us, hl with | [_, _, _, _], _ => rfl
  have F11 := fun_mk (st := topS 25) l11 c11 k11
  have B11 := F11.binds (ps := ["step", "at", "depth"]) fun _ _ _ _ _ _ us hl => match us, hl with | [_, _, _], _ => rfl
  have F12 := fun_mk (st := topS 26) l12 c12 k12
  have B12 := F12.binds (ps := ["steps", "inputs", "depth"]) fun _ _ _ _ _ _ us hl => match us, hl with | [_, _, _], _ => rfl
  have F13 := fun_mk (st := topS 27) l13 c13 k13
  have B13 := F13.binds (ps := ["steps"]) fun _ _ _ _ _ _ us hl => match us, hl with | [_], _ => rfl
  have F14 := fun_mk (st := topS 28) l14 c14 k14
  have B14 := F14.binds (ps := ["program"]) fun _ _ _ _ _ _ us hl => match us, hl with | [_], _ => rfl
  have F15 := fun_mk (st := topS 30) l15 c15 k15
  have B15 := F15.binds (ps := ["program", "places"]) fun _ _ _ _ _ _ us hl => match us, hl with | [_, _], _ => rfl
  have F16 := fun_mk (st := topS 31) l16 c16 k16
  have B16 := F16.binds (ps := ["step", "found", "places"]) fun _ _ _ _ _ _ us hl => match us, hl with | [_, _, _], _ => rfl
  have F17 := fun_mk (st := topS 32) l17 c17 k17
  have B17 := F17.binds (ps := ["steps", "places"]) fun _ _ _ _ _ _ us hl => match us, hl with | [_, _], _ => rfl
  have F18 := fun_mk (st := topS 35) l18 c18 k18
  have B18 := F18.binds (ps := ["one", "other"]) fun _ _ _ _ _ _ us hl => match us, hl with | [_, _], _ => rfl
  have F19 := fun_mk (st := topS 36) l19 c19 k19
  have B19 := F19.binds (ps := ["line"]) fun _ _ _ _ _ _ us hl => match us, hl with | [_], _ => rfl
  have F20 := fun_mk (st := topS 37) l20 c20 k20
  have B20 := F20.binds (ps := ["step", "found", "begins"]) fun _ _ _ _ _ _ us hl => match us, hl with | [_, _, _], _ => rfl
  have F21 := fun_mk (st := topS 38) l21 c21 k21
  have B21 := F21.binds (ps := ["steps", "begins"]) fun _ _ _ _ _ _ us hl => match us, hl with | [_, _], _ => rfl
  have F22 := fun_mk (st := topS 39) l22 c22 k22
  have B22 := F22.binds (ps := ["places", "ways"]) fun _ _ _ _ _ _ us hl => match us, hl with | [_, _], _ => rfl
  have F23 := fun_mk (st := topS 40) l23 c23 k23
  have B23 := F23.binds (ps := ["places", "ways", "far"]) fun _ _ _ _ _ _ us hl => match us, hl with | [_, _, _], _ => rfl
  have F24 := fun_mk (st := topS 41) l24 c24 k24
  have B24 := F24.binds (ps := ["program", "places", "ways"]) fun _ _ _ _ _ _ us hl => match us, hl with | [_, _, _], _ => rfl
  have F25 := fun_mk (st := topS 42) l25 c25 k25
  have B25 := F25.binds (ps := ["program", "ways"]) fun _ _ _ _ _ _ us hl => match us, hl with | [_, _], _ => rfl
  have F26 := fun_mk (st := topS 43) l26 c26 k26
  have B26 := F26.binds (ps := ["program", "places", "ways"]) fun _ _ _ _ _ _ us hl => match us, hl with | [_, _, _], _ => rfl
  have F27 := fun_mk (st := topS 45) l27 c27 k27
  have B27 := F27.binds (ps := ["_law_cell", "_law_at", "_law_whole"]) fun _ _ _ _ _ _ us hl => match us, hl with | [_, _, _], _ => rfl
  have F28 := fun_mk (st := topS 46) l28 c28 k28
  have B28 := F28.binds (ps := ["_law_above", "_law_below"]) fun _ _ _ _ _ _ us hl => match us, hl with | [_, _], _ => rfl
  have F29 := fun_mk (st := topS 47) l29 c29 k29
  have B29 := F29.binds (ps := ["_law_one", "_law_other"]) fun _ _ _ _ _ _ us hl => match us, hl with | [_, _], _ => rfl
  have F30 := fun_mk (st := topS 48) l30 c30 k30
  have B30 := F30.binds (ps := ["_law_one", "_law_other"]) fun _ _ _ _ _ _ us hl => match us, hl with | [_, _], _ => rfl
  have F31 := fun_mk (st := topS 49) l31 c31 k31
  have B31 := F31.binds (ps := ["_law_one", "_law_other"]) fun _ _ _ _ _ _ us hl => match us, hl with | [_, _], _ => rfl
  have F32 := fun_mk (st := topS 50) l32 c32 k32
  have B32 := F32.binds (ps := ["_law_found"]) fun _ _ _ _ _ _ us hl => match us, hl with | [_], _ => rfl
  have F33 := fun_mk (st := topS 51) l33 c33 k33
  have B33 := F33.binds (ps := ["_law_number_here", "_law_wide"]) fun _ _ _ _ _ _ us hl => match us, hl with | [_, _], _ => rfl
  have F34 := fun_mk (st := topS 52) l34 c34 k34
  have B34 := F34.binds (ps := ["_law_script", "_law_by_here", "_law_many"]) fun _ _ _ _ _ _ us hl => match us, hl with | [_, _, _], _ => rfl
  have F35 := fun_mk (st := topS 53) l35 c35 k35
  have B35 := F35.binds (ps := ["_law_number_here"]) fun _ _ _ _ _ _ us hl => match us, hl with | [_], _ => rfl
  have F36 := fun_mk (st := topS 54) l36 c36 k36
  have B36 := F36.binds (ps := ["_law_script", "_law_by_here", "_law_inputs", "_law_most"]) fun _ _ _ _ _ _ us hl => match us, hl with | [_, _, _, _], _ => rfl
  have F37 := fun_mk (st := topS 55) l37 c37 k37
  have B37 := F37.binds (ps := ["_law_program_here"]) fun _ _ _ _ _ _ us hl => match us, hl with | [_], _ => rfl
  have F38 := fun_mk (st := topS 56) l38 c38 k38
  have B38 := F38.binds (ps := ["_law_steps", "_law_places_here"]) fun _ _ _ _ _ _ us hl => match us, hl with | [_, _], _ => rfl
  have F39 := fun_mk (st := topS 57) l39 c39 k39
  have B39 := F39.binds (ps := ["_law_places_here", "_law_ways", "_law_far"]) fun _ _ _ _ _ _ us hl => match us, hl with | [_, _, _], _ => rfl
  have F40 := fun_mk (st := topS 58) l40 c40 k40
  have B40 := F40.binds (ps := ["_law_found", "_law_number_here"]) fun _ _ _ _ _ _ us hl => match us, hl with | [_, _], _ => rfl
  have F41 := fun_mk (st := topS 59) l41 c41 k41
  have B41 := F41.binds (ps := ["_law_program_here", "_law_places_here", "_law_ways", "_law_number_here"]) fun _ _ _ _ _ _ us hl => match us, hl with | [_, _, _, _], _ => rfl
  have F42 := fun_mk (st := topS 60) l42 c42 k42
  have B42 := F42.binds (ps := ["_law_script"]) fun _ _ _ _ _ _ us hl => match us, hl with | [_], _ => rfl
  refine ⟨PySem.W.fnOf "law" "law" (defArgs (topS 60)) (defBody (topS 60)) (defScope (topS 60)) .none kV42 dc42 pm42 an42 cd42 ct42, ?bb, fun base _ _ => ?ff⟩
  case ff =>
    have F : ∀ r ∈ rows, ∃ fa fd, Fun K r.x r.qual r.st fa fd ∧ mg r.x = some (.ref fa) ∧ Binds K fd r.ps [] := by
      refine List.forall_mem_cons.mpr ⟨⟨_, _, F0, PySem.W.mg_of X G a0, B0⟩, ?_⟩
      refine List.forall_mem_cons.mpr ⟨⟨_, _, F1, PySem.W.mg_of X G a1, B1⟩, ?_⟩
      refine List.forall_mem_cons.mpr ⟨⟨_, _, F2, PySem.W.mg_of X G a2, B2⟩, ?_⟩
      refine List.forall_mem_cons.mpr ⟨⟨_, _, F3, PySem.W.mg_of X G a3, B3⟩, ?_⟩
      refine List.forall_mem_cons.mpr ⟨⟨_, _, F4, PySem.W.mg_of X G a4, B4⟩, ?_⟩
      refine List.forall_mem_cons.mpr ⟨⟨_, _, F5, PySem.W.mg_of X G a5, B5⟩, ?_⟩
      refine List.forall_mem_cons.mpr ⟨⟨_, _, F6, PySem.W.mg_of X G a6, B6⟩, ?_⟩
      refine List.forall_mem_cons.mpr ⟨⟨_, _, F7, PySem.W.mg_of X G a7, B7⟩, ?_⟩
      refine List.forall_mem_cons.mpr ⟨⟨_, _, F8, PySem.W.mg_of X G a8, B8⟩, ?_⟩
      refine List.forall_mem_cons.mpr ⟨⟨_, _, F9, PySem.W.mg_of X G a9, B9⟩, ?_⟩
      refine List.forall_mem_cons.mpr ⟨⟨_, _, F10, PySem.W.mg_of X G a10, B10⟩, ?_⟩
      refine List.forall_mem_cons.mpr ⟨⟨_, _, F11, PySem.W.mg_of X G a11, B11⟩, ?_⟩
      refine List.forall_mem_cons.mpr ⟨⟨_, _, F12, PySem.W.mg_of X G a12, B12⟩, ?_⟩
      refine List.forall_mem_cons.mpr ⟨⟨_, _, F13, PySem.W.mg_of X G a13, B13⟩, ?_⟩
      refine List.forall_mem_cons.mpr ⟨⟨_, _, F14, PySem.W.mg_of X G a14, B14⟩, ?_⟩
      refine List.forall_mem_cons.mpr ⟨⟨_, _, F15, PySem.W.mg_of X G a15, B15⟩, ?_⟩
      refine List.forall_mem_cons.mpr ⟨⟨_, _, F16, PySem.W.mg_of X G a16, B16⟩, ?_⟩
      refine List.forall_mem_cons.mpr ⟨⟨_, _, F17, PySem.W.mg_of X G a17, B17⟩, ?_⟩
      refine List.forall_mem_cons.mpr ⟨⟨_, _, F18, PySem.W.mg_of X G a18, B18⟩, ?_⟩
      refine List.forall_mem_cons.mpr ⟨⟨_, _, F19, PySem.W.mg_of X G a19, B19⟩, ?_⟩
      refine List.forall_mem_cons.mpr ⟨⟨_, _, F20, PySem.W.mg_of X G a20, B20⟩, ?_⟩
      refine List.forall_mem_cons.mpr ⟨⟨_, _, F21, PySem.W.mg_of X G a21, B21⟩, ?_⟩
      refine List.forall_mem_cons.mpr ⟨⟨_, _, F22, PySem.W.mg_of X G a22, B22⟩, ?_⟩
      refine List.forall_mem_cons.mpr ⟨⟨_, _, F23, PySem.W.mg_of X G a23, B23⟩, ?_⟩
      refine List.forall_mem_cons.mpr ⟨⟨_, _, F24, PySem.W.mg_of X G a24, B24⟩, ?_⟩
      refine List.forall_mem_cons.mpr ⟨⟨_, _, F25, PySem.W.mg_of X G a25, B25⟩, ?_⟩
      refine List.forall_mem_cons.mpr ⟨⟨_, _, F26, PySem.W.mg_of X G a26, B26⟩, ?_⟩
      refine List.forall_mem_cons.mpr ⟨⟨_, _, F27, PySem.W.mg_of X G a27, B27⟩, ?_⟩
      refine List.forall_mem_cons.mpr ⟨⟨_, _, F28, PySem.W.mg_of X G a28, B28⟩, ?_⟩
      refine List.forall_mem_cons.mpr ⟨⟨_, _, F29, PySem.W.mg_of X G a29, B29⟩, ?_⟩
      refine List.forall_mem_cons.mpr ⟨⟨_, _, F30, PySem.W.mg_of X G a30, B30⟩, ?_⟩
      refine List.forall_mem_cons.mpr ⟨⟨_, _, F31, PySem.W.mg_of X G a31, B31⟩, ?_⟩
      refine List.forall_mem_cons.mpr ⟨⟨_, _, F32, PySem.W.mg_of X G a32, B32⟩, ?_⟩
      refine List.forall_mem_cons.mpr ⟨⟨_, _, F33, PySem.W.mg_of X G a33, B33⟩, ?_⟩
      refine List.forall_mem_cons.mpr ⟨⟨_, _, F34, PySem.W.mg_of X G a34, B34⟩, ?_⟩
      refine List.forall_mem_cons.mpr ⟨⟨_, _, F35, PySem.W.mg_of X G a35, B35⟩, ?_⟩
      refine List.forall_mem_cons.mpr ⟨⟨_, _, F36, PySem.W.mg_of X G a36, B36⟩, ?_⟩
      refine List.forall_mem_cons.mpr ⟨⟨_, _, F37, PySem.W.mg_of X G a37, B37⟩, ?_⟩
      refine List.forall_mem_cons.mpr ⟨⟨_, _, F38, PySem.W.mg_of X G a38, B38⟩, ?_⟩
      refine List.forall_mem_cons.mpr ⟨⟨_, _, F39, PySem.W.mg_of X G a39, B39⟩, ?_⟩
      refine List.forall_mem_cons.mpr ⟨⟨_, _, F40, PySem.W.mg_of X G a40, B40⟩, ?_⟩
      refine List.forall_mem_cons.mpr ⟨⟨_, _, F41, PySem.W.mg_of X G a41, B41⟩, ?_⟩
      refine List.forall_mem_cons.mpr ⟨⟨_, _, F42, PySem.W.mg_of X G a42, B42⟩, ?_⟩
      exact fun _ h => nomatch h
    have IF0 := fun_mk (st := mthS 34 0) il0 ic0 ik0
    have IB0 := IF0.binds (ps := ["self", "value", "beyond", "slope", "reach"]) fun _ _ _ _ _ _ us hl => match us, hl with | [_, _, _, _, _], _ => rfl
    have MF0 := fun_mk (st := mthS 34 1) ml0 mc0 mk0
    have MB0 := MF0.binds (ps := ["self", "far"]) fun _ _ _ _ _ _ us hl => match us, hl with | [_, _], _ => rfl
    have CL0 : Clf K D0 := ⟨⟨dp0, dh0, do0, ds0⟩, dq0, dgn, dgt, dm0⟩
    have Fm : ∀ z ∈ mrows, ∃ fa fd C, (wd K [(x_BadProgram, C0), (x_BadPlaces, C1), (x_BadWays, C2)] [(c_Side, D0)] cnU hinj).cl z.c = some C ∧ z.r.x ∉ (wd K [(x_BadProgram, C0), (x_BadPlaces, C1), (x_BadWays, C2)] [(c_Side, D0)] cnU hinj).cn z.c ∧ gx.mts z.m = some z.r.x ∧ Fun K z.r.x z.r.qual z.r.st fa fd ∧ Meth K C z.r.x fa ∧ Binds K fd z.r.ps [] := by
      refine List.forall_mem_cons.mpr ⟨⟨_, _, D0, rfl, (by decide +kernel : ("shows" : Str) ∉ cnU c_Side), rfl, MF0, ⟨ma0, mf0, mk0⟩, MB0⟩, ?_⟩
      refine List.forall_mem_cons.mpr ⟨⟨_, _, D0, rfl, (by decide +kernel : ("shows" : Str) ∉ cnU c_Side), rfl, MF0, ⟨ma0, mf0, mk0⟩, MB0⟩, ?_⟩
      exact fun _ h => nomatch h
    have hM : ∀ (n m f : Nat) (C : Addr) (x : Str), cfU.mt n m = some f → gx.mts m = some x → (wd K [(x_BadProgram, C0), (x_BadPlaces, C1), (x_BadWays, C2)] [(c_Side, D0)] cnU hinj).cl n = some C → ∃ z ∈ mrows, z.c = n ∧ z.m = m ∧ z.r.id = f := by
      intro n m f C x h1 h3 h2
      exact mt_rows (cs := [c_Side]) (ms := [m_0, m_4]) (by decide +kernel) h1 (look_keys h2) (look_keys h3)
    have M : ∀ T : Tab, T.gl = glU → T.cf = cfU → Modl l.prog w base (wd K [(x_BadProgram, C0), (x_BadPlaces, C1), (x_BadWays, C2)] [(c_Side, D0)] cnU hinj) mg T gx := fun T hT hcf => {
      cls := by
        intro n C hC
        have hm := look_mem hC
        simp only [List.mem_cons, List.not_mem_nil, or_false, Prod.mk.injEq] at hm
        rcases hm with ⟨rfl, hD⟩
        · rw [hD]
          refine ⟨CL0, by rw [hcf]; rfl, (by decide +kernel : (cnU c_Side).Nodup), ?_⟩
          show ∀ f ∈ [("value" : Str), ("beyond" : Str), ("slope" : Str), ("reach" : Str)], NoAttr K D0 f
          exact List.forall_mem_cons.mpr ⟨dn0_value, List.forall_mem_cons.mpr ⟨dn0_beyond, List.forall_mem_cons.mpr ⟨dn0_slope, List.forall_mem_cons.mpr ⟨dn0_reach, fun _ h => nomatch h⟩⟩⟩⟩
      isc := by
        intro n x hx
        have hm := look_mem hx
        simp only [List.mem_cons, List.not_mem_nil, or_false, Prod.mk.injEq] at hm
        rcases hm with ⟨rfl, rfl⟩
        · refine ⟨E0, PySem.W.mg_of X G ea0, fun m C hC => ?_, List.forall_mem_cons.mpr ⟨kt0_NoneType, List.forall_mem_cons.mpr ⟨kt0_bool, List.forall_mem_cons.mpr ⟨kt0_int, List.forall_mem_cons.mpr ⟨kt0_str, List.forall_mem_cons.mpr ⟨kt0_tuple, List.forall_mem_cons.mpr ⟨kt0_list, fun _ h => nomatch h⟩⟩⟩⟩⟩⟩⟩
          have hm := look_mem hC
          simp only [List.mem_cons, List.not_mem_nil, or_false, Prod.mk.injEq] at hm
          rw [hcf]
          rcases hm with ⟨rfl, hD⟩
          · rw [hD]; exact kz0_0
      mkc := by
        intro n x hx
        have hm := look_mem hx
        simp only [List.mem_cons, List.not_mem_nil, or_false, Prod.mk.injEq] at hm
        rcases hm with ⟨rfl, rfl⟩
        · refine ⟨D0, [false, false, false, false], rfl, PySem.W.mg_of X G da0, by rw [hcf]; rfl, rfl, rfl, .inr ⟨by decide, i0, _, ["self", "value", "beyond", "slope", "reach"], ⟨dz0, di0, df0, dk0⟩, IB0, ?_⟩⟩
          have q := init_fn (P := l.prog) (w := w) (mg := mg) (base := base) (C := D0) (N := ["self", "value", "beyond", "slope", "reach"]) (ps := ["self", "value", "beyond", "slope", "reach"]) (flds := [("value", false), ("beyond", false), ("slope", false), ("reach", false)]) IF0 (fnScope_of (by decide +kernel)) rfl (by decide) CL0.c (PySem.W.mg_none_of X G z3) (List.forall_mem_cons.mpr ⟨dn0_value, List.forall_mem_cons.mpr ⟨dn0_beyond, List.forall_mem_cons.mpr ⟨dn0_slope, List.forall_mem_cons.mpr ⟨dn0_reach, fun _ h => nomatch h⟩⟩⟩⟩) (by decide) (by decide +kernel)
          exact q
      blt := by
        intro x hx
        simp only [bltNames, List.mem_cons, List.not_mem_nil, or_false] at hx
        rcases hx with rfl | rfl | rfl | rfl | rfl | rfl | rfl | rfl | rfl | rfl | rfl | rfl | rfl | rfl | rfl
        · exact PySem.W.mg_none_of X G z0
        · exact PySem.W.mg_none_of X G z1
        · exact PySem.W.mg_none_of X G z2
        · exact PySem.W.mg_none_of X G z3
        · exact PySem.W.mg_none_of X G z4
        · exact PySem.W.mg_none_of X G z5
        · exact PySem.W.mg_none_of X G z6
        · exact PySem.W.mg_none_of X G z7
        · exact PySem.W.mg_none_of X G z8
        · exact PySem.W.mg_none_of X G z9
        · exact PySem.W.mg_none_of X G z10
        · exact PySem.W.mg_none_of X G z11
        · exact PySem.W.mg_none_of X G z12
        · exact PySem.W.mg_none_of X G z13
        · exact PySem.W.mg_none_of X G z14
      glb := by
        intro g x d hx hd
        rw [hT] at hd
        have hm := look_mem hx
        simp only [List.mem_cons, List.not_mem_nil, or_false, Prod.mk.injEq] at hm
        rcases hm with ⟨rfl, rfl⟩ | ⟨rfl, rfl⟩ | ⟨rfl, rfl⟩ | ⟨rfl, rfl⟩ | ⟨rfl, rfl⟩ | ⟨rfl, rfl⟩ | ⟨rfl, rfl⟩
        · cases hd; exact ⟨.ref gA0, .ref gA0, PySem.W.mg_of X G ga0, rfl, fun S H => .tupK ⟨gO0, gI0, gN0, gl0, gc0, gd0, gz0, gv0⟩ (.cons (.int 0) (.cons (.int 1) .nil))⟩
        · cases hd; exact ⟨_, gU1, PySem.W.mg_of X G ga1, gr1, fun S H => .int _⟩
        · cases hd; exact ⟨_, gU2, PySem.W.mg_of X G ga2, gr2, fun S H => .int _⟩
        · cases hd; exact ⟨_, gU3, PySem.W.mg_of X G ga3, gr3, fun S H => .int _⟩
        · cases hd; exact ⟨_, gU4, PySem.W.mg_of X G ga4, gr4, fun S H => .int _⟩
        · cases hd; exact ⟨_, gU5, PySem.W.mg_of X G ga5, gr5, fun S H => .int _⟩
        · cases hd; exact ⟨.ref gA6, .ref gA6, PySem.W.mg_of X G ga6, rfl, fun S H => .tupK ⟨gO6, gI6, gN6, gl6, gc6, gd6, gz6, gv6⟩ (.cons (.str "is") (.cons (.str "in") (.cons (.str "sum") (.cons (.str "by") (.cons (.str "least") (.cons (.str "most") (.cons (.str "if") (.cons (.str "turns") .nil))))))))⟩
      exn := by
        intro n x hx
        have hm := look_mem hx
        simp only [List.mem_cons, List.not_mem_nil, or_false, Prod.mk.injEq] at hm
        rcases hm with ⟨rfl, rfl⟩ | ⟨rfl, rfl⟩ | ⟨rfl, rfl⟩
        · exact ⟨PySem.W.mg_of X G xa0, xk0, xe0, xs0, xt0⟩
        · exact ⟨PySem.W.mg_of X G xa1, xk1, xe1, xs1, xt1⟩
        · exact ⟨PySem.W.mg_of X G xa2, xk2, xe2, xs2, xt2⟩ }
    have A := all_ok (P := l.prog) (w := w) (W := wd K [(x_BadProgram, C0), (x_BadPlaces, C1), (x_BadWays, C2)] [(c_Side, D0)] cnU hinj) (mg := mg) (base := base) (fuel := fuel) (rows := rows) (mrows := mrows) (tab := tabL) (cf := cfU) (gl := glU) (G := gx) rfl chk chkM F Fm hM M n
    obtain ⟨fn, hn, hc⟩ := chkRow_of (List.all_eq_true.mp chk rowLaw (List.mem_of_getElem? (i := 42) rfl))
    have e : callF tabL cfU glU fuel (n + 1) f_law = runFn ⟨callF tabL cfU glU fuel n, cfU, glU⟩ fuel fn := callF_row hn
    have ok := fn_ok (P := l.prog) (w := w) (W := wd K [(x_BadProgram, C0), (x_BadPlaces, C1), (x_BadWays, C2)] [(c_Side, D0)] cnU hinj) (mg := mg) (base := base) (T := ⟨callF tabL cfU glU fuel n, cfU, glU⟩) (k := n) (fuel := fuel) (r := rowLaw) (fn := fn) hc F42 (M _ rfl rfl) A
    rw [e]
    exact ok
  case bb => exact fun s v => .of_eq rfl
end RF

end S_I_k11
section S_SH
set_option maxHeartbeats 4000000
/-! SH: running the IR by simp; sizes of numbers; the common divisor; lowest terms. -/
namespace RF
open PySem PySem.Spec L2

/-! ### running -/
theorem frz_v (e : CE) (d x : D) (i : Nat) (r : Env) : frzAt e d i (.val x :: r) = .val x :: frzAt e d (i + 1) r := (rfl)
theorem frz_n (e : CE) (d : D) (i : Nat) (r : Env) : frzAt e d i (.no :: r) = .no :: frzAt e d (i + 1) r := (rfl)
theorem frz_0 (e : CE) (d : D) (i : Nat) : frzAt e d i [] = [] := (rfl)
theorem hold_v (e : CE) (x : D) (i : Nat) (r : Env) : holdAt e i (.val x :: r) = .val x :: holdAt e (i + 1) r := (rfl)
theorem hold_n (e : CE) (i : Nat) (r : Env) : holdAt e i (.no :: r) = .no :: holdAt e (i + 1) r := (rfl)
theorem hold_0 (e : CE) (i : Nat) : holdAt e i [] = [] := (rfl)
theorem eqD_int (a b : Int) : eqD (.int a) (.int b) = .ok (decide (a = b)) := by
  show R.ok (PyData.eqv (.int a) (.int b)) = _
  simp only [PyData.eqv]
  congr 1
theorem eqD_pair (a b c d : Int) : eqD (.tup [.int a, .int b]) (.tup [.int c, .int d]) = .ok (decide (a = c) && decide (b = d)) := by
  show R.ok (PyData.eqv (.tuple [.int a, .int b]) (.tuple [.int c, .int d])) = _
  simp only [PyData.eqv, PyData.eqvAll, Bool.and_true]
  congr 1
theorem toPs_int (ns : List Int) : D.toPs (ns.map D.int) = some (ns.map PyData.int) := by
  induction ns with
  | nil => rfl
  | cons n r ih => simp only [List.map_cons, D.toPs, D.toP, ih]
theorem shaped_int (ns : List Int) : SeqAt.shaped (.list (ns.map PyData.int)) = true := by
  have h1 : PyData.canLayAll0 (ns.map PyData.int) = true := by
    induction ns with
    | nil => rfl
    | cons n r ih => simp only [List.map_cons, PyData.canLayAll0, PyData.canLay0, ih, Bool.and_self]
  have h2 : PyData.depthAll (ns.map PyData.int) = 0 := by
    induction ns with
    | nil => rfl
    | cons n r ih =>
      have ih' := ih (by
        simp only [List.map_cons, PyData.canLayAll0, Bool.and_eq_true] at h1
        exact h1.2)
      simp only [List.map_cons, PyData.depthAll, PyData.depth, ih', Nat.max_self]
  simp only [SeqAt.shaped, PyData.canLay0, h1, PyData.depth, h2, Bool.true_and]
  decide
theorem eqD_nil (ns : List Int) : eqD (.lst (ns.map D.int)) (.lst []) = .ok ns.isEmpty := by
  simp only [eqD, D.toP, toPs_int, D.toPs, Option.map_some]
  rw [shaped_int]
  have : SeqAt.shaped (.list []) = true := by decide
  rw [this]
  cases ns with
  | nil => rfl
  | cons n r => rfl
theorem atI_nat {α : Type} (xs : List α) (i : Nat) : atI xs (i : Int) = xs[i]? := by
  unfold atI ixN
  rw [if_pos (by omega)]
  by_cases h : i < xs.length
  · rw [if_pos (by omega), Int.toNat_natCast]; rfl
  · rw [if_neg (by omega), List.getElem?_eq_none (by omega)]; rfl
theorem atI_0 {α : Type} (x : α) (r : List α) : atI (x :: r) 0 = some x := atI_nat (x :: r) 0
theorem atI_1 {α : Type} (x y : α) (r : List α) : atI (x :: y :: r) 1 = some y := atI_nat (x :: y :: r) 1
theorem bind_some {α β : Type} (a : α) (f : α → R β) : R.bind (.ok a) f = f a := (rfl)

/-! ### sizes -/
/-- a number of less than n bits -/
def Sm (n : Nat) (i : Int) : Prop := i.natAbs < 2 ^ n
instance (n : Nat) (i : Int) : Decidable (Sm n i) := inferInstanceAs (Decidable (_ < _))
theorem Sm.mono {n m : Nat} {i : Int} (h : Sm n i) (hm : n ≤ m) : Sm m i := Nat.lt_of_lt_of_le h (Nat.pow_le_pow_right (by decide) hm)
theorem Sm.mul {n m : Nat} {i j : Int} (h : Sm n i) (h' : Sm m j) : Sm (n + m) (i * j) := by
  unfold Sm at *
  rw [Int.natAbs_mul, Nat.pow_add]
  exact Nat.mul_lt_mul_of_lt_of_le h (Nat.le_of_lt h') (Nat.pos_of_ne_zero (by have := Nat.two_pow_pos m; omega))
theorem Sm.add {n m : Nat} {i j : Int} (h : Sm n i) (h' : Sm m j) : Sm (n + m + 1) (i + j) := by
  have a := h.mono (Nat.le_add_right n m)
  have b := h'.mono (Nat.le_add_left m n)
  unfold Sm at *
  rw [Nat.pow_succ]
  omega
theorem Sm.neg {n : Nat} {i : Int} (h : Sm n i) : Sm n (-i) := by unfold Sm at *; rwa [Int.natAbs_neg]
theorem Sm.sub {n m : Nat} {i j : Int} (h : Sm n i) (h' : Sm m j) : Sm (n + m + 1) (i - j) := by rw [Int.sub_eq_add_neg]; exact h.add h'.neg
theorem log2_lt {n k : Nat} (h : n < 2 ^ k) (hk : 0 < k) : n.log2 < k := by
  by_cases h0 : n = 0
  · subst h0; exact hk
  · exact (Nat.log2_lt h0).mpr h
theorem bin_mul {i j : Int} (h : Sm 8000 i) (h' : Sm 8000 j) : evBin .mul (.int i) (.int j) = .ok (.int (i * j)) := by
  have a := log2_lt h (by decide)
  have b := log2_lt h' (by decide)
  simp only [evBin]
  rw [if_pos (by omega)]
theorem bin_fdiv {i j : Int} (h0 : j ≠ 0) (h : Sm 8000 j) : evBin .fdiv (.int i) (.int j) = .ok (.int (i.fdiv j)) := by
  have a := log2_lt h (by decide)
  simp only [evBin]
  rw [if_pos ⟨h0, by omega⟩]
theorem bin_mod {i j : Int} (h0 : j ≠ 0) : evBin .mod (.int i) (.int j) = .ok (.int (i.fmod j)) := by
  simp only [evBin]
  rw [if_pos h0]
theorem bin_add {i j : Int} : evBin .add (.int i) (.int j) = .ok (.int (i + j)) := (rfl)
theorem bin_sub {i j : Int} : evBin .sub (.int i) (.int j) = .ok (.int (i - j)) := (rfl)

/-! ### the common divisor -/
theorem mod_half {y r : Nat} (hr : 0 < r) (h : r < y) {k : Nat} (hy : y < 2 ^ (k + 1)) : y % r < 2 ^ k := by
  have h1 := Nat.mod_lt y hr
  rw [Nat.pow_succ] at hy
  by_cases c : r + r ≤ y
  · omega
  · have : y % r = y - r := by
      rw [Nat.mod_eq_sub_mod (by omega), Nat.mod_eq_of_lt (by omega)]
    omega
theorem euclid {c : Env → R D} {f : Env → R Out} {st : Nat → Nat → Env} (hc : ∀ x y, c (st x y) = .ok (.bl (decide (0 < y)))) (hf : ∀ x y, 0 < y → f (st x y) = .ok (.nx (st y (x % y)))) :
    ∀ (k x y fuel : Nat), y < 2 ^ k → 2 * k + 1 ≤ fuel → whileF c f fuel (st x y) = .ok (.nx (st (Nat.gcd x y) 0)) := by
  have stop : ∀ (x fuel : Nat), 1 ≤ fuel → whileF c f fuel (st x 0) = .ok (.nx (st (Nat.gcd x 0) 0)) := by
    intro x fuel h
    cases fuel with
    | zero => omega
    | succ n =>
      simp only [whileF, hc, R.bind_ok, truth, Nat.lt_irrefl, decide_false, onT_f, Nat.gcd_zero_right]
  have go : ∀ (x y fuel : Nat), 0 < y → whileF c f (fuel + 1) (st x y) = whileF c f fuel (st y (x % y)) := by
    intro x y fuel h
    simp only [whileF, hc, R.bind_ok, truth, h, decide_true, onT_t, hf x y h]
  have gc : ∀ x y : Nat, Nat.gcd y (x % y) = Nat.gcd x y := fun x y => by rw [Nat.gcd_comm x y, Nat.gcd_rec y x, Nat.gcd_comm]
  intro k
  induction k with
  | zero =>
    intro x y fuel hy hf'
    have : y = 0 := by simpa using hy
    subst this
    exact stop x fuel (by omega)
  | succ k ih =>
    intro x y fuel hy hf'
    by_cases h0 : y = 0
    · subst h0; exact stop x fuel (by omega)
    · obtain ⟨n, rfl⟩ : ∃ n, fuel = n + 1 + 1 := ⟨fuel - 2, by omega⟩
      rw [go x y (n + 1) (by omega)]
      by_cases h1 : x % y = 0
      · rw [h1, stop y (n + 1) (by omega)]
        have := gc x y
        rw [h1] at this
        rw [this]
      · rw [go y (x % y) n (by omega), ih (x % y) (y % (x % y)) n (mod_half (by omega) (Nat.mod_lt _ (by omega)) hy) (by omega), gc y (x % y), gc x y]
theorem fmod_nat (x y : Nat) : Int.fmod (x : Int) (y : Int) = ((x % y : Nat) : Int) := by
  rw [Int.fmod_eq_emod_of_nonneg _ (by omega)]
  rfl
theorem abs_nat (i : Int) : (if i < 0 then -i else i) = (i.natAbs : Int) := by
  split <;> omega

/-! ### lowest terms -/
/-- what both are parted by -/
def lby (a b : Int) : Int := if b < 0 then -(Nat.gcd a.natAbs b.natAbs : Int) else (Nat.gcd a.natAbs b.natAbs : Int)
theorem lby_ne {a b : Int} (h : b ≠ 0) : lby a b ≠ 0 := by
  have : 0 < Nat.gcd a.natAbs b.natAbs := Nat.gcd_pos_of_pos_right _ (by omega)
  unfold lby
  split <;> omega
theorem lby_sm {a b : Int} {n : Nat} (h : b ≠ 0) (hb : Sm n b) : Sm n (lby a b) := by
  have h1 : Nat.gcd a.natAbs b.natAbs ≤ b.natAbs := Nat.le_of_dvd (by omega) (Nat.gcd_dvd_right _ _)
  have h2 : (lby a b).natAbs = Nat.gcd a.natAbs b.natAbs := by unfold lby; split <;> simp
  unfold Sm at *
  omega
def lowP (a b : Int) : Int := a.fdiv (lby a b)
def lowQ (a b : Int) : Int := b.fdiv (lby a b)
theorem lby_dvd_l (a b : Int) : lby a b ∣ a := by
  have h : (Nat.gcd a.natAbs b.natAbs : Int) ∣ a := Int.ofNat_dvd_left.mpr (Nat.gcd_dvd_left _ _)
  unfold lby
  split
  · exact (Int.neg_dvd).mpr h
  · exact h
theorem lby_dvd_r (a b : Int) : lby a b ∣ b := by
  have h : (Nat.gcd a.natAbs b.natAbs : Int) ∣ b := Int.ofNat_dvd_left.mpr (Nat.gcd_dvd_right _ _)
  unfold lby
  split
  · exact (Int.neg_dvd).mpr h
  · exact h
theorem lowP_mul (a b : Int) : lowP a b * lby a b = a := Int.fdiv_mul_cancel (lby_dvd_l a b)
theorem lowQ_mul (a b : Int) : lowQ a b * lby a b = b := Int.fdiv_mul_cancel (lby_dvd_r a b)
theorem lowQ_pos {a b : Int} (h : b ≠ 0) : 0 < lowQ a b := by
  have e := lowQ_mul a b
  have g : 0 < Nat.gcd a.natAbs b.natAbs := Nat.gcd_pos_of_pos_right _ (by omega)
  by_cases c : b < 0
  · have l : lby a b < 0 := by unfold lby; rw [if_pos c]; omega
    apply Int.not_le.mp
    intro q
    have := Int.mul_nonneg_of_nonpos_of_nonpos q (Int.le_of_lt l)
    omega
  · have l : 0 < lby a b := by unfold lby; rw [if_neg c]; omega
    apply Int.not_le.mp
    intro q
    have := Int.mul_nonpos_of_nonpos_of_nonneg q (Int.le_of_lt l)
    omega
theorem low_cross (a b : Int) : lowP a b * b = a * lowQ a b := by
  have e1 := lowP_mul a b
  have e2 := lowQ_mul a b
  calc lowP a b * b = lowP a b * (lowQ a b * lby a b) := by rw [e2]
    _ = (lowP a b * lby a b) * lowQ a b := by rw [Int.mul_comm (lowQ a b), Int.mul_assoc]
    _ = a * lowQ a b := by rw [e1]
theorem low_gcd {a b : Int} (h : b ≠ 0) : Nat.gcd (lowP a b).natAbs (lowQ a b).natAbs = 1 := by
  have g : 0 < Nat.gcd a.natAbs b.natAbs := Nat.gcd_pos_of_pos_right _ (by omega)
  have e1 := congrArg Int.natAbs (lowP_mul a b)
  have e2 := congrArg Int.natAbs (lowQ_mul a b)
  have h2 : (lby a b).natAbs = Nat.gcd a.natAbs b.natAbs := by unfold lby; split <;> simp
  rw [Int.natAbs_mul, h2] at e1 e2
  have h3 : Nat.gcd ((lowP a b).natAbs * Nat.gcd a.natAbs b.natAbs) ((lowQ a b).natAbs * Nat.gcd a.natAbs b.natAbs) = Nat.gcd a.natAbs b.natAbs := by rw [e1, e2]
  rw [Nat.gcd_mul_right] at h3
  exact Nat.eq_of_mul_eq_mul_right g (by rw [h3, Nat.one_mul])
/-- a number in lowest terms is its own -/
theorem low_self {p q : Int} (hq : 0 < q) (hg : Nat.gcd p.natAbs q.natAbs = 1) : lowP p q = p ∧ lowQ p q = q := by
  have e : lby p q = 1 := by unfold lby; rw [if_neg (by omega), hg]; rfl
  unfold lowP lowQ
  rw [e]
  exact ⟨Int.fdiv_one p, Int.fdiv_one q⟩
theorem lowP_sm {a b : Int} {n : Nat} (h : b ≠ 0) (ha : Sm n a) : Sm n (lowP a b) := by
  have e := congrArg Int.natAbs (lowP_mul a b)
  rw [Int.natAbs_mul] at e
  have l : 0 < (lby a b).natAbs := by have := lby_ne (a := a) h; omega
  have := Nat.le_mul_of_pos_right (lowP a b).natAbs l
  unfold Sm at *
  omega
theorem lowQ_sm {a b : Int} {n : Nat} (h : b ≠ 0) (ha : Sm n b) : Sm n (lowQ a b) := by
  have e := congrArg Int.natAbs (lowQ_mul a b)
  rw [Int.natAbs_mul] at e
  have l : 0 < (lby a b).natAbs := by have := lby_ne (a := a) h; omega
  have := Nat.le_mul_of_pos_right (lowQ a b).natAbs l
  unfold Sm at *
  omega
theorem ty_int_non  : isTy .int (.non : D) = some false := (rfl)
theorem ty_int_bl (b : Bool) : isTy .int (.bl b) = some true := (rfl)
theorem ty_int_int (i : Int) : isTy .int (.int i) = some true := (rfl)
theorem ty_int_str (s : Str) : isTy .int (.str s) = some false := (rfl)
theorem ty_int_tup (l : List D) : isTy .int (.tup l) = some false := (rfl)
theorem ty_int_lst (l : List D) : isTy .int (.lst l) = some false := (rfl)
theorem ty_bool_non  : isTy .bool (.non : D) = some false := (rfl)
theorem ty_bool_bl (b : Bool) : isTy .bool (.bl b) = some true := (rfl)
theorem ty_bool_int (i : Int) : isTy .bool (.int i) = some false := (rfl)
theorem ty_bool_str (s : Str) : isTy .bool (.str s) = some false := (rfl)
theorem ty_bool_tup (l : List D) : isTy .bool (.tup l) = some false := (rfl)
theorem ty_bool_lst (l : List D) : isTy .bool (.lst l) = some false := (rfl)
theorem ty_tuple_non  : isTy .tuple (.non : D) = some false := (rfl)
theorem ty_tuple_bl (b : Bool) : isTy .tuple (.bl b) = some false := (rfl)
theorem ty_tuple_int (i : Int) : isTy .tuple (.int i) = some false := (rfl)
theorem ty_tuple_str (s : Str) : isTy .tuple (.str s) = some false := (rfl)
theorem ty_tuple_tup (l : List D) : isTy .tuple (.tup l) = some true := (rfl)
theorem ty_tuple_lst (l : List D) : isTy .tuple (.lst l) = some false := (rfl)
theorem ty_list_non  : isTy .list (.non : D) = some false := (rfl)
theorem ty_list_bl (b : Bool) : isTy .list (.bl b) = some false := (rfl)
theorem ty_list_int (i : Int) : isTy .list (.int i) = some false := (rfl)
theorem ty_list_str (s : Str) : isTy .list (.str s) = some false := (rfl)
theorem ty_list_tup (l : List D) : isTy .list (.tup l) = some false := (rfl)
theorem ty_list_lst (l : List D) : isTy .list (.lst l) = some true := (rfl)
theorem ty_str_non  : isTy .str (.non : D) = some false := (rfl)
theorem ty_str_bl (b : Bool) : isTy .str (.bl b) = some false := (rfl)
theorem ty_str_int (i : Int) : isTy .str (.int i) = some false := (rfl)
theorem ty_str_str (s : Str) : isTy .str (.str s) = some true := (rfl)
theorem ty_str_tup (l : List D) : isTy .str (.tup l) = some false := (rfl)
theorem ty_str_lst (l : List D) : isTy .str (.lst l) = some false := (rfl)
theorem tys : (isTy .int (.non : D) = some false) ∧ (∀ b : Bool, isTy .int (.bl b) = some true) ∧ (∀ i : Int, isTy .int (.int i) = some true) ∧ (∀ s : Str, isTy .int (.str s) = some false) ∧ (∀ l : List D, isTy .int (.tup l) = some false) ∧ (∀ l : List D, isTy .int (.lst l) = some false) ∧ (isTy .bool (.non : D) = some false) ∧ (∀ b : Bool, isTy .bool (.bl b) = some true) ∧ (∀ i : Int, isTy .bool (.int i) = some false) ∧ (∀ s : Str, isTy .bool (.str s) = some false) ∧ (∀ l : List D, isTy .bool (.tup l) = some false) ∧ (∀ l : List D, isTy .bool (.lst l) = some false) ∧ (isTy .tuple (.non : D) = some false) ∧ (∀ b : Bool, isTy .tuple (.bl b) = some false) ∧ (∀ i : Int, isTy .tuple (.int i) = some false) ∧ (∀ s : Str, isTy .tuple (.str s) = some false) ∧ (∀ l : List D, isTy .tuple (.tup l) = some true) ∧ (∀ l : List D, isTy .tuple (.lst l) = some false) ∧ (isTy .list (.non : D) = some false) ∧ (∀ b : Bool, isTy .list (.bl b) = some false) ∧ (∀ i : Int, isTy .list (.int i) = some false) ∧ (∀ s : Str, isTy .list (.str s) = some false) ∧ (∀ l : List D, isTy .list (.tup l) = some false) ∧ (∀ l : List D, isTy .list (.lst l) = some true) ∧ (isTy .str (.non : D) = some false) ∧ (∀ b : Bool, isTy .str (.bl b) = some false) ∧ (∀ i : Int, isTy .str (.int i) = some false) ∧ (∀ s : Str, isTy .str (.str s) = some true) ∧ (∀ l : List D, isTy .str (.tup l) = some false) ∧ (∀ l : List D, isTy .str (.lst l) = some false) := ⟨ty_int_non, ty_int_bl, ty_int_int, ty_int_str, ty_int_tup, ty_int_lst, ty_bool_non, ty_bool_bl, ty_bool_int, ty_bool_str, ty_bool_tup, ty_bool_lst, ty_tuple_non, ty_tuple_bl, ty_tuple_int, ty_tuple_str, ty_tuple_tup, ty_tuple_lst, ty_list_non, ty_list_bl, ty_list_int, ty_list_str, ty_list_tup, ty_list_lst, ty_str_non, ty_str_bl, ty_str_int, ty_str_str, ty_str_tup, ty_str_lst⟩
theorem ev_lt (i j : Int) : evCmp .lt (.int i) (.int j) = .ok (.bl (decide (i < j))) := (rfl)
theorem ev_le (i j : Int) : evCmp .le (.int i) (.int j) = .ok (.bl (decide (i ≤ j))) := (rfl)
theorem ev_gt (i j : Int) : evCmp .gt (.int i) (.int j) = .ok (.bl (decide (j < i))) := (rfl)
theorem ev_ge (i j : Int) : evCmp .ge (.int i) (.int j) = .ok (.bl (decide (j ≤ i))) := (rfl)
theorem ev_eq (a b : D) : evCmp .eq a b = (eqD a b).bind fun r => .ok (.bl r) := by cases a <;> cases b <;> rfl
theorem ev_ne (a b : D) : evCmp .ne a b = (eqD a b).bind fun r => .ok (.bl (!r)) := by cases a <;> cases b <;> rfl
theorem ev_isN (a : D) : evCmp .isN a .non = .ok (.bl a.isNon) := by cases a <;> rfl
theorem ev_notN (a : D) : evCmp .notN a .non = .ok (.bl (!a.isNon)) := by cases a <;> rfl
theorem rb_len_t2 (a b : D) : evBI .len [.tup [a, b]] = .ok (.int 2) := (rfl)
theorem rb_len_t3 (a b c : D) : evBI .len [.tup [a, b, c]] = .ok (.int 3) := (rfl)
theorem rb_len_t4 (a b c d : D) : evBI .len [.tup [a, b, c, d]] = .ok (.int 4) := (rfl)
theorem rb_len_l (l : List D) : evBI .len [.lst l] = .ok (.int l.length) := (rfl)
theorem rb_abs (i : Int) : evBI .abs [.int i] = .ok (.int i.natAbs) := by
  show R.ok (D.int _) = _
  rw [abs_nat]
theorem rb_min (i j : Int) : evBI .min [.int i, .int j] = .ok (.int (if j < i then j else i)) := (rfl)
theorem rb_list_l (l : List D) : evBI .list [.lst l] = .ok (.lst l) := (rfl)
theorem rb_list_t (l : List D) : evBI .list [.tup l] = .ok (.lst l) := (rfl)
theorem rb_tuple_l (l : List D) : evBI .tuple [.lst l] = .ok (.tup l) := (rfl)
theorem rb_tuple_t (l : List D) : evBI .tuple [.tup l] = .ok (.tup l) := (rfl)
theorem rb_all (l : List D) : evBI .all [.lst l] = withO (bools l) fun bs => .ok (.bl (bs.all id)) := by simp only [evBI]; cases bools l <;> rfl
theorem rb_any (l : List D) : evBI .any [.lst l] = withO (bools l) fun bs => .ok (.bl (bs.any id)) := by simp only [evBI]; cases bools l <;> rfl
theorem rb_sum (l : List D) : evBI .sum [.lst l] = withO (intsOf l) fun bs => .ok (.int bs.sum) := by simp only [evBI]; cases intsOf l <;> rfl
theorem idx_t0 (x : D) (r : List D) : evIdx (.tup (x :: r)) (.int 0) = .ok x := by simp only [evIdx, atI_0]
theorem idx_t1 (x y : D) (r : List D) : evIdx (.tup (x :: y :: r)) (.int 1) = .ok y := by simp only [evIdx, atI_1]
theorem idx_t2 (x y z : D) (r : List D) : evIdx (.tup (x :: y :: z :: r)) (.int 2) = .ok z := by
  have : atI (x :: y :: z :: r) 2 = some z := atI_nat (x :: y :: z :: r) 2
  simp only [evIdx, this]
theorem idx_t3 (x y z w : D) (r : List D) : evIdx (.tup (x :: y :: z :: w :: r)) (.int 3) = .ok w := by
  have : atI (x :: y :: z :: w :: r) 3 = some w := atI_nat (x :: y :: z :: w :: r) 3
  simp only [evIdx, this]
theorem idx_l {l : List D} {i : Int} {d : D} (h : atI l i = some d) : evIdx (.lst l) (.int i) = .ok d := by simp only [evIdx, h]
theorem idx_t {l : List D} {i : Int} {d : D} (h : atI l i = some d) : evIdx (.tup l) (.int i) = .ok d := by simp only [evIdx, h]
theorem truth_bl (b : Bool) : truth (.bl b) = some b := (rfl)
theorem slot_0 (s : Slot) (r : Env) : slotD (s :: r) 0 = s.d := (rfl)
theorem slot_s (s : Slot) (r : Env) (i : Nat) : slotD (s :: r) (i + 1) = slotD r i := (rfl)
theorem sd_v (d : D) : (Slot.val d).d = some d := (rfl)
theorem sd_o (l : List D) : (Slot.own l).d = some (.lst l) := (rfl)
theorem put_f (e : CE) (d : D) : put false e d = .ok (.val d, d) := (rfl)
theorem out_rt (d : D) : outR (.rt false d) = .ok d := (rfl)
theorem out_rl (l : List D) : outR (.rt true (.lst l)) = .ok (.lst l) := (rfl)
theorem outF_rl (l : List D) : outF (.rt true (.lst l)) = .ok (.lst l) := (rfl)
theorem out_nx (ρ : Env) : outR (.nx ρ) = .ok .non := (rfl)
theorem frz_def (ρ : Env) (e : CE) (d : D) : frz ρ e d = frzAt e d 0 ρ := (rfl)
theorem hold_rng (ρ : Env) (e : CE) : hold ρ .rng e = ρ := (rfl)
theorem hold_seq (ρ : Env) (e : CE) : hold ρ .seq e = holdAt e 0 ρ := (rfl)
theorem tup_ok {l : List D} (h : l.length ≤ lim) : (if l.length ≤ lim then R.ok (D.tup l) else .bad) = .ok (.tup l) := if_pos h
theorem len_1 (a : D) : ([a] : List D).length ≤ lim := by show 1 ≤ lim; decide
theorem len_0 : ([] : List D).length ≤ lim := by decide
theorem len_2 (a b : D) : [a, b].length ≤ lim := by show 2 ≤ lim; decide
theorem len_3 (a b c : D) : [a, b, c].length ≤ lim := by show 3 ≤ lim; decide
theorem len_4 (a b c d : D) : [a, b, c, d].length ≤ lim := by show 4 ≤ lim; decide
end RF
namespace RF
/-- a number in lowest terms, of less than k bits -/
structure Nm (k : Nat) (p q : Int) : Prop where
  pos : 0 < q
  gcd : Nat.gcd p.natAbs q.natAbs = 1
  sp : Sm k p
  sq : Sm k q
theorem Nm.mono {k m : Nat} {p q : Int} (h : Nm k p q) (hm : k ≤ m) : Nm m p q := ⟨h.pos, h.gcd, h.sp.mono hm, h.sq.mono hm⟩
theorem low_nm {k : Nat} {a b : Int} (h : b ≠ 0) (ha : Sm k a) (hb : Sm k b) : Nm k (lowP a b) (lowQ a b) := ⟨lowQ_pos h, low_gcd h, lowP_sm h ha, lowQ_sm h hb⟩
abbrev nmD (p q : Int) : D := .tup [.int p, .int q]
theorem bin_pow {i : Int} {j : Int} {k : Nat} (hj : j = k) (h : k ≤ 1000000) (hi : i.natAbs < 2 ^ 64) : evBin .pow (.int i) (.int j) = .ok (.int (i ^ k)) := by
  subst hj
  simp only [evBin]
  rw [if_pos ⟨by omega, by omega, hi⟩, Int.toNat_natCast]
theorem sm_of {n : Nat} {i : Int} (h1 : -(2 ^ n : Nat) < i) (h2 : i < (2 ^ n : Nat)) : Sm n i := by unfold Sm; omega
theorem sm_fmod {n : Nat} {i j : Int} (h : 0 < j) (hj : Sm n j) : Sm n (i.fmod j) := by
  have h1 := Int.fmod_nonneg_of_pos i h
  have h2 := Int.fmod_lt_of_pos i h
  unfold Sm at *
  omega
open PySem PySem.Spec L2
local macro_rules
  | `(tactic| simp_arith [$ts,*]) => `(tactic| simp only [exec, evalE, R.bind_ok, R.bind_exc, slot_0, slot_s, sd_v, sd_o, List.set_cons_zero, List.set_cons_succ, frz_def, frz_v, frz_n, frz_0, hold_rng, hold_seq, hold_v, hold_n, hold_0, put_f, truth_bl, onT_t, onT_f, ev_lt, ev_le, ev_gt, ev_ge, ev_eq, ev_ne, ev_isN, ev_notN, eqD_int, eqD_pair, rb_len_t2, rb_len_t3, rb_len_l, rb_abs, rb_min, rb_list_l, rb_list_t, rb_tuple_l, rb_tuple_t, rb_all, rb_any, rb_sum, idx_t0, idx_t1, idx_t2, bin_add, bin_sub, out_rt, out_nx, len_0, len_1, len_2, len_3, len_4, Bool.not_true, Bool.not_false, if_true, if_false, reduceIte, decide_true, decide_false, eq_self, Nat.reduceAdd, withO_s, ty_int_non, ty_int_bl, ty_int_int, ty_int_str, ty_int_tup, ty_int_lst, ty_bool_non, ty_bool_bl, ty_bool_int, ty_bool_str, ty_bool_tup, ty_bool_lst, ty_tuple_non, ty_tuple_bl, ty_tuple_int, ty_tuple_str, ty_tuple_tup, ty_tuple_lst, ty_list_non, ty_list_bl, ty_list_int, ty_list_str, ty_list_tup, ty_list_lst, ty_str_non, ty_str_bl, ty_str_int, ty_str_str, ty_str_tup, ty_str_lst, $ts,*])
/-- the sign -/
def sgn (i : Int) : Int := if 0 < i then 1 else if i < 0 then -1 else 0
theorem p60 : evBin .pow (.int 10) (.int 60) = .ok (.int (10 ^ 60)) := bin_pow rfl (by decide) (by decide)
theorem p18 : evBin .pow (.int 10) (.int 18) = .ok (.int (10 ^ 18)) := bin_pow rfl (by decide) (by decide)
theorem p9 : evBin .pow (.int 10) (.int 9) = .ok (.int (10 ^ 9)) := bin_pow rfl (by decide) (by decide)
theorem p40 : evBin .pow (.int 10) (.int 40) = .ok (.int (10 ^ 40)) := bin_pow rfl (by decide) (by decide)
theorem bmap_ne (cs : List Int) (h : cs ≠ []) : 0 < cs.length := by cases cs with
  | nil => exact absurd rfl h
  | cons a r => simp
/-- the cells -/
def cellsOf (ns : List Int) : List Int := if ns = [] then [4] else ns
theorem cells_ev (T : Tab) (ns : List Int) (hl : ns.length ≤ 63) (r : Env) : evalE T (.ife (.cmp .ne (.var 0) (.lst .nil)) (.sl (.var 0) .nil (.c (.int 63))) (.lst (.cons (.c (.int 4)) .nil))) (.val (.lst (ns.map .int)) :: r) = .ok (.lst ((cellsOf ns).map .int)) := by
  cases ns with
  | nil =>
    simp_arith [eqD_nil]
    rfl
  | cons a t =>
    have e : cutD ((a :: t).map D.int) none (some 63) = (a :: t).map D.int := by
      unfold cutD
      rw [HT.sIx_none, show (some (63 : Int)) = some ((63 : Nat) : Int) from rfl, HT.sIx_nat, List.drop_zero, List.length_map, Nat.min_eq_right hl, Nat.sub_zero]
      exact List.take_of_length_le (by rw [List.length_map]; exact Nat.le_refl _)
    simp_arith [eqD_nil, List.isEmpty_cons, partOf, evSl, e]
    rfl
theorem cells_ne (ns : List Int) : 0 < (cellsOf ns).length := by
  unfold cellsOf
  split
  · decide
  · exact bmap_ne _ (by assumption)
theorem cells_le (ns : List Int) (hl : ns.length ≤ 63) : (cellsOf ns).length ≤ 63 := by
  unfold cellsOf
  split
  · decide
  · exact hl
/-- no list of the frame's own -/
def NoOwn (s : Slot) : Prop := ∀ l, s ≠ .own l
theorem frz_q {s : Slot} (h : NoOwn s) (e : CE) (d : D) (i : Nat) (r : Env) : frzAt e d i (s :: r) = s :: frzAt e d (i + 1) r := by
  cases s with
  | no => rfl
  | val x => rfl
  | own l => exact absurd rfl (h l)
theorem no_val (d : D) : NoOwn (.val d) := fun l h => nomatch h
theorem no_no : NoOwn .no := fun l h => nomatch h
theorem loop_inv {g : Tg} {f : Env → R Out} {I : Env → Prop} {l : List D} : ∀ {ρ : Env}, (∀ x ∈ l, ∀ ρ, I ρ → ∃ ρ1, bindT g x ρ = .ok ρ1 ∧ ∃ ρ2, f ρ1 = .ok (.nx ρ2) ∧ I ρ2) → I ρ → ∃ ρ', loopF g f l ρ = .ok (.nx ρ') ∧ I ρ' := by
  induction l with
  | nil => exact fun _ h => ⟨_, rfl, h⟩
  | cons x xs ih =>
    intro ρ hs h
    obtain ⟨ρ1, h1, ρ2, h2, h3⟩ := hs x List.mem_cons_self ρ h
    obtain ⟨ρ', h4, h5⟩ := ih (fun y hy => hs y (List.mem_cons_of_mem x hy)) h3
    exact ⟨ρ', by simp only [loopF, h1, R.bind_ok, h2, h4], h5⟩
theorem upFrom_mem {lo c : Int} {k : Nat} {x : D} (h : x ∈ upFrom lo c k) : ∃ j : Nat, j < k ∧ x = .int (lo + c * j) := by
  induction k generalizing lo with
  | zero => exact nomatch h
  | succ k ih =>
    rcases List.mem_cons.mp h with h | h
    · exact ⟨0, by omega, by rw [h]; simp⟩
    · obtain ⟨j, h1, h2⟩ := ih h
      exact ⟨j + 1, by omega, by rw [h2]; congr 1; rw [Int.natCast_add, Int.mul_add]; omega⟩
theorem sgn_pos {i : Int} (h : 0 < i) : sgn i = 1 := if_pos h
theorem sgn_neg {i : Int} (h : i < 0) : sgn i = -1 := by unfold sgn; rw [if_neg (by omega), if_pos h]
theorem sgn_zero : sgn 0 = 0 := (rfl)
theorem items_even (ns : List Int) : ∃ k : Nat, k ≤ 32 ∧ itemsOf .rng (.tup [.int 0, .int ((if ((ns.length : Nat) : Int) < 63 then ((ns.length : Nat) : Int) else 63) + 1), .int 2]) = .ok (upFrom 0 2 k) := by
  generalize hm : (if ((ns.length : Nat) : Int) < 63 then ((ns.length : Nat) : Int) else 63) = m
  have h0 : 0 ≤ m ∧ m ≤ 63 := by split at hm <;> omega
  refine ⟨((m + 1 - 0 - 1) / 2 + 1).toNat, by omega, ?_⟩
  simp only [itemsOf, evRng]
  rw [if_pos ⟨by decide, by decide, by omega, by omega, .inr ⟨by decide, by decide, by unfold lim; omega⟩⟩, if_neg (by decide), if_pos (by omega)]
end RF

end S_SH
section S_SQ
set_option maxHeartbeats 4000000
/-! SQ: numbers as rationals. -/
namespace RF
open PySem PySem.Spec L2
/-- a number as the program keeps it -/
def qD (x : Rat) : D := .tup [.int x.num, .int (x.den : Int)]
structure Sz (k : Nat) (x : Rat) : Prop where
  num : Sm k x.num
  den : Sm k (x.den : Int)
theorem Sz.mono {k m : Nat} {x : Rat} (h : Sz k x) (hm : k ≤ m) : Sz m x := ⟨h.num.mono hm, h.den.mono hm⟩
theorem Sz.nm {k : Nat} {x : Rat} (h : Sz k x) : Nm k x.num (x.den : Int) := ⟨by have := x.den_pos; omega, by have := x.reduced; simpa using this, h.num, h.den⟩
theorem den_ne (x : Rat) : (x.den : Int) ≠ 0 := by have := x.den_pos; omega
theorem low_rat {a b : Int} (h : b ≠ 0) : lowP a b = (Rat.divInt a b).num ∧ lowQ a b = ((Rat.divInt a b).den : Int) := by
  have q0 := lowQ_pos (a := a) h
  let y : Rat := ⟨lowP a b, (lowQ a b).toNat, by omega, by
    have g := low_gcd (a := a) h
    have e : (lowQ a b).natAbs = (lowQ a b).toNat := by omega
    rw [e] at g
    exact g⟩
  have e : y = Rat.divInt a b := by
    rw [← Rat.num_divInt_den y]
    refine (Rat.divInt_eq_divInt_iff (by show (((lowQ a b).toNat : Nat) : Int) ≠ 0; omega) h).mpr ?_
    show lowP a b * b = a * (((lowQ a b).toNat : Nat) : Int)
    rw [Int.toNat_of_nonneg (by omega)]
    exact low_cross a b
  rw [← e]
  exact ⟨rfl, by show lowQ a b = (((lowQ a b).toNat : Nat) : Int); omega⟩
theorem low_q {a b : Int} (h : b ≠ 0) : nmD (lowP a b) (lowQ a b) = qD (Rat.divInt a b) := by
  rw [(low_rat h).1, (low_rat h).2]
  rfl
theorem sz_low {k : Nat} {a b : Int} (h : b ≠ 0) (ha : Sm k a) (hb : Sm k b) : Sz k (Rat.divInt a b) := by
  have n := low_nm h ha hb
  rw [(low_rat h).1, (low_rat h).2] at n
  exact ⟨n.sp, n.sq⟩
theorem Sm.add2 {n : Nat} {i j : Int} (h : Sm n i) (h' : Sm n j) : Sm (n + 1) (i + j) := by
  unfold Sm at *
  rw [Nat.pow_succ]
  omega
theorem Sm.sub2 {n : Nat} {i j : Int} (h : Sm n i) (h' : Sm n j) : Sm (n + 1) (i - j) := by
  rw [Int.sub_eq_add_neg]
  exact h.add2 h'.neg
theorem add_q_def (x y : Rat) : x + y = Rat.divInt (x.num * (y.den : Int) + y.num * (x.den : Int)) ((x.den : Int) * (y.den : Int)) := by
  have := Rat.divInt_add_divInt x.num y.num (den_ne x) (den_ne y)
  rwa [Rat.num_divInt_den, Rat.num_divInt_den] at this
theorem sub_q_def (x y : Rat) : x - y = Rat.divInt (x.num * (y.den : Int) - y.num * (x.den : Int)) ((x.den : Int) * (y.den : Int)) := by
  have := Rat.divInt_sub_divInt x.num y.num (den_ne x) (den_ne y)
  rwa [Rat.num_divInt_den, Rat.num_divInt_den] at this
theorem mul_q_def (x y : Rat) : x * y = Rat.divInt (x.num * y.num) ((x.den : Int) * (y.den : Int)) := by
  have := Rat.divInt_mul_divInt x.num y.num (d₁ := (x.den : Int)) (d₂ := (y.den : Int))
  rwa [Rat.num_divInt_den, Rat.num_divInt_den] at this
theorem div_q_def (x y : Rat) : x / y = Rat.divInt (x.num * (y.den : Int)) ((x.den : Int) * y.num) := by
  rw [Rat.div_def, Rat.inv_def]
  have := Rat.divInt_mul_divInt x.num (y.den : Int) (d₁ := (x.den : Int)) (d₂ := y.num)
  rwa [Rat.num_divInt_den] at this
theorem num_ne {y : Rat} (h : y ≠ 0) : y.num ≠ 0 := fun e => h (Rat.num_eq_zero.mp e)
theorem Sz.add {k m : Nat} {x y : Rat} (h : Sz k x) (h' : Sz m y) : Sz (k + m + 1) (x + y) := by
  rw [add_q_def]
  refine sz_low (Int.mul_ne_zero (den_ne x) (den_ne y)) ((h.num.mul h'.den).add2 ?_) ((h.den.mul h'.den).mono (by omega))
  rw [Nat.add_comm]
  exact h'.num.mul h.den
theorem Sz.sub {k m : Nat} {x y : Rat} (h : Sz k x) (h' : Sz m y) : Sz (k + m + 1) (x - y) := by
  rw [sub_q_def]
  refine sz_low (Int.mul_ne_zero (den_ne x) (den_ne y)) ((h.num.mul h'.den).sub2 ?_) ((h.den.mul h'.den).mono (by omega))
  rw [Nat.add_comm]
  exact h'.num.mul h.den
theorem Sz.mul {k m : Nat} {x y : Rat} (h : Sz k x) (h' : Sz m y) : Sz (k + m) (x * y) := by
  rw [mul_q_def]
  exact sz_low (Int.mul_ne_zero (den_ne x) (den_ne y)) (h.num.mul h'.num) (h.den.mul h'.den)
theorem Sz.div {k m : Nat} {x y : Rat} (h : Sz k x) (h' : Sz m y) (y0 : y ≠ 0) : Sz (k + m) (x / y) := by
  rw [div_q_def]
  exact sz_low (Int.mul_ne_zero (den_ne x) (num_ne y0)) (h.num.mul h'.den) (h.den.mul h'.num)
theorem eqD_q (x y : Rat) : eqD (qD x) (qD y) = .ok (decide (x = y)) := by
  unfold qD
  rw [eqD_pair]
  congr 1
  rw [← Bool.decide_and]
  congr 1
  exact propext ⟨fun h => Rat.ext h.1 (by have := h.2; omega), fun h => by rw [h]; exact ⟨rfl, rfl⟩⟩
/-- the order's word -/
def osgn (x y : Rat) : Int := if y < x then 1 else if x < y then -1 else 0
theorem osgn_eq (x y : Rat) : sgn (x.num * (y.den : Int) - y.num * (x.den : Int)) = osgn x y := by
  have a := Rat.lt_iff x y
  have b := Rat.lt_iff y x
  unfold sgn osgn
  by_cases c : y < x
  · rw [if_pos (by have := b.mp c; omega), if_pos c]
  · have c' : ¬ y.num * (x.den : Int) < x.num * (y.den : Int) := fun z => c (b.mpr z)
    rw [if_neg (by omega), if_neg c]
    by_cases g : x < y
    · rw [if_pos (by have := a.mp g; omega), if_pos g]
    · have g' : ¬ x.num * (y.den : Int) < y.num * (x.den : Int) := fun z => g (a.mpr z)
      rw [if_neg (by omega), if_neg g]
theorem eqD_bl (a b : Bool) : eqD (.bl a) (.bl b) = .ok (a == b) := by cases a <;> cases b <;> rfl
end RF

end S_SQ
section S_SP
set_option maxHeartbeats 4000000
/-! SP: programs as plain data. -/
namespace RF
open PySem PySem.Spec L2
theorem eqD_str {a b : Str} {r : Bool} (ha : SeqAt.shaped (.str a) = true) (hb : SeqAt.shaped (.str b) = true) (h : (a == b) = r) : eqD (.str a) (.str b) = .ok r := by
  simp only [eqD, D.toP, ha, hb, Bool.and_self, if_true, PyData.eqv, h]
theorem ev_inn {a b : RF.D} {l : List RF.D} {r : Bool} (hl : seqOf b = some l) (h : (flatD a && l.all flatD) = true) (hr : inD a l = r) : evCmp .inn a b = .ok (.bl r) := by
  have : evCmp .inn a b = match seqOf b with | some l => if (flatD a && l.all flatD) = true then .ok (.bl (inD a l)) else .bad | none => .bad := by cases a <;> cases b <;> rfl
  rw [this, hl]
  simp only [h, if_true, hr]
theorem ev_nin {a : RF.D} {l : List RF.D} (h : (flatD a && l.all flatD) = true) (hr : inD a l = true) : evCmp .nin a (.tup l) = .ok (.bl false) := by
  have : evCmp .nin a (.tup l) = if (flatD a && l.all flatD) = true then .ok (.bl (!inD a l)) else .bad := by cases a <;> rfl
  rw [this, if_pos h, hr]
  rfl
theorem kq_is_is : eqD (.str "is") (.str "is") = .ok true := eqD_str (by decide +kernel) (by decide +kernel) (by decide +kernel)
theorem kq_is_in : eqD (.str "is") (.str "in") = .ok false := eqD_str (by decide +kernel) (by decide +kernel) (by decide +kernel)
theorem kq_is_sum : eqD (.str "is") (.str "sum") = .ok false := eqD_str (by decide +kernel) (by decide +kernel) (by decide +kernel)
theorem kq_is_by : eqD (.str "is") (.str "by") = .ok false := eqD_str (by decide +kernel) (by decide +kernel) (by decide +kernel)
theorem kq_is_least : eqD (.str "is") (.str "least") = .ok false := eqD_str (by decide +kernel) (by decide +kernel) (by decide +kernel)
theorem kq_is_most : eqD (.str "is") (.str "most") = .ok false := eqD_str (by decide +kernel) (by decide +kernel) (by decide +kernel)
theorem kq_is_if : eqD (.str "is") (.str "if") = .ok false := eqD_str (by decide +kernel) (by decide +kernel) (by decide +kernel)
theorem kq_is_turns : eqD (.str "is") (.str "turns") = .ok false := eqD_str (by decide +kernel) (by decide +kernel) (by decide +kernel)
theorem kq_in_is : eqD (.str "in") (.str "is") = .ok false := eqD_str (by decide +kernel) (by decide +kernel) (by decide +kernel)
theorem kq_in_in : eqD (.str "in") (.str "in") = .ok true := eqD_str (by decide +kernel) (by decide +kernel) (by decide +kernel)
theorem kq_in_sum : eqD (.str "in") (.str "sum") = .ok false := eqD_str (by decide +kernel) (by decide +kernel) (by decide +kernel)
theorem kq_in_by : eqD (.str "in") (.str "by") = .ok false := eqD_str (by decide +kernel) (by decide +kernel) (by decide +kernel)
theorem kq_in_least : eqD (.str "in") (.str "least") = .ok false := eqD_str (by decide +kernel) (by decide +kernel) (by decide +kernel)
theorem kq_in_most : eqD (.str "in") (.str "most") = .ok false := eqD_str (by decide +kernel) (by decide +kernel) (by decide +kernel)
theorem kq_in_if : eqD (.str "in") (.str "if") = .ok false := eqD_str (by decide +kernel) (by decide +kernel) (by decide +kernel)
theorem kq_in_turns : eqD (.str "in") (.str "turns") = .ok false := eqD_str (by decide +kernel) (by decide +kernel) (by decide +kernel)
theorem kq_sum_is : eqD (.str "sum") (.str "is") = .ok false := eqD_str (by decide +kernel) (by decide +kernel) (by decide +kernel)
theorem kq_sum_in : eqD (.str "sum") (.str "in") = .ok false := eqD_str (by decide +kernel) (by decide +kernel) (by decide +kernel)
theorem kq_sum_sum : eqD (.str "sum") (.str "sum") = .ok true := eqD_str (by decide +kernel) (by decide +kernel) (by decide +kernel)
theorem kq_sum_by : eqD (.str "sum") (.str "by") = .ok false := eqD_str (by decide +kernel) (by decide +kernel) (by decide +kernel)
theorem kq_sum_least : eqD (.str "sum") (.str "least") = .ok false := eqD_str (by decide +kernel) (by decide +kernel) (by decide +kernel)
theorem kq_sum_most : eqD (.str "sum") (.str "most") = .ok false := eqD_str (by decide +kernel) (by decide +kernel) (by decide +kernel)
theorem kq_sum_if : eqD (.str "sum") (.str "if") = .ok false := eqD_str (by decide +kernel) (by decide +kernel) (by decide +kernel)
theorem kq_sum_turns : eqD (.str "sum") (.str "turns") = .ok false := eqD_str (by decide +kernel) (by decide +kernel) (by decide +kernel)
theorem kq_by_is : eqD (.str "by") (.str "is") = .ok false := eqD_str (by decide +kernel) (by decide +kernel) (by decide +kernel)
theorem kq_by_in : eqD (.str "by") (.str "in") = .ok false := eqD_str (by decide +kernel) (by decide +kernel) (by decide +kernel)
theorem kq_by_sum : eqD (.str "by") (.str "sum") = .ok false := eqD_str (by decide +kernel) (by decide +kernel) (by decide +kernel)
theorem kq_by_by : eqD (.str "by") (.str "by") = .ok true := eqD_str (by decide +kernel) (by decide +kernel) (by decide +kernel)
theorem kq_by_least : eqD (.str "by") (.str "least") = .ok false := eqD_str (by decide +kernel) (by decide +kernel) (by decide +kernel)
theorem kq_by_most : eqD (.str "by") (.str "most") = .ok false := eqD_str (by decide +kernel) (by decide +kernel) (by decide +kernel)
theorem kq_by_if : eqD (.str "by") (.str "if") = .ok false := eqD_str (by decide +kernel) (by decide +kernel) (by decide +kernel)
theorem kq_by_turns : eqD (.str "by") (.str "turns") = .ok false := eqD_str (by decide +kernel) (by decide +kernel) (by decide +kernel)
theorem kq_least_is : eqD (.str "least") (.str "is") = .ok false := eqD_str (by decide +kernel) (by decide +kernel) (by decide +kernel)
theorem kq_least_in : eqD (.str "least") (.str "in") = .ok false := eqD_str (by decide +kernel) (by decide +kernel) (by decide +kernel)
theorem kq_least_sum : eqD (.str "least") (.str "sum") = .ok false := eqD_str (by decide +kernel) (by decide +kernel) (by decide +kernel)
theorem kq_least_by : eqD (.str "least") (.str "by") = .ok false := eqD_str (by decide +kernel) (by decide +kernel) (by decide +kernel)
theorem kq_least_least : eqD (.str "least") (.str "least") = .ok true := eqD_str (by decide +kernel) (by decide +kernel) (by decide +kernel)
theorem kq_least_most : eqD (.str "least") (.str "most") = .ok false := eqD_str (by decide +kernel) (by decide +kernel) (by decide +kernel)
theorem kq_least_if : eqD (.str "least") (.str "if") = .ok false := eqD_str (by decide +kernel) (by decide +kernel) (by decide +kernel)
theorem kq_least_turns : eqD (.str "least") (.str "turns") = .ok false := eqD_str (by decide +kernel) (by decide +kernel) (by decide +kernel)
theorem kq_most_is : eqD (.str "most") (.str "is") = .ok false := eqD_str (by decide +kernel) (by decide +kernel) (by decide +kernel)
theorem kq_most_in : eqD (.str "most") (.str "in") = .ok false := eqD_str (by decide +kernel) (by decide +kernel) (by decide +kernel)
theorem kq_most_sum : eqD (.str "most") (.str "sum") = .ok false := eqD_str (by decide +kernel) (by decide +kernel) (by decide +kernel)
theorem kq_most_by : eqD (.str "most") (.str "by") = .ok false := eqD_str (by decide +kernel) (by decide +kernel) (by decide +kernel)
theorem kq_most_least : eqD (.str "most") (.str "least") = .ok false := eqD_str (by decide +kernel) (by decide +kernel) (by decide +kernel)
theorem kq_most_most : eqD (.str "most") (.str "most") = .ok true := eqD_str (by decide +kernel) (by decide +kernel) (by decide +kernel)
theorem kq_most_if : eqD (.str "most") (.str "if") = .ok false := eqD_str (by decide +kernel) (by decide +kernel) (by decide +kernel)
theorem kq_most_turns : eqD (.str "most") (.str "turns") = .ok false := eqD_str (by decide +kernel) (by decide +kernel) (by decide +kernel)
theorem kq_if_is : eqD (.str "if") (.str "is") = .ok false := eqD_str (by decide +kernel) (by decide +kernel) (by decide +kernel)
theorem kq_if_in : eqD (.str "if") (.str "in") = .ok false := eqD_str (by decide +kernel) (by decide +kernel) (by decide +kernel)
theorem kq_if_sum : eqD (.str "if") (.str "sum") = .ok false := eqD_str (by decide +kernel) (by decide +kernel) (by decide +kernel)
theorem kq_if_by : eqD (.str "if") (.str "by") = .ok false := eqD_str (by decide +kernel) (by decide +kernel) (by decide +kernel)
theorem kq_if_least : eqD (.str "if") (.str "least") = .ok false := eqD_str (by decide +kernel) (by decide +kernel) (by decide +kernel)
theorem kq_if_most : eqD (.str "if") (.str "most") = .ok false := eqD_str (by decide +kernel) (by decide +kernel) (by decide +kernel)
theorem kq_if_if : eqD (.str "if") (.str "if") = .ok true := eqD_str (by decide +kernel) (by decide +kernel) (by decide +kernel)
theorem kq_if_turns : eqD (.str "if") (.str "turns") = .ok false := eqD_str (by decide +kernel) (by decide +kernel) (by decide +kernel)
theorem kq_turns_is : eqD (.str "turns") (.str "is") = .ok false := eqD_str (by decide +kernel) (by decide +kernel) (by decide +kernel)
theorem kq_turns_in : eqD (.str "turns") (.str "in") = .ok false := eqD_str (by decide +kernel) (by decide +kernel) (by decide +kernel)
theorem kq_turns_sum : eqD (.str "turns") (.str "sum") = .ok false := eqD_str (by decide +kernel) (by decide +kernel) (by decide +kernel)
theorem kq_turns_by : eqD (.str "turns") (.str "by") = .ok false := eqD_str (by decide +kernel) (by decide +kernel) (by decide +kernel)
theorem kq_turns_least : eqD (.str "turns") (.str "least") = .ok false := eqD_str (by decide +kernel) (by decide +kernel) (by decide +kernel)
theorem kq_turns_most : eqD (.str "turns") (.str "most") = .ok false := eqD_str (by decide +kernel) (by decide +kernel) (by decide +kernel)
theorem kq_turns_if : eqD (.str "turns") (.str "if") = .ok false := eqD_str (by decide +kernel) (by decide +kernel) (by decide +kernel)
theorem kq_turns_turns : eqD (.str "turns") (.str "turns") = .ok true := eqD_str (by decide +kernel) (by decide +kernel) (by decide +kernel)
theorem kn_is : evCmp .nin (.str "is") (.tup [.str "is", .str "in", .str "sum", .str "by", .str "least", .str "most", .str "if", .str "turns"]) = .ok (.bl false) := by first | exact ev_nin (by decide +kernel) (by decide +kernel) | exact ev_inn rfl (by decide +kernel) (by decide +kernel)
theorem kc_is : evCmp .inn (.str "is") (.tup [.str "least", .str "most", .str "if"]) = .ok (.bl false) := by first | exact ev_nin (by decide +kernel) (by decide +kernel) | exact ev_inn rfl (by decide +kernel) (by decide +kernel)
theorem kl_is : evCmp .inn (.str "is") (.lst [.str "least", .str "most", .str "if"]) = .ok (.bl false) := by first | exact ev_nin (by decide +kernel) (by decide +kernel) | exact ev_inn rfl (by decide +kernel) (by decide +kernel)
theorem kn_in : evCmp .nin (.str "in") (.tup [.str "is", .str "in", .str "sum", .str "by", .str "least", .str "most", .str "if", .str "turns"]) = .ok (.bl false) := by first | exact ev_nin (by decide +kernel) (by decide +kernel) | exact ev_inn rfl (by decide +kernel) (by decide +kernel)
theorem kc_in : evCmp .inn (.str "in") (.tup [.str "least", .str "most", .str "if"]) = .ok (.bl false) := by first | exact ev_nin (by decide +kernel) (by decide +kernel) | exact ev_inn rfl (by decide +kernel) (by decide +kernel)
theorem kl_in : evCmp .inn (.str "in") (.lst [.str "least", .str "most", .str "if"]) = .ok (.bl false) := by first | exact ev_nin (by decide +kernel) (by decide +kernel) | exact ev_inn rfl (by decide +kernel) (by decide +kernel)
theorem kn_sum : evCmp .nin (.str "sum") (.tup [.str "is", .str "in", .str "sum", .str "by", .str "least", .str "most", .str "if", .str "turns"]) = .ok (.bl false) := by first | exact ev_nin (by decide +kernel) (by decide +kernel) | exact ev_inn rfl (by decide +kernel) (by decide +kernel)
theorem kc_sum : evCmp .inn (.str "sum") (.tup [.str "least", .str "most", .str "if"]) = .ok (.bl false) := by first | exact ev_nin (by decide +kernel) (by decide +kernel) | exact ev_inn rfl (by decide +kernel) (by decide +kernel)
theorem kl_sum : evCmp .inn (.str "sum") (.lst [.str "least", .str "most", .str "if"]) = .ok (.bl false) := by first | exact ev_nin (by decide +kernel) (by decide +kernel) | exact ev_inn rfl (by decide +kernel) (by decide +kernel)
theorem kn_by : evCmp .nin (.str "by") (.tup [.str "is", .str "in", .str "sum", .str "by", .str "least", .str "most", .str "if", .str "turns"]) = .ok (.bl false) := by first | exact ev_nin (by decide +kernel) (by decide +kernel) | exact ev_inn rfl (by decide +kernel) (by decide +kernel)
theorem kc_by : evCmp .inn (.str "by") (.tup [.str "least", .str "most", .str "if"]) = .ok (.bl false) := by first | exact ev_nin (by decide +kernel) (by decide +kernel) | exact ev_inn rfl (by decide +kernel) (by decide +kernel)
theorem kl_by : evCmp .inn (.str "by") (.lst [.str "least", .str "most", .str "if"]) = .ok (.bl false) := by first | exact ev_nin (by decide +kernel) (by decide +kernel) | exact ev_inn rfl (by decide +kernel) (by decide +kernel)
theorem kn_least : evCmp .nin (.str "least") (.tup [.str "is", .str "in", .str "sum", .str "by", .str "least", .str "most", .str "if", .str "turns"]) = .ok (.bl false) := by first | exact ev_nin (by decide +kernel) (by decide +kernel) | exact ev_inn rfl (by decide +kernel) (by decide +kernel)
theorem kc_least : evCmp .inn (.str "least") (.tup [.str "least", .str "most", .str "if"]) = .ok (.bl true) := by first | exact ev_nin (by decide +kernel) (by decide +kernel) | exact ev_inn rfl (by decide +kernel) (by decide +kernel)
theorem kl_least : evCmp .inn (.str "least") (.lst [.str "least", .str "most", .str "if"]) = .ok (.bl true) := by first | exact ev_nin (by decide +kernel) (by decide +kernel) | exact ev_inn rfl (by decide +kernel) (by decide +kernel)
theorem kn_most : evCmp .nin (.str "most") (.tup [.str "is", .str "in", .str "sum", .str "by", .str "least", .str "most", .str "if", .str "turns"]) = .ok (.bl false) := by first | exact ev_nin (by decide +kernel) (by decide +kernel) | exact ev_inn rfl (by decide +kernel) (by decide +kernel)
theorem kc_most : evCmp .inn (.str "most") (.tup [.str "least", .str "most", .str "if"]) = .ok (.bl true) := by first | exact ev_nin (by decide +kernel) (by decide +kernel) | exact ev_inn rfl (by decide +kernel) (by decide +kernel)
theorem kl_most : evCmp .inn (.str "most") (.lst [.str "least", .str "most", .str "if"]) = .ok (.bl true) := by first | exact ev_nin (by decide +kernel) (by decide +kernel) | exact ev_inn rfl (by decide +kernel) (by decide +kernel)
theorem kn_if : evCmp .nin (.str "if") (.tup [.str "is", .str "in", .str "sum", .str "by", .str "least", .str "most", .str "if", .str "turns"]) = .ok (.bl false) := by first | exact ev_nin (by decide +kernel) (by decide +kernel) | exact ev_inn rfl (by decide +kernel) (by decide +kernel)
theorem kc_if : evCmp .inn (.str "if") (.tup [.str "least", .str "most", .str "if"]) = .ok (.bl true) := by first | exact ev_nin (by decide +kernel) (by decide +kernel) | exact ev_inn rfl (by decide +kernel) (by decide +kernel)
theorem kl_if : evCmp .inn (.str "if") (.lst [.str "least", .str "most", .str "if"]) = .ok (.bl true) := by first | exact ev_nin (by decide +kernel) (by decide +kernel) | exact ev_inn rfl (by decide +kernel) (by decide +kernel)
theorem kn_turns : evCmp .nin (.str "turns") (.tup [.str "is", .str "in", .str "sum", .str "by", .str "least", .str "most", .str "if", .str "turns"]) = .ok (.bl false) := by first | exact ev_nin (by decide +kernel) (by decide +kernel) | exact ev_inn rfl (by decide +kernel) (by decide +kernel)
theorem kc_turns : evCmp .inn (.str "turns") (.tup [.str "least", .str "most", .str "if"]) = .ok (.bl false) := by first | exact ev_nin (by decide +kernel) (by decide +kernel) | exact ev_inn rfl (by decide +kernel) (by decide +kernel)
theorem kl_turns : evCmp .inn (.str "turns") (.lst [.str "least", .str "most", .str "if"]) = .ok (.bl false) := by first | exact ev_nin (by decide +kernel) (by decide +kernel) | exact ev_inn rfl (by decide +kernel) (by decide +kernel)
theorem kqs : (eqD (.str "is") (.str "is") = .ok true) ∧ (eqD (.str "is") (.str "in") = .ok false) ∧ (eqD (.str "is") (.str "sum") = .ok false) ∧ (eqD (.str "is") (.str "by") = .ok false) ∧ (eqD (.str "is") (.str "least") = .ok false) ∧ (eqD (.str "is") (.str "most") = .ok false) ∧ (eqD (.str "is") (.str "if") = .ok false) ∧ (eqD (.str "is") (.str "turns") = .ok false) ∧ (eqD (.str "in") (.str "is") = .ok false) ∧ (eqD (.str "in") (.str "in") = .ok true) ∧ (eqD (.str "in") (.str "sum") = .ok false) ∧ (eqD (.str "in") (.str "by") = .ok false) ∧ (eqD (.str "in") (.str "least") = .ok false) ∧ (eqD (.str "in") (.str "most") = .ok false) ∧ (eqD (.str "in") (.str "if") = .ok false) ∧ (eqD (.str "in") (.str "turns") = .ok false) ∧ (eqD (.str "sum") (.str "is") = .ok false) ∧ (eqD (.str "sum") (.str "in") = .ok false) ∧ (eqD (.str "sum") (.str "sum") = .ok true) ∧ (eqD (.str "sum") (.str "by") = .ok false) ∧ (eqD (.str "sum") (.str "least") = .ok false) ∧ (eqD (.str "sum") (.str "most") = .ok false) ∧ (eqD (.str "sum") (.str "if") = .ok false) ∧ (eqD (.str "sum") (.str "turns") = .ok false) ∧ (eqD (.str "by") (.str "is") = .ok false) ∧ (eqD (.str "by") (.str "in") = .ok false) ∧ (eqD (.str "by") (.str "sum") = .ok false) ∧ (eqD (.str "by") (.str "by") = .ok true) ∧ (eqD (.str "by") (.str "least") = .ok false) ∧ (eqD (.str "by") (.str "most") = .ok false) ∧ (eqD (.str "by") (.str "if") = .ok false) ∧ (eqD (.str "by") (.str "turns") = .ok false) ∧ (eqD (.str "least") (.str "is") = .ok false) ∧ (eqD (.str "least") (.str "in") = .ok false) ∧ (eqD (.str "least") (.str "sum") = .ok false) ∧ (eqD (.str "least") (.str "by") = .ok false) ∧ (eqD (.str "least") (.str "least") = .ok true) ∧ (eqD (.str "least") (.str "most") = .ok false) ∧ (eqD (.str "least") (.str "if") = .ok false) ∧ (eqD (.str "least") (.str "turns") = .ok false) ∧ (eqD (.str "most") (.str "is") = .ok false) ∧ (eqD (.str "most") (.str "in") = .ok false) ∧ (eqD (.str "most") (.str "sum") = .ok false) ∧ (eqD (.str "most") (.str "by") = .ok false) ∧ (eqD (.str "most") (.str "least") = .ok false) ∧ (eqD (.str "most") (.str "most") = .ok true) ∧ (eqD (.str "most") (.str "if") = .ok false) ∧ (eqD (.str "most") (.str "turns") = .ok false) ∧ (eqD (.str "if") (.str "is") = .ok false) ∧ (eqD (.str "if") (.str "in") = .ok false) ∧ (eqD (.str "if") (.str "sum") = .ok false) ∧ (eqD (.str "if") (.str "by") = .ok false) ∧ (eqD (.str "if") (.str "least") = .ok false) ∧ (eqD (.str "if") (.str "most") = .ok false) ∧ (eqD (.str "if") (.str "if") = .ok true) ∧ (eqD (.str "if") (.str "turns") = .ok false) ∧ (eqD (.str "turns") (.str "is") = .ok false) ∧ (eqD (.str "turns") (.str "in") = .ok false) ∧ (eqD (.str "turns") (.str "sum") = .ok false) ∧ (eqD (.str "turns") (.str "by") = .ok false) ∧ (eqD (.str "turns") (.str "least") = .ok false) ∧ (eqD (.str "turns") (.str "most") = .ok false) ∧ (eqD (.str "turns") (.str "if") = .ok false) ∧ (eqD (.str "turns") (.str "turns") = .ok true) ∧ (evCmp .nin (.str "is") (.tup [.str "is", .str "in", .str "sum", .str "by", .str "least", .str "most", .str "if", .str "turns"]) = .ok (.bl false)) ∧ (evCmp .inn (.str "is") (.tup [.str "least", .str "most", .str "if"]) = .ok (.bl false)) ∧ (evCmp .inn (.str "is") (.lst [.str "least", .str "most", .str "if"]) = .ok (.bl false)) ∧ (evCmp .nin (.str "in") (.tup [.str "is", .str "in", .str "sum", .str "by", .str "least", .str "most", .str "if", .str "turns"]) = .ok (.bl false)) ∧ (evCmp .inn (.str "in") (.tup [.str "least", .str "most", .str "if"]) = .ok (.bl false)) ∧ (evCmp .inn (.str "in") (.lst [.str "least", .str "most", .str "if"]) = .ok (.bl false)) ∧ (evCmp .nin (.str "sum") (.tup [.str "is", .str "in", .str "sum", .str "by", .str "least", .str "most", .str "if", .str "turns"]) = .ok (.bl false)) ∧ (evCmp .inn (.str "sum") (.tup [.str "least", .str "most", .str "if"]) = .ok (.bl false)) ∧ (evCmp .inn (.str "sum") (.lst [.str "least", .str "most", .str "if"]) = .ok (.bl false)) ∧ (evCmp .nin (.str "by") (.tup [.str "is", .str "in", .str "sum", .str "by", .str "least", .str "most", .str "if", .str "turns"]) = .ok (.bl false)) ∧ (evCmp .inn (.str "by") (.tup [.str "least", .str "most", .str "if"]) = .ok (.bl false)) ∧ (evCmp .inn (.str "by") (.lst [.str "least", .str "most", .str "if"]) = .ok (.bl false)) ∧ (evCmp .nin (.str "least") (.tup [.str "is", .str "in", .str "sum", .str "by", .str "least", .str "most", .str "if", .str "turns"]) = .ok (.bl false)) ∧ (evCmp .inn (.str "least") (.tup [.str "least", .str "most", .str "if"]) = .ok (.bl true)) ∧ (evCmp .inn (.str "least") (.lst [.str "least", .str "most", .str "if"]) = .ok (.bl true)) ∧ (evCmp .nin (.str "most") (.tup [.str "is", .str "in", .str "sum", .str "by", .str "least", .str "most", .str "if", .str "turns"]) = .ok (.bl false)) ∧ (evCmp .inn (.str "most") (.tup [.str "least", .str "most", .str "if"]) = .ok (.bl true)) ∧ (evCmp .inn (.str "most") (.lst [.str "least", .str "most", .str "if"]) = .ok (.bl true)) ∧ (evCmp .nin (.str "if") (.tup [.str "is", .str "in", .str "sum", .str "by", .str "least", .str "most", .str "if", .str "turns"]) = .ok (.bl false)) ∧ (evCmp .inn (.str "if") (.tup [.str "least", .str "most", .str "if"]) = .ok (.bl true)) ∧ (evCmp .inn (.str "if") (.lst [.str "least", .str "most", .str "if"]) = .ok (.bl true)) ∧ (evCmp .nin (.str "turns") (.tup [.str "is", .str "in", .str "sum", .str "by", .str "least", .str "most", .str "if", .str "turns"]) = .ok (.bl false)) ∧ (evCmp .inn (.str "turns") (.tup [.str "least", .str "most", .str "if"]) = .ok (.bl false)) ∧ (evCmp .inn (.str "turns") (.lst [.str "least", .str "most", .str "if"]) = .ok (.bl false)) := ⟨kq_is_is, kq_is_in, kq_is_sum, kq_is_by, kq_is_least, kq_is_most, kq_is_if, kq_is_turns, kq_in_is, kq_in_in, kq_in_sum, kq_in_by, kq_in_least, kq_in_most, kq_in_if, kq_in_turns, kq_sum_is, kq_sum_in, kq_sum_sum, kq_sum_by, kq_sum_least, kq_sum_most, kq_sum_if, kq_sum_turns, kq_by_is, kq_by_in, kq_by_sum, kq_by_by, kq_by_least, kq_by_most, kq_by_if, kq_by_turns, kq_least_is, kq_least_in, kq_least_sum, kq_least_by, kq_least_least, kq_least_most, kq_least_if, kq_least_turns, kq_most_is, kq_most_in, kq_most_sum, kq_most_by, kq_most_least, kq_most_most, kq_most_if, kq_most_turns, kq_if_is, kq_if_in, kq_if_sum, kq_if_by, kq_if_least, kq_if_most, kq_if_if, kq_if_turns, kq_turns_is, kq_turns_in, kq_turns_sum, kq_turns_by, kq_turns_least, kq_turns_most, kq_turns_if, kq_turns_turns, kn_is, kc_is, kl_is, kn_in, kc_in, kl_in, kn_sum, kc_sum, kl_sum, kn_by, kc_by, kl_by, kn_least, kc_least, kl_least, kn_most, kc_most, kl_most, kn_if, kc_if, kl_if, kn_turns, kc_turns, kl_turns⟩
/-- a step without turns -/
inductive B1 where
  | is (x : Rat) | inp (k : Nat) | sum (i j : Nat) | by (x : Rat) (i : Nat) | least (i j : Nat) | most (i j : Nat) | iff (i j k : Nat)
inductive Stp where
  | b (s : B1) | turns (m i : Nat) (l : List B1)
def B1.D : B1 → RF.D
  | .is x => .tup [.str "is", qD x]
  | .inp k => .tup [.str "in", .int k]
  | .sum i j => .tup [.str "sum", .int i, .int j]
  | .by x i => .tup [.str "by", qD x, .int i]
  | .least i j => .tup [.str "least", .int i, .int j]
  | .most i j => .tup [.str "most", .int i, .int j]
  | .iff i j k => .tup [.str "if", .int i, .int j, .int k]
def Stp.D : Stp → RF.D
  | .b s => s.D
  | .turns m i l => .tup [.str "turns", .int m, .int i, .lst (l.map B1.D)]
def B1.ok (a inp : Nat) : B1 → Prop
  | .is x => Sz 100 x
  | .inp k => k < inp
  | .sum i j => i < a ∧ j < a
  | .by x i => Sz 100 x ∧ i < a
  | .least i j => i < a ∧ j < a
  | .most i j => i < a ∧ j < a
  | .iff i j k => i < a ∧ j < a ∧ k < a
/-- all of them right, and some -/
def okB (inp : Nat) (l : List B1) : Prop := 1 ≤ l.length ∧ l.length ≤ 120 ∧ ∀ (i : Nat) s, l[i]? = some s → s.ok i inp
def Stp.ok (a inp : Nat) : Stp → Prop
  | .b s => s.ok a inp
  | .turns m i l => m ≤ 6 ∧ i < a ∧ okB 1 l
def okS (inp : Nat) (l : List Stp) : Prop := 1 ≤ l.length ∧ l.length ≤ 120 ∧ ∀ (i : Nat) s, l[i]? = some s → s.ok i inp
def B1.ch : B1 → Nat
  | .least _ _ => 1
  | .most _ _ => 1
  | .iff _ _ _ => 1
  | _ => 0
def chB (l : List B1) : Nat := (l.map B1.ch).sum
def Stp.run : Stp → Nat
  | .b _ => 1
  | .turns m _ l => 1 + m * l.length
def Stp.ch : Stp → Nat
  | .b s => s.ch
  | .turns m _ l => m * chB l
def runS (l : List Stp) : Nat := (l.map Stp.run).sum
def chS (l : List Stp) : Nat := (l.map Stp.ch).sum
theorem sum_take {α : Type} (f : α → Nat) {l : List α} {i : Nat} {x : α} (h : l[i]? = some x) : ((l.take (i + 1)).map f).sum = ((l.take i).map f).sum + f x := by
  rw [List.take_succ, h]
  simp
/-! ### comprehensions and loops -/
theorem compF_const {f : RF.D → R (Option RF.D)} {l : List RF.D} {y : RF.D} (h : ∀ x ∈ l, f x = .ok (some y)) : compF f l = .ok (List.replicate l.length y) := by
  induction l with
  | nil => rfl
  | cons x xs ih =>
    simp only [compF, h x List.mem_cons_self, ih fun z hz => h z (List.mem_cons_of_mem x hz), R.bind_ok, List.length_cons, List.replicate_succ]
theorem bools_rep (n : Nat) (b : Bool) : bools (List.replicate n (.bl b)) = some (List.replicate n b) := by
  induction n with
  | zero => rfl
  | succ n ih => simp only [List.replicate_succ, bools, ih, Option.map_some]
theorem all_rep (n : Nat) : (List.replicate n true).all id = true := by
  induction n with
  | zero => rfl
  | succ n ih => simp only [List.replicate_succ, List.all_cons, ih, id, Bool.and_self]
theorem any_rep (n : Nat) : (List.replicate n false).any id = false := by
  induction n with
  | zero => rfl
  | succ n ih => simp only [List.replicate_succ, List.any_cons, ih, id, Bool.or_self]
theorem enum_mem {k : Nat} {l : List RF.D} {x : RF.D} (h : x ∈ enumD k l) : ∃ i d, l[i]? = some d ∧ x = .tup [.int ((k + i : Nat) : Int), d] := by
  induction l generalizing k with
  | nil => exact nomatch h
  | cons y r ih =>
    rcases List.mem_cons.mp h with h | h
    · exact ⟨0, y, rfl, h⟩
    · obtain ⟨i, d, h1, h2⟩ := ih h
      exact ⟨i + 1, d, h1, by rw [h2, Nat.add_assoc, Nat.add_comm 1]⟩
theorem enum_len (k : Nat) (l : List RF.D) : (enumD k l).length = l.length := by
  induction l generalizing k with
  | nil => rfl
  | cons y r ih => simp only [enumD, List.length_cons, ih]
theorem enum_get {k i : Nat} {l : List RF.D} : (enumD k l)[i]? = (l[i]?).map fun d => .tup [.int ((k + i : Nat) : Int), d] := by
  induction l generalizing k i with
  | nil => rfl
  | cons y r ih =>
    cases i with
    | zero => rfl
    | succ i =>
      simp only [enumD, List.getElem?_cons_succ, ih]
      rw [Nat.add_assoc, Nat.add_comm 1]
theorem loop_idx {g : Tg} {f : Env → R Out} {l : List RF.D} : ∀ {I : Nat → Env → Prop} {ρ : Env}, (∀ i x ρ, l[i]? = some x → I i ρ → ∃ ρ1, bindT g x ρ = .ok ρ1 ∧ ∃ ρ2, f ρ1 = .ok (.nx ρ2) ∧ I (i + 1) ρ2) → I 0 ρ → ∃ ρ', loopF g f l ρ = .ok (.nx ρ') ∧ I l.length ρ' := by
  induction l with
  | nil => exact fun _ h => ⟨_, rfl, h⟩
  | cons x xs ih =>
    intro I ρ hs h
    obtain ⟨ρ1, h1, ρ2, h2, h3⟩ := hs 0 x ρ rfl h
    obtain ⟨ρ', h4, h5⟩ := ih (I := fun i => I (i + 1)) (fun i y ρ hy hI => hs (i + 1) y ρ hy hI) h3
    exact ⟨ρ', by simp only [loopF, h1, R.bind_ok, h2, h4], h5⟩
theorem frz_o (e : CE) (d : RF.D) (i : Nat) (l : List RF.D) (r : Env) : frzAt e d i (.own l :: r) = (if (e.men i && D.occ l d) = true then .val (.lst l) else .own l) :: frzAt e d (i + 1) r := (rfl)
theorem hold_o (e : CE) (i : Nat) (l : List RF.D) (r : Env) : holdAt e i (.own l :: r) = (if e.men i = true then .val (.lst l) else .own l) :: holdAt e (i + 1) r := (rfl)
theorem hold_q {s : Slot} (h : NoOwn s) (e : CE) (i : Nat) (r : Env) : holdAt e i (s :: r) = s :: holdAt e (i + 1) r := by
  cases s with
  | no => rfl
  | val x => rfl
  | own l => exact absurd rfl (h l)
theorem own_0 (l : List RF.D) (r : Env) : ownAt (.own l :: r) 0 = some l := (rfl)
theorem own_s (s : Slot) (r : Env) (i : Nat) : ownAt (s :: r) (i + 1) = ownAt r i := (rfl)
theorem put_t (e : CE) (l : List RF.D) (h : e.fresh = true) : put true e (.lst l) = .ok (.own l, .tup l) := by simp only [put, if_true, h]
theorem part_nil (r : R RF.D) : partOf .nil r = .ok none := (rfl)
theorem part_c (d : RF.D) (i : Int) : partOf (.c d) (.ok (.int i)) = .ok (some i) := (rfl)
theorem part_v (k : Nat) (i : Int) : partOf (.var k) (.ok (.int i)) = .ok (some i) := (rfl)
theorem sl_t41 (a b c d : RF.D) : evSl (.tup [a, b, c, d]) (some 1) none = .ok (.tup [b, c, d]) := (rfl)
theorem sl_t43 (a b c d : RF.D) : evSl (.tup [a, b, c, d]) none (some 3) = .ok (.tup [a, b, c]) := (rfl)
theorem it_l (l : List RF.D) : itemsOf .seq (.lst l) = .ok l := (rfl)
theorem it_t (l : List RF.D) : itemsOf .seq (.tup l) = .ok l := (rfl)
theorem it_enum (l : List RF.D) : itemsOf .enum (.tup [.lst l]) = .ok (enumD 0 l) := (rfl)
end RF

end S_SP
section S_LN
set_option maxHeartbeats 4000000
namespace RF
open PySem PySem.Spec L2
local macro_rules
  | `(tactic| simp_arith [$ts,*]) => `(tactic| simp only [exec, evalE, R.bind_ok, R.bind_exc, slot_0, slot_s, sd_v, sd_o, List.set_cons_zero, List.set_cons_succ, frz_def, frz_v, frz_n, frz_0, hold_rng, hold_seq, hold_v, hold_n, hold_0, put_f, truth_bl, onT_t, onT_f, ev_lt, ev_le, ev_gt, ev_ge, ev_eq, ev_ne, ev_isN, ev_notN, eqD_int, eqD_pair, rb_len_t2, rb_len_t3, rb_len_l, rb_abs, rb_min, rb_list_l, rb_list_t, rb_tuple_l, rb_tuple_t, rb_all, rb_any, rb_sum, idx_t0, idx_t1, idx_t2, bin_add, bin_sub, out_rt, out_rl, outF_rl, asL, out_nx, len_0, len_1, len_2, len_3, len_4, Bool.not_true, Bool.not_false, if_true, if_false, reduceIte, decide_true, decide_false, eq_self, Nat.reduceAdd, withO_s, rb_len_t4, idx_t3, Int.reduceLT, Int.reduceLE, Int.reduceEq, Int.reduceNeg, Int.reduceAdd, frz_o, hold_o, own_0, own_s, CE.men, Nat.reduceBEq, Bool.false_and, Bool.true_and, Bool.and_true, Bool.and_false, Bool.or_false, Bool.false_or, kqs, part_nil, part_c, part_v, sl_t41, sl_t43, it_l, it_t, it_enum, tys, wipeS, bindT, bindL, Bool.false_eq_true, asL_l, Int.natCast_one, Int.natCast_zero, D.occ, D.occs, List.length_map, $ts,*])
variable {tab : List Fn} [Ext tab]
theorem is_whole_int (n : Nat) (i : Int) : CF tab (n + 1) f_is_whole [.int i] = .ok (.bl true) := by
  rw [go_is_whole]
  simp_arith [b_is_whole]
theorem common_ok (n : Nat) {a b : Int} (hb : Sm 8000 b) : CF tab (n + 1) f_common [.int a, .int b] = .ok (.int (Nat.gcd a.natAbs b.natAbs : Int)) := by
  rw [go_common]
  simp_arith [b_common]
  rw [euclid (st := fun x y => [.val (.int x), .val (.int y)]) (fun x y => ?_) (fun x y h => ?_) 8000 a.natAbs b.natAbs FU hb (by decide)]
  · simp_arith []
  · simp_arith []
    simp
  · simp_arith [l_common_0]
    rw [bin_mod (by omega)]
    simp_arith [fmod_nat]
theorem is_number_ok (n : Nat) {p q : Int} (h : Nm 8000 p q) : CF tab (n + 2) f_is_number [.tup [.int p, .int q]] = .ok (.bl true) := by
  rw [go_is_number]
  simp_arith [b_is_number, is_whole_int, common_ok _ h.sq, h.gcd, h.pos, List.length_cons, List.length_nil]
theorem asked_ok (n : Nat) {p q : Int} (h : Nm 8000 p q) : CF tab (n + 3) f_asked_number [.tup [.int p, .int q]] = .ok .non := by
  rw [go_asked_number]
  simp_arith [b_asked_number, is_number_ok _ h]
theorem lowest_ok (n : Nat) {a b : Int} (h : b ≠ 0) (hb : Sm 8000 b) : CF tab (n + 2) f_lowest [.int a, .int b] = .ok (.tup [.int (lowP a b), .int (lowQ a b)]) := by
  rw [go_lowest]
  have e := lby_ne (a := a) h
  have s := lby_sm (a := a) h hb
  by_cases c : b < 0
  · have l : lby a b = -(Nat.gcd a.natAbs b.natAbs : Int) := by unfold lby; rw [if_pos c]
    simp_arith [b_lowest, common_ok _ hb, c, decide_true]
    rw [← l]
    simp_arith [bin_fdiv e s, List.length_cons, List.length_nil]
    rfl
  · have l : lby a b = (Nat.gcd a.natAbs b.natAbs : Int) := by unfold lby; rw [if_neg c]
    simp_arith [b_lowest, common_ok _ hb, c, decide_false]
    rw [← l]
    simp_arith [bin_fdiv e s, List.length_cons, List.length_nil]
    rfl
theorem made_ok (n : Nat) {a b : Int} (h : b ≠ 0) (hb : Sm 8000 b) : CF tab (n + 3) f_made [.int a, .int b] = .ok (.tup [.int (lowP a b), .int (lowQ a b)]) := by
  rw [go_made]
  simp_arith [b_made, is_whole_int, h, decide_false, lowest_ok _ h hb]
theorem add_ok (n : Nat) {p q r s : Int} (h : Nm 3000 p q) (h' : Nm 3000 r s) : CF tab (n + 3) f_add [nmD p q, nmD r s] = .ok (nmD (lowP (p * s + r * q) (q * s)) (lowQ (p * s + r * q) (q * s))) := by
  rw [go_add]
  have a := h.mono (m := 8000) (by decide)
  have b := h'.mono (m := 8000) (by decide)
  have z : q * s ≠ 0 := Int.mul_ne_zero (by have := h.pos; omega) (by have := h'.pos; omega)
  simp_arith [b_add, bin_mul a.sp b.sq, bin_mul b.sp a.sq, bin_mul a.sq b.sq, lowest_ok _ z ((h.sq.mul h'.sq).mono (by decide))]
theorem cut_ok (n : Nat) {p q r s : Int} (h : Nm 3000 p q) (h' : Nm 3000 r s) : CF tab (n + 3) f_cut [nmD p q, nmD r s] = .ok (nmD (lowP (p * s - r * q) (q * s)) (lowQ (p * s - r * q) (q * s))) := by
  rw [go_cut]
  have a := h.mono (m := 8000) (by decide)
  have b := h'.mono (m := 8000) (by decide)
  have z : q * s ≠ 0 := Int.mul_ne_zero (by have := h.pos; omega) (by have := h'.pos; omega)
  simp_arith [b_cut, bin_mul a.sp b.sq, bin_mul b.sp a.sq, bin_mul a.sq b.sq, lowest_ok _ z ((h.sq.mul h'.sq).mono (by decide))]
theorem grow_ok (n : Nat) {p q r s : Int} (h : Nm 3000 p q) (h' : Nm 3000 r s) : CF tab (n + 3) f_grow [nmD p q, nmD r s] = .ok (nmD (lowP (p * r) (q * s)) (lowQ (p * r) (q * s))) := by
  rw [go_grow]
  have a := h.mono (m := 8000) (by decide)
  have b := h'.mono (m := 8000) (by decide)
  have z : q * s ≠ 0 := Int.mul_ne_zero (by have := h.pos; omega) (by have := h'.pos; omega)
  simp_arith [b_grow, bin_mul a.sp b.sp, bin_mul a.sq b.sq, lowest_ok _ z ((h.sq.mul h'.sq).mono (by decide))]
theorem parted_ok (n : Nat) {p q r s : Int} (h : Nm 3000 p q) (h' : Nm 3000 r s) (hr : r ≠ 0) : CF tab (n + 3) f_part [nmD p q, nmD r s] = .ok (nmD (lowP (p * s) (q * r)) (lowQ (p * s) (q * r))) := by
  rw [go_part]
  have a := h.mono (m := 8000) (by decide)
  have b := h'.mono (m := 8000) (by decide)
  have z : q * r ≠ 0 := Int.mul_ne_zero (by have := h.pos; omega) hr
  simp_arith [b_part, bin_mul a.sp b.sq, bin_mul a.sq b.sp, lowest_ok _ z ((h.sq.mul h'.sp).mono (by decide))]
theorem lies_ok (n : Nat) {p q r s : Int} (h : Nm 3000 p q) (h' : Nm 3000 r s) : CF tab (n + 1) f_lies [nmD p q, nmD r s] = .ok (.int (sgn (p * s - r * q))) := by
  rw [go_lies]
  have a := h.mono (m := 8000) (by decide)
  have b := h'.mono (m := 8000) (by decide)
  simp_arith [b_lies, bin_mul a.sp b.sq, bin_mul b.sp a.sq]
  unfold sgn
  by_cases c : 0 < p * s - r * q
  · simp_arith [c, decide_true]
  · by_cases c' : p * s - r * q < 0
    · simp_arith [c, c', decide_true, decide_false]
    · simp_arith [c, c', decide_true, decide_false]
theorem plus_ok (n : Nat) {p q r s : Int} (h : Nm 3000 p q) (h' : Nm 3000 r s) : CF tab (n + 4) f_plus [nmD p q, nmD r s] = .ok (nmD (lowP (p * s + r * q) (q * s)) (lowQ (p * s + r * q) (q * s))) := by
  rw [go_plus]
  simp_arith [b_plus, asked_ok _ (h.mono (m := 8000) (by decide)), asked_ok _ (h'.mono (m := 8000) (by decide)), add_ok _ h h']
theorem less_ok (n : Nat) {p q r s : Int} (h : Nm 3000 p q) (h' : Nm 3000 r s) : CF tab (n + 4) f_less [nmD p q, nmD r s] = .ok (nmD (lowP (p * s - r * q) (q * s)) (lowQ (p * s - r * q) (q * s))) := by
  rw [go_less]
  simp_arith [b_less, asked_ok _ (h.mono (m := 8000) (by decide)), asked_ok _ (h'.mono (m := 8000) (by decide)), cut_ok _ h h']
theorem times_ok (n : Nat) {p q r s : Int} (h : Nm 3000 p q) (h' : Nm 3000 r s) : CF tab (n + 4) f_times [nmD p q, nmD r s] = .ok (nmD (lowP (p * r) (q * s)) (lowQ (p * r) (q * s))) := by
  rw [go_times]
  simp_arith [b_times, asked_ok _ (h.mono (m := 8000) (by decide)), asked_ok _ (h'.mono (m := 8000) (by decide)), grow_ok _ h h']
theorem over_ok (n : Nat) {p q r s : Int} (h : Nm 3000 p q) (h' : Nm 3000 r s) (hr : r ≠ 0) : CF tab (n + 4) f_over [nmD p q, nmD r s] = .ok (nmD (lowP (p * s) (q * r)) (lowQ (p * s) (q * r))) := by
  rw [go_over]
  simp_arith [b_over, asked_ok _ (h.mono (m := 8000) (by decide)), asked_ok _ (h'.mono (m := 8000) (by decide)), hr, decide_false, parted_ok _ h h' hr]
theorem order_ok (n : Nat) {p q r s : Int} (h : Nm 3000 p q) (h' : Nm 3000 r s) : CF tab (n + 4) f_order [nmD p q, nmD r s] = .ok (.int (sgn (p * s - r * q))) := by
  rw [go_order]
  simp_arith [b_order, asked_ok _ (h.mono (m := 8000) (by decide)), asked_ok _ (h'.mono (m := 8000) (by decide)), lies_ok _ h h']

theorem is_number_q (n : Nat) {x : Rat} (h : Sz 8000 x) : CF tab (n + 2) f_is_number [qD x] = .ok (.bl true) := is_number_ok n h.nm
theorem lowest_q (n : Nat) {a b : Int} (h : b ≠ 0) (hb : Sm 8000 b) : CF tab (n + 2) f_lowest [.int a, .int b] = .ok (qD (Rat.divInt a b)) := by rw [← low_q h]; exact lowest_ok n h hb
theorem made_q (n : Nat) {a b : Int} (h : b ≠ 0) (hb : Sm 8000 b) : CF tab (n + 3) f_made [.int a, .int b] = .ok (qD (Rat.divInt a b)) := by rw [← low_q h]; exact made_ok n h hb
theorem add_q (n : Nat) {x y : Rat} (h : Sz 3000 x) (h' : Sz 3000 y) : CF tab (n + 3) f_add [qD x, qD y] = .ok (qD (x + y)) := by
  rw [add_q_def, ← low_q (Int.mul_ne_zero (den_ne x) (den_ne y))]
  exact add_ok n h.nm h'.nm
theorem cut_q (n : Nat) {x y : Rat} (h : Sz 3000 x) (h' : Sz 3000 y) : CF tab (n + 3) f_cut [qD x, qD y] = .ok (qD (x - y)) := by
  rw [sub_q_def, ← low_q (Int.mul_ne_zero (den_ne x) (den_ne y))]
  exact cut_ok n h.nm h'.nm
theorem grow_q (n : Nat) {x y : Rat} (h : Sz 3000 x) (h' : Sz 3000 y) : CF tab (n + 3) f_grow [qD x, qD y] = .ok (qD (x * y)) := by
  rw [mul_q_def, ← low_q (Int.mul_ne_zero (den_ne x) (den_ne y))]
  exact grow_ok n h.nm h'.nm
theorem part_q (n : Nat) {x y : Rat} (h : Sz 3000 x) (h' : Sz 3000 y) (y0 : y ≠ 0) : CF tab (n + 3) f_part [qD x, qD y] = .ok (qD (x / y)) := by
  rw [div_q_def, ← low_q (Int.mul_ne_zero (den_ne x) (num_ne y0))]
  exact parted_ok n h.nm h'.nm (num_ne y0)
theorem lies_q (n : Nat) {x y : Rat} (h : Sz 3000 x) (h' : Sz 3000 y) : CF tab (n + 1) f_lies [qD x, qD y] = .ok (.int (osgn x y)) := by
  rw [← osgn_eq]
  exact lies_ok n h.nm h'.nm
theorem plus_q (n : Nat) {x y : Rat} (h : Sz 3000 x) (h' : Sz 3000 y) : CF tab (n + 4) f_plus [qD x, qD y] = .ok (qD (x + y)) := by
  rw [add_q_def, ← low_q (Int.mul_ne_zero (den_ne x) (den_ne y))]
  exact plus_ok n h.nm h'.nm
theorem less_q (n : Nat) {x y : Rat} (h : Sz 3000 x) (h' : Sz 3000 y) : CF tab (n + 4) f_less [qD x, qD y] = .ok (qD (x - y)) := by
  rw [sub_q_def, ← low_q (Int.mul_ne_zero (den_ne x) (den_ne y))]
  exact less_ok n h.nm h'.nm
theorem times_q (n : Nat) {x y : Rat} (h : Sz 3000 x) (h' : Sz 3000 y) : CF tab (n + 4) f_times [qD x, qD y] = .ok (qD (x * y)) := by
  rw [mul_q_def, ← low_q (Int.mul_ne_zero (den_ne x) (den_ne y))]
  exact times_ok n h.nm h'.nm
theorem over_q (n : Nat) {x y : Rat} (h : Sz 3000 x) (h' : Sz 3000 y) (y0 : y ≠ 0) : CF tab (n + 4) f_over [qD x, qD y] = .ok (qD (x / y)) := by
  rw [div_q_def, ← low_q (Int.mul_ne_zero (den_ne x) (num_ne y0))]
  exact over_ok n h.nm h'.nm (num_ne y0)
theorem order_q (n : Nat) {x y : Rat} (h : Sz 3000 x) (h' : Sz 3000 y) : CF tab (n + 4) f_order [qD x, qD y] = .ok (.int (osgn x y)) := by
  rw [← osgn_eq]
  exact order_ok n h.nm h'.nm
theorem low_ok (n : Nat) {a b : Int} (h : b ≠ 0) (hb : Sm 8000 b) : CF tab (n + 1) f_law_low [.int a, .int b] = .ok (nmD (lowP a b) (lowQ a b)) := by
  rw [go_law_low]
  have e := lby_ne (a := a) h
  have s := lby_sm (a := a) h hb
  simp_arith [b_law_low]
  rw [euclid (st := fun x y => [.val (.int a), .val (.int b), .val (.int x), .val (.int y)]) (fun x y => ?_) (fun x y h => ?_) 8000 a.natAbs b.natAbs FU hb (by decide)]
  · by_cases c : b < 0
    · have l : lby a b = -(Nat.gcd a.natAbs b.natAbs : Int) := by unfold lby; rw [if_pos c]
      simp_arith [c]
      rw [← l]
      simp_arith [bin_fdiv e s]
      rfl
    · have l : lby a b = (Nat.gcd a.natAbs b.natAbs : Int) := by unfold lby; rw [if_neg c]
      simp_arith [c]
      rw [← l]
      simp_arith [bin_fdiv e s]
      rfl
  · simp_arith []
    simp
  · simp_arith [l_law_low_0]
    rw [bin_mod (by omega)]
    simp_arith [fmod_nat]
theorem good_ok (n : Nat) {p q : Int} (h : Nm 8000 p q) : CF tab (n + 2) f_law_good [nmD p q] = .ok (.bl true) := by
  rw [go_law_good]
  have z : q ≠ 0 := by have := h.pos; omega
  have l := low_self h.pos h.gcd
  simp_arith [b_law_good, itemsOf, compF, bindT, wipeS, bools, low_ok _ z h.sq, l.1, l.2, h.pos, Option.map_some, List.all_cons, List.all_nil, id, Bool.and_true]
theorem number_ok (n : Nat) {c at' w : Int} (h0 : 0 ≤ at') (h1 : at' ≤ 1000) (hw : Sm 7 w) : ∃ z, CF tab (n + 1) f_law_number [.int c, .int at', .int w] = .ok (.int z) := by
  rw [go_law_number]
  have sat : Sm 10 at' := sm_of (by omega) (by omega)
  have s77 : Sm 4 (1 + at'.fmod 7) := by
    have a := Int.fmod_nonneg_of_pos at' (b := 7) (by decide)
    have b := Int.fmod_lt_of_pos at' (b := 7) (by decide)
    exact sm_of (by omega) (by omega)
  have n77 : 1 + at'.fmod 7 ≠ 0 := by
    have a := Int.fmod_nonneg_of_pos at' (b := 7) (by decide)
    omega
  have m7 : evBin .mod (.int at') (.int 7) = .ok (.int (at'.fmod 7)) := bin_mod (by decide)
  have m1 : evBin .mul (.int 977) (.int at') = .ok (.int (977 * at')) := bin_mul (by decide) (sat.mono (by decide))
  have m3 : evBin .mul (.int 31) (.int at') = .ok (.int (31 * at')) := bin_mul (by decide) (sat.mono (by decide))
  have t1 : Sm 20 (977 * at') := Sm.mul (n := 10) (by decide) sat
  have t3 : Sm 15 (31 * at') := Sm.mul (n := 5) (by decide) sat
  have n9 : 1009 + at' ≠ 0 := by omega
  have t9' : Sm 11 (1009 + at') := sm_of (by omega) (by omega)
  have t9 : Sm 8000 (1009 + at') := t9'.mono (by decide)
  have fin : ∀ c : Int, Sm 200 c → ∃ z, (exec (TB tab n) FU (CS.ite (.cmp .ge (.var 0) (.bin .pow (.c (.int 10)) (.c (.int 18))))
    (.ret (.bin .fdiv (.var 0) (.bin .add (.c (.int 1)) (.bin .mod (.var 1) (.c (.int 7))))))
    .nil
  (.set 3 (.bin .mod (.bin .add (.bin .mul (.bin .add (.var 0) (.bin .mul (.c (.int 977)) (.var 1))) (.c (.int 48271))) (.var 2)) (.c (.int 2147483647)))
  (.set 4 (.bin .mul (.var 3) (.bin .add (.bin .add (.var 0) (.bin .mul (.c (.int 31)) (.var 1))) (.c (.int 7))))
  (.ret (.bin .fdiv (.bin .mul (.bin .mul (.var 4) (.bin .add (.bin .add (.var 3) (.var 0)) (.c (.int 5)))) (.bin .add (.bin .mul (.var 3) (.var 3)) (.c (.int 11)))) (.bin .add (.c (.int 1009)) (.var 1))))))) [.val (.int c), .val (.int at'), .val (.int w), .no, .no]).bind outR = .ok (.int z) := by
    intro c hc
    by_cases g : (10 : Int) ^ 18 ≤ c
    · simp_arith [p18, g, m7, bin_fdiv n77 (s77.mono (by decide))]
      exact ⟨_, rfl⟩
    · have b1 : Sm 31 (((c + 977 * at') * 48271 + w).fmod 2147483647) := sm_fmod (by decide) (by decide)
      have m2 : evBin .mul (.int (c + 977 * at')) (.int 48271) = .ok (.int ((c + 977 * at') * 48271)) := bin_mul ((hc.add t1).mono (by decide)) (by decide)
      have m4 : evBin .mod (.int ((c + 977 * at') * 48271 + w)) (.int 2147483647) = .ok (.int (((c + 977 * at') * 48271 + w).fmod 2147483647)) := bin_mod (by decide)
      simp_arith [p18, g, m1, m2, m3, m4]
      generalize ((c + 977 * at') * 48271 + w).fmod 2147483647 = bl at b1
      have u1 : Sm 400 (c + 31 * at' + 7) := ((hc.add t3).add (m := 3) (by decide)).mono (by decide)
      have u2 : Sm 400 (bl + c + 5) := ((b1.add hc).add (m := 3) (by decide)).mono (by decide)
      have u3 : Sm 400 (bl * bl + 11) := ((b1.mul b1).add (m := 4) (by decide)).mono (by decide)
      have k1 := bin_mul (b1.mono (m := 8000) (by decide)) (u1.mono (m := 8000) (by decide))
      have k2 := bin_mul ((b1.mul u1).mono (m := 8000) (by decide)) (u2.mono (m := 8000) (by decide))
      have k3 := bin_mul (((b1.mul u1).mul u2).mono (m := 8000) (by decide)) (u3.mono (m := 8000) (by decide))
      have k4 := bin_mul (b1.mono (m := 8000) (by decide)) (b1.mono (m := 8000) (by decide))
      simp_arith [k1, k2, k3, k4, bin_fdiv n9 t9]
      exact ⟨_, rfl⟩
  by_cases g : (10 : Int) ^ 60 ≤ (c.natAbs : Int)
  · have m18 : evBin .mod (.int c) (.int (10 ^ 18)) = .ok (.int (c.fmod (10 ^ 18))) := bin_mod (by decide)
    obtain ⟨z, hz⟩ := fin (c.fmod (10 ^ 18)) ((sm_fmod (n := 64) (by decide) (by decide)).mono (by decide))
    refine ⟨z, ?_⟩
    rw [b_law_number, exec]
    simp_arith [p60, p18, g, m18] 
    exact hz
  · obtain ⟨z, hz⟩ := fin c (by unfold Sm; have : (10:Int)^60 < 2^200 := (by decide); omega)
    refine ⟨z, ?_⟩
    rw [b_law_number, exec]
    simp_arith [p60, p18, g]
    exact hz

theorem share_ok (n : Nat) (z : Int) {w : Int} (w0 : 0 < w) (w1 : w ≤ 10 ^ 12) : ∃ x : Rat, CF tab (n + 2) f_law_share [.int z, .int w] = .ok (qD x) ∧ Sz 44 x := by
  rw [go_law_share]
  have sw : Sm 41 w := by unfold Sm; have : (10:Int)^12 < 2^41 := (by decide); omega
  have e4 : evBin .mul (.int 2) (.int w) = .ok (.int (2 * w)) := bin_mul (by decide) (sw.mono (by decide))
  have e5 : evBin .mod (.int (z.fdiv 7)) (.int (2 * w + 1)) = .ok (.int ((z.fdiv 7).fmod (2 * w + 1))) := bin_mod (by omega)
  have e6 : evBin .fdiv (.int z) (.int 7) = .ok (.int (z.fdiv 7)) := bin_fdiv (by decide) (by decide)
  have e7 : evBin .fdiv (.int z) (.int 3) = .ok (.int (z.fdiv 3)) := bin_fdiv (by decide) (by decide)
  have e8 : evBin .mod (.int (z.fdiv 3)) (.int 4) = .ok (.int ((z.fdiv 3).fmod 4)) := bin_mod (by decide)
  have sz : Sm 44 ((z.fdiv 7).fmod (2 * w + 1) - w) := by
    have h1 := Int.fmod_nonneg_of_pos (z.fdiv 7) (b := 2 * w + 1) (by omega)
    have h2 := Int.fmod_lt_of_pos (z.fdiv 7) (b := 2 * w + 1) (by omega)
    unfold Sm at *
    omega
  obtain ⟨b, hb, b0, sb⟩ : ∃ b : Int, evIdx (.tup [.int 1, .int 1, .int 2, .int 3]) (.int ((z.fdiv 3).fmod 4)) = .ok (.int b) ∧ b ≠ 0 ∧ Sm 44 b := by
    have h1 := Int.fmod_nonneg_of_pos (z.fdiv 3) (b := 4) (by decide)
    have h2 := Int.fmod_lt_of_pos (z.fdiv 3) (b := 4) (by decide)
    generalize (z.fdiv 3).fmod 4 = r at h1 h2
    obtain ⟨r, rfl⟩ := Int.eq_ofNat_of_zero_le h1
    match r, h2 with
    | 0, _ => exact ⟨1, rfl, by decide, by decide⟩
    | 1, _ => exact ⟨1, rfl, by decide, by decide⟩
    | 2, _ => exact ⟨2, rfl, by decide, by decide⟩
    | 3, _ => exact ⟨3, rfl, by decide, by decide⟩
    | r + 4, h => exfalso; omega
  have lo := low_ok (tab := tab) n (a := (z.fdiv 7).fmod (2 * w + 1) - w) b0 (sb.mono (by decide))
  rw [low_q b0] at lo
  simp_arith [b_law_share, e4, e5, e6, e7, e8, hb, lo]
  exact ⟨_, rfl, sz_low b0 sz sb⟩

end RF

end S_LN
section S_SL
set_option maxHeartbeats 4000000
namespace RF
open PySem PySem.Spec L2
local macro_rules
  | `(tactic| simp_arith [$ts,*]) => `(tactic| simp only [exec, evalE, R.bind_ok, R.bind_exc, slot_0, slot_s, sd_v, sd_o, List.set_cons_zero, List.set_cons_succ, frz_def, frz_v, frz_n, frz_0, hold_rng, hold_seq, hold_v, hold_n, hold_0, put_f, truth_bl, onT_t, onT_f, ev_lt, ev_le, ev_gt, ev_ge, ev_eq, ev_ne, ev_isN, ev_notN, eqD_int, eqD_pair, rb_len_t2, rb_len_t3, rb_len_l, rb_abs, rb_min, rb_list_l, rb_list_t, rb_tuple_l, rb_tuple_t, rb_all, rb_any, rb_sum, idx_t0, idx_t1, idx_t2, bin_add, bin_sub, out_rt, out_rl, outF_rl, asL, out_nx, len_0, len_1, len_2, len_3, len_4, Bool.not_true, Bool.not_false, if_true, if_false, reduceIte, decide_true, decide_false, eq_self, Nat.reduceAdd, withO_s, rb_len_t4, idx_t3, Int.reduceLT, Int.reduceLE, Int.reduceEq, Int.reduceNeg, Int.reduceAdd, frz_o, hold_o, own_0, own_s, CE.men, Nat.reduceBEq, Bool.false_and, Bool.true_and, Bool.and_true, Bool.and_false, Bool.or_false, Bool.false_or, kqs, part_nil, part_c, part_v, sl_t41, sl_t43, it_l, it_t, it_enum, tys, wipeS, bindT, bindL, Bool.false_eq_true, asL_l, Int.natCast_one, Int.natCast_zero, D.occ, D.occs, List.length_map, $ts,*])
/-! loops by states -/
theorem loop_at {g : Tg} {f : Env → R Out} : ∀ {l : List RF.D} (st : Nat → Env), (∀ (i : Nat) x, l[i]? = some x → ∃ ρ1, bindT g x (st i) = .ok ρ1 ∧ f ρ1 = .ok (.nx (st (i + 1)))) → loopF g f l (st 0) = .ok (.nx (st l.length))
  | [], st, _ => rfl
  | x :: xs, st, h => by
    obtain ⟨ρ1, h1, h2⟩ := h 0 x rfl
    have ih := loop_at (l := xs) (fun i => st (i + 1)) fun i y hy => h (i + 1) y hy
    simp only [loopF, h1, R.bind_ok, h2, ih, List.length_cons]
/-- the same, over l.map F -/
theorem loop_map {α : Type} {F : α → RF.D} {g : Tg} {f : Env → R Out} {l : List α} (st : Nat → Env) (h : ∀ (i : Nat) a, l[i]? = some a → ∃ ρ1, bindT g (F a) (st i) = .ok ρ1 ∧ f ρ1 = .ok (.nx (st (i + 1)))) : loopF g f (l.map F) (st 0) = .ok (.nx (st l.length)) := by
  have := loop_at (g := g) (f := f) (l := l.map F) st fun i x hx => by
    rw [List.getElem?_map] at hx
    cases hs : l[i]? with
    | none => rw [hs] at hx; cases hx
    | some a => rw [hs] at hx; cases hx; exact h i a hs
  rwa [List.length_map] at this
/-- a loop that goes round so often without end, then ends in a return -/
theorem loop_ret {g : Tg} {f : Env → R Out} : ∀ {l : List RF.D} (st : Nat → Env) (j : Nat) (fr : Bool) (r : RF.D), (∀ (i : Nat) x, i < j → l[i]? = some x → ∃ ρ1, bindT g x (st i) = .ok ρ1 ∧ f ρ1 = .ok (.nx (st (i + 1)))) → (∃ x, l[j]? = some x ∧ ∃ ρ1, bindT g x (st j) = .ok ρ1 ∧ f ρ1 = .ok (.rt fr r)) → loopF g f l (st 0) = .ok (.rt fr r)
  | [], st, j, fr, r, _, ⟨x, h, _⟩ => by cases h
  | x :: xs, st, 0, fr, r, h, ⟨y, hy, ρ1, h1, h2⟩ => by
    cases hy
    simp only [loopF, h1, R.bind_ok, h2]
  | x :: xs, st, j + 1, fr, r, h, ⟨y, hy, h'⟩ => by
    obtain ⟨ρ1, h1, h2⟩ := h 0 x (by omega) rfl
    have ih := loop_ret (l := xs) (fun i => st (i + 1)) j fr r (fun i z hi hz => h (i + 1) z (by omega) hz) ⟨y, hy, h'⟩
    simp only [loopF, h1, R.bind_ok, h2, ih]
/-- a loop over range(n), as a state by turns -/
theorem upFrom_gets {lo c : Int} {k i : Nat} {x : RF.D} (h : (upFrom lo c k)[i]? = some x) : i < k ∧ x = .int (lo + c * i) := by
  induction k generalizing lo i with
  | zero => cases h
  | succ k ih =>
    cases i with
    | zero => cases h; exact ⟨by omega, by simp⟩
    | succ i =>
      obtain ⟨h1, h2⟩ := ih (i := i) h
      exact ⟨by omega, by rw [h2]; congr 1; rw [Int.natCast_add, Int.mul_add]; omega⟩
theorem upFrom_length (lo c : Int) (k : Nat) : (upFrom lo c k).length = k := by
  induction k generalizing lo with
  | zero => rfl
  | succ k ih => simp only [upFrom, List.length_cons, ih]
theorem loop_rng {g : Tg} {f : Env → R Out} {k : Nat} (st : Nat → Env) (h : ∀ i : Nat, i < k → ∃ ρ1, bindT g (.int i) (st i) = .ok ρ1 ∧ f ρ1 = .ok (.nx (st (i + 1)))) : loopF g f (upFrom 0 1 k) (st 0) = .ok (.nx (st k)) := by
  have := loop_at (g := g) (f := f) (l := upFrom 0 1 k) st fun i x hx => by
    obtain ⟨h1, rfl⟩ := upFrom_gets hx
    have e : (0 : Int) + 1 * (i : Int) = (i : Int) := by omega
    rw [e]
    exact h i h1
  rwa [upFrom_length] at this
theorem it_rng (k : Nat) (h : k ≤ lim) : itemsOf .rng (.tup [.int (k : Int)]) = .ok (upFrom 0 1 k) := by
  simp only [itemsOf, evRng]
  rw [if_pos ⟨by omega, by omega⟩, Int.toNat_natCast]
theorem compF_map {α : Type} {F G : α → RF.D} {f : RF.D → R (Option RF.D)} {l : List α} (h : ∀ a ∈ l, f (F a) = .ok (some (G a))) : compF f (l.map F) = .ok (l.map G) := by
  induction l with
  | nil => rfl
  | cons a l ih => simp only [List.map_cons, compF, h a List.mem_cons_self, ih fun b hb => h b (List.mem_cons_of_mem _ hb), R.bind_ok]
theorem compF_filter {α : Type} {F G : α → RF.D} {p : α → Bool} {f : RF.D → R (Option RF.D)} {l : List α} (h : ∀ a ∈ l, f (F a) = .ok (if p a = true then some (G a) else none)) : compF f (l.map F) = .ok ((l.filter p).map G) := by
  induction l with
  | nil => rfl
  | cons a l ih =>
    simp only [List.map_cons, compF, h a List.mem_cons_self, ih fun b hb => h b (List.mem_cons_of_mem _ hb), R.bind_ok]
    by_cases c : p a = true
    · rw [if_pos c, List.filter_cons_of_pos c]; rfl
    · rw [if_neg c, List.filter_cons_of_neg c]
theorem compF_upFrom {G : Nat → RF.D} {f : RF.D → R (Option RF.D)} : ∀ {k lo : Nat}, (∀ i : Nat, lo ≤ i → i < lo + k → f (.int i) = .ok (some (G i))) → compF f (upFrom lo 1 k) = .ok ((List.range' lo k).map G)
  | 0, _, _ => rfl
  | k + 1, lo, h => by
    have ih := compF_upFrom (k := k) (lo := lo + 1) (G := G) (f := f) fun i h1 h2 => h i (by omega) (by omega)
    simp only [upFrom, compF, h lo (by omega) (by omega), R.bind_ok, List.range'_succ, List.map_cons]
    rw [Int.natCast_add] at ih
    rw [show ((1 : Nat) : Int) = 1 from rfl] at ih
    rw [ih]
    rfl
theorem put_lst (as : CE) (l : List RF.D) : put true (.lst as) (.lst l) = .ok (.own l, .tup l) := (rfl)
theorem put_sl (a b c : CE) (l : List RF.D) : put true (.sl a b c) (.lst l) = .ok (.own l, .tup l) := (rfl)
theorem put_li (as : CE) (l : List RF.D) : put true (.bi .list as) (.lst l) = .ok (.own l, .tup l) := (rfl)
theorem put_co (k : IK) (g : Tg) (vs : List Nat) (a b c : CE) (l : List RF.D) : put true (.comp k g vs a b c) (.lst l) = .ok (.own l, .tup l) := (rfl)
theorem put_add (a b : CE) (l : List RF.D) : put true (.bin .add a b) (.lst l) = .ok (.own l, .tup l) := (rfl)

end RF

end S_SL
section S_LP
set_option maxHeartbeats 4000000
namespace RF
open PySem PySem.Spec L2
local macro_rules
  | `(tactic| simp_arith [$ts,*]) => `(tactic| simp only [exec, evalE, R.bind_ok, R.bind_exc, slot_0, slot_s, sd_v, sd_o, List.set_cons_zero, List.set_cons_succ, frz_def, frz_v, frz_n, frz_0, hold_rng, hold_seq, hold_v, hold_n, hold_0, put_f, truth_bl, onT_t, onT_f, ev_lt, ev_le, ev_gt, ev_ge, ev_eq, ev_ne, ev_isN, ev_notN, eqD_int, eqD_pair, rb_len_t2, rb_len_t3, rb_len_l, rb_abs, rb_min, rb_list_l, rb_list_t, rb_tuple_l, rb_tuple_t, rb_all, rb_any, rb_sum, idx_t0, idx_t1, idx_t2, bin_add, bin_sub, out_rt, out_rl, outF_rl, asL, out_nx, len_0, len_1, len_2, len_3, len_4, Bool.not_true, Bool.not_false, if_true, if_false, reduceIte, decide_true, decide_false, eq_self, Nat.reduceAdd, withO_s, rb_len_t4, idx_t3, Int.reduceLT, Int.reduceLE, Int.reduceEq, Int.reduceNeg, Int.reduceAdd, frz_o, hold_o, own_0, own_s, CE.men, Nat.reduceBEq, Bool.false_and, Bool.true_and, Bool.and_true, Bool.and_false, Bool.or_false, Bool.false_or, kqs, part_nil, part_c, part_v, sl_t41, sl_t43, it_l, it_t, it_enum, tys, wipeS, bindT, bindL, Bool.false_eq_true, asL_l, Int.natCast_one, Int.natCast_zero, D.occ, D.occs, List.length_map, put_lst, put_sl, put_li, put_co, put_add, $ts,*])
variable {tab : List Fn} [Ext tab]
theorem is_number_q' (n : Nat) {x : Rat} (h : Sz 8000 x) : CF tab (n + 2) f_is_number [qD x] = .ok (.bl true) := is_number_ok n h.nm
theorem is_ahead_ok (n : Nat) {i a : Nat} (h : i < a) : CF tab (n + 2) f_is_ahead [.int i, .int a] = .ok (.bl true) := by
  rw [go_is_ahead]
  have h0 : (0 : Int) ≤ (i : Int) := by omega
  have h1 : (i : Int) < (a : Int) := by omega
  simp_arith [b_is_ahead, is_whole_int, h0, h1]
theorem is_step_b (n : Nat) {s : B1} {a inp : Nat} {dp : Int} (h : s.ok a inp) : CF tab (n + 4) f_is_step [s.D, .int a, .int inp, .int dp] = .ok (.bl true) := by
  rw [go_is_step]
  cases s with
  | is x => simp_arith [B1.D, b_is_step, gl_KINDS, is_number_q' _ (Sz.mono h (by decide : 100 ≤ 8000))]
  | inp k =>
    have h0 : (0 : Int) ≤ (k : Int) := by omega
    have h1 : (k : Int) < (inp : Int) := by have : k < inp := h; omega
    simp_arith [B1.D, b_is_step, gl_KINDS, is_whole_int, h0, h1]
  | sum i j => simp_arith [B1.D, b_is_step, gl_KINDS, is_ahead_ok _ h.1, is_ahead_ok _ h.2]
  | «by» x i => simp_arith [B1.D, b_is_step, gl_KINDS, is_number_q' _ (Sz.mono h.1 (by decide : 100 ≤ 8000)), is_ahead_ok _ h.2]
  | least i j => simp_arith [B1.D, b_is_step, gl_KINDS, is_ahead_ok _ h.1, is_ahead_ok _ h.2]
  | most i j => simp_arith [B1.D, b_is_step, gl_KINDS, is_ahead_ok _ h.1, is_ahead_ok _ h.2]
  | iff i j k => simp_arith [B1.D, b_is_step, gl_KINDS, is_ahead_ok _ h.1, is_ahead_ok _ h.2.1, is_ahead_ok _ h.2.2, compF, bindT, wipeS, bools, Option.map_some, List.all_cons, List.all_nil, id, Bool.and_true]
theorem are_steps_gen (n : Nat) {ds : List D} {inp : Nat} {dp : Int} (h1 : 1 ≤ ds.length) (h2 : ds.length ≤ 120) (h : ∀ (i : Nat) d, ds[i]? = some d → CF tab n f_is_step [d, .int i, .int inp, .int dp] = .ok (.bl true)) : CF tab (n + 1) f_are_steps [.lst ds, .int inp, .int dp] = .ok (.bl true) := by
  rw [go_are_steps]
  have a1 : (1 : Int) ≤ (ds.length : Int) := by omega
  have a2 : (ds.length : Int) ≤ 120 := by omega
  have ll : (enumD 0 ds).length ≤ lim := by rw [enum_len]; unfold lim; omega
  simp_arith [b_are_steps, a1, a2, gl_MOST_STEPS, ll]
  rw [compF_const (y := .bl true) (fun x hx => ?_)]
  · simp_arith [bools_rep, all_rep]
  · obtain ⟨i, d, e1, rfl⟩ := enum_mem hx
    have e2 := h i d e1
    rw [Nat.zero_add]
    simp_arith [bindT, bindL, wipeS, e2]
theorem are_steps_b (n : Nat) {l : List B1} {inp : Nat} {dp : Int} (h : okB inp l) : CF tab (n + 5) f_are_steps [.lst (l.map B1.D), .int inp, .int dp] = .ok (.bl true) := by
  refine are_steps_gen (n + 4) (by rw [List.length_map]; exact h.1) (by rw [List.length_map]; exact h.2.1) fun i d e => ?_
  rw [List.getElem?_map] at e
  cases hs : l[i]? with
  | none => rw [hs] at e; cases e
  | some s =>
    rw [hs] at e
    cases e
    exact is_step_b n (h.2.2 i s hs)
theorem is_turn_ok (n : Nat) {m i a : Nat} {l : List B1} (hm : m ≤ 6) (hi : i < a) (h : okB 1 l) : CF tab (n + 6) f_is_turn [Stp.D (.turns m i l), .int a, .int 0] = .ok (.bl true) := by
  rw [go_is_turn]
  have m0 : (0 : Int) ≤ (m : Int) := by omega
  have m1 : (m : Int) ≤ 6 := by omega
  have e := are_steps_b (tab := tab) n (dp := 1) h
  simp_arith [Stp.D, b_is_turn, is_whole_int, gl_MOST_TURNS, m0, m1, is_ahead_ok _ hi]
  rw [show ((1 : Nat) : Int) = 1 from rfl] at e
  simp_arith [e]
theorem is_step_s (n : Nat) {s : Stp} {a inp : Nat} (h : s.ok a inp) : CF tab (n + 7) f_is_step [s.D, .int a, .int inp, .int 0] = .ok (.bl true) := by
  cases s with
  | b s => exact is_step_b (n + 3) h
  | turns m i l =>
    rw [go_is_step]
    have e := is_turn_ok (tab := tab) n h.1 h.2.1 h.2.2
    simp_arith [Stp.D, b_is_step, gl_KINDS]
    simp only [Stp.D] at e
    simp_arith [e]
theorem are_steps_s (n : Nat) {l : List Stp} {inp : Nat} (h : okS inp l) : CF tab (n + 8) f_are_steps [.lst (l.map Stp.D), .int inp, .int 0] = .ok (.bl true) := by
  refine are_steps_gen (n + 7) (by rw [List.length_map]; exact h.1) (by rw [List.length_map]; exact h.2.1) fun i d e => ?_
  rw [List.getElem?_map] at e
  cases hs : l[i]? with
  | none => rw [hs] at e; cases e
  | some s =>
    rw [hs] at e
    cases e
    exact is_step_s n (h.2.2 i s hs)
theorem counted_round_b (n : Nat) (s : B1) (S : D) (r c : Int) : exec (TB tab n) FU l_counted_0 [.val S, .val (.int r), .val (.int c), .val s.D, .no] = .ok (.nx [.val S, .val (.int (r + 1)), .val (.int (c + s.ch)), .no, .no]) := by
  cases s <;> simp_arith [B1.D, l_counted_0, B1.ch] <;> simp
theorem counted_b (n : Nat) {l : List B1} (hl : l.length ≤ 120) : CF tab (n + 1) f_counted [.lst (l.map B1.D)] = .ok (.tup [.int l.length, .int (chB l)]) := by
  rw [go_counted]
  have h1 := loop_map (F := B1.D) (g := .nm 3) (f := exec (TB tab n) FU l_counted_0) (l := l) (fun i => [.val (.lst (l.map B1.D)), .val (.int (i : Int)), .val (.int (chB (l.take i) : Int)), .no, .no]) fun i s hs => by
    refine ⟨_, rfl, ?_⟩
    simp_arith [counted_round_b]
    have e : (chB (l.take (i + 1)) : Int) = (chB (l.take i) : Int) + (s.ch : Int) := by
      unfold chB
      rw [sum_take B1.ch hs, Int.natCast_add]
    rw [e, Int.natCast_add]
    rfl
  rw [List.take_length] at h1
  have ll : l.length ≤ lim := by unfold lim; omega
  simp_arith [b_counted, ll]
  try rw [show ([Slot.val (.lst (l.map B1.D)), .val (.int 0), .val (.int 0), .no, .no] : Env) = [Slot.val (.lst (l.map B1.D)), .val (.int ((0 : Nat) : Int)), .val (.int (chB (l.take 0) : Int)), .no, .no] from rfl, h1]
  simp_arith []
theorem counted_round_s (n : Nat) (s : Stp) {a inp : Nat} (h : s.ok a inp) (S : D) (r c : Int) : exec (TB tab (n + 1)) FU l_counted_0 [.val S, .val (.int r), .val (.int c), .val s.D, .no] = .ok (.nx [.val S, .val (.int (r + s.run)), .val (.int (c + s.ch)), .no, .no]) := by
  cases s with
  | b s => exact counted_round_b (n + 1) s S r c
  | turns m i l =>
    have e := counted_b (tab := tab) n (l := l) h.2.2.2.1
    have sm : Sm 8000 (m : Int) := Sm.mono (n := 3) (by unfold Sm; have := h.1; simp; omega) (by decide)
    have sl : Sm 8000 (l.length : Int) := Sm.mono (n := 7) (by unfold Sm; have := h.2.2.2.1; simp; omega) (by decide)
    have cl : chB l ≤ l.length := by
      unfold chB
      have : ∀ l : List B1, (l.map B1.ch).sum ≤ l.length := fun l => by
        induction l with
        | nil => simp
        | cons s r ih =>
          have : s.ch ≤ 1 := by cases s <;> simp [B1.ch]
          simp only [List.map_cons, List.sum_cons, List.length_cons]
          omega
      exact this l
    have sc : Sm 8000 (chB l : Int) := Sm.mono (n := 7) (by unfold Sm; have := h.2.2.2.1; simp; omega) (by decide)
    simp_arith [Stp.D, l_counted_0, e, bin_mul sm sl, bin_mul sm sc, Stp.run, Stp.ch]
    simp [Int.natCast_add, Int.natCast_mul, Int.add_assoc]
theorem counted_s (n : Nat) {l : List Stp} {inp : Nat} (h : okS inp l) : CF tab (n + 2) f_counted [.lst (l.map Stp.D)] = .ok (.tup [.int (runS l), .int (chS l)]) := by
  rw [go_counted]
  have h1 := loop_map (F := Stp.D) (g := .nm 3) (f := exec (TB tab (n + 1)) FU l_counted_0) (l := l) (fun i => [.val (.lst (l.map Stp.D)), .val (.int (runS (l.take i) : Int)), .val (.int (chS (l.take i) : Int)), .no, .no]) fun i s hs => by
    refine ⟨_, rfl, ?_⟩
    simp_arith [counted_round_s n s (h.2.2 i s hs)]
    have e1 : (chS (l.take (i + 1)) : Int) = (chS (l.take i) : Int) + (s.ch : Int) := by
      unfold chS
      rw [sum_take Stp.ch hs, Int.natCast_add]
    have e2 : (runS (l.take (i + 1)) : Int) = (runS (l.take i) : Int) + (s.run : Int) := by
      unfold runS
      rw [sum_take Stp.run hs, Int.natCast_add]
    rw [e1, e2]
  rw [List.take_length] at h1
  have ll : l.length ≤ lim := by have := h.2.1; unfold lim; omega
  simp_arith [b_counted, ll]
  rw [show ([Slot.val (.lst (l.map Stp.D)), .val (.int 0), .val (.int 0), .no, .no] : Env) = [Slot.val (.lst (l.map Stp.D)), .val (.int (runS (l.take 0) : Int)), .val (.int (chS (l.take 0) : Int)), .no, .no] from rfl, h1]
  simp_arith []
/-- a program that goes -/
structure okP (inp : Nat) (l : List Stp) : Prop where
  i1 : 1 ≤ inp
  i3 : inp ≤ 3
  st : okS inp l
  run : runS l ≤ 120
  ch : chS l ≤ 8
abbrev prD (inp : Nat) (l : List Stp) : D := .tup [.int inp, .lst (l.map Stp.D)]
theorem asked_program_ok (n : Nat) {inp : Nat} {l : List Stp} (h : okP inp l) : CF tab (n + 9) f_asked_program [prD inp l] = .ok .non := by
  rw [go_asked_program]
  have a1 : (1 : Int) ≤ (inp : Int) := by have := h.i1; omega
  have a2 : (inp : Int) ≤ 3 := by have := h.i3; omega
  have b1 : ¬ (120 : Int) < (runS l : Int) := by have := h.run; omega
  have b2 : ¬ (8 : Int) < (chS l : Int) := by have := h.ch; omega
  have e1 := are_steps_s (tab := tab) n h.st
  have e2 := counted_s (tab := tab) (n + 6) h.st
  simp_arith [b_asked_program, is_whole_int, a1, a2, b1, b2, gl_MOST_INPUTS, gl_MOST_RUN, gl_MOST_CHOICES, e1, e2, bindT, bindL]

end RF

end S_LP
section S_EV
set_option maxHeartbeats 4000000
/-! EV: running the IR step by step, only the way that is taken. -/
namespace RF
open PySem PySem.Spec L2
section
variable (T : Tab) (fuel : Nat)
/-! ### expressions -/
def kVar : Option D → R D
  | some d => .ok d
  | none => .bad
def kNeg : D → R D
  | .int i => .ok (.int (-i))
  | _ => .bad
def kNot (d : D) : R D := onT (truth d) (.ok (.bl false)) (.ok (.bl true))
def kBin (o : BOp) (b : CE) (ρ : Env) (x : D) : R D := (evalE T b ρ).bind (evBin o x)
def kCmp (o : COp) (b : CE) (ρ : Env) (x : D) : R D := (evalE T b ρ).bind (evCmp o x)
def kCmpC (o' : COp) (c : CE) (ρ : Env) (y r : D) : R D := onT (truth r) ((evalE T c ρ).bind (evCmp o' y)) (.ok (.bl false))
def kCmpB (o o' : COp) (c : CE) (ρ : Env) (x y : D) : R D := (evCmp o x y).bind (kCmpC T o' c ρ y)
def kCmp2 (o o' : COp) (b c : CE) (ρ : Env) (x : D) : R D := (evalE T b ρ).bind (kCmpB T o o' c ρ x)
def kAnd (b : CE) (ρ : Env) (x : D) : R D := onT (truth x) (evalE T b ρ) (.ok (.bl false))
def kOr (b : CE) (ρ : Env) (x : D) : R D := onT (truth x) (.ok (.bl true)) (evalE T b ρ)
def kIfe (a b : CE) (ρ : Env) (x : D) : R D := onT (truth x) (evalE T a ρ) (evalE T b ρ)
def kPre (x : D) : D → R D
  | .tup l => .ok (.tup (x :: l))
  | _ => .bad
def kCons (as : CE) (ρ : Env) (x : D) : R D := (evalE T as ρ).bind (kPre x)
def kTup : D → R D
  | .tup l => if l.length ≤ lim then .ok (.tup l) else .bad
  | _ => .bad
def kLst : D → R D
  | .tup l => if l.length ≤ lim then .ok (.lst l) else .bad
  | _ => .bad
def kIdx (b : CE) (ρ : Env) (x : D) : R D := (evalE T b ρ).bind (evIdx x)
def kCall (f : Nat) : D → R D
  | .tup l => T.call f l
  | _ => .bad
def kRep2 (l : List D) (y : D) : R D := repD l y
def kRep1 (b : CE) (ρ : Env) (l : List D) : R D := if l.length ≤ lim then (evalE T b ρ).bind (kRep2 l) else .bad
def kRep (b : CE) (ρ : Env) : D → R D
  | .tup l => kRep1 T b ρ l
  | _ => .bad
def kBi (b : BI) : D → R D
  | .tup l => evBI b l
  | _ => .bad
def kIs (t : Ty) (x : D) : R D := match isTy t x with
  | some b => .ok (.bl b)
  | none => .bad
def kList (l : List D) : R D := .ok (.lst l)
def kComp2 (g : Tg) (vs : List Nat) (cd e : CE) (ρ : Env) (l : List D) : R D := if l.length ≤ lim then (compF (turnF T g vs cd e ρ) l).bind kList else .bad
def kComp (k : IK) (g : Tg) (vs : List Nat) (cd e : CE) (ρ : Env) (d : D) : R D := (itemsOf k d).bind (kComp2 T g vs cd e ρ)
def kSome (y : D) : R (Option D) := .ok (some y)
def kEl (e : CE) (ρ : Env) : R (Option D) := (evalE T e ρ).bind kSome
def kCd (e : CE) (ρ : Env) (r : D) : R (Option D) := onT (truth r) ((evalE T e ρ).bind kSome) (.ok none)
def kElc (cd e : CE) (ρ : Env) : R (Option D) := (evalE T cd ρ).bind (kCd T e ρ)
def kSl3 (x : D) (l h : Option Int) : R D := evSl x l h
def kSl2 (hi : CE) (ρ : Env) (x : D) (l : Option Int) : R D := (partOf hi (evalE T hi ρ)).bind (kSl3 x l)
def kSl (lo hi : CE) (ρ : Env) (x : D) : R D := (partOf lo (evalE T lo ρ)).bind (kSl2 T hi ρ x)
theorem ee_var (i : Nat) (ρ : Env) : evalE T (.var i) ρ = kVar (slotD ρ i) := by simp only [evalE]; cases slotD ρ i <;> rfl
theorem ee_c (d : D) (ρ : Env) : evalE T (.c d) ρ = .ok d := (rfl)
theorem ee_glb (g : Nat) (ρ : Env) : evalE T (.glb g) ρ = kVar (T.gl g) := by simp only [evalE]; cases T.gl g <;> rfl
theorem ee_neg (a : CE) (ρ : Env) : evalE T (.neg a) ρ = (evalE T a ρ).bind kNeg := by
  simp only [evalE]; congr 1
theorem ee_nt (a : CE) (ρ : Env) : evalE T (.nt a) ρ = (evalE T a ρ).bind kNot := (rfl)
theorem ee_bin (o : BOp) (a b : CE) (ρ : Env) : evalE T (.bin o a b) ρ = (evalE T a ρ).bind (kBin T o b ρ) := (rfl)
theorem ee_cmp (o : COp) (a b : CE) (ρ : Env) : evalE T (.cmp o a b) ρ = (evalE T a ρ).bind (kCmp T o b ρ) := (rfl)
theorem ee_cmp2 (o o' : COp) (a b c : CE) (ρ : Env) : evalE T (.cmp2 o o' a b c) ρ = (evalE T a ρ).bind (kCmp2 T o o' b c ρ) := (rfl)
theorem ee_and (a b : CE) (ρ : Env) : evalE T (.and a b) ρ = (evalE T a ρ).bind (kAnd T b ρ) := (rfl)
theorem ee_or (a b : CE) (ρ : Env) : evalE T (.or a b) ρ = (evalE T a ρ).bind (kOr T b ρ) := (rfl)
theorem ee_ife (c a b : CE) (ρ : Env) : evalE T (.ife c a b) ρ = (evalE T c ρ).bind (kIfe T a b ρ) := (rfl)
theorem ee_nil (ρ : Env) : evalE T .nil ρ = .ok (.tup []) := (rfl)
theorem ee_cons (a as : CE) (ρ : Env) : evalE T (.cons a as) ρ = (evalE T a ρ).bind (kCons T as ρ) := by
  simp only [evalE]; congr 1
theorem ee_tup (as : CE) (ρ : Env) : evalE T (.tup as) ρ = (evalE T as ρ).bind kTup := by
  simp only [evalE]; congr 1
theorem ee_lst (as : CE) (ρ : Env) : evalE T (.lst as) ρ = (evalE T as ρ).bind kLst := by
  simp only [evalE]; congr 1
theorem ee_idx (a b : CE) (ρ : Env) : evalE T (.idx a b) ρ = (evalE T a ρ).bind (kIdx T b ρ) := (rfl)
theorem ee_sl (a lo hi : CE) (ρ : Env) : evalE T (.sl a lo hi) ρ = (evalE T a ρ).bind (kSl T lo hi ρ) := (rfl)
theorem ee_call (f : Nat) (as : CE) (ρ : Env) : evalE T (.call f as) ρ = (evalE T as ρ).bind (kCall T f) := by
  simp only [evalE]; congr 1
theorem ee_callf (f : Nat) (as : CE) (ρ : Env) : evalE T (.callf f as) ρ = (evalE T as ρ).bind (kCall T f) := by
  simp only [evalE]; congr 1
theorem ee_bi (b : BI) (as : CE) (ρ : Env) : evalE T (.bi b as) ρ = (evalE T as ρ).bind (kBi b) := by
  simp only [evalE]; congr 1
theorem ee_rep (as b : CE) (ρ : Env) : evalE T (.rep as b) ρ = (evalE T as ρ).bind (kRep T b ρ) := by
  simp only [evalE]; congr 1
theorem ee_lrg (a : CE) (ρ : Env) : evalE T (.lrg a) ρ = (evalE T a ρ).bind lrgD := (rfl)
theorem ee_rev (a : CE) (ρ : Env) : evalE T (.rev a) ρ = (evalE T a ρ).bind revD := (rfl)
theorem lrg_n (k : Nat) (h : k ≤ lim) : lrgD (.int (k : Int)) = .ok (.lst (upFrom 0 1 k)) := by
  simp only [lrgD, Int.toNat_natCast]
  rw [if_pos ⟨by omega, by omega⟩]
theorem rev_l (l : List D) : revD (.lst l) = .ok (.lst l.reverse) := (rfl)
theorem ee_isi (a : CE) (t : Ty) (ρ : Env) : evalE T (.isi a t) ρ = (evalE T a ρ).bind (kIs t) := by
  simp only [evalE]; congr 1
theorem ee_comp (k : IK) (g : Tg) (vs : List Nat) (it cd e : CE) (ρ : Env) : evalE T (.comp k g vs it cd e) ρ = (evalE T it ρ).bind (kComp T k g vs cd e ρ) := by
  rw [eval_comp]; cases evalE T it ρ <;> rfl
def kMk (c : Nat) : D → R D
  | .tup l => mkD T c l
  | _ => .bad
def kIsC (c : Nat) (x : D) : R D := .ok (.bl (isCD T c x))
def kMeth2 (f : Nat) (x : D) : D → R D
  | .tup l => T.call f (x :: l)
  | _ => .bad
def kMeth1 (as : CE) (ρ : Env) (x : D) (f : Nat) : R D := (evalE T as ρ).bind (kMeth2 T f x)
def kMeth (m : Nat) (as : CE) (ρ : Env) (x : D) : R D := withO (methO T m x) (kMeth1 T as ρ x)
theorem ee_fld (a : CE) (f : Nat) (ρ : Env) : evalE T (.fld a f) ρ = (evalE T a ρ).bind (fldD T f) := (rfl)
theorem ee_mk (c : Nat) (as : CE) (ρ : Env) : evalE T (.mk c as) ρ = (evalE T as ρ).bind (kMk T c) := by
  simp only [evalE]; congr 1
theorem ee_isC (a : CE) (c : Nat) (ρ : Env) : evalE T (.isC a c) ρ = (evalE T a ρ).bind (kIsC T c) := (rfl)
theorem ee_meth (a : CE) (m : Nat) (as : CE) (ρ : Env) : evalE T (.meth a m as) ρ = (evalE T a ρ).bind (kMeth T m as ρ) := by
  simp only [evalE]; congr 1
theorem kMk_t (c : Nat) (l : List D) : kMk T c (.tup l) = mkD T c l := (rfl)
theorem kMeth2_t (f : Nat) (x : D) (l : List D) : kMeth2 T f x (.tup l) = T.call f (x :: l) := (rfl)
theorem kVar_s (d : D) : kVar (some d) = .ok d := (rfl)
theorem kNeg_i (i : Int) : kNeg (.int i) = .ok (.int (-i)) := (rfl)
theorem kNot_b (b : Bool) : kNot (.bl b) = .ok (.bl (!b)) := by cases b <;> rfl
theorem kAnd_t (b : CE) (ρ : Env) : kAnd T b ρ (.bl true) = evalE T b ρ := (rfl)
theorem kAnd_f (b : CE) (ρ : Env) : kAnd T b ρ (.bl false) = .ok (.bl false) := (rfl)
theorem kOr_t (b : CE) (ρ : Env) : kOr T b ρ (.bl true) = .ok (.bl true) := (rfl)
theorem kOr_f (b : CE) (ρ : Env) : kOr T b ρ (.bl false) = evalE T b ρ := (rfl)
theorem kIfe_t (a b : CE) (ρ : Env) : kIfe T a b ρ (.bl true) = evalE T a ρ := (rfl)
theorem kIfe_f (a b : CE) (ρ : Env) : kIfe T a b ρ (.bl false) = evalE T b ρ := (rfl)
theorem kCmpC_t (o' : COp) (c : CE) (ρ : Env) (y : D) : kCmpC T o' c ρ y (.bl true) = (evalE T c ρ).bind (evCmp o' y) := (rfl)
theorem kCmpC_f (o' : COp) (c : CE) (ρ : Env) (y : D) : kCmpC T o' c ρ y (.bl false) = .ok (.bl false) := (rfl)
theorem kPre_t (x : D) (l : List D) : kPre x (.tup l) = .ok (.tup (x :: l)) := (rfl)
theorem kTup_ok {l : List D} (h : l.length ≤ lim) : kTup (.tup l) = .ok (.tup l) := if_pos h
theorem kLst_ok {l : List D} (h : l.length ≤ lim) : kLst (.tup l) = .ok (.lst l) := if_pos h
theorem lim2 (k : Nat) (h : k ≤ 100000) : k ≤ lim := h
theorem kTup_1 (a : D) : kTup (.tup [a]) = .ok (.tup [a]) := kTup_ok (lim2 1 (by decide))
theorem kTup_2 (a b : D) : kTup (.tup [a, b]) = .ok (.tup [a, b]) := kTup_ok (lim2 2 (by decide))
theorem kTup_3 (a b c : D) : kTup (.tup [a, b, c]) = .ok (.tup [a, b, c]) := kTup_ok (lim2 3 (by decide))
theorem kTup_4 (a b c d : D) : kTup (.tup [a, b, c, d]) = .ok (.tup [a, b, c, d]) := kTup_ok (lim2 4 (by decide))
theorem kTup_5 (a b c d e : D) : kTup (.tup [a, b, c, d, e]) = .ok (.tup [a, b, c, d, e]) := kTup_ok (lim2 5 (by decide))
theorem kTup_6 (a b c d e f : D) : kTup (.tup [a, b, c, d, e, f]) = .ok (.tup [a, b, c, d, e, f]) := kTup_ok (lim2 6 (by decide))
theorem kLst_0 : kLst (.tup []) = .ok (.lst []) := (rfl)
theorem kLst_1 (a : D) : kLst (.tup [a]) = .ok (.lst [a]) := kLst_ok (lim2 1 (by decide))
theorem kLst_2 (a b : D) : kLst (.tup [a, b]) = .ok (.lst [a, b]) := kLst_ok (lim2 2 (by decide))
theorem kLst_3 (a b c : D) : kLst (.tup [a, b, c]) = .ok (.lst [a, b, c]) := kLst_ok (lim2 3 (by decide))
theorem kLst_4 (a b c d : D) : kLst (.tup [a, b, c, d]) = .ok (.lst [a, b, c, d]) := kLst_ok (lim2 4 (by decide))
theorem kLst_5 (a b c d e : D) : kLst (.tup [a, b, c, d, e]) = .ok (.lst [a, b, c, d, e]) := kLst_ok (lim2 5 (by decide))
theorem kLst_6 (a b c d e f : D) : kLst (.tup [a, b, c, d, e, f]) = .ok (.lst [a, b, c, d, e, f]) := kLst_ok (lim2 6 (by decide))
theorem kCall_t (f : Nat) (l : List D) : kCall T f (.tup l) = T.call f l := (rfl)
theorem kRep_1 (b : CE) (ρ : Env) (x : D) : kRep T b ρ (.tup [x]) = (evalE T b ρ).bind (kRep2 [x]) := by
  show kRep1 T b ρ [x] = _
  exact if_pos (lim2 1 (by decide))
theorem kRep2_n (x : D) (k : Nat) (h : k ≤ 1000) : kRep2 [x] (.int (k : Int)) = .ok (.lst (List.replicate k x)) := by
  have h2 : k ≤ lim := Nat.le_trans h (by decide)
  simp only [kRep2, repD, Int.toNat_natCast]
  rw [if_pos ⟨by omega, by omega, by show 1 * k ≤ lim; omega⟩]
  congr 2
  induction k with
  | zero => rfl
  | succ k ih => rw [List.replicate_succ, List.flatten_cons, ih (by omega) (by omega), List.replicate_succ]; rfl
theorem kBi_t (b : BI) (l : List D) : kBi b (.tup l) = evBI b l := (rfl)
theorem kIs_of {t : Ty} {x : D} {b : Bool} (h : isTy t x = some b) : kIs t x = .ok (.bl b) := by unfold kIs; rw [h]
theorem kIs_q (t : Ty) (x : Rat) : kIs t (qD x) = .ok (.bl (match t with | .tuple => true | _ => false)) := by cases t <;> rfl
theorem kComp2_ok {g : Tg} {vs : List Nat} {cd e : CE} {ρ : Env} {l : List D} (h : l.length ≤ lim) : kComp2 T g vs cd e ρ l = (compF (turnF T g vs cd e ρ) l).bind kList := if_pos h
theorem turn_nil (g : Tg) (vs : List Nat) (e : CE) (ρ : Env) (x : D) : turnF T g vs .nil e ρ x = (bindT g x (wipeS ρ vs)).bind (kEl T e) := by
  unfold turnF kEl
  cases bindT g x (wipeS ρ vs) <;> rfl
theorem turn_cd {g : Tg} {vs : List Nat} {cd e : CE} {ρ : Env} {x : D} (h : cd.isNil = false) : turnF T g vs cd e ρ x = (bindT g x (wipeS ρ vs)).bind (kElc T cd e) := by
  unfold turnF kElc
  cases bindT g x (wipeS ρ vs) with
  | ok ρ' =>
    simp only [R.bind_ok]
    cases cd <;> first | (simp [CE.isNil] at h; done) | skip
    all_goals
      simp only []
      cases hh : evalE T _ ρ' with
      | ok r =>
        simp only [R.bind_ok, kCd]
        cases truth r with
        | none => rfl
        | some b => cases b <;> rfl
      | exc c => rfl
      | bad => rfl
  | exc c => rfl
  | bad => rfl
theorem turn_cmp (g : Tg) (vs : List Nat) (e : CE) (ρ : Env) (x : D) (o : COp) (a b : CE) : turnF T g vs (.cmp o a b) e ρ x = (bindT g x (wipeS ρ vs)).bind (kElc T (.cmp o a b) e) := turn_cd T rfl
theorem turn_and (g : Tg) (vs : List Nat) (e : CE) (ρ : Env) (x : D) (a b : CE) : turnF T g vs (.and a b) e ρ x = (bindT g x (wipeS ρ vs)).bind (kElc T (.and a b) e) := turn_cd T rfl
theorem turn_or (g : Tg) (vs : List Nat) (e : CE) (ρ : Env) (x : D) (a b : CE) : turnF T g vs (.or a b) e ρ x = (bindT g x (wipeS ρ vs)).bind (kElc T (.or a b) e) := turn_cd T rfl
theorem turn_nt (g : Tg) (vs : List Nat) (e : CE) (ρ : Env) (x : D) (a : CE) : turnF T g vs (.nt a) e ρ x = (bindT g x (wipeS ρ vs)).bind (kElc T (.nt a) e) := turn_cd T rfl
theorem turn_isi (g : Tg) (vs : List Nat) (e : CE) (ρ : Env) (x : D) (a : CE) (t : Ty) : turnF T g vs (.isi a t) e ρ x = (bindT g x (wipeS ρ vs)).bind (kElc T (.isi a t) e) := turn_cd T rfl
theorem turn_call (g : Tg) (vs : List Nat) (e : CE) (ρ : Env) (x : D) (f : Nat) (a : CE) : turnF T g vs (.call f a) e ρ x = (bindT g x (wipeS ρ vs)).bind (kElc T (.call f a) e) := turn_cd T rfl
theorem turn_cmp2 (g : Tg) (vs : List Nat) (e : CE) (ρ : Env) (x : D) (o o2 : COp) (a b c : CE) : turnF T g vs (.cmp2 o o2 a b c) e ρ x = (bindT g x (wipeS ρ vs)).bind (kElc T (.cmp2 o o2 a b c) e) := turn_cd T rfl
theorem turn_bi (g : Tg) (vs : List Nat) (e : CE) (ρ : Env) (x : D) (b : BI) (a : CE) : turnF T g vs (.bi b a) e ρ x = (bindT g x (wipeS ρ vs)).bind (kElc T (.bi b a) e) := turn_cd T rfl
theorem kCd_t (e : CE) (ρ : Env) : kCd T e ρ (.bl true) = (evalE T e ρ).bind kSome := (rfl)
theorem kCd_f (e : CE) (ρ : Env) : kCd T e ρ (.bl false) = .ok none := (rfl)
/-! ### statements -/
def kNx (k : CS) : Out → R Out
  | .nx ρ => exec T fuel k ρ
  | .bk ρ => .ok (.bk ρ)
  | .rt fr d => .ok (.rt fr d)
def kLoop (k : CS) : Out → R Out
  | .nx ρ => exec T fuel k ρ
  | .bk _ => .bad
  | .rt fr d => .ok (.rt fr d)
def kSet (e : CE) (i : Nat) (k : CS) (ρ : Env) (d : D) : R Out := exec T fuel k ((frz ρ e d).set i (.val d))
def kPut (e : CE) (i : Nat) (k : CS) (ρ : Env) (s : Slot × D) : R Out := exec T fuel k ((frz ρ e s.2).set i s.1)
def kOwn (e : CE) (i : Nat) (k : CS) (ρ : Env) (d : D) : R Out := (put true e d).bind (kPut T fuel e i k ρ)
def kGo (k : CS) (ρ : Env) : R Out := exec T fuel k ρ
def kUnp (l : List Nat) (e : CE) (k : CS) (ρ : Env) (d : D) : R Out := (bindT (.tp l) d (frz ρ e d)).bind (kGo T fuel k)
def kPar4 (i j : Nat) (a b : CE) (k : CS) (ρ : Env) (s t : Slot × D) : R Out := exec T fuel k (((frz ρ (.cons a (.cons b .nil)) (.tup [s.2, t.2])).set i s.1).set j t.1)
def kPar3 (i j : Nat) (q : Bool) (a b : CE) (k : CS) (ρ : Env) (s : Slot × D) (y : D) : R Out := (put q b y).bind (kPar4 T fuel i j a b k ρ s)
def kPar2 (i j : Nat) (q : Bool) (a b : CE) (k : CS) (ρ : Env) (s : Slot × D) : R Out := (evalE T b ρ).bind (kPar3 T fuel i j q a b k ρ s)
def kPar (i j : Nat) (p q : Bool) (a b : CE) (k : CS) (ρ : Env) (x : D) : R Out := (put p a x).bind (kPar2 T fuel i j q a b k ρ)
def kTr6 (i j h : Nat) (a b c : CE) (k : CS) (ρ : Env) (s t u : Slot × D) : R Out := exec T fuel k ((((frz ρ (.cons a (.cons b (.cons c .nil))) (.tup [s.2, t.2, u.2])).set i s.1).set j t.1).set h u.1)
def kTr5 (i j h : Nat) (r : Bool) (a b c : CE) (k : CS) (ρ : Env) (s t : Slot × D) (z : D) : R Out := (put r c z).bind (kTr6 T fuel i j h a b c k ρ s t)
def kTr4 (i j h : Nat) (r : Bool) (a b c : CE) (k : CS) (ρ : Env) (s t : Slot × D) : R Out := (evalE T c ρ).bind (kTr5 T fuel i j h r a b c k ρ s t)
def kTr3 (i j h : Nat) (q r : Bool) (a b c : CE) (k : CS) (ρ : Env) (s : Slot × D) (y : D) : R Out := (put q b y).bind (kTr4 T fuel i j h r a b c k ρ s)
def kTr2 (i j h : Nat) (q r : Bool) (a b c : CE) (k : CS) (ρ : Env) (s : Slot × D) : R Out := (evalE T b ρ).bind (kTr3 T fuel i j h q r a b c k ρ s)
def kTr (i j h : Nat) (p q r : Bool) (a b c : CE) (k : CS) (ρ : Env) (x : D) : R Out := (put p a x).bind (kTr2 T fuel i j h q r a b c k ρ)
def kEx (k : CS) (ρ : Env) (_ : D) : R Out := exec T fuel k ρ
def kRet (d : D) : R Out := .ok (.rt false d)
def kReto (l : List D) : R Out := .ok (.rt true (.lst l))
def kRetf2 (e : CE) (l : List D) : R Out := if e.fresh = true then .ok (.rt true (.lst l)) else .bad
def kRetf (e : CE) (d : D) : R Out := asL d (kRetf2 e)
def kIte (a b k : CS) (ρ : Env) (x : D) : R Out := (onT (truth x) (exec T fuel a ρ) (exec T fuel b ρ)).bind (kNx T fuel k)
def kFor2 (k : IK) (g : Tg) (it : CE) (b t : CS) (ρ : Env) (l : List D) : R Out := if l.length ≤ lim then (loopF g (exec T fuel b) l (hold ρ k it)).bind (kLoop T fuel t) else .bad
def kFor (k : IK) (g : Tg) (it : CE) (b t : CS) (ρ : Env) (d : D) : R Out := (itemsOf k d).bind (kFor2 T fuel k g it b t ρ)
def kApp2 (i : Nat) (e : CE) (k : CS) (ρ : Env) (l : List D) (d : D) : R Out := if (decide (l.length < lim) && !(e.men i && D.occ l d)) = true then exec T fuel k ((frz ρ e d).set i (.own (l ++ [d]))) else .bad
def kApp (i : Nat) (e : CE) (k : CS) (ρ : Env) (l : List D) : R Out := (evalE T e ρ).bind (kApp2 T fuel i e k ρ l)
def kExt3 (i : Nat) (e : CE) (k : CS) (ρ : Env) (l m : List D) : R Out := if (decide (l.length + m.length ≤ lim) && !(e.men i && D.occ l (.tup m))) = true then exec T fuel k ((frz ρ e (.tup m)).set i (.own (l ++ m))) else .bad
def kExt2 (i : Nat) (e : CE) (k : CS) (ρ : Env) (l : List D) (d : D) : R Out := asL d (kExt3 T fuel i e k ρ l)
def kExt (i : Nat) (e : CE) (k : CS) (ρ : Env) (l : List D) : R Out := (evalE T e ρ).bind (kExt2 T fuel i e k ρ l)
theorem ex_nil (ρ : Env) : exec T fuel .nil ρ = .ok (.nx ρ) := (rfl)
theorem ex_set (i : Nat) (e : CE) (k : CS) (ρ : Env) : exec T fuel (.set i e k) ρ = (evalE T e ρ).bind (kSet T fuel e i k ρ) := (rfl)
theorem ex_own (i : Nat) (e : CE) (k : CS) (ρ : Env) : exec T fuel (.own i e k) ρ = (evalE T e ρ).bind (kOwn T fuel e i k ρ) := (rfl)
theorem ex_unp (l : List Nat) (e : CE) (k : CS) (ρ : Env) : exec T fuel (.unp l e k) ρ = (evalE T e ρ).bind (kUnp T fuel l e k ρ) := (rfl)
theorem ex_par (i j : Nat) (p q : Bool) (a b : CE) (k : CS) (ρ : Env) : exec T fuel (.par i j p q a b k) ρ = (evalE T a ρ).bind (kPar T fuel i j p q a b k ρ) := (rfl)
theorem ex_par3 (i j h : Nat) (p q r : Bool) (a b c : CE) (k : CS) (ρ : Env) : exec T fuel (.par3 i j h p q r a b c k) ρ = (evalE T a ρ).bind (kTr T fuel i j h p q r a b c k ρ) := (rfl)
theorem ex_ex (e : CE) (k : CS) (ρ : Env) : exec T fuel (.ex e k) ρ = (evalE T e ρ).bind (kEx T fuel k ρ) := (rfl)
theorem ex_ret (e : CE) (ρ : Env) : exec T fuel (.ret e) ρ = (evalE T e ρ).bind kRet := (rfl)
theorem ex_reto (i : Nat) (ρ : Env) : exec T fuel (.reto i) ρ = withO (ownAt ρ i) kReto := (rfl)
theorem ex_retf (e : CE) (ρ : Env) : exec T fuel (.retf e) ρ = (evalE T e ρ).bind (kRetf e) := (rfl)
theorem ex_rai (c : Nat) (ρ : Env) : exec T fuel (.rai c) ρ = .exc c := (rfl)
theorem nx_eta (k : CS) : (fun o : Out => match o with
        | .nx ρ1 => exec T fuel k ρ1
        | .bk ρ1 => R.ok (Out.bk ρ1)
        | .rt fr d => .ok (.rt fr d)) = kNx T fuel k := by funext o; cases o <;> rfl
theorem lp_eta (k : CS) : (fun o : Out => match o with
        | .nx ρ1 => exec T fuel k ρ1
        | .bk _ => R.bad
        | .rt fr d => .ok (.rt fr d)) = kLoop T fuel k := by funext o; cases o <;> rfl
theorem ex_ite (c : CE) (a b k : CS) (ρ : Env) : exec T fuel (.ite c a b k) ρ = (evalE T c ρ).bind (kIte T fuel a b k ρ) := by
  simp only [exec, nx_eta]; rfl
theorem ex_for (k : IK) (g : Tg) (it : CE) (b t : CS) (ρ : Env) : exec T fuel (.forE k g it b t) ρ = (evalE T it ρ).bind (kFor T fuel k g it b t ρ) := by
  simp only [exec, lp_eta]; rfl
theorem ex_whl (c : CE) (b k : CS) (ρ : Env) : exec T fuel (.whl c b k) ρ = (whileF (evalE T c) (exec T fuel b) fuel ρ).bind (kLoop T fuel k) := by
  simp only [exec]; congr 1
theorem ex_app (i : Nat) (e : CE) (k : CS) (ρ : Env) : exec T fuel (.app i e k) ρ = withO (ownAt ρ i) (kApp T fuel i e k ρ) := (rfl)
theorem ex_ext (i : Nat) (e : CE) (k : CS) (ρ : Env) : exec T fuel (.ext i e k) ρ = withO (ownAt ρ i) (kExt T fuel i e k ρ) := (rfl)
theorem ex_pas (k : CS) (ρ : Env) : exec T fuel (.pas k) ρ = exec T fuel k ρ := (rfl)
theorem ex_brk (ρ : Env) : exec T fuel .brk ρ = .ok (.bk ρ) := (rfl)
def kSto3 (i : Nat) (k : CS) (ρ : Env) (l : List D) (d : D) (j : Nat) : R Out := exec T fuel k (ρ.set i (.own (l.set j d)))
def kSto2 (i : Nat) (k : CS) (ρ : Env) (d : D) (l : List D) (y : D) : R Out := withO (ixD l.length y) (kSto3 T fuel i k ρ l d)
def kSto1 (i : Nat) (ix : CE) (k : CS) (ρ : Env) (d : D) (l : List D) : R Out := (evalE T ix ρ).bind (kSto2 T fuel i k ρ d l)
def kSto (i : Nat) (ix e : CE) (k : CS) (ρ : Env) (d : D) : R Out := withO (ownAt (frz ρ e d) i) (kSto1 T fuel i ix k (frz ρ e d) d)
theorem ex_sto (i : Nat) (ix e : CE) (k : CS) (ρ : Env) : exec T fuel (.sto i ix e k) ρ = (evalE T e ρ).bind (kSto T fuel i ix e k ρ) := (rfl)
theorem ex_wip (vs : List Nat) (k : CS) (ρ : Env) : exec T fuel (.wip vs k) ρ = exec T fuel k (wipeS ρ vs) := (rfl)
theorem kIte_t (a b k : CS) (ρ : Env) : kIte T fuel a b k ρ (.bl true) = (exec T fuel a ρ).bind (kNx T fuel k) := (rfl)
theorem kIte_f (a b k : CS) (ρ : Env) : kIte T fuel a b k ρ (.bl false) = (exec T fuel b ρ).bind (kNx T fuel k) := (rfl)
theorem kNx_n (k : CS) (ρ : Env) : kNx T fuel k (.nx ρ) = exec T fuel k ρ := (rfl)
theorem kNx_b (k : CS) (ρ : Env) : kNx T fuel k (.bk ρ) = .ok (.bk ρ) := (rfl)
theorem kNx_r (k : CS) (fr : Bool) (d : D) : kNx T fuel k (.rt fr d) = .ok (.rt fr d) := (rfl)
theorem kLoop_n (k : CS) (ρ : Env) : kLoop T fuel k (.nx ρ) = exec T fuel k ρ := (rfl)
theorem kLoop_r (k : CS) (fr : Bool) (d : D) : kLoop T fuel k (.rt fr d) = .ok (.rt fr d) := (rfl)
theorem kFor2_ok {k : IK} {g : Tg} {it : CE} {b t : CS} {ρ : Env} {l : List D} (h : l.length ≤ lim) : kFor2 T fuel k g it b t ρ l = (loopF g (exec T fuel b) l (hold ρ k it)).bind (kLoop T fuel t) := if_pos h
theorem kApp2_ok {i : Nat} {e : CE} {k : CS} {ρ : Env} {l : List D} {d : D} (h : l.length < lim) (h2 : (e.men i && D.occ l d) = false) : kApp2 T fuel i e k ρ l d = exec T fuel k ((frz ρ e d).set i (.own (l ++ [d]))) := by
  unfold kApp2; rw [h2, decide_eq_true h]; rfl
theorem kExt3_ok {i : Nat} {e : CE} {k : CS} {ρ : Env} {l m : List D} (h : l.length + m.length ≤ lim) (h2 : (e.men i && D.occ l (.tup m)) = false) : kExt3 T fuel i e k ρ l m = exec T fuel k ((frz ρ e (.tup m)).set i (.own (l ++ m))) := by
  unfold kExt3; rw [h2, decide_eq_true h]; rfl
theorem kExt2_l (i : Nat) (e : CE) (k : CS) (ρ : Env) (l m : List D) : kExt2 T fuel i e k ρ l (.lst m) = kExt3 T fuel i e k ρ l m := (rfl)
theorem kRetf_l (e : CE) (l : List D) : kRetf e (.lst l) = kRetf2 e l := (rfl)
theorem kRetf2_cf (f : Nat) (as : CE) (l : List D) : kRetf2 (.callf f as) l = .ok (.rt true (.lst l)) := (rfl)
theorem kRetf2_co (k : IK) (g : Tg) (vs : List Nat) (a b c : CE) (l : List D) : kRetf2 (.comp k g vs a b c) l = .ok (.rt true (.lst l)) := (rfl)
theorem kRetf2_ls (as : CE) (l : List D) : kRetf2 (.lst as) l = .ok (.rt true (.lst l)) := (rfl)
theorem kRetf2_sl (a b c : CE) (l : List D) : kRetf2 (.sl a b c) l = .ok (.rt true (.lst l)) := (rfl)
theorem kRetf2_li (as : CE) (l : List D) : kRetf2 (.bi .list as) l = .ok (.rt true (.lst l)) := (rfl)
theorem kRetf2_ad (a b : CE) (l : List D) : kRetf2 (.bin .add a b) l = .ok (.rt true (.lst l)) := (rfl)
theorem put_cf (f : Nat) (as : CE) (l : List D) : put true (.callf f as) (.lst l) = .ok (.own l, .tup l) := (rfl)
theorem put_lrg (a : CE) (l : List D) : put true (.lrg a) (.lst l) = .ok (.own l, .tup l) := (rfl)
theorem put_rev (a : CE) (l : List D) : put true (.rev a) (.lst l) = .ok (.own l, .tup l) := (rfl)
theorem put_rep (a b : CE) (l : List D) : put true (.rep a b) (.lst l) = .ok (.own l, .tup l) := (rfl)
end
theorem kis : (kIs .int .non = .ok (.bl false)) ∧ (∀ b, kIs .int (.bl b) = .ok (.bl true)) ∧ (∀ i, kIs .int (.int i) = .ok (.bl true)) ∧ (∀ s, kIs .int (.str s) = .ok (.bl false)) ∧ (∀ l, kIs .int (.tup l) = .ok (.bl false)) ∧ (∀ l, kIs .int (.lst l) = .ok (.bl false)) ∧
  (kIs .bool .non = .ok (.bl false)) ∧ (∀ b, kIs .bool (.bl b) = .ok (.bl true)) ∧ (∀ i, kIs .bool (.int i) = .ok (.bl false)) ∧ (∀ s, kIs .bool (.str s) = .ok (.bl false)) ∧ (∀ l, kIs .bool (.tup l) = .ok (.bl false)) ∧ (∀ l, kIs .bool (.lst l) = .ok (.bl false)) ∧
  (kIs .tuple .non = .ok (.bl false)) ∧ (∀ b, kIs .tuple (.bl b) = .ok (.bl false)) ∧ (∀ i, kIs .tuple (.int i) = .ok (.bl false)) ∧ (∀ s, kIs .tuple (.str s) = .ok (.bl false)) ∧ (∀ l, kIs .tuple (.tup l) = .ok (.bl true)) ∧ (∀ l, kIs .tuple (.lst l) = .ok (.bl false)) ∧
  (kIs .list .non = .ok (.bl false)) ∧ (∀ b, kIs .list (.bl b) = .ok (.bl false)) ∧ (∀ i, kIs .list (.int i) = .ok (.bl false)) ∧ (∀ s, kIs .list (.str s) = .ok (.bl false)) ∧ (∀ l, kIs .list (.tup l) = .ok (.bl false)) ∧ (∀ l, kIs .list (.lst l) = .ok (.bl true)) ∧
  (kIs .str .non = .ok (.bl false)) ∧ (∀ b, kIs .str (.bl b) = .ok (.bl false)) ∧ (∀ i, kIs .str (.int i) = .ok (.bl false)) ∧ (∀ s, kIs .str (.str s) = .ok (.bl true)) ∧ (∀ l, kIs .str (.tup l) = .ok (.bl false)) ∧ (∀ l, kIs .str (.lst l) = .ok (.bl false)) := by
  refine ⟨?_, ?_, ?_, ?_, ?_, ?_, ?_, ?_, ?_, ?_, ?_, ?_, ?_, ?_, ?_, ?_, ?_, ?_, ?_, ?_, ?_, ?_, ?_, ?_, ?_, ?_, ?_, ?_, ?_, ?_⟩ <;> intros <;> rfl
theorem part_neg (a : CE) (i : Int) : partOf (.neg a) (.ok (.int i)) = .ok (some i) := (rfl)
theorem part_bin (o : BOp) (a b : CE) (i : Int) : partOf (.bin o a b) (.ok (.int i)) = .ok (some i) := (rfl)
theorem part_bi (b : BI) (a : CE) (i : Int) : partOf (.bi b a) (.ok (.int i)) = .ok (some i) := (rfl)
theorem part_idx (a b : CE) (i : Int) : partOf (.idx a b) (.ok (.int i)) = .ok (some i) := (rfl)
theorem hold_enum (ρ : Env) (e : CE) : hold ρ .enum e = holdAt e 0 ρ := (rfl)
theorem hold_zip (ρ : Env) (e : CE) : hold ρ .zip e = holdAt e 0 ρ := (rfl)
theorem it_zip (l m : List D) : itemsOf .zip (.tup [.lst l, .lst m]) = .ok (zipD l m) := (rfl)
theorem idx_q0 (x : Rat) : evIdx (qD x) (.int 0) = .ok (.int x.num) := (rfl)
theorem idx_q1 (x : Rat) : evIdx (qD x) (.int 1) = .ok (.int (x.den : Int)) := (rfl)
theorem len_q (x : Rat) : evBI .len [qD x] = .ok (.int 2) := (rfl)
theorem occ_q (l : List D) (x : Rat) : D.occ l (qD x) = false := (rfl)
/-! ### objects -/
section
variable {tab : List Fn} {n : Nat}
abbrev sideD (v b s r : D) : D := .obj c_Side [v, b, s, r]
abbrev picD (p w q : D) : D := .obj c_Picture [p, w, q]
theorem fl_side (v b s r : D) : fldD (TB tab n) a_value (sideD v b s r) = .ok v ∧ fldD (TB tab n) a_beyond (sideD v b s r) = .ok b ∧ fldD (TB tab n) a_slope (sideD v b s r) = .ok s ∧ fldD (TB tab n) a_reach (sideD v b s r) = .ok r := ⟨rfl, rfl, rfl, rfl⟩
theorem fl_pic (p w q : D) : fldD (TB tab n) a_places (picD p w q) = .ok p ∧ fldD (TB tab n) a_worths (picD p w q) = .ok w ∧ fldD (TB tab n) a_pieces (picD p w q) = .ok q := ⟨rfl, rfl, rfl⟩
theorem mk_side (v b s r : D) : mkD (TB tab n) c_Side [v, b, s, r] = .ok (sideD v b s r) := (rfl)
theorem mk_pic (p w q : List D) : mkD (TB tab n) c_Picture [.lst p, .lst w, .lst q] = .ok (picD (.lst p) (.lst w) (.lst q)) := (rfl)
theorem mt_side (v b s r : D) : methO (TB tab n) m_0 (sideD v b s r) = some f_Side_shows := (rfl)
end
end RF

end S_EV
section S_LG
set_option maxHeartbeats 4000000
namespace RF
open PySem PySem.Spec L2
local macro_rules
  | `(tactic| simp_arith [$ts,*]) => `(tactic| simp only [ee_var, ee_c, ee_glb, ee_neg, ee_nt, ee_bin, ee_cmp, ee_cmp2, ee_and, ee_or, ee_ife, ee_nil, ee_cons, ee_tup, ee_lst, ee_idx, ee_sl, ee_call, ee_callf, ee_rep, kRep_1, ee_lrg, ee_rev, rev_l, ex_sto, kSto, kSto1, kSto2, kSto3, put_lrg, put_rev, ee_bi, ee_isi, ee_comp, ee_fld, ee_mk, ee_isC, ee_meth, kMk_t, kMeth, kMeth1, kMeth2_t, fl_side, fl_pic, mk_side, mk_pic, mt_side, kVar_s, kNeg_i, kNot_b, kBin, kCmp, kCmp2, kCmpB, kCmpC_t, kCmpC_f, kAnd_t, kAnd_f, kOr_t, kOr_f, kIfe_t, kIfe_f, kCons, kPre_t, kTup_1, kTup_2, kTup_3, kTup_4, kTup_5, kTup_6, kLst_0, kLst_1, kLst_2, kLst_3, kLst_4, kLst_5, kLst_6, kIdx, kSl, kSl2, kSl3, kCall_t, kBi_t, kis, kIs_q, kComp, kComp2_ok, kList, turn_nil, turn_cmp, turn_and, turn_or, turn_nt, turn_isi, turn_call, turn_cmp2, turn_bi, kEl, kElc, kSome, kCd_t, kCd_f, ex_nil, ex_set, ex_own, ex_unp, ex_par, ex_par3, ex_ex, ex_ret, ex_reto, ex_retf, kReto, kRetf_l, kRetf2_cf, kRetf2_co, kRetf2_ls, kRetf2_sl, kRetf2_li, kRetf2_ad, put_cf, put_rep, ex_rai, ex_ite, ex_for, ex_whl, ex_app, ex_ext, ex_pas, ex_brk, ex_wip, kSet, kOwn, kPut, kUnp, kGo, kPar, kPar2, kPar3, kPar4, kTr, kTr2, kTr3, kTr4, kTr5, kTr6, kEx, kRet, kIte_t, kIte_f, kNx_n, kNx_b, kNx_r, kLoop_n, kLoop_r, kFor, kFor2_ok, kApp, kApp2_ok, kExt, kExt2_l, kExt3_ok, R.bind_ok, R.bind_exc, slot_0, slot_s, sd_v, sd_o, List.set_cons_zero, List.set_cons_succ, frz_def, frz_v, frz_n, frz_0, frz_o, hold_rng, hold_seq, hold_enum, hold_zip, it_zip, hold_v, hold_n, hold_0, hold_o, put_f, put_lst, put_sl, put_li, put_co, put_add, ev_lt, ev_le, ev_gt, ev_ge, ev_eq, ev_ne, ev_isN, ev_notN, eqD_int, eqD_pair, eqD_q, rb_len_t2, rb_len_t3, rb_len_t4, rb_len_l, len_q, rb_abs, rb_min, rb_list_l, rb_list_t, rb_tuple_l, rb_tuple_t, rb_all, rb_any, rb_sum, idx_t0, idx_t1, idx_t2, idx_t3, idx_q0, idx_q1, bin_add, bin_sub, out_rt, out_rl, outF_rl, out_nx, Bool.not_true, Bool.not_false, if_true, if_false, reduceIte, decide_true, decide_false, eq_self, Nat.reduceAdd, withO_s, Int.reduceLT, Int.reduceLE, Int.reduceEq, Int.reduceNeg, Int.reduceAdd, own_0, own_s, CE.men, Nat.reduceBEq, Bool.false_and, Bool.true_and, Bool.and_true, Bool.and_false, Bool.or_false, Bool.false_or, Bool.or_true, Bool.true_or, kqs, part_nil, part_c, part_v, part_neg, part_bin, part_bi, part_idx, sl_t41, sl_t43, it_l, it_t, it_enum, wipeS, bindT, bindL, Bool.false_eq_true, asL_l, Int.natCast_one, Int.natCast_zero, D.occ, D.occs, occ_q, List.length_map, $ts,*])
variable {tab : List Fn} [Ext tab]
/-! constants of the laws' programs -/
structure Cs (w : Nat) (x : Rat) : Prop where
  den : x.den ∣ 6
  num : x.num.natAbs ≤ w
theorem Cs.mono {w v : Nat} {x : Rat} (h : Cs w x) (hv : w ≤ v) : Cs v x := ⟨h.den, Nat.le_trans h.num hv⟩
theorem Cs.sz {w k : Nat} {x : Rat} (h : Cs w x) (hw : w < 2 ^ k) (hk : 3 ≤ k) : Sz k x := by
  refine ⟨Nat.lt_of_le_of_lt h.num hw, ?_⟩
  have h1 : x.den ≤ 6 := Nat.le_of_dvd (by decide) h.den
  have h2 : 2 ^ 3 ≤ 2 ^ k := Nat.pow_le_pow_right (by decide) hk
  unfold Sm
  rw [Int.natAbs_natCast]
  omega
theorem cs_low {w : Nat} {a b : Int} (hb : b = 1 ∨ b = 2 ∨ b = 3) (ha : a.natAbs ≤ w) : Cs w (Rat.divInt a b) := by
  have b0 : b ≠ 0 := by omega
  have e := low_rat (a := a) b0
  refine ⟨?_, ?_⟩
  · have h1 : lowQ a b ∣ b := ⟨lby a b, (lowQ_mul a b).symm⟩
    rw [e.2] at h1
    have h2 : ((Rat.divInt a b).den : Int) ∣ 6 := Int.dvd_trans h1 (by rcases hb with rfl | rfl | rfl <;> decide)
    exact Int.natCast_dvd_natCast.mp h2
  · rw [← e.1]
    have h1 := congrArg Int.natAbs (lowP_mul a b)
    rw [Int.natAbs_mul] at h1
    have h2 : 0 < (lby a b).natAbs := Int.natAbs_pos.mpr (lby_ne b0)
    have h3 : (lowP a b).natAbs * 1 ≤ (lowP a b).natAbs * (lby a b).natAbs := Nat.mul_le_mul_left _ h2
    omega
theorem law_share_q (n : Nat) (z : Int) {w : Nat} (w0 : 0 < w) (w1 : w ≤ 10 ^ 12) : ∃ x : Rat, CF tab (n + 2) f_law_share [.int z, .int w] = .ok (qD x) ∧ Cs w x := by
  rw [go_law_share]
  have sw : Sm 41 (w : Int) := by unfold Sm; have : 10^12 < 2^41 := (by decide); omega
  have e4 : evBin .mul (.int 2) (.int w) = .ok (.int (2 * w)) := bin_mul (by decide) (sw.mono (by decide))
  have e5 : evBin .mod (.int (z.fdiv 7)) (.int (2 * w + 1)) = .ok (.int ((z.fdiv 7).fmod (2 * w + 1))) := bin_mod (by omega)
  have e6 : evBin .fdiv (.int z) (.int 7) = .ok (.int (z.fdiv 7)) := bin_fdiv (by decide) (by decide)
  have e7 : evBin .fdiv (.int z) (.int 3) = .ok (.int (z.fdiv 3)) := bin_fdiv (by decide) (by decide)
  have e8 : evBin .mod (.int (z.fdiv 3)) (.int 4) = .ok (.int ((z.fdiv 3).fmod 4)) := bin_mod (by decide)
  have sz : ((z.fdiv 7).fmod (2 * w + 1) - w).natAbs ≤ w := by
    have h1 := Int.fmod_nonneg_of_pos (z.fdiv 7) (b := 2 * w + 1) (by omega)
    have h2 := Int.fmod_lt_of_pos (z.fdiv 7) (b := 2 * w + 1) (by omega)
    omega
  obtain ⟨b, hb, b0⟩ : ∃ b : Int, evIdx (.tup [.int 1, .int 1, .int 2, .int 3]) (.int ((z.fdiv 3).fmod 4)) = .ok (.int b) ∧ (b = 1 ∨ b = 2 ∨ b = 3) := by
    have h1 := Int.fmod_nonneg_of_pos (z.fdiv 3) (b := 4) (by decide)
    have h2 := Int.fmod_lt_of_pos (z.fdiv 3) (b := 4) (by decide)
    generalize (z.fdiv 3).fmod 4 = r at h1 h2
    obtain ⟨r, rfl⟩ := Int.eq_ofNat_of_zero_le h1
    match r, h2 with
    | 0, _ => exact ⟨1, rfl, by decide⟩
    | 1, _ => exact ⟨1, rfl, by decide⟩
    | 2, _ => exact ⟨2, rfl, by decide⟩
    | 3, _ => exact ⟨3, rfl, by decide⟩
    | r + 4, h => exfalso; omega
  have sb : Sm 8000 b := Sm.mono (n := 2) (by unfold Sm; omega) (by decide)
  have lo := low_ok (tab := tab) n (a := (z.fdiv 7).fmod (2 * w + 1) - w) (b := b) (by omega) sb
  rw [low_q (by omega)] at lo
  simp_arith [b_law_share, e4, e5, e6, e7, e8, hb, lo]
  exact ⟨_, rfl, cs_low b0 sz⟩
/-! bodies -/
def B1.cs (w : Nat) : B1 → Prop
  | .is x => Cs w x
  | .by x _ => Cs w x
  | _ => True
def csB (w : Nat) (l : List B1) : Prop := ∀ s ∈ l, s.cs w
/-- a body that is being made -/
structure okBody (l : List B1) (c m : Nat) : Prop where
  len : 1 ≤ l.length
  most : l.length ≤ m
  st : ∀ (i : Nat) s, l[i]? = some s → s.ok i 1
  cs : csB 3 l
  ch : chB l = c
  one : c ≤ 1
theorem B1.ok_mono {s : B1} {a b inp : Nat} (h : s.ok a inp) (hb : a ≤ b) : s.ok b inp := by
  cases s <;> simp only [B1.ok] at h ⊢ <;> first | exact h | exact ⟨h.1, by omega⟩ | omega
theorem okBody.push {l : List B1} {c m : Nat} {s : B1} (h : okBody l c m) (hs : s.ok l.length 1) (hc : s.cs 3) (h1 : c + s.ch ≤ 1) : okBody (l ++ [s]) (c + s.ch) (m + 1) := by
  refine ⟨by simp, by have := h.most; simp; omega, fun i t ht => ?_, fun t ht => ?_, ?_, h1⟩
  · rw [List.getElem?_append] at ht
    split at ht
    · exact h.st i t ht
    · cases hi : i - l.length with
      | zero => rw [hi] at ht; cases ht; exact B1.ok_mono hs (by omega)
      | succ j => rw [hi] at ht; cases ht
  · rcases List.mem_append.mp ht with ht | ht
    · exact h.cs t ht
    · cases List.mem_singleton.mp ht; exact hc
  · have := h.ch
    unfold chB at *
    simp only [List.map_append, List.map_cons, List.map_nil, List.sum_append, List.sum_cons, List.sum_nil]
    omega
theorem okBody.mono {l : List B1} {c m m' : Nat} (h : okBody l c m) (hm : m ≤ m') : okBody l c m' := ⟨h.len, Nat.le_trans h.most hm, h.st, h.cs, h.ch, h.one⟩
theorem natMod (z : Int) {m : Nat} (h : 0 < m) : ∃ r : Nat, r < m ∧ z.fmod (m : Int) = (r : Int) := by
  have h1 := Int.fmod_nonneg_of_pos z (b := (m : Int)) (by omega)
  have h2 := Int.fmod_lt_of_pos z (b := (m : Int)) (by omega)
  exact ⟨(z.fmod m).toNat, by omega, by omega⟩
/-- z // a % m, by a small a above 0 -/
theorem ev_part (z : Int) {a : Int} (ha : a ≠ 0) (sa : Sm 100 a) : evBin .fdiv (.int z) (.int a) = .ok (.int (z.fdiv a)) := bin_fdiv ha (sa.mono (by decide))
theorem body_round (n : Nat) (z : Int) {l : List B1} {c m : Nat} (h : okBody l c m) (hm : m ≤ 60) (t : Nat) (ht : t ≤ 5) : ∃ l' c', okBody l' c' (m + 2) ∧ exec (TB tab (n + 2)) FU l_law_body_0 [.val (.int z), .own (l.map B1.D), .val (.int c), .val (.int t), .no, .no, .no] = .ok (.nx [.val (.int z), .own (l'.map B1.D), .val (.int c'), .no, .no, .no, .no]) := by
  have hl := h.len
  have hl2 := h.most
  have L : l.length < lim := by unfold lim; omega
  have L2 : ∀ a b : RF.D, l.length + [a, b].length ≤ lim := fun a b => by show l.length + 2 ≤ lim; unfold lim; omega
  have st : Sm 100 (t : Int) := Sm.mono (n := 3) (by unfold Sm; simp; omega) (by decide)
  have p5 := ev_part z (a := 5 + t) (by omega) (Sm.mono (n := 4) (by unfold Sm; omega) (by decide))
  have p40 := ev_part z (a := 40 + t) (by omega) (Sm.mono (n := 6) (by unfold Sm; omega) (by decide))
  have p9 := ev_part z (a := 9 + t) (by omega) (Sm.mono (n := 4) (by unfold Sm; omega) (by decide))
  have p11 := ev_part z (a := 11 + t) (by omega) (Sm.mono (n := 5) (by unfold Sm; omega) (by decide))
  have p2 := ev_part z (a := 2) (by omega) (by decide)
  have p60 := ev_part z (a := 60) (by omega) (by decide)
  have m6 : evBin .mod (.int (z.fdiv (5 + t))) (.int 6) = .ok (.int ((z.fdiv (5 + t)).fmod 6)) := bin_mod (by decide)
  have ml : evBin .mod (.int (z.fdiv (40 + t))) (.int (l.length : Int)) = .ok (.int ((z.fdiv (40 + t)).fmod (l.length : Int))) := bin_mod (by omega)
  have ml2 : evBin .mod (.int (z.fdiv 60)) (.int (l.length : Int)) = .ok (.int ((z.fdiv 60).fmod (l.length : Int))) := bin_mod (by omega)
  have m2 : evBin .mod (.int (z.fdiv 2)) (.int 2) = .ok (.int ((z.fdiv 2).fmod 2)) := bin_mod (by decide)
  obtain ⟨o, ol, eo⟩ := natMod (z.fdiv (40 + t)) (m := l.length) (by omega)
  obtain ⟨o2, ol2, eo2⟩ := natMod (z.fdiv 60) (m := l.length) (by omega)
  have e1 : ((l.length : Int) - 1) = ((l.length - 1 : Nat) : Int) := by omega
  obtain ⟨x, ex, cx⟩ := law_share_q (tab := tab) n (z.fdiv (9 + t)) (w := 2) (by decide) (by decide)
  obtain ⟨y, ey, cy⟩ := law_share_q (tab := tab) n (z.fdiv (11 + t)) (w := 3) (by decide) (by decide)
  rw [show ((2 : Nat) : Int) = 2 from rfl] at ex
  rw [show ((3 : Nat) : Int) = 3 from rfl] at ey
  rw [eo] at ml
  rw [eo2] at ml2
  have sx : Sz 100 x := cx.sz (k := 100) (by decide) (by decide)
  have sy : Sz 100 y := cy.sz (k := 100) (by decide) (by decide)
  have k6 : (z.fdiv (5 + t)).fmod 6 = 0 ∨ (z.fdiv (5 + t)).fmod 6 = 1 ∨ (z.fdiv (5 + t)).fmod 6 = 2 ∨ (z.fdiv (5 + t)).fmod 6 = 3 ∨ (z.fdiv (5 + t)).fmod 6 = 4 ∨ (z.fdiv (5 + t)).fmod 6 = 5 := by
    have h1 := Int.fmod_nonneg_of_pos (z.fdiv (5 + t)) (b := 6) (by decide)
    have h2 := Int.fmod_lt_of_pos (z.fdiv (5 + t)) (b := 6) (by decide)
    omega
  have k2 : (z.fdiv 2).fmod 2 = 0 ∨ (z.fdiv 2).fmod 2 = 1 := by
    have h1 := Int.fmod_nonneg_of_pos (z.fdiv 2) (b := 2) (by decide)
    have h2 := Int.fmod_lt_of_pos (z.fdiv 2) (b := 2) (by decide)
    omega
  -- what may be put behind
  have put1 : ∀ s : B1, s.ok l.length 1 → s.cs 3 → c + s.ch ≤ 1 → okBody (l ++ [s]) (c + s.ch) (m + 2) := fun s a b d => (h.push a b d).mono (by omega)
  have put2 : okBody (l ++ [.is y, .sum (l.length - 1) l.length]) c (m + 2) := by
    have a := h.push (s := .is y) sy cy h.one
    have b := a.push (s := .sum (l.length - 1) l.length) ⟨by simp; omega, by simp⟩ trivial h.one
    rw [List.append_assoc] at b
    exact b
  have hc : c = 0 ∨ c = 1 := by have := h.one; omega
  have dby : B1.D (.by x (l.length - 1)) = .tup [.str "by", qD x, .int ((l.length - 1 : Nat) : Int)] := rfl
  have dle : B1.D (.least (l.length - 1) o) = .tup [.str "least", .int ((l.length - 1 : Nat) : Int), .int (o : Int)] := rfl
  have dmo : B1.D (.most (l.length - 1) o) = .tup [.str "most", .int ((l.length - 1 : Nat) : Int), .int (o : Int)] := rfl
  have dif : B1.D (.iff o (l.length - 1) o2) = .tup [.str "if", .int (o : Int), .int ((l.length - 1 : Nat) : Int), .int (o2 : Int)] := rfl
  have dsu : B1.D (.sum (l.length - 1) o) = .tup [.str "sum", .int ((l.length - 1 : Nat) : Int), .int (o : Int)] := rfl
  have di2 : [B1.is y, .sum (l.length - 1) l.length].map B1.D = [.tup [.str "is", qD y], .tup [.str "sum", .int ((l.length - 1 : Nat) : Int), .int (l.length : Int)]] := rfl
  rcases k6 with k6 | k6 | k6 | k6 | k6 | k6 <;> rw [k6] at m6
  · refine ⟨_, _, put1 (.by x (l.length - 1)) ⟨sx, by omega⟩ (cx.mono (by decide)) h.one, ?_⟩
    simp_arith [l_law_body_0, p5, m6, p40, ml, List.length_map, D.occ, D.occs, p9, ex, e1, L, List.map_append, List.map_cons, List.map_nil, dby, B1.ch, Nat.add_zero, Nat.zero_add]
  · rcases hc with rfl | rfl
    · rcases k2 with k2 | k2 <;> rw [k2] at m2
      · refine ⟨_, _, put1 (.least (l.length - 1) o) ⟨by omega, by omega⟩ trivial (Nat.le_refl 1), ?_⟩
        simp_arith [l_law_body_0, p5, m6, p40, ml, List.length_map, D.occ, D.occs, p2, m2, e1, L, List.map_append, List.map_cons, List.map_nil, dle, B1.ch, Nat.add_zero, Nat.zero_add]
      · refine ⟨_, _, put1 (.most (l.length - 1) o) ⟨by omega, by omega⟩ trivial (Nat.le_refl 1), ?_⟩
        simp_arith [l_law_body_0, p5, m6, p40, ml, List.length_map, D.occ, D.occs, p2, m2, e1, L, List.map_append, List.map_cons, List.map_nil, dmo, B1.ch, Nat.add_zero, Nat.zero_add]
    · refine ⟨_, _, put2, ?_⟩
      simp_arith [l_law_body_0, p5, m6, p40, ml, List.length_map, D.occ, D.occs, p11, ey, e1, L2, List.map_append, di2]
  · rcases hc with rfl | rfl
    · refine ⟨_, _, put1 (.iff o (l.length - 1) o2) ⟨by omega, by omega, by omega⟩ trivial (Nat.le_refl 1), ?_⟩
      simp_arith [l_law_body_0, p5, m6, p40, ml, List.length_map, D.occ, D.occs, p60, ml2, e1, L, List.map_append, List.map_cons, List.map_nil, dif, B1.ch, Nat.add_zero, Nat.zero_add]
    · refine ⟨_, _, put2, ?_⟩
      simp_arith [l_law_body_0, p5, m6, p40, ml, List.length_map, D.occ, D.occs, p11, ey, e1, L2, List.map_append, di2]
  · refine ⟨_, _, put1 (.sum (l.length - 1) o) ⟨by omega, by omega⟩ trivial h.one, ?_⟩
    simp_arith [l_law_body_0, p5, m6, p40, ml, List.length_map, D.occ, D.occs, e1, L, List.map_append, List.map_cons, List.map_nil, dsu, B1.ch, Nat.add_zero, Nat.zero_add]
  · refine ⟨_, _, put2, ?_⟩
    simp_arith [l_law_body_0, p5, m6, p40, ml, List.length_map, D.occ, D.occs, p11, ey, e1, L2, List.map_append, di2]
  · refine ⟨_, _, put2, ?_⟩
    simp_arith [l_law_body_0, p5, m6, p40, ml, List.length_map, D.occ, D.occs, p11, ey, e1, L2, List.map_append, di2]


end RF

end S_LG
section S_LH
set_option maxHeartbeats 4000000
namespace RF
open PySem PySem.Spec L2
local macro_rules
  | `(tactic| simp_arith [$ts,*]) => `(tactic| simp only [ee_var, ee_c, ee_glb, ee_neg, ee_nt, ee_bin, ee_cmp, ee_cmp2, ee_and, ee_or, ee_ife, ee_nil, ee_cons, ee_tup, ee_lst, ee_idx, ee_sl, ee_call, ee_callf, ee_rep, kRep_1, ee_lrg, ee_rev, rev_l, ex_sto, kSto, kSto1, kSto2, kSto3, put_lrg, put_rev, ee_bi, ee_isi, ee_comp, ee_fld, ee_mk, ee_isC, ee_meth, kMk_t, kMeth, kMeth1, kMeth2_t, fl_side, fl_pic, mk_side, mk_pic, mt_side, kVar_s, kNeg_i, kNot_b, kBin, kCmp, kCmp2, kCmpB, kCmpC_t, kCmpC_f, kAnd_t, kAnd_f, kOr_t, kOr_f, kIfe_t, kIfe_f, kCons, kPre_t, kTup_1, kTup_2, kTup_3, kTup_4, kTup_5, kTup_6, kLst_0, kLst_1, kLst_2, kLst_3, kLst_4, kLst_5, kLst_6, kIdx, kSl, kSl2, kSl3, kCall_t, kBi_t, kis, kIs_q, kComp, kComp2_ok, kList, turn_nil, turn_cmp, turn_and, turn_or, turn_nt, turn_isi, turn_call, turn_cmp2, turn_bi, kEl, kElc, kSome, kCd_t, kCd_f, ex_nil, ex_set, ex_own, ex_unp, ex_par, ex_par3, ex_ex, ex_ret, ex_reto, ex_retf, kReto, kRetf_l, kRetf2_cf, kRetf2_co, kRetf2_ls, kRetf2_sl, kRetf2_li, kRetf2_ad, put_cf, put_rep, ex_rai, ex_ite, ex_for, ex_whl, ex_app, ex_ext, ex_pas, ex_brk, ex_wip, kSet, kOwn, kPut, kUnp, kGo, kPar, kPar2, kPar3, kPar4, kTr, kTr2, kTr3, kTr4, kTr5, kTr6, kEx, kRet, kIte_t, kIte_f, kNx_n, kNx_b, kNx_r, kLoop_n, kLoop_r, kFor, kFor2_ok, kApp, kApp2_ok, kExt, kExt2_l, kExt3_ok, R.bind_ok, R.bind_exc, slot_0, slot_s, sd_v, sd_o, List.set_cons_zero, List.set_cons_succ, frz_def, frz_v, frz_n, frz_0, frz_o, hold_rng, hold_seq, hold_enum, hold_zip, it_zip, hold_v, hold_n, hold_0, hold_o, put_f, put_lst, put_sl, put_li, put_co, put_add, ev_lt, ev_le, ev_gt, ev_ge, ev_eq, ev_ne, ev_isN, ev_notN, eqD_int, eqD_pair, eqD_q, rb_len_t2, rb_len_t3, rb_len_t4, rb_len_l, len_q, rb_abs, rb_min, rb_list_l, rb_list_t, rb_tuple_l, rb_tuple_t, rb_all, rb_any, rb_sum, idx_t0, idx_t1, idx_t2, idx_t3, idx_q0, idx_q1, bin_add, bin_sub, out_rt, out_rl, outF_rl, out_nx, Bool.not_true, Bool.not_false, if_true, if_false, reduceIte, decide_true, decide_false, eq_self, Nat.reduceAdd, withO_s, Int.reduceLT, Int.reduceLE, Int.reduceEq, Int.reduceNeg, Int.reduceAdd, own_0, own_s, CE.men, Nat.reduceBEq, Bool.false_and, Bool.true_and, Bool.and_true, Bool.and_false, Bool.or_false, Bool.false_or, Bool.or_true, Bool.true_or, kqs, part_nil, part_c, part_v, part_neg, part_bin, part_bi, part_idx, sl_t41, sl_t43, it_l, it_t, it_enum, wipeS, bindT, bindL, Bool.false_eq_true, asL_l, Int.natCast_one, Int.natCast_zero, D.occ, D.occs, occ_q, List.length_map, $ts,*])
variable {tab : List Fn} [Ext tab]
theorem body_items (k : Nat) (k3 : k < 3) : itemsOf .rng (.tup [.int (1 + (k : Int))]) = .ok (upFrom 0 1 (1 + k)) := by
  have := it_rng (1 + k) (by unfold lim; omega)
  rw [Int.natCast_add, Int.natCast_one] at this
  exact this
theorem body_init : okBody [B1.inp 0] 0 1 := by
  refine ⟨Nat.le_refl 1, Nat.le_refl 1, fun i s h => ?_, fun s h => ?_, rfl, Nat.zero_le 1⟩
  · cases i with
    | zero => cases h; exact Nat.zero_lt_one
    | succ i => cases h
  · cases List.mem_singleton.mp h; trivial
theorem body_loop (n : Nat) (z : Int) (k : Nat) (k3 : k < 3) : ∃ ρ', loopF (.nm 3) (exec (TB tab (n + 2)) FU l_law_body_0) (upFrom 0 1 (1 + k)) [.val (.int z), .own ([B1.inp 0].map B1.D), .val (.int ((0 : Nat) : Int)), .no, .no, .no, .no] = .ok (.nx ρ') ∧ ∃ l c, okBody l c (1 + 2 * (1 + k)) ∧ ρ' = [.val (.int z), .own (l.map B1.D), .val (.int (c : Int)), .no, .no, .no, .no] := by
  have := loop_idx (g := .nm 3) (f := exec (TB tab (n + 2)) FU l_law_body_0) (l := upFrom 0 1 (1 + k)) (I := fun i ρ => ∃ l c, okBody l c (1 + 2 * i) ∧ ρ = [.val (.int z), .own (l.map B1.D), .val (.int (c : Int)), .no, .no, .no, .no]) (ρ := [.val (.int z), .own ([B1.inp 0].map B1.D), .val (.int ((0 : Nat) : Int)), .no, .no, .no, .no]) (fun i x ρ hx hI => by
    obtain ⟨l, c, h, rfl⟩ := hI
    obtain ⟨a, rfl⟩ := upFrom_gets hx
    obtain ⟨l', c', h', e⟩ := body_round (tab := tab) n z h (by omega) i (by omega)
    rw [show (0 : Int) + 1 * (i : Int) = (i : Int) by omega]
    exact ⟨[.val (.int z), .own (l.map B1.D), .val (.int c), .val (.int i), .no, .no, .no], rfl, _, e, l', c', h', rfl⟩) ⟨[B1.inp 0], 0, body_init, rfl⟩
  rw [upFrom_length] at this
  exact this
theorem law_body_ok (n : Nat) (z : Int) : ∃ l c, okBody l c 7 ∧ CF tab (n + 3) f_law_body [.int z] = .ok (.tup [.lst (l.map B1.D), .int c]) := by
  rw [go_law_body]
  obtain ⟨k, k3, ek⟩ := natMod z (m := 3) (by decide)
  rw [show ((3 : Nat) : Int) = 3 from rfl] at ek
  have m3 : evBin .mod (.int z) (.int 3) = .ok (.int (k : Int)) := by rw [← ek]; exact bin_mod (by decide)
  have hi := body_items k k3
  have hl : (upFrom 0 1 (1 + k)).length ≤ lim := by rw [upFrom_length]; unfold lim; omega
  obtain ⟨ρ', h1, l, c, h2, rfl⟩ := body_loop (tab := tab) n z k k3
  refine ⟨l, c, h2.mono (by omega), ?_⟩
  have e0 : ([B1.inp 0].map B1.D) = [RF.D.tup [.str (Str.ofString "in"), .int 0]] := rfl
  rw [e0, Int.natCast_zero] at h1
  simp_arith [b_law_body, m3, hi, hl, put_t, CE.fresh, h1]

end RF

end S_LH
section S_LI
set_option maxHeartbeats 4000000
namespace RF
open PySem PySem.Spec L2
local macro_rules
  | `(tactic| simp_arith [$ts,*]) => `(tactic| simp only [ee_var, ee_c, ee_glb, ee_neg, ee_nt, ee_bin, ee_cmp, ee_cmp2, ee_and, ee_or, ee_ife, ee_nil, ee_cons, ee_tup, ee_lst, ee_idx, ee_sl, ee_call, ee_callf, ee_rep, kRep_1, ee_lrg, ee_rev, rev_l, ex_sto, kSto, kSto1, kSto2, kSto3, put_lrg, put_rev, ee_bi, ee_isi, ee_comp, ee_fld, ee_mk, ee_isC, ee_meth, kMk_t, kMeth, kMeth1, kMeth2_t, fl_side, fl_pic, mk_side, mk_pic, mt_side, kVar_s, kNeg_i, kNot_b, kBin, kCmp, kCmp2, kCmpB, kCmpC_t, kCmpC_f, kAnd_t, kAnd_f, kOr_t, kOr_f, kIfe_t, kIfe_f, kCons, kPre_t, kTup_1, kTup_2, kTup_3, kTup_4, kTup_5, kTup_6, kLst_0, kLst_1, kLst_2, kLst_3, kLst_4, kLst_5, kLst_6, kIdx, kSl, kSl2, kSl3, kCall_t, kBi_t, kis, kIs_q, kComp, kComp2_ok, kList, turn_nil, turn_cmp, turn_and, turn_or, turn_nt, turn_isi, turn_call, turn_cmp2, turn_bi, kEl, kElc, kSome, kCd_t, kCd_f, ex_nil, ex_set, ex_own, ex_unp, ex_par, ex_par3, ex_ex, ex_ret, ex_reto, ex_retf, kReto, kRetf_l, kRetf2_cf, kRetf2_co, kRetf2_ls, kRetf2_sl, kRetf2_li, kRetf2_ad, put_cf, put_rep, ex_rai, ex_ite, ex_for, ex_whl, ex_app, ex_ext, ex_pas, ex_brk, ex_wip, kSet, kOwn, kPut, kUnp, kGo, kPar, kPar2, kPar3, kPar4, kTr, kTr2, kTr3, kTr4, kTr5, kTr6, kEx, kRet, kIte_t, kIte_f, kNx_n, kNx_b, kNx_r, kLoop_n, kLoop_r, kFor, kFor2_ok, kApp, kApp2_ok, kExt, kExt2_l, kExt3_ok, R.bind_ok, R.bind_exc, slot_0, slot_s, sd_v, sd_o, List.set_cons_zero, List.set_cons_succ, frz_def, frz_v, frz_n, frz_0, frz_o, hold_rng, hold_seq, hold_enum, hold_zip, it_zip, hold_v, hold_n, hold_0, hold_o, put_f, put_lst, put_sl, put_li, put_co, put_add, ev_lt, ev_le, ev_gt, ev_ge, ev_eq, ev_ne, ev_isN, ev_notN, eqD_int, eqD_pair, eqD_q, rb_len_t2, rb_len_t3, rb_len_t4, rb_len_l, len_q, rb_abs, rb_min, rb_list_l, rb_list_t, rb_tuple_l, rb_tuple_t, rb_all, rb_any, rb_sum, idx_t0, idx_t1, idx_t2, idx_t3, idx_q0, idx_q1, bin_add, bin_sub, out_rt, out_rl, outF_rl, out_nx, Bool.not_true, Bool.not_false, if_true, if_false, reduceIte, decide_true, decide_false, eq_self, Nat.reduceAdd, withO_s, Int.reduceLT, Int.reduceLE, Int.reduceEq, Int.reduceNeg, Int.reduceAdd, own_0, own_s, CE.men, Nat.reduceBEq, Bool.false_and, Bool.true_and, Bool.and_true, Bool.and_false, Bool.or_false, Bool.false_or, Bool.or_true, Bool.true_or, kqs, part_nil, part_c, part_v, part_neg, part_bin, part_bi, part_idx, sl_t41, sl_t43, it_l, it_t, it_enum, wipeS, bindT, bindL, Bool.false_eq_true, asL_l, Int.natCast_one, Int.natCast_zero, D.occ, D.occs, occ_q, List.length_map, $ts,*])
variable {tab : List Fn} [Ext tab]
def Stp.cs (w : Nat) : Stp → Prop
  | .b s => s.cs w
  | .turns _ _ l => csB w l
def csS (w : Nat) (l : List Stp) : Prop := ∀ s ∈ l, s.cs w
/-- a program that is being made -/
structure okProg (l : List Stp) (inp left room m : Nat) : Prop where
  len : 1 ≤ l.length
  most : l.length ≤ m
  st : ∀ (i : Nat) s, l[i]? = some s → s.ok i inp
  cs : csS 5 l
  ch : chS l + left ≤ 5
  run : runS l + room ≤ l.length + 50
theorem Cs.b1 {w v : Nat} {s : B1} (h : s.cs w) (hv : w ≤ v) : s.cs v := by
  cases s <;> simp only [B1.cs] at h ⊢ <;> exact h.mono hv
theorem Stp.ok_mono {s : Stp} {a b inp : Nat} (h : s.ok a inp) (hb : a ≤ b) : s.ok b inp := by
  cases s with
  | b s => exact B1.ok_mono h hb
  | turns m i l => exact ⟨h.1, by have := h.2.1; omega, h.2.2⟩
theorem runS_app (l k : List Stp) : runS (l ++ k) = runS l + runS k := by simp [runS]
theorem chS_app (l k : List Stp) : chS (l ++ k) = chS l + chS k := by simp [chS]
theorem runS_one (s : Stp) : runS [s] = s.run := by simp [runS]
theorem chS_one (s : Stp) : chS [s] = s.ch := by simp [chS]
theorem okProg.push {l : List Stp} {inp left room m : Nat} {s : Stp} (h : okProg l inp left room m) (hs : s.ok l.length inp) (hc : s.cs 5) (left' room' : Nat) (h1 : s.ch + left' ≤ left) (h2 : s.run + room' ≤ room + 1) : okProg (l ++ [s]) inp left' room' (m + 1) := by
  refine ⟨by simp, by have := h.most; simp; omega, fun i t ht => ?_, fun t ht => ?_, ?_, ?_⟩
  · rw [List.getElem?_append] at ht
    split at ht
    · exact h.st i t ht
    · cases hi : i - l.length with
      | zero => rw [hi] at ht; cases ht; exact Stp.ok_mono hs (by omega)
      | succ j => rw [hi] at ht; cases ht
  · rcases List.mem_append.mp ht with ht | ht
    · exact h.cs t ht
    · cases List.mem_singleton.mp ht; exact hc
  · rw [chS_app, chS_one]; have := h.ch; omega
  · rw [runS_app, runS_one, List.length_append]; have := h.run; simp; omega
/-- the state at a turn of making a program -/
abbrev pgSt (S C : RF.D) (b inp mo : Int) (left room : Nat) (l : List Stp) (x y : Slot) : Env := [.val S, .val (.int b), .val (.int inp), .val (.int mo), .val C, .val (.int left), .val (.int room), .own (l.map Stp.D), x, y, .no, .no, .no, .no, .no, .no, .no, .no, .no, .no, .no]
theorem program_round (n : Nat) (S : RF.D) (cs : List RF.D) (b at' inp : Nat) (mo : Int) (c : Int) {l : List Stp} {left room m : Nat} (h : okProg l inp left room m) (hb : b + at' ≤ 1000) (hcs : cs.length ≤ 100) (hm : m ≤ 1000) :
    ∃ l' left' room', okProg l' inp left' room' (m + 1) ∧ exec (TB tab (n + 3)) FU l_law_program_0 (pgSt S (.lst cs) b inp mo left room l (.val (.int at')) (.val (.int c))) = .ok (.nx (pgSt S (.lst cs) b inp mo left' room' l' .no .no)) := by
  have hl := h.len
  have hl2 := h.most
  have L : l.length < lim := by unfold lim; omega
  obtain ⟨z, ez⟩ := number_ok (tab := tab) (n + 2) (c := c) (at' := (at' : Int) + (b : Int)) (w := (cs.length : Int)) (by omega) (by omega) (by unfold Sm; omega)
  have m9 : evBin .mod (.int z) (.int 9) = .ok (.int (z.fmod 9)) := bin_mod (by decide)
  have p9 := ev_part z (a := 9) (by decide) (by decide)
  have p30 := ev_part z (a := 30) (by decide) (by decide)
  have p11 := ev_part z (a := 11) (by decide) (by decide)
  have p13 := ev_part z (a := 13) (by decide) (by decide)
  have p17 := ev_part z (a := 17) (by decide) (by decide)
  have p5 := ev_part z (a := 5) (by decide) (by decide)
  have p300 := ev_part z (a := 300) (by decide) (by decide)
  obtain ⟨o, ol, eo⟩ := natMod (z.fdiv 30) (m := l.length) (by omega)
  obtain ⟨t, tl, et⟩ := natMod (z.fdiv 300) (m := l.length) (by omega)
  have mo' : evBin .mod (.int (z.fdiv 30)) (.int (l.length : Int)) = .ok (.int (o : Int)) := by rw [← eo]; exact bin_mod (by omega)
  have mt : evBin .mod (.int (z.fdiv 300)) (.int (l.length : Int)) = .ok (.int (t : Int)) := by rw [← et]; exact bin_mod (by omega)
  obtain ⟨one, onel, eone⟩ : ∃ one : Nat, one < l.length ∧ ∃ r : Int, evBin .mod (.int (z.fdiv 9)) (.int (if (2 : Int) < (l.length : Int) then 2 else (l.length : Int))) = .ok (.int r) ∧ (l.length : Int) - 1 - r = (one : Int) := by
    by_cases c2 : (2 : Int) < (l.length : Int)
    · rw [if_pos c2]
      obtain ⟨r, r2, er⟩ := natMod (z.fdiv 9) (m := 2) (by decide)
      exact ⟨l.length - 1 - r, by omega, r, by rw [← er]; exact bin_mod (by decide), by omega⟩
    · rw [if_neg c2]
      obtain ⟨r, r2, er⟩ := natMod (z.fdiv 9) (m := l.length) (by omega)
      exact ⟨l.length - 1 - r, by omega, r, by rw [← er]; exact bin_mod (by omega), by omega⟩
  obtain ⟨r, er, eone⟩ := eone
  obtain ⟨x, ex, cx⟩ := law_share_q (tab := tab) (n + 1) (z.fdiv 11) (w := 3) (by decide) (by decide)
  obtain ⟨y, ey, cy⟩ := law_share_q (tab := tab) (n + 1) (z.fdiv 13) (w := 5) (by decide) (by decide)
  rw [show ((3 : Nat) : Int) = 3 from rfl] at ex
  rw [show ((5 : Nat) : Int) = 5 from rfl] at ey
  have sx : Sz 100 x := cx.sz (k := 100) (by decide) (by decide)
  have sy : Sz 100 y := cy.sz (k := 100) (by decide) (by decide)
  have k9 : z.fmod 9 = 0 ∨ z.fmod 9 = 1 ∨ z.fmod 9 = 2 ∨ z.fmod 9 = 3 ∨ z.fmod 9 = 4 ∨ z.fmod 9 = 5 ∨ z.fmod 9 = 6 ∨ z.fmod 9 = 7 ∨ z.fmod 9 = 8 := by
    have h1 := Int.fmod_nonneg_of_pos z (b := 9) (by decide)
    have h2 := Int.fmod_lt_of_pos z (b := 9) (by decide)
    omega
  have dsu : Stp.D (.b (.sum one o)) = .tup [.str "sum", .int (one : Int), .int (o : Int)] := rfl
  have dby : Stp.D (.b (.by x one)) = .tup [.str "by", qD x, .int (one : Int)] := rfl
  have dis : Stp.D (.b (.is y)) = .tup [.str "is", qD y] := rfl
  have dle : Stp.D (.b (.least one o)) = .tup [.str "least", .int (one : Int), .int (o : Int)] := rfl
  have dmo : Stp.D (.b (.most one o)) = .tup [.str "most", .int (one : Int), .int (o : Int)] := rfl
  have dif : Stp.D (.b (.iff o one t)) = .tup [.str "if", .int (o : Int), .int (one : Int), .int (t : Int)] := rfl
  have psum : okProg (l ++ [.b (.sum one o)]) inp left room (m + 1) := h.push (s := .b (.sum one o)) ⟨onel, ol⟩ trivial left room (by simp [Stp.ch, B1.ch]) (by simp [Stp.run]; omega)
  have lf : ((0 : Int) < (left : Int)) ↔ 0 < left := by omega
  rcases k9 with k9 | k9 | k9 | k9 | k9 | k9 | k9 | k9 | k9 <;> rw [k9] at m9
  · refine ⟨_, _, _, psum, ?_⟩
    simp_arith [pgSt, l_law_program_0, ez, m9, p9, er, eone, p30, mo', L, List.map_append, List.map_cons, List.map_nil, dsu]
  · refine ⟨_, _, _, psum, ?_⟩
    simp_arith [pgSt, l_law_program_0, ez, m9, p9, er, eone, p30, mo', L, List.map_append, List.map_cons, List.map_nil, dsu]
  · refine ⟨_, _, _, h.push (s := .b (.by x one)) ⟨sx, onel⟩ (cx.mono (by decide)) left room (by simp [Stp.ch, B1.ch]) (by simp [Stp.run]; omega), ?_⟩
    simp_arith [pgSt, l_law_program_0, ez, m9, p9, er, eone, p30, mo', p11, ex, L, List.map_append, List.map_cons, List.map_nil, dby]
  · refine ⟨_, _, _, h.push (s := .b (.is y)) sy cy left room (by simp [Stp.ch, B1.ch]) (by simp [Stp.run]; omega), ?_⟩
    simp_arith [pgSt, l_law_program_0, ez, m9, p9, er, eone, p30, mo', p13, ey, L, List.map_append, List.map_cons, List.map_nil, dis]
  · by_cases cl : 0 < left
    · have e1 : (left : Int) - 1 = ((left - 1 : Nat) : Int) := by omega
      refine ⟨_, _, _, h.push (s := .b (.least one o)) ⟨onel, ol⟩ trivial (left - 1) room (by simp [Stp.ch, B1.ch]; omega) (by simp [Stp.run]; omega), ?_⟩
      simp_arith [pgSt, l_law_program_0, ez, m9, p9, er, eone, p30, mo', p300, mt, lf, cl, e1, Int.reduceSub, L, List.map_append, List.map_cons, List.map_nil, dle]
    · refine ⟨_, _, _, psum, ?_⟩
      simp_arith [pgSt, l_law_program_0, ez, m9, p9, er, eone, p30, mo', lf, cl, L, List.map_append, List.map_cons, List.map_nil, dsu]
  · by_cases cl : 0 < left
    · have e1 : (left : Int) - 1 = ((left - 1 : Nat) : Int) := by omega
      refine ⟨_, _, _, h.push (s := .b (.most one o)) ⟨onel, ol⟩ trivial (left - 1) room (by simp [Stp.ch, B1.ch]; omega) (by simp [Stp.run]; omega), ?_⟩
      simp_arith [pgSt, l_law_program_0, ez, m9, p9, er, eone, p30, mo', p300, mt, lf, cl, e1, Int.reduceSub, L, List.map_append, List.map_cons, List.map_nil, dmo]
    · refine ⟨_, _, _, psum, ?_⟩
      simp_arith [pgSt, l_law_program_0, ez, m9, p9, er, eone, p30, mo', lf, cl, L, List.map_append, List.map_cons, List.map_nil, dsu]
  · by_cases cl : 0 < left
    · have e1 : (left : Int) - 1 = ((left - 1 : Nat) : Int) := by omega
      refine ⟨_, _, _, h.push (s := .b (.iff o one t)) ⟨ol, onel, tl⟩ trivial (left - 1) room (by simp [Stp.ch, B1.ch]; omega) (by simp [Stp.run]; omega), ?_⟩
      simp_arith [pgSt, l_law_program_0, ez, m9, p9, er, eone, p30, mo', p300, mt, lf, cl, e1, Int.reduceSub, L, List.map_append, List.map_cons, List.map_nil, dif]
    · refine ⟨_, _, _, psum, ?_⟩
      simp_arith [pgSt, l_law_program_0, ez, m9, p9, er, eone, p30, mo', lf, cl, L, List.map_append, List.map_cons, List.map_nil, dsu]
  · obtain ⟨bd, ch, hbd, ebd⟩ := law_body_ok (tab := tab) n (z.fdiv 17)
    obtain ⟨q, q4, eq⟩ := natMod (z.fdiv 5) (m := 4) (by decide)
    rw [show ((4 : Nat) : Int) = 4 from rfl] at eq
    have mq : evBin .mod (.int (z.fdiv 5)) (.int 4) = .ok (.int (q : Int)) := by rw [← eq]; exact bin_mod (by decide)
    have sq : ∀ k : Nat, k ≤ 6 → Sm 8000 (k : Int) := fun k hk => Sm.mono (n := 3) (by unfold Sm; omega) (by decide)
    have sc : Sm 8000 (ch : Int) := sq ch (by have := hbd.one; omega)
    have sl : Sm 8000 (bd.length : Int) := Sm.mono (n := 3) (by unfold Sm; have := hbd.most; omega) (by decide)
    have mul1 : ∀ k : Nat, k ≤ 6 → evBin .mul (.int (k : Int)) (.int (ch : Int)) = .ok (.int ((k * ch : Nat) : Int)) := fun k hk => by rw [bin_mul (sq k hk) sc, Int.natCast_mul]
    have mul2 : ∀ k : Nat, k ≤ 6 → evBin .mul (.int (k : Int)) (.int (bd.length : Int)) = .ok (.int ((k * bd.length : Nat) : Int)) := fun k hk => by rw [bin_mul (sq k hk) sl, Int.natCast_mul]
    have okb : okB 1 bd := ⟨hbd.len, by have := hbd.most; omega, hbd.st⟩
    have csb : csB 5 bd := fun s hs => Cs.b1 (hbd.cs s hs) (by decide)
    have fin : ∀ k : Nat, k ≤ 3 → k * ch ≤ left → k * bd.length ≤ room → okProg (l ++ [.turns k one bd]) inp (left - k * ch) (room - k * bd.length) (m + 1) := fun k hk h1 h2 =>
      h.push (s := .turns k one bd) ⟨by omega, onel, okb⟩ csb _ _ (by simp only [Stp.ch, hbd.ch]; omega) (by simp only [Stp.run]; omega)
    have dtu : ∀ k : Nat, Stp.D (.turns k one bd) = .tup [.str "turns", .int (k : Int), .int (one : Int), .lst (bd.map B1.D)] := fun k => rfl
    have z1 := mul1 q (by omega)
    have z2 := mul2 q (by omega)
    have y1 := mul1 0 (by omega)
    have y2 := mul2 0 (by omega)
    rw [Nat.zero_mul, Int.natCast_zero] at y1 y2
    by_cases c1 : (left : Int) < ((q * ch : Nat) : Int)
    · refine ⟨_, _, _, fin 0 (by omega) (by omega) (by omega), ?_⟩
      simp_arith [pgSt, l_law_program_0, ez, m9, p9, er, eone, p30, mo', p17, ebd, p5, mq, z1, c1, y1, y2, Int.natCast_zero, Int.sub_zero, Nat.zero_mul, Nat.sub_zero, L, List.map_append, List.map_cons, List.map_nil, dtu]
    · by_cases c2 : (room : Int) < ((q * bd.length : Nat) : Int)
      · refine ⟨_, _, _, fin 0 (by omega) (by omega) (by omega), ?_⟩
        simp_arith [pgSt, l_law_program_0, ez, m9, p9, er, eone, p30, mo', p17, ebd, p5, mq, z1, c1, z2, c2, y1, y2, Int.natCast_zero, Int.sub_zero, Nat.zero_mul, Nat.sub_zero, L, List.map_append, List.map_cons, List.map_nil, dtu]
      · refine ⟨_, _, _, fin q (by omega) (by omega) (by omega), ?_⟩
        have w1 : (left : Int) - ((q * ch : Nat) : Int) = ((left - q * ch : Nat) : Int) := by omega
        have w2 : (room : Int) - ((q * bd.length : Nat) : Int) = ((room - q * bd.length : Nat) : Int) := by omega
        simp_arith [pgSt, l_law_program_0, ez, m9, p9, er, eone, p30, mo', p17, ebd, p5, mq, z1, c1, z2, c2, w1, w2, L, List.map_append, List.map_cons, List.map_nil, dtu]
  · refine ⟨_, _, _, psum, ?_⟩
    simp_arith [pgSt, l_law_program_0, ez, m9, p9, er, eone, p30, mo', L, List.map_append, List.map_cons, List.map_nil, dsu]

theorem sl_take (l : List RF.D) (m : Nat) : evSl (.lst l) none (some (m : Int)) = .ok (.lst (l.take m)) := by
  simp only [evSl, cutD, HT.sIx_none, HT.sIx_nat, List.drop_zero, Nat.sub_zero]
  congr 2
  by_cases c : m ≤ l.length
  · rw [Nat.min_eq_left c]
  · rw [Nat.min_eq_right (by omega), List.take_of_length_le (Nat.le_refl _), List.take_of_length_le (by omega)]
theorem sl_drop (l : List RF.D) (m : Nat) : evSl (.lst l) (some (m : Int)) none = .ok (.lst (l.drop m)) := by
  simp only [evSl, cutD, HT.sIx_none, HT.sIx_nat]
  congr 2
  rw [List.take_of_length_le (by rw [List.length_drop]; omega)]
  by_cases c : m ≤ l.length
  · rw [Nat.min_eq_left c]
  · rw [Nat.min_eq_right (by omega), List.drop_of_length_le (Nat.le_refl _), List.drop_of_length_le (by omega)]
theorem ints_map (ns : List Int) : intsOf (ns.map .int) = some ns := by
  induction ns with
  | nil => rfl
  | cons n r ih => simp only [List.map_cons, intsOf, ih, Option.map_some]
/-- the cells that count -/
def cellsG (a : Int) (m : Nat) (ns : List Int) : List Int := if ns = [] then [a] else ns.take m
theorem cellsG_ev (T : Tab) (a : Int) (m : Nat) (ns : List Int) (hi : CE) (ρ : Env) (hv : slotD ρ 0 = some (.lst (ns.map .int))) (hh : partOf hi (evalE T hi ρ) = .ok (some (m : Int))) : evalE T (.ife (.cmp .ne (.var 0) (.lst .nil)) (.sl (.var 0) .nil hi) (.lst (.cons (.c (.int a)) .nil))) ρ = .ok (.lst ((cellsG a m ns).map .int)) := by
  cases ns with
  | nil => simp_arith [hv, eqD_nil, List.isEmpty_nil]; rfl
  | cons x r => simp_arith [hv, eqD_nil, List.isEmpty_cons, hh, sl_take, cellsG, List.map_take]; simp
theorem cellsG_len (a : Int) (m : Nat) (ns : List Int) (h : 1 ≤ m) (hl : ns.length ≤ 63) : 1 ≤ (cellsG a m ns).length ∧ (cellsG a m ns).length ≤ m ∧ (cellsG a m ns).length ≤ 63 := by
  unfold cellsG
  split
  · exact ⟨Nat.le_refl 1, h, by show 1 ≤ 63; decide⟩
  · rename_i hn
    have : 1 ≤ ns.length := Nat.pos_of_ne_zero fun z => hn (List.length_eq_zero_iff.mp z)
    rw [List.length_take]
    omega
theorem inps_ok (inp : Nat) (h : 1 ≤ inp) (hi : inp ≤ 3) (left : Nat) (hl : left ≤ 5) : okProg ((List.range' 0 inp).map fun k => Stp.b (.inp k)) inp left 50 inp := by
  refine ⟨by simpa using h, by simp, fun i s hs => ?_, fun s hs => ?_, ?_, ?_⟩
  · rw [List.getElem?_map] at hs
    cases e : (List.range' 0 inp)[i]? with
    | none => rw [e] at hs; cases hs
    | some k =>
      rw [e] at hs; cases hs
      have := List.mem_of_getElem? e
      rw [List.mem_range'_1] at this
      show k < inp
      omega
  · obtain ⟨k, _, rfl⟩ := List.mem_map.mp hs; trivial
  · match inp, hi with
    | 0, _ => simp [chS]; omega
    | 1, _ => simp [chS, List.range', Stp.ch, B1.ch]; omega
    | 2, _ => simp [chS, List.range', Stp.ch, B1.ch]; omega
    | 3, _ => simp [chS, List.range', Stp.ch, B1.ch]; omega
  · match inp, hi with
    | 0, _ => simp [runS]
    | 1, _ => simp [runS, List.range', Stp.run]
    | 2, _ => simp [runS, List.range', Stp.run]
    | 3, _ => simp [runS, List.range', Stp.run]
theorem law_program_ok2 (n : Nat) (ns : List Int) (hl : ns.length ≤ 63) (b inp mo : Nat) (hb : b ≤ 500) (h1 : 1 ≤ inp) (h3 : inp ≤ 3) (m1 : 1 ≤ mo) (hmo : inp + mo ≤ 70) :
    ∃ l left room, okProg l inp left room (inp + mo) ∧ CF tab (n + 4) f_law_program [.lst (ns.map .int), .int b, .int inp, .int mo] = .ok (prD inp l) := by
  rw [go_law_program]
  obtain ⟨c1, c2, c3⟩ := cellsG_len 3 mo ns m1 hl
  obtain ⟨left, lf, el⟩ : ∃ left : Nat, left ≤ 5 ∧ ∀ z : Int, z = ((cellsG 3 mo ns).sum + (b : Int)).fmod 4 → evIdx (.tup [.int 4, .int 2, .int 5, .int 3]) (.int z) = .ok (.int (left : Int)) := by
    obtain ⟨q, q4, eq⟩ := natMod ((cellsG 3 mo ns).sum + (b : Int)) (m := 4) (by decide)
    rw [show ((4 : Nat) : Int) = 4 from rfl] at eq
    match q, q4 with
    | 0, _ => exact ⟨4, by decide, fun z hz => by rw [hz, eq]; rfl⟩
    | 1, _ => exact ⟨2, by decide, fun z hz => by rw [hz, eq]; rfl⟩
    | 2, _ => exact ⟨5, by decide, fun z hz => by rw [hz, eq]; rfl⟩
    | 3, _ => exact ⟨3, by decide, fun z hz => by rw [hz, eq]; rfl⟩
  have e4 := el _ rfl
  have m4 : evBin .mod (.int ((cellsG 3 mo ns).sum + (b : Int))) (.int 4) = .ok (.int (((cellsG 3 mo ns).sum + (b : Int)).fmod 4)) := bin_mod (by decide)
  have ec := cellsG_ev (TB tab (n + 3)) 3 mo ns (.var 3) [.val (.lst (ns.map .int)), .val (.int b), .val (.int inp), .val (.int mo), .no, .no, .no, .no, .no, .no, .no, .no, .no, .no, .no, .no, .no, .no, .no, .no, .no] rfl rfl
  have ei := it_rng inp (by unfold lim; omega)
  have cm : compF (turnF (TB tab (n + 3)) (.nm 20) [20] .nil (.tup (.cons (.c (.str "in")) (.cons (.var 20) .nil))) [.val (.lst (ns.map .int)), .val (.int b), .val (.int inp), .val (.int mo), .val (.lst ((cellsG 3 mo ns).map .int)), .val (.int left), .val (.int 50), .no, .no, .no, .no, .no, .no, .no, .no, .no, .no, .no, .no, .no, .no]) (upFrom 0 1 inp) = .ok (((List.range' 0 inp).map fun k => Stp.b (.inp k)).map Stp.D) := by
    rw [List.map_map]
    exact compF_upFrom (lo := 0) (k := inp) (G := Stp.D ∘ fun k => Stp.b (.inp k)) fun i _ _ => by simp_arith []; rfl
  have li : (upFrom 0 1 inp).length ≤ lim := by rw [upFrom_length]; unfold lim; omega
  let I : Nat → Env → Prop := fun i ρ => ∃ l left' room', okProg l inp left' room' (inp + i) ∧ ρ = pgSt (.lst (ns.map .int)) (.lst ((cellsG 3 mo ns).map .int)) b inp mo left' room' l .no .no
  have LP := loop_idx (g := .tp [8, 9]) (f := exec (TB tab (n + 3)) FU l_law_program_0) (l := enumD 0 ((cellsG 3 mo ns).map .int)) (I := I) (ρ := pgSt (.lst (ns.map .int)) (.lst ((cellsG 3 mo ns).map .int)) b inp mo left 50 ((List.range' 0 inp).map fun k => Stp.b (.inp k)) .no .no) (fun i x ρ hx hI => by
    obtain ⟨l, left', room', h, rfl⟩ := hI
    rw [enum_get, List.getElem?_map] at hx
    cases hs : (cellsG 3 mo ns)[i]? with
    | none => rw [hs] at hx; cases hx
    | some c =>
      rw [hs, Nat.zero_add] at hx
      cases hx
      have hi := (List.getElem?_eq_some_iff.mp hs).1
      obtain ⟨l', left2, room2, h', e⟩ := program_round (tab := tab) n (.lst (ns.map .int)) ((cellsG 3 mo ns).map .int) b i inp mo c h (by omega) (by rw [List.length_map]; omega) (by omega)
      exact ⟨_, rfl, _, e, l', left2, room2, h', rfl⟩) ⟨_, left, 50, inps_ok inp h1 h3 left lf, rfl⟩
  obtain ⟨ρ', hr, l, left', room', h, rfl⟩ := LP
  rw [enum_len, List.length_map] at h
  have le' : (enumD 0 ((cellsG 3 mo ns).map .int)).length ≤ lim := by rw [enum_len, List.length_map]; unfold lim; omega
  refine ⟨l, left', room', ⟨h.len, by have := h.most; omega, h.st, h.cs, h.ch, h.run⟩, ?_⟩
  rw [pgSt, pgSt, show ((50 : Nat) : Int) = 50 from rfl] at hr
  simp_arith [b_law_program, ec, ints_map, m4, e4, ei, li, cm, le', hr, prD]

theorem okProg.okP {l : List Stp} {inp left room m : Nat} (h : okProg l inp left room m) (h1 : 1 ≤ inp) (h3 : inp ≤ 3) (hm : m ≤ 70) : okP inp l :=
  ⟨h1, h3, ⟨h.len, by have := h.most; omega, h.st⟩, by have := h.run; have := h.most; omega, by have := h.ch; omega⟩
theorem law_program_ok (n : Nat) (ns : List Int) (hl : ns.length ≤ 63) (b inp mo : Nat) (hb : b ≤ 500) (h1 : 1 ≤ inp) (h3 : inp ≤ 3) (m1 : 1 ≤ mo) (hmo : inp + mo ≤ 70) :
    ∃ l, okP inp l ∧ csS 5 l ∧ CF tab (n + 4) f_law_program [.lst (ns.map .int), .int b, .int inp, .int mo] = .ok (prD inp l) := by
  obtain ⟨l, left, room, h, e⟩ := law_program_ok2 (tab := tab) n ns hl b inp mo hb h1 h3 m1 hmo
  exact ⟨l, h.okP h1 h3 hmo, h.cs, e⟩

end RF

end S_LI
section S_EQ
set_option maxHeartbeats 4000000
namespace RF
open PySem PySem.Spec L2
local macro_rules
  | `(tactic| simp_arith [$ts,*]) => `(tactic| simp only [ee_var, ee_c, ee_glb, ee_neg, ee_nt, ee_bin, ee_cmp, ee_cmp2, ee_and, ee_or, ee_ife, ee_nil, ee_cons, ee_tup, ee_lst, ee_idx, ee_sl, ee_call, ee_callf, ee_rep, kRep_1, ee_lrg, ee_rev, rev_l, ex_sto, kSto, kSto1, kSto2, kSto3, put_lrg, put_rev, ee_bi, ee_isi, ee_comp, ee_fld, ee_mk, ee_isC, ee_meth, kMk_t, kMeth, kMeth1, kMeth2_t, fl_side, fl_pic, mk_side, mk_pic, mt_side, kVar_s, kNeg_i, kNot_b, kBin, kCmp, kCmp2, kCmpB, kCmpC_t, kCmpC_f, kAnd_t, kAnd_f, kOr_t, kOr_f, kIfe_t, kIfe_f, kCons, kPre_t, kTup_1, kTup_2, kTup_3, kTup_4, kTup_5, kTup_6, kLst_0, kLst_1, kLst_2, kLst_3, kLst_4, kLst_5, kLst_6, kIdx, kSl, kSl2, kSl3, kCall_t, kBi_t, kis, kIs_q, kComp, kComp2_ok, kList, turn_nil, turn_cmp, turn_and, turn_or, turn_nt, turn_isi, turn_call, turn_cmp2, turn_bi, kEl, kElc, kSome, kCd_t, kCd_f, ex_nil, ex_set, ex_own, ex_unp, ex_par, ex_par3, ex_ex, ex_ret, ex_reto, ex_retf, kReto, kRetf_l, kRetf2_cf, kRetf2_co, kRetf2_ls, kRetf2_sl, kRetf2_li, kRetf2_ad, put_cf, put_rep, ex_rai, ex_ite, ex_for, ex_whl, ex_app, ex_ext, ex_pas, ex_brk, ex_wip, kSet, kOwn, kPut, kUnp, kGo, kPar, kPar2, kPar3, kPar4, kTr, kTr2, kTr3, kTr4, kTr5, kTr6, kEx, kRet, kIte_t, kIte_f, kNx_n, kNx_b, kNx_r, kLoop_n, kLoop_r, kFor, kFor2_ok, kApp, kApp2_ok, kExt, kExt2_l, kExt3_ok, R.bind_ok, R.bind_exc, slot_0, slot_s, sd_v, sd_o, List.set_cons_zero, List.set_cons_succ, frz_def, frz_v, frz_n, frz_0, frz_o, hold_rng, hold_seq, hold_enum, hold_zip, it_zip, hold_v, hold_n, hold_0, hold_o, put_f, put_lst, put_sl, put_li, put_co, put_add, ev_lt, ev_le, ev_gt, ev_ge, ev_eq, ev_ne, ev_isN, ev_notN, eqD_int, eqD_pair, eqD_q, rb_len_t2, rb_len_t3, rb_len_t4, rb_len_l, len_q, rb_abs, rb_min, rb_list_l, rb_list_t, rb_tuple_l, rb_tuple_t, rb_all, rb_any, rb_sum, idx_t0, idx_t1, idx_t2, idx_t3, idx_q0, idx_q1, bin_add, bin_sub, out_rt, out_rl, outF_rl, out_nx, Bool.not_true, Bool.not_false, if_true, if_false, reduceIte, decide_true, decide_false, eq_self, Nat.reduceAdd, withO_s, Int.reduceLT, Int.reduceLE, Int.reduceEq, Int.reduceNeg, Int.reduceAdd, own_0, own_s, CE.men, Nat.reduceBEq, Bool.false_and, Bool.true_and, Bool.and_true, Bool.and_false, Bool.or_false, Bool.false_or, Bool.or_true, Bool.true_or, kqs, part_nil, part_c, part_v, part_neg, part_bin, part_bi, part_idx, sl_t41, sl_t43, it_l, it_t, it_enum, wipeS, bindT, bindL, Bool.false_eq_true, asL_l, Int.natCast_one, Int.natCast_zero, D.occ, D.occs, occ_q, List.length_map, $ts,*])
/-! == of data -/
mutual
/-- no objects, texts that may stand, at most so deep -/
def D.shp : Nat → RF.D → Bool
  | _, .non => true
  | _, .bl _ => true
  | _, .int _ => true
  | _, .str x => PyData.strOk x
  | k, .tup l => match k with
    | 0 => false
    | k + 1 => D.shps k l
  | k, .lst l => match k with
    | 0 => false
    | k + 1 => D.shps k l
  | _, .obj _ _ => false
def D.shps : Nat → List RF.D → Bool
  | _, [] => true
  | k, d :: ds => D.shp k d && D.shps k ds
end
mutual
def D.eqv : RF.D → RF.D → Bool
  | .non, .non => true
  | .bl a, .bl b => a == b
  | .bl a, .int j => (if a then 1 else 0) == j
  | .int i, .bl b => i == (if b then 1 else 0)
  | .int i, .int j => i == j
  | .str x, .str y => x == y
  | .tup l, .tup m => D.eqvs l m
  | .lst l, .lst m => D.eqvs l m
  | _, _ => false
def D.eqvs : List RF.D → List RF.D → Bool
  | [], [] => true
  | x :: xs, y :: ys => D.eqv x y && D.eqvs xs ys
  | _, _ => false
end
mutual
theorem D.shp_P : ∀ (k : Nat) (d : RF.D), D.shp k d = true → ∃ p, D.toP d = some p ∧ PyData.canLay0 p = true ∧ PyData.depth p ≤ k
  | k, .non, _ => ⟨_, rfl, rfl, Nat.zero_le _⟩
  | k, .bl _, _ => ⟨_, rfl, rfl, Nat.zero_le _⟩
  | k, .int _, _ => ⟨_, rfl, rfl, Nat.zero_le _⟩
  | k, .str x, h => ⟨_, rfl, by simpa [D.shp, PyData.canLay0] using h, Nat.zero_le _⟩
  | 0, .tup l, h => by simp [D.shp] at h
  | 0, .lst l, h => by simp [D.shp] at h
  | k + 1, .tup l, h => by
    obtain ⟨ps, h1, h2, h3⟩ := D.shps_P k l (by simpa [D.shp] using h)
    exact ⟨.tuple ps, by simp only [D.toP, h1, Option.map_some], by simpa [PyData.canLay0] using h2, by simp only [PyData.depth]; omega⟩
  | k + 1, .lst l, h => by
    obtain ⟨ps, h1, h2, h3⟩ := D.shps_P k l (by simpa [D.shp] using h)
    exact ⟨.list ps, by simp only [D.toP, h1, Option.map_some], by simpa [PyData.canLay0] using h2, by simp only [PyData.depth]; omega⟩
  | k, .obj _ _, h => by cases k <;> simp [D.shp] at h
theorem D.shps_P : ∀ (k : Nat) (l : List RF.D), D.shps k l = true → ∃ p, D.toPs l = some p ∧ PyData.canLayAll0 p = true ∧ PyData.depthAll p ≤ k
  | k, [], _ => ⟨[], rfl, rfl, Nat.zero_le _⟩
  | k, d :: ds, h => by
    simp only [D.shps, Bool.and_eq_true] at h
    obtain ⟨p, h1, h2, h3⟩ := D.shp_P k d h.1
    obtain ⟨ps, g1, g2, g3⟩ := D.shps_P k ds h.2
    exact ⟨p :: ps, by simp only [D.toPs, h1, g1], by simp only [PyData.canLayAll0, h2, g2, Bool.and_self], by simp only [PyData.depthAll]; omega⟩
end
mutual
theorem D.eqv_P : ∀ (a b : RF.D) {p q : PyData}, D.toP a = some p → D.toP b = some q → PyData.eqv p q = D.eqv a b
  | a, b, p, q, ha, hb => by
    cases a <;> cases b <;> simp only [D.toP, Option.some.injEq, Option.map_eq_some_iff, reduceCtorEq] at ha hb
    all_goals first
      | (subst ha; subst hb; simp only [PyData.eqv, D.eqv]; done)
      | (obtain ⟨x, hx, rfl⟩ := ha; obtain ⟨y, hy, rfl⟩ := hb; simp only [PyData.eqv, D.eqv]; exact D.eqvs_P _ _ hx hy)
      | (obtain ⟨x, hx, rfl⟩ := ha; obtain ⟨y, hy, rfl⟩ := hb; simp only [PyData.eqv, D.eqv]; done)
      | (subst ha; obtain ⟨y, hy, rfl⟩ := hb; simp only [PyData.eqv, D.eqv]; done)
      | (subst hb; obtain ⟨y, hy, rfl⟩ := ha; simp only [PyData.eqv, D.eqv]; done)
theorem D.eqvs_P : ∀ (a b : List RF.D) {p q : List PyData}, D.toPs a = some p → D.toPs b = some q → PyData.eqvAll p q = D.eqvs a b
  | [], [], p, q, ha, hb => by cases ha; cases hb; rfl
  | [], y :: ys, p, q, ha, hb => by
    simp only [D.toPs] at ha hb
    split at hb <;> cases hb
    cases ha
    rfl
  | x :: xs, [], p, q, ha, hb => by
    simp only [D.toPs] at ha hb
    split at ha <;> cases ha
    cases hb
    rfl
  | x :: xs, y :: ys, p, q, ha, hb => by
    simp only [D.toPs] at ha hb
    split at ha <;> cases ha
    split at hb <;> cases hb
    rename_i h1 h2 _ _ _ _ h3 h4
    simp only [PyData.eqvAll, D.eqvs]
    rw [D.eqv_P x y h1 h3, D.eqvs_P xs ys h2 h4]
end
theorem eqD_eqv {a b : RF.D} (ha : D.shp 64 a = true) (hb : D.shp 64 b = true) : eqD a b = .ok (D.eqv a b) := by
  obtain ⟨p, p1, p2, p3⟩ := D.shp_P 64 a ha
  obtain ⟨q, q1, q2, q3⟩ := D.shp_P 64 b hb
  have s1 : SeqAt.shaped p = true := by unfold SeqAt.shaped; rw [p2, decide_eq_true p3]; rfl
  have s2 : SeqAt.shaped q = true := by unfold SeqAt.shaped; rw [q2, decide_eq_true q3]; rfl
  unfold eqD
  rw [p1, q1]
  simp only [s1, s2, Bool.and_self, if_true]
  rw [D.eqv_P a b p1 q1]
mutual
theorem D.eqv_refl : ∀ (k : Nat) (d : RF.D), D.shp k d = true → D.eqv d d = true
  | _, .non, _ => rfl
  | _, .bl _, _ => by simp [D.eqv]
  | _, .int _, _ => by simp [D.eqv]
  | _, .str _, _ => by simp [D.eqv]
  | 0, .tup l, h => by simp [D.shp] at h
  | 0, .lst l, h => by simp [D.shp] at h
  | k + 1, .tup l, h => by rw [D.eqv]; exact D.eqvs_refl k l (by simpa [D.shp] using h)
  | k + 1, .lst l, h => by rw [D.eqv]; exact D.eqvs_refl k l (by simpa [D.shp] using h)
  | k, .obj _ _, h => by cases k <;> simp [D.shp] at h
theorem D.eqvs_refl : ∀ (k : Nat) (l : List RF.D), D.shps k l = true → D.eqvs l l = true
  | _, [], _ => rfl
  | k, d :: ds, h => by
    simp only [D.shps, Bool.and_eq_true] at h
    rw [D.eqvs, D.eqv_refl k d h.1, D.eqvs_refl k ds h.2]; rfl
end
theorem eqD_self {d : RF.D} (h : D.shp 64 d = true) : eqD d d = .ok true := by rw [eqD_eqv h h, D.eqv_refl 64 d h]
mutual
/-- no truths in it -/
def D.nob : RF.D → Bool
  | .bl _ => false
  | .tup l => D.nobs l
  | .lst l => D.nobs l
  | .obj _ _ => false
  | _ => true
def D.nobs : List RF.D → Bool
  | [] => true
  | d :: ds => D.nob d && D.nobs ds
end
mutual
theorem D.eqv_iff : ∀ (a b : RF.D), D.nob a = true → D.nob b = true → (D.eqv a b = true ↔ a = b)
  | a, b, ha, hb => by
    cases a <;> cases b <;> simp only [D.nob, Bool.false_eq_true] at ha hb <;> simp only [D.eqv, beq_iff_eq, reduceCtorEq, D.int.injEq, D.str.injEq, D.tup.injEq, D.lst.injEq, Bool.false_eq_true]
    · exact D.eqvs_iff _ _ ha hb
    · exact D.eqvs_iff _ _ ha hb
theorem D.eqvs_iff : ∀ (a b : List RF.D), D.nobs a = true → D.nobs b = true → (D.eqvs a b = true ↔ a = b)
  | [], [], _, _ => by simp [D.eqvs]
  | [], y :: ys, _, _ => by simp [D.eqvs]
  | x :: xs, [], _, _ => by simp [D.eqvs]
  | x :: xs, y :: ys, ha, hb => by
    simp only [D.nobs, Bool.and_eq_true] at ha hb
    simp only [D.eqvs, Bool.and_eq_true, List.cons.injEq, D.eqv_iff x y ha.1 hb.1, D.eqvs_iff xs ys ha.2 hb.2]
end
theorem eqD_iff {a b : RF.D} (ha : D.shp 64 a = true) (hb : D.shp 64 b = true) (na : D.nob a = true) (nb : D.nob b = true) [Decidable (a = b)] : eqD a b = .ok (decide (a = b)) := by
  rw [eqD_eqv ha hb]
  congr 1
  have := D.eqv_iff a b na nb
  by_cases c : a = b
  · rw [decide_eq_true c]; exact this.mpr c
  · rw [decide_eq_false c, Bool.eq_false_iff]; exact fun z => c (this.mp z)
/-! lists of alike things -/
theorem shps_map {α : Type} {F : α → RF.D} {k : Nat} {l : List α} (h : ∀ a ∈ l, D.shp k (F a) = true) : D.shps k (l.map F) = true := by
  induction l with
  | nil => rfl
  | cons a l ih => rw [List.map_cons, D.shps, h a List.mem_cons_self, ih fun b hb => h b (List.mem_cons_of_mem _ hb)]; rfl
theorem nobs_map {α : Type} {F : α → RF.D} {l : List α} (h : ∀ a ∈ l, D.nob (F a) = true) : D.nobs (l.map F) = true := by
  induction l with
  | nil => rfl
  | cons a l ih => rw [List.map_cons, D.nobs, h a List.mem_cons_self, ih fun b hb => h b (List.mem_cons_of_mem _ hb)]; rfl
theorem shp_q (k : Nat) (x : Rat) : D.shp (k + 1) (qD x) = true := rfl
theorem nob_q (x : Rat) : D.nob (qD x) = true := rfl
theorem strOk_is : PyData.strOk "is" = true := by decide +kernel
theorem strOk_in : PyData.strOk "in" = true := by decide +kernel
theorem strOk_sum : PyData.strOk "sum" = true := by decide +kernel
theorem strOk_by : PyData.strOk "by" = true := by decide +kernel
theorem strOk_least : PyData.strOk "least" = true := by decide +kernel
theorem strOk_most : PyData.strOk "most" = true := by decide +kernel
theorem strOk_if : PyData.strOk "if" = true := by decide +kernel
theorem strOk_turns : PyData.strOk "turns" = true := by decide +kernel
theorem shp_b (k : Nat) (s : B1) : D.shp (k + 2) s.D = true := by
  cases s <;> simp only [B1.D, D.shp, D.shps, shp_q, strOk_is, strOk_in, strOk_sum, strOk_by, strOk_least, strOk_most, strOk_if, Bool.and_self]
theorem shp_s (k : Nat) (s : Stp) : D.shp (k + 4) s.D = true := by
  cases s with
  | b s => exact shp_b (k + 2) s
  | turns m i l => simp only [Stp.D, D.shp, D.shps, strOk_turns, shps_map (F := B1.D) (k := k + 2) (l := l) fun a _ => shp_b k a, Bool.and_self]
theorem nob_b (s : B1) : D.nob s.D = true := by cases s <;> rfl
theorem nob_s (s : Stp) : D.nob s.D = true := by
  cases s with
  | b s => exact nob_b s
  | turns m i l => simp only [Stp.D, D.nob, D.nobs, nobs_map (F := B1.D) (l := l) fun a _ => nob_b a, Bool.and_self]
theorem shp_ss (k : Nat) (l : List Stp) : D.shp (k + 5) (.lst (l.map Stp.D)) = true := by
  simp only [D.shp]; exact shps_map fun a _ => shp_s k a
theorem shp_p (inp : Nat) (l : List Stp) : D.shp 64 (prD inp l) = true := by
  simp only [D.shp, D.shps, shps_map (F := Stp.D) (k := 62) (l := l) fun a _ => shp_s 58 a, Bool.and_self]
theorem shp_mono : ∀ {k m : Nat} {d : RF.D}, k ≤ m → D.shp k d = true → D.shp m d = true := by
  intro k m d
  revert k m
  refine D.rec (motive_1 := fun d => ∀ {k m : Nat}, k ≤ m → D.shp k d = true → D.shp m d = true) (motive_2 := fun l => ∀ {k m : Nat}, k ≤ m → D.shps k l = true → D.shps m l = true) ?_ ?_ ?_ ?_ ?_ ?_ ?_ ?_ ?_ d
  · intro k m _ _; cases m <;> rfl
  · intro b k m _ _; cases m <;> rfl
  · intro b k m _ _; cases m <;> rfl
  · intro x k m _ h
    cases k <;> cases m <;> exact h
  · intro l ih k m hk h
    cases k with
    | zero => simp [D.shp] at h
    | succ k => cases m with
      | zero => omega
      | succ m => simp only [D.shp] at h ⊢; exact ih (by omega) h
  · intro l ih k m hk h
    cases k with
    | zero => simp [D.shp] at h
    | succ k => cases m with
      | zero => omega
      | succ m => simp only [D.shp] at h ⊢; exact ih (by omega) h
  · intro c l _ k m _ h; cases k <;> simp [D.shp] at h
  · intro k m _ _; rfl
  · intro d ds ih1 ih2 k m hk h
    simp only [D.shps, Bool.and_eq_true] at h ⊢
    exact ⟨ih1 hk h.1, ih2 hk h.2⟩
/-- lists of numbers -/
abbrev qsD (l : List Rat) : RF.D := .lst (l.map qD)
theorem shp_qs (k : Nat) (l : List Rat) : D.shp (k + 2) (qsD l) = true := by simp only [qsD, D.shp]; exact shps_map fun a _ => shp_q k a
theorem nob_qs (l : List Rat) : D.nob (qsD l) = true := by simp only [qsD, D.nob]; exact nobs_map fun a _ => nob_q a
theorem qD_inj {x y : Rat} (h : qD x = qD y) : x = y := by
  simp only [qD, D.tup.injEq, List.cons.injEq, D.int.injEq, and_true] at h
  exact Rat.ext h.1 (by omega)
theorem map_inj {α : Type} {F : α → RF.D} (hF : ∀ a b, F a = F b → a = b) : ∀ {l m : List α}, l.map F = m.map F → l = m
  | [], [], _ => rfl
  | [], _ :: _, h => by cases h
  | _ :: _, [], h => by cases h
  | a :: l, b :: m, h => by
    simp only [List.map_cons, List.cons.injEq] at h
    rw [hF a b h.1, map_inj hF h.2]
theorem eqD_qs (l m : List Rat) : eqD (qsD l) (qsD m) = .ok (decide (l = m)) := by
  rw [eqD_eqv (shp_qs 62 l) (shp_qs 62 m)]
  congr 1
  have := D.eqv_iff _ _ (nob_qs l) (nob_qs m)
  by_cases c : l = m
  · rw [decide_eq_true c]; exact this.mpr (by rw [c])
  · rw [decide_eq_false c, Bool.eq_false_iff]
    exact fun z => c (map_inj (fun a b => qD_inj) (by simpa [qsD] using this.mp z))

end RF

end S_EQ
section S_RQ
set_option maxHeartbeats 4000000
namespace RF
open PySem PySem.Spec L2
local macro_rules
  | `(tactic| simp_arith [$ts,*]) => `(tactic| simp only [ee_var, ee_c, ee_glb, ee_neg, ee_nt, ee_bin, ee_cmp, ee_cmp2, ee_and, ee_or, ee_ife, ee_nil, ee_cons, ee_tup, ee_lst, ee_idx, ee_sl, ee_call, ee_callf, ee_rep, kRep_1, ee_lrg, ee_rev, rev_l, ex_sto, kSto, kSto1, kSto2, kSto3, put_lrg, put_rev, ee_bi, ee_isi, ee_comp, ee_fld, ee_mk, ee_isC, ee_meth, kMk_t, kMeth, kMeth1, kMeth2_t, fl_side, fl_pic, mk_side, mk_pic, mt_side, kVar_s, kNeg_i, kNot_b, kBin, kCmp, kCmp2, kCmpB, kCmpC_t, kCmpC_f, kAnd_t, kAnd_f, kOr_t, kOr_f, kIfe_t, kIfe_f, kCons, kPre_t, kTup_1, kTup_2, kTup_3, kTup_4, kTup_5, kTup_6, kLst_0, kLst_1, kLst_2, kLst_3, kLst_4, kLst_5, kLst_6, kIdx, kSl, kSl2, kSl3, kCall_t, kBi_t, kis, kIs_q, kComp, kComp2_ok, kList, turn_nil, turn_cmp, turn_and, turn_or, turn_nt, turn_isi, turn_call, turn_cmp2, turn_bi, kEl, kElc, kSome, kCd_t, kCd_f, ex_nil, ex_set, ex_own, ex_unp, ex_par, ex_par3, ex_ex, ex_ret, ex_reto, ex_retf, kReto, kRetf_l, kRetf2_cf, kRetf2_co, kRetf2_ls, kRetf2_sl, kRetf2_li, kRetf2_ad, put_cf, put_rep, ex_rai, ex_ite, ex_for, ex_whl, ex_app, ex_ext, ex_pas, ex_brk, ex_wip, kSet, kOwn, kPut, kUnp, kGo, kPar, kPar2, kPar3, kPar4, kTr, kTr2, kTr3, kTr4, kTr5, kTr6, kEx, kRet, kIte_t, kIte_f, kNx_n, kNx_b, kNx_r, kLoop_n, kLoop_r, kFor, kFor2_ok, kApp, kApp2_ok, kExt, kExt2_l, kExt3_ok, R.bind_ok, R.bind_exc, slot_0, slot_s, sd_v, sd_o, List.set_cons_zero, List.set_cons_succ, frz_def, frz_v, frz_n, frz_0, frz_o, hold_rng, hold_seq, hold_enum, hold_zip, it_zip, hold_v, hold_n, hold_0, hold_o, put_f, put_lst, put_sl, put_li, put_co, put_add, ev_lt, ev_le, ev_gt, ev_ge, ev_eq, ev_ne, ev_isN, ev_notN, eqD_int, eqD_pair, eqD_q, rb_len_t2, rb_len_t3, rb_len_t4, rb_len_l, len_q, rb_abs, rb_min, rb_list_l, rb_list_t, rb_tuple_l, rb_tuple_t, rb_all, rb_any, rb_sum, idx_t0, idx_t1, idx_t2, idx_t3, idx_q0, idx_q1, bin_add, bin_sub, out_rt, out_rl, outF_rl, out_nx, Bool.not_true, Bool.not_false, if_true, if_false, reduceIte, decide_true, decide_false, eq_self, Nat.reduceAdd, withO_s, Int.reduceLT, Int.reduceLE, Int.reduceEq, Int.reduceNeg, Int.reduceAdd, own_0, own_s, CE.men, Nat.reduceBEq, Bool.false_and, Bool.true_and, Bool.and_true, Bool.and_false, Bool.or_false, Bool.false_or, Bool.or_true, Bool.true_or, kqs, part_nil, part_c, part_v, part_neg, part_bin, part_bi, part_idx, sl_t41, sl_t43, it_l, it_t, it_enum, wipeS, bindT, bindL, Bool.false_eq_true, asL_l, Int.natCast_one, Int.natCast_zero, D.occ, D.occs, occ_q, List.length_map, $ts,*])
/-! plain running of programs, and how great the numbers come -/
def at0 (l : List Rat) (i : Nat) : Rat := l.getD i 0
def lastQ (l : List Rat) : Rat := at0 l (l.length - 1)
def evB (ps f : List Rat) : B1 → Rat
  | .is x => x
  | .inp k => at0 ps k
  | .sum i j => at0 f i + at0 f j
  | .by x i => x * at0 f i
  | .least i j => if at0 f i ≤ at0 f j then at0 f i else at0 f j
  | .most i j => if at0 f i ≤ at0 f j then at0 f j else at0 f i
  | .iff i j k => if at0 f i ≤ 0 then at0 f j else at0 f k
def runB (ps : List Rat) (l : List B1) : List Rat := l.foldl (fun f s => f ++ [evB ps f s]) []
def bodyQ (l : List B1) (w : Rat) : Rat := lastQ (runB [w] l)
def turnsQ (l : List B1) : Nat → Rat → Rat
  | 0, w => w
  | m + 1, w => bodyQ l (turnsQ l m w)
def evS (ps f : List Rat) : Stp → Rat
  | .b s => evB ps f s
  | .turns m i l => turnsQ l m (at0 f i)
def wS (ps : List Rat) (l : List Stp) : List Rat := l.foldl (fun f s => f ++ [evS ps f s]) []
theorem runB_snoc (ps : List Rat) (l : List B1) (s : B1) : runB ps (l ++ [s]) = runB ps l ++ [evB ps (runB ps l) s] := by simp [runB]
theorem wS_snoc (ps : List Rat) (l : List Stp) (s : Stp) : wS ps (l ++ [s]) = wS ps l ++ [evS ps (wS ps l) s] := by simp [wS]
theorem fold_len {α : Type} (g : List Rat → α → Rat) (l : List α) : ∀ a : List Rat, (l.foldl (fun f s => f ++ [g f s]) a).length = a.length + l.length := by
  induction l with
  | nil => intro a; simp
  | cons s r ih => intro a; simp only [List.foldl_cons, ih, List.length_append, List.length_cons, List.length_nil]; omega
theorem runB_len (ps : List Rat) (l : List B1) : (runB ps l).length = l.length := by simp [runB, fold_len]
theorem wS_len (ps : List Rat) (l : List Stp) : (wS ps l).length = l.length := by simp [wS, fold_len]
theorem take_snoc {α : Type} {l : List α} {i : Nat} {a : α} (h : l[i]? = some a) : l.take (i + 1) = l.take i ++ [a] := by rw [List.take_succ, h]; rfl
theorem runB_take {ps : List Rat} {l : List B1} {i : Nat} {s : B1} (h : l[i]? = some s) : runB ps (l.take (i + 1)) = runB ps (l.take i) ++ [evB ps (runB ps (l.take i)) s] := by rw [take_snoc h, runB_snoc]
theorem wS_take {ps : List Rat} {l : List Stp} {i : Nat} {s : Stp} (h : l[i]? = some s) : wS ps (l.take (i + 1)) = wS ps (l.take i) ++ [evS ps (wS ps (l.take i)) s] := by rw [take_snoc h, wS_snoc]
/-! bounds -/
structure Ab (M : Nat) (x : Rat) : Prop where
  lo : -(M : Rat) ≤ x
  hi : x ≤ (M : Rat)
theorem Ab.mono {M N : Nat} {x : Rat} (h : Ab M x) (hn : M ≤ N) : Ab N x := by
  have : (M : Rat) ≤ (N : Rat) := Rat.natCast_le_natCast.mpr hn
  exact ⟨by have := h.lo; grind, by have := h.hi; grind⟩
theorem Ab.add {M N : Nat} {x y : Rat} (h : Ab M x) (h' : Ab N y) : Ab (M + N) (x + y) := by
  have := h.lo; have := h.hi; have := h'.lo; have := h'.hi
  constructor <;> rw [Rat.natCast_add] <;> grind
theorem Ab.neg {M : Nat} {x : Rat} (h : Ab M x) : Ab M (-x) := by
  have := h.lo; have := h.hi
  constructor <;> grind
theorem Ab.sub {M N : Nat} {x y : Rat} (h : Ab M x) (h' : Ab N y) : Ab (M + N) (x - y) := by
  rw [Rat.sub_eq_add_neg]; exact h.add h'.neg
theorem Ab.mul {M N : Nat} {x y : Rat} (h : Ab M x) (h' : Ab N y) : Ab (M * N) (x * y) := by
  have a1 := h.lo; have a2 := h.hi; have b1 := h'.lo; have b2 := h'.hi
  have p1 : 0 ≤ ((M : Rat) - x) * ((N : Rat) - y) := Rat.mul_nonneg (by grind) (by grind)
  have p2 : 0 ≤ ((M : Rat) + x) * ((N : Rat) + y) := Rat.mul_nonneg (by grind) (by grind)
  have p3 : 0 ≤ ((M : Rat) - x) * ((N : Rat) + y) := Rat.mul_nonneg (by grind) (by grind)
  have p4 : 0 ≤ ((M : Rat) + x) * ((N : Rat) - y) := Rat.mul_nonneg (by grind) (by grind)
  constructor <;> rw [Rat.natCast_mul] <;> grind
theorem mul_den (x : Rat) : x * (x.den : Rat) = ((x.num : Int) : Rat) := by
  have h := Rat.num_divInt_den x
  rw [Rat.divInt_eq_div, Rat.intCast_natCast] at h
  have d0 : (x.den : Rat) ≠ 0 := by
    intro z
    have := Rat.natCast_pos.mpr x.den_pos
    rw [z] at this
    exact absurd this (by decide)
  generalize (x.den : Rat) = d at *
  generalize ((x.num : Int) : Rat) = m at *
  rw [← h]
  grind
theorem ab_of {M : Nat} {x : Rat} (h : x.num.natAbs ≤ M * x.den) : Ab M x := by
  have d0 : (0 : Rat) < (x.den : Rat) := by have := x.den_pos; exact Rat.natCast_pos.mpr this
  have e : x * (x.den : Rat) = (x.num : Rat) := mul_den x
  have h1 : ((x.num : Int) : Rat) ≤ ((M * x.den : Nat) : Rat) := by
    rw [← Rat.intCast_natCast]; exact Rat.intCast_le_intCast.mpr (by omega)
  have h2 : -((M * x.den : Nat) : Rat) ≤ ((x.num : Int) : Rat) := by
    rw [← Rat.intCast_natCast, ← Rat.intCast_neg]; exact Rat.intCast_le_intCast.mpr (by omega)
  rw [Rat.natCast_mul] at h1 h2
  constructor
  · apply Rat.le_of_mul_le_mul_right (c := (x.den : Rat)) _ d0
    grind
  · apply Rat.le_of_mul_le_mul_right (c := (x.den : Rat)) _ d0
    grind
theorem Ab.num {M : Nat} {x : Rat} (h : Ab M x) : x.num.natAbs ≤ M * x.den := by
  have d0 : (0 : Rat) < (x.den : Rat) := by have := x.den_pos; exact Rat.natCast_pos.mpr this
  have e : x * (x.den : Rat) = (x.num : Rat) := mul_den x
  have a := Rat.mul_le_mul_of_nonneg_right h.hi (Rat.le_of_lt d0)
  have b := Rat.mul_le_mul_of_nonneg_right h.lo (Rat.le_of_lt d0)
  rw [e] at a b
  have a' : ((x.num : Int) : Rat) ≤ (((M * x.den : Nat) : Int) : Rat) := by rw [Rat.intCast_natCast, Rat.natCast_mul]; exact a
  have b' : ((-((M * x.den : Nat) : Int) : Int) : Rat) ≤ ((x.num : Int) : Rat) := by
    rw [Rat.intCast_neg, Rat.intCast_natCast, Rat.natCast_mul]; grind
  have := Rat.intCast_le_intCast.mp a'
  have := Rat.intCast_le_intCast.mp b'
  omega
theorem den_to {z : Rat} {D : Nat} (h : z.den ∣ D) : ∃ k : Int, z * (D : Rat) = (k : Rat) := by
  obtain ⟨c, rfl⟩ := h
  refine ⟨z.num * (c : Int), ?_⟩
  rw [Rat.natCast_mul, ← Rat.mul_assoc, mul_den, Rat.intCast_mul, Rat.intCast_natCast]
theorem den_of {z : Rat} {D : Nat} {k : Int} (h : z * (D : Rat) = (k : Rat)) : z.den ∣ D := by
  have e := mul_den z
  have h2 : ((z.num * (D : Int) : Int) : Rat) = ((k * (z.den : Int) : Int) : Rat) := by
    rw [Rat.intCast_mul, Rat.intCast_mul, Rat.intCast_natCast, Rat.intCast_natCast, ← e, ← h]
    grind
  have h3 : z.num * (D : Int) = k * (z.den : Int) := Rat.intCast_inj.mp h2
  have h4 : z.den ∣ z.num.natAbs * D := by
    have := congrArg Int.natAbs h3
    rw [Int.natAbs_mul, Int.natAbs_mul, Int.natAbs_natCast, Int.natAbs_natCast] at this
    exact ⟨k.natAbs, by rw [this, Nat.mul_comm]⟩
  exact Nat.Coprime.dvd_of_dvd_mul_left (Nat.Coprime.symm z.reduced) h4
theorem den_add {x y : Rat} {D : Nat} (h : x.den ∣ D) (h' : y.den ∣ D) : (x + y).den ∣ D := by
  obtain ⟨a, ea⟩ := den_to h
  obtain ⟨b, eb⟩ := den_to h'
  exact den_of (k := a + b) (by rw [Rat.add_mul, ea, eb, Rat.intCast_add])
theorem den_neg {x : Rat} {D : Nat} (h : x.den ∣ D) : (-x).den ∣ D := by
  obtain ⟨a, ea⟩ := den_to h
  exact den_of (k := -a) (by rw [Rat.neg_mul, ea, Rat.intCast_neg])
theorem den_sub {x y : Rat} {D : Nat} (h : x.den ∣ D) (h' : y.den ∣ D) : (x - y).den ∣ D := by rw [Rat.sub_eq_add_neg]; exact den_add h (den_neg h')
theorem den_mul {x y : Rat} {D E : Nat} (h : x.den ∣ D) (h' : y.den ∣ E) : (x * y).den ∣ D * E := by
  obtain ⟨a, ea⟩ := den_to h
  obtain ⟨b, eb⟩ := den_to h'
  refine den_of (k := a * b) ?_
  rw [Rat.natCast_mul, Rat.intCast_mul, ← ea, ← eb]
  grind
/-- what a program's constants are like -/
structure Cq (q : Nat) (x : Rat) : Prop where
  den : x.den ∣ q
  ab : Ab q x
theorem Cs.cq {w : Nat} {x : Rat} (h : Cs w x) (hw : w ≤ 6) : Cq 6 x := ⟨h.den, ab_of (by have := h.num; have := x.den_pos; omega)⟩
def B1.cq (q : Nat) : B1 → Prop
  | .is x => Cq q x
  | .by x _ => Cq q x
  | _ => True
def cqB (q : Nat) (l : List B1) : Prop := ∀ s ∈ l, s.cq q
def Stp.cq (q : Nat) : Stp → Prop
  | .b s => s.cq q
  | .turns _ _ l => cqB q l
def cqS (q : Nat) (l : List Stp) : Prop := ∀ s ∈ l, s.cq q
theorem cs_cqb {s : B1} (h : s.cs 5) : s.cq 6 := by
  cases s <;> simp only [B1.cs, B1.cq] at h ⊢ <;> exact h.cq (by decide)
theorem cs_cq {l : List Stp} (h : csS 5 l) : cqS 6 l := fun s hs => by
  have := h s hs
  cases s with
  | b s => exact cs_cqb this
  | turns m i l => exact fun t ht => cs_cqb (this t ht)
/-- bounds that grow by turns -/
structure Par (q Q V : Nat) : Prop where
  two : 2 ≤ q
  dv : q ∣ Q
  le : q ≤ V
  pos : 0 < Q
structure Bd (q Q V n : Nat) (x : Rat) : Prop where
  den : x.den ∣ Q * q ^ n
  ab : Ab (V * q ^ n) x
section
variable {q Q V : Nat}
theorem pow_dvd {q n m : Nat} (h : n ≤ m) : q ^ n ∣ q ^ m := Nat.pow_dvd_pow q h
theorem Bd.mono {n m : Nat} {x : Rat} (hp : Par q Q V) (h : Bd q Q V n x) (hm : n ≤ m) : Bd q Q V m x :=
  ⟨Nat.dvd_trans h.den (Nat.mul_dvd_mul_left Q (pow_dvd hm)), h.ab.mono (Nat.mul_le_mul_left V (Nat.pow_le_pow_right (by have := hp.two; omega) hm))⟩
theorem bd_zero (hp : Par q Q V) (n : Nat) : Bd q Q V n 0 := ⟨Nat.one_dvd _, by constructor <;> exact (by have : (0 : Rat) ≤ ((V * q ^ n : Nat) : Rat) := Rat.natCast_nonneg; grind)⟩
theorem Bd.cst {x : Rat} (hp : Par q Q V) (h : Cq q x) (n : Nat) : Bd q Q V n x :=
  ⟨Nat.dvd_trans h.den (Nat.dvd_trans hp.dv (Nat.dvd_mul_right Q (q ^ n))), h.ab.mono (Nat.le_trans hp.le (Nat.le_mul_of_pos_right V (Nat.pow_pos (by have := hp.two; omega))))⟩
theorem Bd.add {n : Nat} {x y : Rat} (hp : Par q Q V) (h : Bd q Q V n x) (h' : Bd q Q V n y) : Bd q Q V (n + 1) (x + y) := by
  refine ⟨Nat.dvd_trans (den_add h.den h'.den) (Nat.mul_dvd_mul_left Q (pow_dvd (by omega))), (h.ab.add h'.ab).mono ?_⟩
  rw [Nat.pow_succ, ← Nat.mul_assoc, ← Nat.mul_two]
  exact Nat.mul_le_mul_left _ hp.two
theorem Bd.mul {n : Nat} {x y : Rat} (hp : Par q Q V) (h : Cq q x) (h' : Bd q Q V n y) : Bd q Q V (n + 1) (x * y) := by
  refine ⟨?_, ?_⟩
  · have := den_mul h.den h'.den
    rwa [show q * (Q * q ^ n) = Q * q ^ (n + 1) by rw [Nat.pow_succ, Nat.mul_comm, Nat.mul_assoc]] at this
  · have := h.ab.mul h'.ab
    rwa [show q * (V * q ^ n) = V * q ^ (n + 1) by rw [Nat.pow_succ, Nat.mul_comm, Nat.mul_assoc]] at this
theorem Bd.sz {n k : Nat} {x : Rat} (h : Bd q Q V n x) (hp : Par q Q V) (h1 : V * q ^ n * (Q * q ^ n) < 2 ^ k) : Sz k x := by
  have p : 0 < Q * q ^ n := Nat.mul_pos hp.pos (Nat.pow_pos (by have := hp.two; omega))
  have d := Nat.le_of_dvd p h.den
  have v : 1 ≤ V * q ^ n := Nat.mul_pos (by have := hp.le; have := hp.two; omega) (Nat.pow_pos (by have := hp.two; omega))
  have m := h.ab.num
  have m2 : V * q ^ n * x.den ≤ V * q ^ n * (Q * q ^ n) := Nat.mul_le_mul_left _ d
  have m3 : 1 * (Q * q ^ n) ≤ V * q ^ n * (Q * q ^ n) := Nat.mul_le_mul_right _ v
  refine ⟨by unfold Sm; omega, by unfold Sm; rw [Int.natAbs_natCast]; omega⟩
/-- all numbers of a list -/
def BdL (q Q V n : Nat) (l : List Rat) : Prop := ∀ x ∈ l, Bd q Q V n x
theorem BdL.at {n : Nat} {l : List Rat} (hp : Par q Q V) (h : BdL q Q V n l) (i : Nat) : Bd q Q V n (at0 l i) := by
  unfold at0
  rw [List.getD_eq_getElem?_getD]
  cases e : l[i]? with
  | none => exact bd_zero hp n
  | some x => exact h x (List.mem_of_getElem? e)
theorem BdL.mono {n m : Nat} {l : List Rat} (hp : Par q Q V) (h : BdL q Q V n l) (hm : n ≤ m) : BdL q Q V m l := fun x hx => (h x hx).mono hp hm
theorem BdL.push {n : Nat} {l : List Rat} {x : Rat} (h : BdL q Q V n l) (hx : Bd q Q V n x) : BdL q Q V n (l ++ [x]) := fun y hy => by
  rcases List.mem_append.mp hy with hy | hy
  · exact h y hy
  · cases List.mem_singleton.mp hy; exact hx
theorem evB_bd {n : Nat} {ps f : List Rat} {s : B1} (hp : Par q Q V) (hc : s.cq q) (h1 : BdL q Q V n ps) (h2 : BdL q Q V n f) : Bd q Q V (n + 1) (evB ps f s) := by
  cases s with
  | is x => exact .cst hp hc _
  | inp k => exact (h1.at hp k).mono hp (by omega)
  | sum i j => exact Bd.add hp (h2.at hp i) (h2.at hp j)
  | «by» x i => exact Bd.mul hp hc (h2.at hp i)
  | least i j => simp only [evB]; split <;> exact (h2.at hp _).mono hp (by omega)
  | most i j => simp only [evB]; split <;> exact (h2.at hp _).mono hp (by omega)
  | iff i j k => simp only [evB]; split <;> exact (h2.at hp _).mono hp (by omega)
theorem runB_bd {n : Nat} {ps : List Rat} (hp : Par q Q V) {l : List B1} (hc : cqB q l) (h1 : BdL q Q V n ps) : ∀ i ≤ l.length, BdL q Q V (n + i) (runB ps (l.take i)) := by
  intro i
  induction i with
  | zero => intro _ x hx; exact nomatch hx
  | succ i ih =>
    intro hi
    have hs : l[i]? = some l[i] := List.getElem?_eq_getElem (by omega)
    rw [runB_take hs]
    have a := ih (by omega)
    have b := evB_bd hp (hc _ (List.mem_of_getElem? hs)) (h1.mono hp (by omega : n ≤ n + i)) a
    exact (a.mono hp (by omega)).push b
theorem bodyQ_bd {n : Nat} {w : Rat} (hp : Par q Q V) {l : List B1} (hc : cqB q l) (h1 : Bd q Q V n w) : Bd q Q V (n + l.length) (bodyQ l w) := by
  have := runB_bd hp hc (ps := [w]) (n := n) (fun x hx => by cases List.mem_singleton.mp hx; exact h1) l.length (Nat.le_refl _)
  rw [List.take_length] at this
  exact this.at hp _
theorem turnsQ_bd {n : Nat} {w : Rat} (hp : Par q Q V) {l : List B1} (hc : cqB q l) (h1 : Bd q Q V n w) : ∀ m, Bd q Q V (n + m * l.length) (turnsQ l m w)
  | 0 => by rw [Nat.zero_mul]; exact h1
  | m + 1 => by
    have := bodyQ_bd hp hc (turnsQ_bd hp hc h1 m)
    rw [show n + (m + 1) * l.length = n + m * l.length + l.length by rw [Nat.succ_mul]; omega]
    exact this
theorem evS_bd {n : Nat} {ps f : List Rat} {s : Stp} (hp : Par q Q V) (hc : s.cq q) (h1 : BdL q Q V n ps) (h2 : BdL q Q V n f) : Bd q Q V (n + s.run) (evS ps f s) := by
  cases s with
  | b s => exact evB_bd hp hc h1 h2
  | turns m i l => exact (turnsQ_bd hp hc (h2.at hp i) m).mono hp (by simp only [Stp.run]; omega)
theorem wS_bd {n : Nat} {ps : List Rat} (hp : Par q Q V) {l : List Stp} (hc : cqS q l) (h1 : BdL q Q V n ps) : ∀ i ≤ l.length, BdL q Q V (n + runS (l.take i)) (wS ps (l.take i)) := by
  intro i
  induction i with
  | zero => intro _ x hx; exact nomatch hx
  | succ i ih =>
    intro hi
    have hs : l[i]? = some l[i] := List.getElem?_eq_getElem (by omega)
    rw [wS_take hs]
    have a := ih (by omega)
    have b := evS_bd hp (hc _ (List.mem_of_getElem? hs)) (h1.mono hp (by omega : n ≤ n + runS (l.take i))) a
    have e : runS (l.take (i + 1)) = runS (l.take i) + l[i].run := by unfold runS; rw [sum_take Stp.run hs]
    rw [e, ← Nat.add_assoc]
    exact (a.mono hp (by omega)).push b
end

end RF

end S_RQ
section S_LC
set_option maxHeartbeats 4000000
namespace RF
open PySem PySem.Spec L2
local macro_rules
  | `(tactic| simp_arith [$ts,*]) => `(tactic| simp only [ee_var, ee_c, ee_glb, ee_neg, ee_nt, ee_bin, ee_cmp, ee_cmp2, ee_and, ee_or, ee_ife, ee_nil, ee_cons, ee_tup, ee_lst, ee_idx, ee_sl, ee_call, ee_callf, ee_rep, kRep_1, ee_lrg, ee_rev, rev_l, ex_sto, kSto, kSto1, kSto2, kSto3, put_lrg, put_rev, ee_bi, ee_isi, ee_comp, ee_fld, ee_mk, ee_isC, ee_meth, kMk_t, kMeth, kMeth1, kMeth2_t, fl_side, fl_pic, mk_side, mk_pic, mt_side, kVar_s, kNeg_i, kNot_b, kBin, kCmp, kCmp2, kCmpB, kCmpC_t, kCmpC_f, kAnd_t, kAnd_f, kOr_t, kOr_f, kIfe_t, kIfe_f, kCons, kPre_t, kTup_1, kTup_2, kTup_3, kTup_4, kTup_5, kTup_6, kLst_0, kLst_1, kLst_2, kLst_3, kLst_4, kLst_5, kLst_6, kIdx, kSl, kSl2, kSl3, kCall_t, kBi_t, kis, kIs_q, kComp, kComp2_ok, kList, turn_nil, turn_cmp, turn_and, turn_or, turn_nt, turn_isi, turn_call, turn_cmp2, turn_bi, kEl, kElc, kSome, kCd_t, kCd_f, ex_nil, ex_set, ex_own, ex_unp, ex_par, ex_par3, ex_ex, ex_ret, ex_reto, ex_retf, kReto, kRetf_l, kRetf2_cf, kRetf2_co, kRetf2_ls, kRetf2_sl, kRetf2_li, kRetf2_ad, put_cf, put_rep, ex_rai, ex_ite, ex_for, ex_whl, ex_app, ex_ext, ex_pas, ex_brk, ex_wip, kSet, kOwn, kPut, kUnp, kGo, kPar, kPar2, kPar3, kPar4, kTr, kTr2, kTr3, kTr4, kTr5, kTr6, kEx, kRet, kIte_t, kIte_f, kNx_n, kNx_b, kNx_r, kLoop_n, kLoop_r, kFor, kFor2_ok, kApp, kApp2_ok, kExt, kExt2_l, kExt3_ok, R.bind_ok, R.bind_exc, slot_0, slot_s, sd_v, sd_o, List.set_cons_zero, List.set_cons_succ, frz_def, frz_v, frz_n, frz_0, frz_o, hold_rng, hold_seq, hold_enum, hold_zip, it_zip, hold_v, hold_n, hold_0, hold_o, put_f, put_lst, put_sl, put_li, put_co, put_add, ev_lt, ev_le, ev_gt, ev_ge, ev_eq, ev_ne, ev_isN, ev_notN, eqD_int, eqD_pair, eqD_q, rb_len_t2, rb_len_t3, rb_len_t4, rb_len_l, len_q, rb_abs, rb_min, rb_list_l, rb_list_t, rb_tuple_l, rb_tuple_t, rb_all, rb_any, rb_sum, idx_t0, idx_t1, idx_t2, idx_t3, idx_q0, idx_q1, bin_add, bin_sub, out_rt, out_rl, outF_rl, out_nx, Bool.not_true, Bool.not_false, if_true, if_false, reduceIte, decide_true, decide_false, eq_self, Nat.reduceAdd, withO_s, Int.reduceLT, Int.reduceLE, Int.reduceEq, Int.reduceNeg, Int.reduceAdd, own_0, own_s, CE.men, Nat.reduceBEq, Bool.false_and, Bool.true_and, Bool.and_true, Bool.and_false, Bool.or_false, Bool.false_or, Bool.or_true, Bool.true_or, kqs, part_nil, part_c, part_v, part_neg, part_bin, part_bi, part_idx, sl_t41, sl_t43, it_l, it_t, it_enum, wipeS, bindT, bindL, Bool.false_eq_true, asL_l, Int.natCast_one, Int.natCast_zero, D.occ, D.occs, occ_q, List.length_map, $ts,*])
variable {tab : List Fn} [Ext tab]
theorem bin_t31 (a b c d : RF.D) : evBin .add (.tup [a, b, c]) (.tup [d]) = .ok (.tup [a, b, c, d]) := by
  simp only [evBin]
  rw [if_pos ⟨by simp, by show 4 ≤ lim; decide⟩]
  rfl
theorem bin_tup {l m : List RF.D} (h : l ≠ []) (h2 : l.length + m.length ≤ lim) : evBin .add (.tup l) (.tup m) = .ok (.tup (l ++ m)) := by
  simp only [evBin]
  rw [if_pos ⟨h, h2⟩]
theorem bin_lst {l m : List RF.D} (h2 : l.length + m.length ≤ lim) : evBin .add (.lst l) (.lst m) = .ok (.lst (l ++ m)) := by
  simp only [evBin]
  rw [if_pos h2]
theorem law_copied_ok (n : Nat) {inp : Nat} {l : List Stp} (hl : l.length ≤ 1000) : CF tab (n + 1) f_law_copied [prD inp l] = .ok (prD inp l) := by
  rw [go_law_copied]
  have h1 := loop_map (F := Stp.D) (g := .nm 2) (f := exec (TB tab n) FU l_law_copied_0) (l := l) (fun i => [.val (prD inp l), .own ((l.take i).map Stp.D), .no]) fun i s hs => by
    refine ⟨_, rfl, ?_⟩
    have hi := (List.getElem?_eq_some_iff.mp hs).1
    have L : (l.take i).length < lim := by rw [List.length_take]; unfold lim; omega
    have e : (l.take (i + 1)).map Stp.D = (l.take i).map Stp.D ++ [s.D] := by rw [List.take_succ, hs]; simp
    rw [e]
    cases s with
    | b s => cases s <;> simp_arith [l_law_copied_0, Stp.D, B1.D, L]
    | turns m i l => simp_arith [l_law_copied_0, Stp.D, L, bin_t31]
  have ll : l.length ≤ lim := by unfold lim; omega
  rw [List.take_length, List.take_zero, List.map_nil] at h1
  simp_arith [b_law_copied, prD, ll, h1]
theorem size_ok (n : Nat) {inp : Nat} {l : List Stp} (h : okP inp l) : CF tab (n + 10) f_size [prD inp l] = .ok (.tup [.int (runS l), .int (chS l)]) := by
  rw [go_size]
  have e1 := asked_program_ok (tab := tab) n h
  have e2 := counted_s (tab := tab) (n + 7) h.st
  simp_arith [b_size, prD, e1, e2]

end RF

end S_LC
section S_LR
set_option maxHeartbeats 4000000
namespace RF
open PySem PySem.Spec L2
local macro_rules
  | `(tactic| simp_arith [$ts,*]) => `(tactic| simp only [ee_var, ee_c, ee_glb, ee_neg, ee_nt, ee_bin, ee_cmp, ee_cmp2, ee_and, ee_or, ee_ife, ee_nil, ee_cons, ee_tup, ee_lst, ee_idx, ee_sl, ee_call, ee_callf, ee_rep, kRep_1, ee_lrg, ee_rev, rev_l, ex_sto, kSto, kSto1, kSto2, kSto3, put_lrg, put_rev, ee_bi, ee_isi, ee_comp, ee_fld, ee_mk, ee_isC, ee_meth, kMk_t, kMeth, kMeth1, kMeth2_t, fl_side, fl_pic, mk_side, mk_pic, mt_side, kVar_s, kNeg_i, kNot_b, kBin, kCmp, kCmp2, kCmpB, kCmpC_t, kCmpC_f, kAnd_t, kAnd_f, kOr_t, kOr_f, kIfe_t, kIfe_f, kCons, kPre_t, kTup_1, kTup_2, kTup_3, kTup_4, kTup_5, kTup_6, kLst_0, kLst_1, kLst_2, kLst_3, kLst_4, kLst_5, kLst_6, kIdx, kSl, kSl2, kSl3, kCall_t, kBi_t, kis, kIs_q, kComp, kComp2_ok, kList, turn_nil, turn_cmp, turn_and, turn_or, turn_nt, turn_isi, turn_call, turn_cmp2, turn_bi, kEl, kElc, kSome, kCd_t, kCd_f, ex_nil, ex_set, ex_own, ex_unp, ex_par, ex_par3, ex_ex, ex_ret, ex_reto, ex_retf, kReto, kRetf_l, kRetf2_cf, kRetf2_co, kRetf2_ls, kRetf2_sl, kRetf2_li, kRetf2_ad, put_cf, put_rep, ex_rai, ex_ite, ex_for, ex_whl, ex_app, ex_ext, ex_pas, ex_brk, ex_wip, kSet, kOwn, kPut, kUnp, kGo, kPar, kPar2, kPar3, kPar4, kTr, kTr2, kTr3, kTr4, kTr5, kTr6, kEx, kRet, kIte_t, kIte_f, kNx_n, kNx_b, kNx_r, kLoop_n, kLoop_r, kFor, kFor2_ok, kApp, kApp2_ok, kExt, kExt2_l, kExt3_ok, R.bind_ok, R.bind_exc, slot_0, slot_s, sd_v, sd_o, List.set_cons_zero, List.set_cons_succ, frz_def, frz_v, frz_n, frz_0, frz_o, hold_rng, hold_seq, hold_enum, hold_zip, it_zip, hold_v, hold_n, hold_0, hold_o, put_f, put_lst, put_sl, put_li, put_co, put_add, ev_lt, ev_le, ev_gt, ev_ge, ev_eq, ev_ne, ev_isN, ev_notN, eqD_int, eqD_pair, eqD_q, rb_len_t2, rb_len_t3, rb_len_t4, rb_len_l, len_q, rb_abs, rb_min, rb_list_l, rb_list_t, rb_tuple_l, rb_tuple_t, rb_all, rb_any, rb_sum, idx_t0, idx_t1, idx_t2, idx_t3, idx_q0, idx_q1, bin_add, bin_sub, out_rt, out_rl, outF_rl, out_nx, Bool.not_true, Bool.not_false, if_true, if_false, reduceIte, decide_true, decide_false, eq_self, Nat.reduceAdd, withO_s, Int.reduceLT, Int.reduceLE, Int.reduceEq, Int.reduceNeg, Int.reduceAdd, own_0, own_s, CE.men, Nat.reduceBEq, Bool.false_and, Bool.true_and, Bool.and_true, Bool.and_false, Bool.or_false, Bool.false_or, Bool.or_true, Bool.true_or, kqs, part_nil, part_c, part_v, part_neg, part_bin, part_bi, part_idx, sl_t41, sl_t43, it_l, it_t, it_enum, wipeS, bindT, bindL, Bool.false_eq_true, asL_l, Int.natCast_one, Int.natCast_zero, D.occ, D.occs, occ_q, List.length_map, $ts,*])
variable {tab : List Fn} [Ext tab]
theorem idx_qs {l : List Rat} {i : Nat} (h : i < l.length) : evIdx (.lst (l.map qD)) (.int (i : Int)) = .ok (qD (at0 l i)) := by
  refine idx_l ?_
  rw [atI_nat, List.getElem?_map, List.getElem?_eq_getElem h]
  simp only [at0, Option.map_some, List.getD_eq_getElem?_getD, List.getElem?_eq_getElem h, Option.getD_some]
theorem atI_m1 {α : Type} (l : List α) (h : 0 < l.length) : atI l (-1) = l[l.length - 1]? := by
  unfold atI ixN
  rw [if_neg (by decide), if_pos (by omega)]
  have : (-1 + (l.length : Int)).toNat = l.length - 1 := by omega
  rw [this]
  rfl
theorem idx_m1 {l : List Rat} (h : 0 < l.length) : evIdx (.lst (l.map qD)) (.int (-1)) = .ok (qD (lastQ l)) := by
  refine idx_l ?_
  rw [atI_m1 _ (by rw [List.length_map]; exact h), List.getElem?_map, List.length_map, List.getElem?_eq_getElem (by omega)]
  simp only [lastQ, at0, Option.map_some, List.getD_eq_getElem?_getD, List.getElem?_eq_getElem (show l.length - 1 < l.length by omega), Option.getD_some]
theorem num_le0 (x : Rat) : (x.num ≤ 0) = (x ≤ 0) := by
  have := Rat.le_iff x 0
  rw [show (0 : Rat).num = 0 from rfl, show (0 : Rat).den = 1 from rfl] at this
  apply propext
  constructor
  · intro h; exact this.mpr (by omega)
  · intro h; have := this.mp h; omega
theorem osgn_le (x y : Rat) : (osgn x y ≤ 0) = (x ≤ y) := by
  unfold osgn
  apply propext
  by_cases c : y < x
  · rw [if_pos c]; constructor
    · intro h; omega
    · intro h; grind
  · rw [if_neg c]
    have : x ≤ y := by grind
    split <;> simp [this]
/-- bounds under which all goes -/
structure Big (q Q V N : Nat) : Prop extends Par q Q V where
  sz : V * q ^ N * (Q * q ^ N) < 2 ^ 2000
theorem Big.of {q Q V N n : Nat} {x : Rat} (B : Big q Q V N) (h : Bd q Q V n x) (hn : n ≤ N) : Sz 3000 x := ((h.mono B.toPar hn).sz B.toPar B.sz).mono (by decide)
section
variable {q Q V N : Nat}
theorem worth_of_b (n : Nat) {s : B1} {ps f : List Rat} {m : Nat} (B : Big q Q V N) (hok : s.ok f.length ps.length) (hc : s.cq q) (h2 : BdL q Q V m f) (hm : m ≤ N) : CF tab (n + 4) f_worth_of [s.D, qsD f, qsD ps] = .ok (qD (evB ps f s)) := by
  rw [go_worth_of]
  have S : ∀ i, Sz 3000 (at0 f i) := fun i => B.of (h2.at B.toPar i) hm
  cases s with
  | is x => simp_arith [b_worth_of, B1.D, evB]
  | inp k => simp_arith [b_worth_of, B1.D, evB, idx_qs (l := ps) (i := k) hok]
  | sum i j => simp_arith [b_worth_of, B1.D, evB, idx_qs hok.1, idx_qs hok.2, add_q _ (S i) (S j)]
  | «by» x i =>
    have sx : Sz 3000 x := B.of (.cst B.toPar hc 0) (Nat.zero_le _)
    simp_arith [b_worth_of, B1.D, evB, idx_qs hok.2, grow_q _ sx (S i)]
  | least i j =>
    by_cases c : at0 f i ≤ at0 f j
    · simp_arith [b_worth_of, B1.D, evB, idx_qs hok.1, idx_qs hok.2, lies_q _ (S i) (S j), osgn_le, c, eqD_bl, beq_self_eq_true]
    · simp_arith [b_worth_of, B1.D, evB, idx_qs hok.1, idx_qs hok.2, lies_q _ (S i) (S j), osgn_le, c, eqD_bl, show (false == true) = false from rfl]
  | most i j =>
    by_cases c : at0 f i ≤ at0 f j
    · simp_arith [b_worth_of, B1.D, evB, idx_qs hok.1, idx_qs hok.2, lies_q _ (S i) (S j), osgn_le, c, eqD_bl, show (true == false) = false from rfl]
    · simp_arith [b_worth_of, B1.D, evB, idx_qs hok.1, idx_qs hok.2, lies_q _ (S i) (S j), osgn_le, c, eqD_bl, beq_self_eq_true]
  | iff i j k =>
    by_cases c : at0 f i ≤ 0
    · simp_arith [b_worth_of, B1.D, evB, idx_qs hok.1, idx_qs hok.2.1, idx_qs hok.2.2, num_le0, c]
    · simp_arith [b_worth_of, B1.D, evB, idx_qs hok.1, idx_qs hok.2.1, idx_qs hok.2.2, num_le0, c]
theorem worths_of_b (n : Nat) {l : List B1} {ps : List Rat} {m : Nat} (B : Big q Q V N) (hok : okB ps.length l) (hc : cqB q l) (h1 : BdL q Q V m ps) (hm : m + l.length ≤ N) : CF tab (n + 5) f_worths_of [.lst (l.map B1.D), qsD ps] = .ok (qsD (runB ps l)) := by
  rw [go_worths_of]
  have bd := runB_bd B.toPar hc h1
  have h := loop_map (F := B1.D) (g := .nm 3) (f := exec (TB tab (n + 4)) FU l_worths_of_0) (l := l) (fun i => [.val (.lst (l.map B1.D)), .val (qsD ps), .own ((runB ps (l.take i)).map qD), .no]) fun i s hs => by
    refine ⟨_, rfl, ?_⟩
    have hi := (List.getElem?_eq_some_iff.mp hs).1
    have L : (runB ps (l.take i)).length < lim := by rw [runB_len, List.length_take]; have := hok.2.1; unfold lim; omega
    have len : (runB ps (l.take i)).length = i := by rw [runB_len, List.length_take]; omega
    have e := worth_of_b (tab := tab) n (s := s) (ps := ps) (f := runB ps (l.take i)) B (by rw [len]; exact hok.2.2 i s hs) (hc s (List.mem_of_getElem? hs)) (bd i (by omega)) (by omega)
    rw [runB_take hs, List.map_append]
    simp_arith [l_worths_of_0, e, L, List.map_cons, List.map_nil]
  have ll : l.length ≤ lim := by have := hok.2.1; unfold lim; omega
  rw [List.take_length, List.take_zero] at h
  simp only [runB, List.foldl_nil, List.map_nil] at h
  simp_arith [b_worths_of, ll, h, runB]
theorem worth_of_s (n : Nat) {s : Stp} {ps f : List Rat} {m a : Nat} (B : Big q Q V N) (hok : s.ok f.length ps.length) (hc : s.cq q) (h2 : BdL q Q V m f) (hm : m + s.run ≤ N) : CF tab (n + 6) f_worth_of [s.D, qsD f, qsD ps] = .ok (qD (evS ps f s)) := by
  cases s with
  | b s => exact worth_of_b (n + 2) B hok hc h2 (by omega)
  | turns k i l =>
    rw [go_worth_of]
    simp only [Stp.run] at hm
    have hi := idx_qs (l := f) (i := i) hok.2.1
    have h := loop_rng (g := .nm 5) (f := exec (TB tab (n + 5)) FU l_worth_of_0) (k := k) (fun j => [.val (Stp.D (.turns k i l)), .val (qsD f), .val (qsD ps), .val (.str "turns"), .val (qD (turnsQ l j (at0 f i))), .no, .no, .no, .no]) fun j hj => by
      refine ⟨_, rfl, ?_⟩
      have hb := turnsQ_bd B.toPar hc (h2.at B.toPar i) j
      have jl : j * l.length + l.length ≤ k * l.length := by rw [← Nat.succ_mul]; exact Nat.mul_le_mul_right _ hj
      have e := worths_of_b (tab := tab) n (l := l) (ps := [turnsQ l j (at0 f i)]) B hok.2.2 hc (fun x hx => by cases List.mem_singleton.mp hx; exact hb) (by omega)
      have e2 := idx_m1 (l := runB [turnsQ l j (at0 f i)] l) (by rw [runB_len]; exact hok.2.2.1)
      simp only [qsD, List.map_cons, List.map_nil] at e
      simp_arith [l_worth_of_0, Stp.D, e, e2, turnsQ, bodyQ]
    have ki := it_rng k (by have := hok.1; unfold lim; omega)
    have kl : (upFrom 0 1 k).length ≤ lim := by rw [upFrom_length]; have := hok.1; unfold lim; omega
    simp only [Stp.D, turnsQ] at h
    simp_arith [b_worth_of, Stp.D, hi, ki, kl, h, evS]
theorem worths_of_s (n : Nat) {l : List Stp} {ps : List Rat} {m : Nat} (B : Big q Q V N) (hok : okS ps.length l) (hc : cqS q l) (h1 : BdL q Q V m ps) (hm : m + runS l ≤ N) : CF tab (n + 7) f_worths_of [.lst (l.map Stp.D), qsD ps] = .ok (qsD (wS ps l)) := by
  rw [go_worths_of]
  have bd := wS_bd B.toPar hc h1
  have h := loop_map (F := Stp.D) (g := .nm 3) (f := exec (TB tab (n + 6)) FU l_worths_of_0) (l := l) (fun i => [.val (.lst (l.map Stp.D)), .val (qsD ps), .own ((wS ps (l.take i)).map qD), .no]) fun i s hs => by
    refine ⟨_, rfl, ?_⟩
    have hi := (List.getElem?_eq_some_iff.mp hs).1
    have L : (wS ps (l.take i)).length < lim := by rw [wS_len, List.length_take]; have := hok.2.1; unfold lim; omega
    have len : (wS ps (l.take i)).length = i := by rw [wS_len, List.length_take]; omega
    have r1 : runS (l.take (i + 1)) = runS (l.take i) + s.run := by unfold runS; rw [sum_take Stp.run hs]
    have r2 : runS (l.take (i + 1)) ≤ runS l := by
      have := runS_app (l.take (i + 1)) (l.drop (i + 1))
      rw [List.take_append_drop] at this
      omega
    have e := worth_of_s (tab := tab) n (s := s) (ps := ps) (f := wS ps (l.take i)) (a := 0) B (by rw [len]; exact hok.2.2 i s hs) (hc s (List.mem_of_getElem? hs)) (bd i (by omega)) (by omega)
    rw [wS_take hs, List.map_append]
    simp_arith [l_worths_of_0, e, L, List.map_cons, List.map_nil]
  have ll : l.length ≤ lim := by have := hok.2.1; unfold lim; omega
  rw [List.take_length, List.take_zero] at h
  simp only [wS, List.foldl_nil, List.map_nil] at h
  simp_arith [b_worths_of, ll, h, wS]
theorem asked_places_ok (n : Nat) {inp : Nat} {l : List Stp} {ps : List Rat} (hp : ps.length = inp) (hl : inp ≤ 3) (hs : ∀ x ∈ ps, Sz 8000 x) : CF tab (n + 3) f_asked_places [prD inp l, qsD ps] = .ok .non := by
  rw [go_asked_places]
  have hc : compF (turnF (TB tab (n + 2)) (.nm 2) [2] .nil (.call f_is_number (.cons (.var 2) .nil)) [.val (prD inp l), .val (qsD ps), .no]) (ps.map qD) = .ok (ps.map fun _ => .bl true) :=
    compF_map fun x hx => by simp_arith [is_number_q _ (hs x hx)]
  have hb : bools (ps.map fun _ => RF.D.bl true) = some (ps.map fun _ => true) := by
    generalize ps = k
    induction k with
    | nil => rfl
    | cons x r ih => simp only [List.map_cons, bools, ih, Option.map_some]
  have ha : (ps.map fun _ => true).all id = true := by simp
  have ll : inp ≤ lim := by unfold lim; omega
  simp_arith [b_asked_places, prD, hp, ll, hc, hb, ha]
theorem worths_ok (n : Nat) {inp : Nat} {l : List Stp} {ps : List Rat} {m : Nat} (B : Big q Q V N) (ok : okP inp l) (hc : cqS q l) (hp : ps.length = inp) (h1 : BdL q Q V m ps) (hm : m + 120 ≤ N) : CF tab (n + 10) f_worths [prD inp l, qsD ps] = .ok (qsD (wS ps l)) := by
  rw [go_worths]
  have e1 := asked_program_ok (tab := tab) n ok
  have e2 := asked_places_ok (tab := tab) (n + 6) (l := l) hp ok.i3 fun x hx => (B.of (h1 x hx) (by omega)).mono (by decide)
  have e3 := worths_of_s (tab := tab) (n + 2) B (by rw [hp]; exact ok.st) hc h1 (by have := ok.run; omega)
  simp_arith [b_worths, prD, e1, e2, e3]
theorem worth_ok (n : Nat) {inp : Nat} {l : List Stp} {ps : List Rat} {m : Nat} (B : Big q Q V N) (ok : okP inp l) (hc : cqS q l) (hp : ps.length = inp) (h1 : BdL q Q V m ps) (hm : m + 120 ≤ N) : CF tab (n + 10) f_worth [prD inp l, qsD ps] = .ok (qD (lastQ (wS ps l))) := by
  rw [go_worth]
  have e1 := asked_program_ok (tab := tab) n ok
  have e2 := asked_places_ok (tab := tab) (n + 6) (l := l) hp ok.i3 fun x hx => (B.of (h1 x hx) (by omega)).mono (by decide)
  have e3 := worths_of_s (tab := tab) (n + 2) B (by rw [hp]; exact ok.st) hc h1 (by have := ok.run; omega)
  have e4 := idx_m1 (l := wS ps l) (by rw [wS_len]; exact ok.st.1)
  simp_arith [b_worth, prD, e1, e2, e3, e4]
end

end RF

end S_LR
section S_LW
set_option maxHeartbeats 4000000
namespace RF
open PySem PySem.Spec L2
local macro_rules
  | `(tactic| simp_arith [$ts,*]) => `(tactic| simp only [ee_var, ee_c, ee_glb, ee_neg, ee_nt, ee_bin, ee_cmp, ee_cmp2, ee_and, ee_or, ee_ife, ee_nil, ee_cons, ee_tup, ee_lst, ee_idx, ee_sl, ee_call, ee_callf, ee_rep, kRep_1, ee_lrg, ee_rev, rev_l, ex_sto, kSto, kSto1, kSto2, kSto3, put_lrg, put_rev, ee_bi, ee_isi, ee_comp, ee_fld, ee_mk, ee_isC, ee_meth, kMk_t, kMeth, kMeth1, kMeth2_t, fl_side, fl_pic, mk_side, mk_pic, mt_side, kVar_s, kNeg_i, kNot_b, kBin, kCmp, kCmp2, kCmpB, kCmpC_t, kCmpC_f, kAnd_t, kAnd_f, kOr_t, kOr_f, kIfe_t, kIfe_f, kCons, kPre_t, kTup_1, kTup_2, kTup_3, kTup_4, kTup_5, kTup_6, kLst_0, kLst_1, kLst_2, kLst_3, kLst_4, kLst_5, kLst_6, kIdx, kSl, kSl2, kSl3, kCall_t, kBi_t, kis, kIs_q, kComp, kComp2_ok, kList, turn_nil, turn_cmp, turn_and, turn_or, turn_nt, turn_isi, turn_call, turn_cmp2, turn_bi, kEl, kElc, kSome, kCd_t, kCd_f, ex_nil, ex_set, ex_own, ex_unp, ex_par, ex_par3, ex_ex, ex_ret, ex_reto, ex_retf, kReto, kRetf_l, kRetf2_cf, kRetf2_co, kRetf2_ls, kRetf2_sl, kRetf2_li, kRetf2_ad, put_cf, put_rep, ex_rai, ex_ite, ex_for, ex_whl, ex_app, ex_ext, ex_pas, ex_brk, ex_wip, kSet, kOwn, kPut, kUnp, kGo, kPar, kPar2, kPar3, kPar4, kTr, kTr2, kTr3, kTr4, kTr5, kTr6, kEx, kRet, kIte_t, kIte_f, kNx_n, kNx_b, kNx_r, kLoop_n, kLoop_r, kFor, kFor2_ok, kApp, kApp2_ok, kExt, kExt2_l, kExt3_ok, R.bind_ok, R.bind_exc, slot_0, slot_s, sd_v, sd_o, List.set_cons_zero, List.set_cons_succ, frz_def, frz_v, frz_n, frz_0, frz_o, hold_rng, hold_seq, hold_enum, hold_zip, it_zip, hold_v, hold_n, hold_0, hold_o, put_f, put_lst, put_sl, put_li, put_co, put_add, ev_lt, ev_le, ev_gt, ev_ge, ev_eq, ev_ne, ev_isN, ev_notN, eqD_int, eqD_pair, eqD_q, rb_len_t2, rb_len_t3, rb_len_t4, rb_len_l, len_q, rb_abs, rb_min, rb_list_l, rb_list_t, rb_tuple_l, rb_tuple_t, rb_all, rb_any, rb_sum, idx_t0, idx_t1, idx_t2, idx_t3, idx_q0, idx_q1, bin_add, bin_sub, out_rt, out_rl, outF_rl, out_nx, Bool.not_true, Bool.not_false, if_true, if_false, reduceIte, decide_true, decide_false, eq_self, Nat.reduceAdd, withO_s, Int.reduceLT, Int.reduceLE, Int.reduceEq, Int.reduceNeg, Int.reduceAdd, own_0, own_s, CE.men, Nat.reduceBEq, Bool.false_and, Bool.true_and, Bool.and_true, Bool.and_false, Bool.or_false, Bool.false_or, Bool.or_true, Bool.true_or, kqs, part_nil, part_c, part_v, part_neg, part_bin, part_bi, part_idx, sl_t41, sl_t43, it_l, it_t, it_enum, wipeS, bindT, bindL, Bool.false_eq_true, asL_l, Int.natCast_one, Int.natCast_zero, D.occ, D.occs, occ_q, List.length_map, $ts,*])
variable {tab : List Fn} [Ext tab]
theorem law_low_q (n : Nat) {a b : Int} (h : b ≠ 0) (hb : Sm 8000 b) : CF tab (n + 1) f_law_low [.int a, .int b] = .ok (qD (Rat.divInt a b)) := by rw [← low_q h]; exact low_ok n h hb
theorem law_add_q (n : Nat) {x y : Rat} (h : Sz 3000 x) (h' : Sz 3000 y) : CF tab (n + 2) f_law_add [qD x, qD y] = .ok (qD (x + y)) := by
  rw [go_law_add, add_q_def]
  have a := h.mono (m := 8000) (by decide)
  have b := h'.mono (m := 8000) (by decide)
  have z := Int.mul_ne_zero (den_ne x) (den_ne y)
  simp_arith [b_law_add, bin_mul a.num b.den, bin_mul b.num a.den, bin_mul a.den b.den, law_low_q _ z ((h.den.mul h'.den).mono (by decide))]
theorem law_by_q (n : Nat) {x y : Rat} (h : Sz 3000 x) (h' : Sz 3000 y) : CF tab (n + 2) f_law_by [qD x, qD y] = .ok (qD (x * y)) := by
  rw [go_law_by, mul_q_def]
  have a := h.mono (m := 8000) (by decide)
  have b := h'.mono (m := 8000) (by decide)
  have z := Int.mul_ne_zero (den_ne x) (den_ne y)
  simp_arith [b_law_by, bin_mul a.num b.num, bin_mul a.den b.den, law_low_q _ z ((h.den.mul h'.den).mono (by decide))]
theorem law_before_q (n : Nat) {x y : Rat} (h : Sz 3000 x) (h' : Sz 3000 y) : CF tab (n + 1) f_law_before [qD x, qD y] = .ok (.bl (decide (x < y))) := by
  rw [go_law_before]
  have a := h.mono (m := 8000) (by decide)
  have b := h'.mono (m := 8000) (by decide)
  have e : (x.num * (y.den : Int) < y.num * (x.den : Int)) = (x < y) := propext (Rat.lt_iff x y).symm
  simp_arith [b_law_before, bin_mul a.num b.den, bin_mul b.num a.den, e]
theorem law_good_q (n : Nat) {x : Rat} (h : Sz 8000 x) : CF tab (n + 2) f_law_good [qD x] = .ok (.bl true) := good_ok n h.nm
theorem idx_of_nat {l : List RF.D} {i : Nat} {d : RF.D} (h : l[i]? = some d) : evIdx (.lst l) (.int (i : Int)) = .ok d := idx_l (by rw [atI_nat]; exact h)
section
variable {q Q V N : Nat}
theorem if_lt_ge (x y : Rat) : (if x < y then x else y) = if x ≤ y then x else y := by
  by_cases c : x < y
  · rw [if_pos c, if_pos (Rat.le_of_lt c)]
  · rw [if_neg c]
    split
    · grind
    · rfl
theorem if_lt_ge2 (x y : Rat) : (if x < y then y else x) = if x ≤ y then y else x := by
  by_cases c : x < y
  · rw [if_pos c, if_pos (Rat.le_of_lt c)]
  · rw [if_neg c]
    split
    · grind
    · rfl
theorem law_run_round_b (n : Nat) {s : B1} {ps f : List Rat} {m : Nat} {S : RF.D} (B : Big q Q V N) (hok : s.ok f.length ps.length) (hc : s.cq q) (h2 : BdL q Q V m f) (hm : m ≤ N) (hL : f.length < 1000) :
    exec (TB tab (n + 2)) FU l_law_run_1 [.val S, .val (qsD ps), .own (f.map qD), .val s.D, .no, .no, .no, .no, .no] = .ok (.nx [.val S, .val (qsD ps), .own ((f ++ [evB ps f s]).map qD), .no, .no, .no, .no, .no, .no]) := by
  have Z : ∀ i, Sz 3000 (at0 f i) := fun i => B.of (h2.at B.toPar i) hm
  have L : f.length < lim := by unfold lim; omega
  rw [List.map_append, List.map_cons, List.map_nil]
  cases s with
  | is x => simp_arith [l_law_run_1, B1.D, evB, L]
  | inp k => simp_arith [l_law_run_1, B1.D, evB, idx_qs (l := ps) (i := k) hok, L]
  | sum i j => simp_arith [l_law_run_1, B1.D, evB, idx_qs hok.1, idx_qs hok.2, law_add_q _ (Z i) (Z j), L]
  | «by» x i =>
    have sx : Sz 3000 x := B.of (.cst B.toPar hc 0) (Nat.zero_le _)
    simp_arith [l_law_run_1, B1.D, evB, idx_qs hok.2, law_by_q _ sx (Z i), L]
  | least i j =>
    simp only [evB]
    rw [← if_lt_ge]
    by_cases c : at0 f i < at0 f j
    · simp_arith [l_law_run_1, B1.D, idx_qs hok.1, idx_qs hok.2, law_before_q _ (Z i) (Z j), c, eqD_bl, beq_self_eq_true, L]
    · simp_arith [l_law_run_1, B1.D, idx_qs hok.1, idx_qs hok.2, law_before_q _ (Z i) (Z j), c, eqD_bl, show (false == true) = false from rfl, L]
  | most i j =>
    simp only [evB]
    rw [← if_lt_ge2]
    by_cases c : at0 f i < at0 f j
    · simp_arith [l_law_run_1, B1.D, idx_qs hok.1, idx_qs hok.2, law_before_q _ (Z i) (Z j), c, eqD_bl, show (true == false) = false from rfl, L]
    · simp_arith [l_law_run_1, B1.D, idx_qs hok.1, idx_qs hok.2, law_before_q _ (Z i) (Z j), c, eqD_bl, beq_self_eq_true, L]
  | iff i j k =>
    by_cases c : at0 f i ≤ 0
    · simp_arith [l_law_run_1, B1.D, evB, idx_qs hok.1, idx_qs hok.2.1, idx_qs hok.2.2, num_le0, c, L]
    · simp_arith [l_law_run_1, B1.D, evB, idx_qs hok.1, idx_qs hok.2.1, idx_qs hok.2.2, num_le0, c, L]
theorem law_run_b (n : Nat) {l : List B1} {ps : List Rat} {m : Nat} (B : Big q Q V N) (hok : okB ps.length l) (hc : cqB q l) (h1 : BdL q Q V m ps) (hm : m + l.length ≤ N) : CF tab (n + 3) f_law_run [.lst (l.map B1.D), qsD ps] = .ok (qsD (runB ps l)) := by
  rw [go_law_run]
  have bd := runB_bd B.toPar hc h1
  have h := loop_map (F := B1.D) (g := .nm 3) (f := exec (TB tab (n + 2)) FU l_law_run_1) (l := l) (fun i => [.val (.lst (l.map B1.D)), .val (qsD ps), .own ((runB ps (l.take i)).map qD), .no, .no, .no, .no, .no, .no]) fun i s hs => by
    refine ⟨_, rfl, ?_⟩
    have hi := (List.getElem?_eq_some_iff.mp hs).1
    have len : (runB ps (l.take i)).length = i := by rw [runB_len, List.length_take]; omega
    have e := law_run_round_b (tab := tab) n (s := s) (ps := ps) (f := runB ps (l.take i)) (S := .lst (l.map B1.D)) B (by rw [len]; exact hok.2.2 i s hs) (hc s (List.mem_of_getElem? hs)) (bd i (by omega)) (by omega) (by have := hok.2.1; omega)
    rw [runB_take hs]
    exact e
  have ll : l.length ≤ lim := by have := hok.2.1; unfold lim; omega
  rw [List.take_length, List.take_zero] at h
  simp only [runB, List.foldl_nil, List.map_nil] at h
  simp_arith [b_law_run, ll, h, runB]
theorem law_run_round_s (n : Nat) {s : Stp} {ps f : List Rat} {m : Nat} {S : RF.D} (B : Big q Q V N) (hok : s.ok f.length ps.length) (hc : s.cq q) (h2 : BdL q Q V m f) (hm : m + s.run ≤ N) (hL : f.length < 1000) :
    exec (TB tab (n + 3)) FU l_law_run_1 [.val S, .val (qsD ps), .own (f.map qD), .val s.D, .no, .no, .no, .no, .no] = .ok (.nx [.val S, .val (qsD ps), .own ((f ++ [evS ps f s]).map qD), .no, .no, .no, .no, .no, .no]) := by
  cases s with
  | b s => exact law_run_round_b (n + 1) B hok hc h2 (by omega) hL
  | turns k i l =>
    simp only [Stp.run] at hm
    have L : f.length < lim := by unfold lim; omega
    have hi := idx_qs (l := f) (i := i) hok.2.1
    have h := loop_rng (g := .nm 6) (f := exec (TB tab (n + 3)) FU l_law_run_0) (k := k) (fun j => [.val S, .val (qsD ps), .own (f.map qD), .val (Stp.D (.turns k i l)), .val (.str "turns"), .val (qD (turnsQ l j (at0 f i))), .no, .no, .no]) fun j hj => by
      refine ⟨_, rfl, ?_⟩
      have hb := turnsQ_bd B.toPar hc (h2.at B.toPar i) j
      have jl : j * l.length + l.length ≤ k * l.length := by rw [← Nat.succ_mul]; exact Nat.mul_le_mul_right _ hj
      have e := law_run_b (tab := tab) n (l := l) (ps := [turnsQ l j (at0 f i)]) B hok.2.2 hc (fun x hx => by cases List.mem_singleton.mp hx; exact hb) (by omega)
      have e2 := idx_m1 (l := runB [turnsQ l j (at0 f i)] l) (by rw [runB_len]; exact hok.2.2.1)
      simp only [qsD, List.map_cons, List.map_nil] at e
      simp_arith [l_law_run_0, Stp.D, e, e2, turnsQ, bodyQ]
    have ki := it_rng k (by have := hok.1; unfold lim; omega)
    have kl : (upFrom 0 1 k).length ≤ lim := by rw [upFrom_length]; have := hok.1; unfold lim; omega
    simp only [Stp.D, turnsQ] at h
    rw [List.map_append, List.map_cons, List.map_nil]
    simp_arith [l_law_run_1, Stp.D, hi, ki, kl, h, evS, L]
theorem law_run_s (n : Nat) {l : List Stp} {ps : List Rat} {m : Nat} (B : Big q Q V N) (hok : okS ps.length l) (hc : cqS q l) (h1 : BdL q Q V m ps) (hm : m + runS l ≤ N) : CF tab (n + 4) f_law_run [.lst (l.map Stp.D), qsD ps] = .ok (qsD (wS ps l)) := by
  rw [go_law_run]
  have bd := wS_bd B.toPar hc h1
  have h := loop_map (F := Stp.D) (g := .nm 3) (f := exec (TB tab (n + 3)) FU l_law_run_1) (l := l) (fun i => [.val (.lst (l.map Stp.D)), .val (qsD ps), .own ((wS ps (l.take i)).map qD), .no, .no, .no, .no, .no, .no]) fun i s hs => by
    refine ⟨_, rfl, ?_⟩
    have hi := (List.getElem?_eq_some_iff.mp hs).1
    have len : (wS ps (l.take i)).length = i := by rw [wS_len, List.length_take]; omega
    have r1 : runS (l.take (i + 1)) = runS (l.take i) + s.run := by unfold runS; rw [sum_take Stp.run hs]
    have r2 : runS (l.take (i + 1)) ≤ runS l := by
      have := runS_app (l.take (i + 1)) (l.drop (i + 1))
      rw [List.take_append_drop] at this
      omega
    have e := law_run_round_s (tab := tab) n (s := s) (ps := ps) (f := wS ps (l.take i)) (S := .lst (l.map Stp.D)) B (by rw [len]; exact hok.2.2 i s hs) (hc s (List.mem_of_getElem? hs)) (bd i (by omega)) (by omega) (by have := hok.2.1; omega)
    rw [wS_take hs]
    exact e
  have ll : l.length ≤ lim := by have := hok.2.1; unfold lim; omega
  rw [List.take_length, List.take_zero] at h
  simp only [wS, List.foldl_nil, List.map_nil] at h
  simp_arith [b_law_run, ll, h, wS]
end
theorem p12 : evBin .pow (.int 10) (.int 12) = .ok (.int (10 ^ 12)) := bin_pow rfl (by decide) (by decide)
theorem law_places_ok (n : Nat) (ns : List Int) (hl : ns.length ≤ 63) (b many : Nat) (hb : b ≤ 500) (hm : many ≤ 10) : ∃ ps : List Rat, ps.length = many ∧ (∀ x ∈ ps, Cs (10 ^ 12) x) ∧ CF tab (n + 3) f_law_places [.lst (ns.map .int), .int b, .int many] = .ok (qsD ps) := by
  rw [go_law_places]
  obtain ⟨c1, c2, c3⟩ := cellsG_len 5 63 ns (by decide) hl
  have ec := cellsG_ev (TB tab (n + 2)) 5 63 ns (.c (.int 63)) [.val (.lst (ns.map .int)), .val (.int b), .val (.int many), .no, .no, .no, .no] rfl rfl
  let I : Nat → Env → Prop := fun i ρ => ∃ ps : List Rat, ps.length = i ∧ (∀ x ∈ ps, Cs (10 ^ 12) x) ∧ ρ = [.val (.lst (ns.map .int)), .val (.int b), .val (.int many), .val (.lst ((cellsG 5 63 ns).map .int)), .own (ps.map qD), .no, .no]
  have LP := loop_idx (g := .nm 5) (f := exec (TB tab (n + 2)) FU l_law_places_0) (l := upFrom 0 1 many) (I := I) (ρ := [.val (.lst (ns.map .int)), .val (.int b), .val (.int many), .val (.lst ((cellsG 5 63 ns).map .int)), .own [], .no, .no]) (fun i x ρ hx hI => by
    obtain ⟨ps, hp, hs, rfl⟩ := hI
    obtain ⟨hi, rfl⟩ := upFrom_gets hx
    rw [show (0 : Int) + 1 * (i : Int) = (i : Int) by omega]
    have e1 : evBin .mod (.int ((b : Int) + (i : Int))) (.int ((cellsG 5 63 ns).length : Int)) = .ok (.int (((b + i) % (cellsG 5 63 ns).length : Nat) : Int)) := by
      rw [bin_mod (by omega), ← Int.natCast_add, fmod_nat]
    have hx : (b + i) % (cellsG 5 63 ns).length < (cellsG 5 63 ns).length := Nat.mod_lt _ (by omega)
    obtain ⟨c, hc⟩ : ∃ c, (cellsG 5 63 ns)[(b + i) % (cellsG 5 63 ns).length]? = some c := ⟨_, List.getElem?_eq_getElem hx⟩
    have e2 : evIdx (.lst ((cellsG 5 63 ns).map RF.D.int)) (.int (((b + i) % (cellsG 5 63 ns).length : Nat) : Int)) = .ok (.int c) := idx_of_nat (by rw [List.getElem?_map, hc]; rfl)
    have m7 : evBin .mul (.int 7) (.int (i : Int)) = .ok (.int (7 * (i : Int))) := bin_mul (by decide) (Sm.mono (n := 4) (by unfold Sm; omega) (by decide))
    obtain ⟨z, hz⟩ := number_ok (tab := tab) (n + 1) (c := c) (at' := (b : Int) + 7 * (i : Int)) (w := ((cellsG 5 63 ns).length : Int)) (by omega) (by omega) (by unfold Sm; omega)
    obtain ⟨w, w0, w1, ew⟩ : ∃ w : Nat, 0 < w ∧ w ≤ 10 ^ 12 ∧ evIdx (.tup [.int 2, .int 6, .int 30, .int (10 ^ 12)]) (.int ((z + (b : Int)).fmod 4)) = .ok (.int (w : Int)) := by
      obtain ⟨r, r4, er⟩ := natMod (z + (b : Int)) (m := 4) (by decide)
      rw [show ((4 : Nat) : Int) = 4 from rfl] at er
      rw [er]
      match r, r4 with
      | 0, _ => exact ⟨2, by decide, by decide, rfl⟩
      | 1, _ => exact ⟨6, by decide, by decide, rfl⟩
      | 2, _ => exact ⟨30, by decide, by decide, rfl⟩
      | 3, _ => exact ⟨10 ^ 12, by decide, by decide, rfl⟩
    have m4 : evBin .mod (.int (z + (b : Int))) (.int 4) = .ok (.int ((z + (b : Int)).fmod 4)) := bin_mod (by decide)
    have p2 := ev_part z (a := 2) (by decide) (by decide)
    obtain ⟨x, ex, cx⟩ := law_share_q (tab := tab) n (z.fdiv 2) w0 w1
    have L : ps.length < lim := by unfold lim; omega
    refine ⟨[.val (.lst (ns.map .int)), .val (.int b), .val (.int many), .val (.lst ((cellsG 5 63 ns).map .int)), .own (ps.map qD), .val (.int i), .no], rfl, [.val (.lst (ns.map .int)), .val (.int b), .val (.int many), .val (.lst ((cellsG 5 63 ns).map .int)), .own ((ps ++ [x]).map qD), .no, .no], ?_, ps ++ [x], by simp [hp], fun y hy => ?_, rfl⟩
    · rw [List.map_append, List.map_cons, List.map_nil]
      simp_arith [l_law_places_0, e1, e2, m7, hz, p2, p12, m4, ew, ex, L]
    · rcases List.mem_append.mp hy with hy | hy
      · exact hs y hy
      · cases List.mem_singleton.mp hy; exact cx.mono w1) ⟨[], rfl, fun x hx => (nomatch hx), rfl⟩
  obtain ⟨ρ', hr, ps, hp, hs, rfl⟩ := LP
  rw [upFrom_length] at hp
  have ki := it_rng many (by unfold lim; omega)
  have kl : (upFrom 0 1 many).length ≤ lim := by rw [upFrom_length]; unfold lim; omega
  refine ⟨ps, hp, hs, ?_⟩
  simp_arith [b_law_places, ec, ki, kl, hr]

end RF

end S_LW
section S_LF
set_option maxHeartbeats 4000000
namespace RF
open PySem PySem.Spec L2
local macro_rules
  | `(tactic| simp_arith [$ts,*]) => `(tactic| simp only [ee_var, ee_c, ee_glb, ee_neg, ee_nt, ee_bin, ee_cmp, ee_cmp2, ee_and, ee_or, ee_ife, ee_nil, ee_cons, ee_tup, ee_lst, ee_idx, ee_sl, ee_call, ee_callf, ee_rep, kRep_1, ee_lrg, ee_rev, rev_l, ex_sto, kSto, kSto1, kSto2, kSto3, put_lrg, put_rev, ee_bi, ee_isi, ee_comp, ee_fld, ee_mk, ee_isC, ee_meth, kMk_t, kMeth, kMeth1, kMeth2_t, fl_side, fl_pic, mk_side, mk_pic, mt_side, kVar_s, kNeg_i, kNot_b, kBin, kCmp, kCmp2, kCmpB, kCmpC_t, kCmpC_f, kAnd_t, kAnd_f, kOr_t, kOr_f, kIfe_t, kIfe_f, kCons, kPre_t, kTup_1, kTup_2, kTup_3, kTup_4, kTup_5, kTup_6, kLst_0, kLst_1, kLst_2, kLst_3, kLst_4, kLst_5, kLst_6, kIdx, kSl, kSl2, kSl3, kCall_t, kBi_t, kis, kIs_q, kComp, kComp2_ok, kList, turn_nil, turn_cmp, turn_and, turn_or, turn_nt, turn_isi, turn_call, turn_cmp2, turn_bi, kEl, kElc, kSome, kCd_t, kCd_f, ex_nil, ex_set, ex_own, ex_unp, ex_par, ex_par3, ex_ex, ex_ret, ex_reto, ex_retf, kReto, kRetf_l, kRetf2_cf, kRetf2_co, kRetf2_ls, kRetf2_sl, kRetf2_li, kRetf2_ad, put_cf, put_rep, ex_rai, ex_ite, ex_for, ex_whl, ex_app, ex_ext, ex_pas, ex_brk, ex_wip, kSet, kOwn, kPut, kUnp, kGo, kPar, kPar2, kPar3, kPar4, kTr, kTr2, kTr3, kTr4, kTr5, kTr6, kEx, kRet, kIte_t, kIte_f, kNx_n, kNx_b, kNx_r, kLoop_n, kLoop_r, kFor, kFor2_ok, kApp, kApp2_ok, kExt, kExt2_l, kExt3_ok, R.bind_ok, R.bind_exc, slot_0, slot_s, sd_v, sd_o, List.set_cons_zero, List.set_cons_succ, frz_def, frz_v, frz_n, frz_0, frz_o, hold_rng, hold_seq, hold_enum, hold_zip, it_zip, hold_v, hold_n, hold_0, hold_o, put_f, put_lst, put_sl, put_li, put_co, put_add, ev_lt, ev_le, ev_gt, ev_ge, ev_eq, ev_ne, ev_isN, ev_notN, eqD_int, eqD_pair, eqD_q, rb_len_t2, rb_len_t3, rb_len_t4, rb_len_l, len_q, rb_abs, rb_min, rb_list_l, rb_list_t, rb_tuple_l, rb_tuple_t, rb_all, rb_any, rb_sum, idx_t0, idx_t1, idx_t2, idx_t3, idx_q0, idx_q1, bin_add, bin_sub, out_rt, out_rl, outF_rl, out_nx, Bool.not_true, Bool.not_false, if_true, if_false, reduceIte, decide_true, decide_false, eq_self, Nat.reduceAdd, withO_s, Int.reduceLT, Int.reduceLE, Int.reduceEq, Int.reduceNeg, Int.reduceAdd, own_0, own_s, CE.men, Nat.reduceBEq, Bool.false_and, Bool.true_and, Bool.and_true, Bool.and_false, Bool.or_false, Bool.false_or, Bool.or_true, Bool.true_or, kqs, part_nil, part_c, part_v, part_neg, part_bin, part_bi, part_idx, sl_t41, sl_t43, it_l, it_t, it_enum, wipeS, bindT, bindL, Bool.false_eq_true, asL_l, Int.natCast_one, Int.natCast_zero, D.occ, D.occs, occ_q, List.length_map, $ts,*])
variable {tab : List Fn} [Ext tab]
/-! running, wherever the numbers stay small enough -/
def B1.ix (a inp : Nat) : B1 → Prop
  | .is _ => True
  | .inp k => k < inp
  | .sum i j => i < a ∧ j < a
  | .by _ i => i < a
  | .least i j => i < a ∧ j < a
  | .most i j => i < a ∧ j < a
  | .iff i j k => i < a ∧ j < a ∧ k < a
def B1.cz : B1 → Prop
  | .is x => Sz 3000 x
  | .by x _ => Sz 3000 x
  | _ => True
theorem B1.ok_ix {s : B1} {a inp : Nat} (h : s.ok a inp) : s.ix a inp ∧ s.cz := by
  cases s <;> simp only [B1.ok] at h <;> simp only [B1.ix, B1.cz] <;> first | exact ⟨trivial, h.mono (by decide)⟩ | exact ⟨h, trivial⟩ | exact ⟨h.2, h.1.mono (by decide)⟩
def AllZ (l : List Rat) : Prop := ∀ x ∈ l, Sz 3000 x
theorem sz_0 : Sz 3000 (0 : Rat) := ⟨Nat.two_pow_pos _, by unfold Sm; exact Nat.one_lt_two_pow (by decide)⟩
theorem AllZ.at {l : List Rat} (h : AllZ l) (i : Nat) : Sz 3000 (at0 l i) := by
  unfold at0
  rw [List.getD_eq_getElem?_getD]
  cases e : l[i]? with
  | none => exact sz_0
  | some x => exact h x (List.mem_of_getElem? e)
def FitB (ps : List Rat) (l : List B1) : Prop := ∀ (i : Nat) s, l[i]? = some s → s.cz ∧ s.ix i ps.length ∧ AllZ (runB ps (l.take i))
structure FitT (b : List B1) (m : Nat) (w : Rat) : Prop where
  pos : 0 < b.length
  len : b.length ≤ 1000
  many : m ≤ 1000
  fit : ∀ j < m, FitB [turnsQ b j w] b
def FitX (ps f : List Rat) (i : Nat) : Stp → Prop
  | .b s => s.cz ∧ s.ix i ps.length
  | .turns m k b => k < i ∧ FitT b m (at0 f k)
def FitS (ps : List Rat) (l : List Stp) : Prop := ∀ (i : Nat) s, l[i]? = some s → AllZ (wS ps (l.take i)) ∧ FitX ps (wS ps (l.take i)) i s
theorem worth_of_bF (n : Nat) {s : B1} {ps f : List Rat} (hok : s.ix f.length ps.length) (hc : s.cz) (h2 : AllZ f) : CF tab (n + 4) f_worth_of [s.D, qsD f, qsD ps] = .ok (qD (evB ps f s)) := by
  rw [go_worth_of]
  have S : ∀ i, Sz 3000 (at0 f i) := fun i => h2.at i
  cases s with
  | is x => simp_arith [b_worth_of, B1.D, evB]
  | inp k => simp_arith [b_worth_of, B1.D, evB, idx_qs (l := ps) (i := k) hok]
  | sum i j => simp_arith [b_worth_of, B1.D, evB, idx_qs hok.1, idx_qs hok.2, add_q _ (S i) (S j)]
  | «by» x i => simp_arith [b_worth_of, B1.D, evB, idx_qs (l := f) (i := i) hok, grow_q _ hc (S i)]
  | least i j =>
    by_cases c : at0 f i ≤ at0 f j
    · simp_arith [b_worth_of, B1.D, evB, idx_qs hok.1, idx_qs hok.2, lies_q _ (S i) (S j), osgn_le, c, eqD_bl, beq_self_eq_true]
    · simp_arith [b_worth_of, B1.D, evB, idx_qs hok.1, idx_qs hok.2, lies_q _ (S i) (S j), osgn_le, c, eqD_bl, show (false == true) = false from rfl]
  | most i j =>
    by_cases c : at0 f i ≤ at0 f j
    · simp_arith [b_worth_of, B1.D, evB, idx_qs hok.1, idx_qs hok.2, lies_q _ (S i) (S j), osgn_le, c, eqD_bl, show (true == false) = false from rfl]
    · simp_arith [b_worth_of, B1.D, evB, idx_qs hok.1, idx_qs hok.2, lies_q _ (S i) (S j), osgn_le, c, eqD_bl, beq_self_eq_true]
  | iff i j k =>
    by_cases c : at0 f i ≤ 0
    · simp_arith [b_worth_of, B1.D, evB, idx_qs hok.1, idx_qs hok.2.1, idx_qs hok.2.2, num_le0, c]
    · simp_arith [b_worth_of, B1.D, evB, idx_qs hok.1, idx_qs hok.2.1, idx_qs hok.2.2, num_le0, c]
theorem worths_of_bF (n : Nat) {l : List B1} {ps : List Rat} (hl : l.length ≤ 1000) (h0 : FitB ps l) : CF tab (n + 5) f_worths_of [.lst (l.map B1.D), qsD ps] = .ok (qsD (runB ps l)) := by
  rw [go_worths_of]
  have h := loop_map (F := B1.D) (g := .nm 3) (f := exec (TB tab (n + 4)) FU l_worths_of_0) (l := l) (fun i => [.val (.lst (l.map B1.D)), .val (qsD ps), .own ((runB ps (l.take i)).map qD), .no]) fun i s hs => by
    refine ⟨_, rfl, ?_⟩
    have hi := (List.getElem?_eq_some_iff.mp hs).1
    have L : (runB ps (l.take i)).length < lim := by rw [runB_len, List.length_take]; unfold lim; omega
    have len : (runB ps (l.take i)).length = i := by rw [runB_len, List.length_take]; omega
    obtain ⟨f1, f2, f3⟩ := h0 i s hs
    have e := worth_of_bF (tab := tab) n (s := s) (ps := ps) (f := runB ps (l.take i)) (by rw [len]; exact f2) f1 f3
    rw [runB_take hs, List.map_append]
    simp_arith [l_worths_of_0, e, L, List.map_cons, List.map_nil]
  have ll : l.length ≤ lim := by unfold lim; omega
  rw [List.take_length, List.take_zero] at h
  simp only [runB, List.foldl_nil, List.map_nil] at h
  simp_arith [b_worths_of, ll, h, runB]
theorem worth_of_sF (n : Nat) {s : Stp} {ps f : List Rat} (hz : AllZ f) (h0 : FitX ps f f.length s) : CF tab (n + 6) f_worth_of [s.D, qsD f, qsD ps] = .ok (qD (evS ps f s)) := by
  cases s with
  | b s => exact worth_of_bF (n + 2) h0.2 h0.1 hz
  | turns k i l =>
    obtain ⟨hi0, hT⟩ := h0
    rw [go_worth_of]
    have hi := idx_qs (l := f) (i := i) hi0
    have h := loop_rng (g := .nm 5) (f := exec (TB tab (n + 5)) FU l_worth_of_0) (k := k) (fun j => [.val (Stp.D (.turns k i l)), .val (qsD f), .val (qsD ps), .val (.str "turns"), .val (qD (turnsQ l j (at0 f i))), .no, .no, .no, .no]) fun j hj => by
      refine ⟨_, rfl, ?_⟩
      have e := worths_of_bF (tab := tab) n (l := l) (ps := [turnsQ l j (at0 f i)]) hT.len (hT.fit j hj)
      have e2 := idx_m1 (l := runB [turnsQ l j (at0 f i)] l) (by rw [runB_len]; exact hT.pos)
      simp only [qsD, List.map_cons, List.map_nil] at e
      simp_arith [l_worth_of_0, Stp.D, e, e2, turnsQ, bodyQ]
    have ki := it_rng k (by have := hT.many; unfold lim; omega)
    have kl : (upFrom 0 1 k).length ≤ lim := by rw [upFrom_length]; have := hT.many; unfold lim; omega
    simp only [Stp.D, turnsQ] at h
    simp_arith [b_worth_of, Stp.D, hi, ki, kl, h, evS]
theorem worths_of_sF (n : Nat) {l : List Stp} {ps : List Rat} (hl : l.length ≤ 1000) (h0 : FitS ps l) : CF tab (n + 7) f_worths_of [.lst (l.map Stp.D), qsD ps] = .ok (qsD (wS ps l)) := by
  rw [go_worths_of]
  have h := loop_map (F := Stp.D) (g := .nm 3) (f := exec (TB tab (n + 6)) FU l_worths_of_0) (l := l) (fun i => [.val (.lst (l.map Stp.D)), .val (qsD ps), .own ((wS ps (l.take i)).map qD), .no]) fun i s hs => by
    refine ⟨_, rfl, ?_⟩
    have hi := (List.getElem?_eq_some_iff.mp hs).1
    have L : (wS ps (l.take i)).length < lim := by rw [wS_len, List.length_take]; unfold lim; omega
    have len : (wS ps (l.take i)).length = i := by rw [wS_len, List.length_take]; omega
    obtain ⟨f1, f2⟩ := h0 i s hs
    have e := worth_of_sF (tab := tab) n (s := s) (ps := ps) (f := wS ps (l.take i)) f1 (by rw [len]; exact f2)
    rw [wS_take hs, List.map_append]
    simp_arith [l_worths_of_0, e, L, List.map_cons, List.map_nil]
  have ll : l.length ≤ lim := by unfold lim; omega
  rw [List.take_length, List.take_zero] at h
  simp only [wS, List.foldl_nil, List.map_nil] at h
  simp_arith [b_worths_of, ll, h, wS]
theorem worths_okF (n : Nat) {inp : Nat} {l : List Stp} {ps : List Rat} (ok : okP inp l) (hp : ps.length = inp) (hz : AllZ ps) (h0 : FitS ps l) : CF tab (n + 10) f_worths [prD inp l, qsD ps] = .ok (qsD (wS ps l)) := by
  rw [go_worths]
  have e1 := asked_program_ok (tab := tab) n ok
  have e2 := asked_places_ok (tab := tab) (n + 6) (l := l) hp ok.i3 fun x hx => (hz x hx).mono (by decide)
  have e3 := worths_of_sF (tab := tab) (n + 2) (by have := ok.st.2.1; omega) h0
  simp_arith [b_worths, prD, e1, e2, e3]
theorem worth_okF (n : Nat) {inp : Nat} {l : List Stp} {ps : List Rat} (ok : okP inp l) (hp : ps.length = inp) (hz : AllZ ps) (h0 : FitS ps l) : CF tab (n + 10) f_worth [prD inp l, qsD ps] = .ok (qD (lastQ (wS ps l))) := by
  rw [go_worth]
  have e1 := asked_program_ok (tab := tab) n ok
  have e2 := asked_places_ok (tab := tab) (n + 6) (l := l) hp ok.i3 fun x hx => (hz x hx).mono (by decide)
  have e3 := worths_of_sF (tab := tab) (n + 2) (by have := ok.st.2.1; omega) h0
  have e4 := idx_m1 (l := wS ps l) (by rw [wS_len]; exact ok.st.1)
  simp_arith [b_worth, prD, e1, e2, e3, e4]
/-! the law's own running -/
theorem law_run_round_bF (n : Nat) {s : B1} {ps f : List Rat} {S : RF.D} (hok : s.ix f.length ps.length) (hc : s.cz) (h2 : AllZ f) (hL : f.length < 1000) :
    exec (TB tab (n + 2)) FU l_law_run_1 [.val S, .val (qsD ps), .own (f.map qD), .val s.D, .no, .no, .no, .no, .no] = .ok (.nx [.val S, .val (qsD ps), .own ((f ++ [evB ps f s]).map qD), .no, .no, .no, .no, .no, .no]) := by
  have Z : ∀ i, Sz 3000 (at0 f i) := fun i => h2.at i
  have L : f.length < lim := by unfold lim; omega
  rw [List.map_append, List.map_cons, List.map_nil]
  cases s with
  | is x => simp_arith [l_law_run_1, B1.D, evB, L]
  | inp k => simp_arith [l_law_run_1, B1.D, evB, idx_qs (l := ps) (i := k) hok, L]
  | sum i j => simp_arith [l_law_run_1, B1.D, evB, idx_qs hok.1, idx_qs hok.2, law_add_q _ (Z i) (Z j), L]
  | «by» x i => simp_arith [l_law_run_1, B1.D, evB, idx_qs (l := f) (i := i) hok, law_by_q _ hc (Z i), L]
  | least i j =>
    simp only [evB]
    rw [← if_lt_ge]
    by_cases c : at0 f i < at0 f j
    · simp_arith [l_law_run_1, B1.D, idx_qs hok.1, idx_qs hok.2, law_before_q _ (Z i) (Z j), c, eqD_bl, beq_self_eq_true, L]
    · simp_arith [l_law_run_1, B1.D, idx_qs hok.1, idx_qs hok.2, law_before_q _ (Z i) (Z j), c, eqD_bl, show (false == true) = false from rfl, L]
  | most i j =>
    simp only [evB]
    rw [← if_lt_ge2]
    by_cases c : at0 f i < at0 f j
    · simp_arith [l_law_run_1, B1.D, idx_qs hok.1, idx_qs hok.2, law_before_q _ (Z i) (Z j), c, eqD_bl, show (true == false) = false from rfl, L]
    · simp_arith [l_law_run_1, B1.D, idx_qs hok.1, idx_qs hok.2, law_before_q _ (Z i) (Z j), c, eqD_bl, beq_self_eq_true, L]
  | iff i j k =>
    by_cases c : at0 f i ≤ 0
    · simp_arith [l_law_run_1, B1.D, evB, idx_qs hok.1, idx_qs hok.2.1, idx_qs hok.2.2, num_le0, c, L]
    · simp_arith [l_law_run_1, B1.D, evB, idx_qs hok.1, idx_qs hok.2.1, idx_qs hok.2.2, num_le0, c, L]
theorem law_run_bF (n : Nat) {l : List B1} {ps : List Rat} (hl : l.length ≤ 1000) (h0 : FitB ps l) : CF tab (n + 3) f_law_run [.lst (l.map B1.D), qsD ps] = .ok (qsD (runB ps l)) := by
  rw [go_law_run]
  have h := loop_map (F := B1.D) (g := .nm 3) (f := exec (TB tab (n + 2)) FU l_law_run_1) (l := l) (fun i => [.val (.lst (l.map B1.D)), .val (qsD ps), .own ((runB ps (l.take i)).map qD), .no, .no, .no, .no, .no, .no]) fun i s hs => by
    refine ⟨_, rfl, ?_⟩
    have hi := (List.getElem?_eq_some_iff.mp hs).1
    have len : (runB ps (l.take i)).length = i := by rw [runB_len, List.length_take]; omega
    obtain ⟨f1, f2, f3⟩ := h0 i s hs
    have e := law_run_round_bF (tab := tab) n (s := s) (ps := ps) (f := runB ps (l.take i)) (S := .lst (l.map B1.D)) (by rw [len]; exact f2) f1 f3 (by omega)
    rw [runB_take hs]
    exact e
  have ll : l.length ≤ lim := by unfold lim; omega
  rw [List.take_length, List.take_zero] at h
  simp only [runB, List.foldl_nil, List.map_nil] at h
  simp_arith [b_law_run, ll, h, runB]
theorem law_run_round_sF (n : Nat) {s : Stp} {ps f : List Rat} {S : RF.D} (hz : AllZ f) (h0 : FitX ps f f.length s) (hL : f.length < 1000) :
    exec (TB tab (n + 3)) FU l_law_run_1 [.val S, .val (qsD ps), .own (f.map qD), .val s.D, .no, .no, .no, .no, .no] = .ok (.nx [.val S, .val (qsD ps), .own ((f ++ [evS ps f s]).map qD), .no, .no, .no, .no, .no, .no]) := by
  cases s with
  | b s => exact law_run_round_bF (n + 1) h0.2 h0.1 hz hL
  | turns k i l =>
    obtain ⟨hi0, hT⟩ := h0
    have L : f.length < lim := by unfold lim; omega
    have hi := idx_qs (l := f) (i := i) hi0
    have h := loop_rng (g := .nm 6) (f := exec (TB tab (n + 3)) FU l_law_run_0) (k := k) (fun j => [.val S, .val (qsD ps), .own (f.map qD), .val (Stp.D (.turns k i l)), .val (.str "turns"), .val (qD (turnsQ l j (at0 f i))), .no, .no, .no]) fun j hj => by
      refine ⟨_, rfl, ?_⟩
      have e := law_run_bF (tab := tab) n (l := l) (ps := [turnsQ l j (at0 f i)]) hT.len (hT.fit j hj)
      have e2 := idx_m1 (l := runB [turnsQ l j (at0 f i)] l) (by rw [runB_len]; exact hT.pos)
      simp only [qsD, List.map_cons, List.map_nil] at e
      simp_arith [l_law_run_0, Stp.D, e, e2, turnsQ, bodyQ]
    have ki := it_rng k (by have := hT.many; unfold lim; omega)
    have kl : (upFrom 0 1 k).length ≤ lim := by rw [upFrom_length]; have := hT.many; unfold lim; omega
    simp only [Stp.D, turnsQ] at h
    rw [List.map_append, List.map_cons, List.map_nil]
    simp_arith [l_law_run_1, Stp.D, hi, ki, kl, h, evS, L]
theorem law_run_sF (n : Nat) {l : List Stp} {ps : List Rat} (hl : l.length ≤ 1000) (h0 : FitS ps l) : CF tab (n + 4) f_law_run [.lst (l.map Stp.D), qsD ps] = .ok (qsD (wS ps l)) := by
  rw [go_law_run]
  have h := loop_map (F := Stp.D) (g := .nm 3) (f := exec (TB tab (n + 3)) FU l_law_run_1) (l := l) (fun i => [.val (.lst (l.map Stp.D)), .val (qsD ps), .own ((wS ps (l.take i)).map qD), .no, .no, .no, .no, .no, .no]) fun i s hs => by
    refine ⟨_, rfl, ?_⟩
    have hi := (List.getElem?_eq_some_iff.mp hs).1
    have len : (wS ps (l.take i)).length = i := by rw [wS_len, List.length_take]; omega
    obtain ⟨f1, f2⟩ := h0 i s hs
    have e := law_run_round_sF (tab := tab) n (s := s) (ps := ps) (f := wS ps (l.take i)) (S := .lst (l.map Stp.D)) f1 (by rw [len]; exact f2) (by omega)
    rw [wS_take hs]
    exact e
  have ll : l.length ≤ lim := by unfold lim; omega
  rw [List.take_length, List.take_zero] at h
  simp only [wS, List.foldl_nil, List.map_nil] at h
  simp_arith [b_law_run, ll, h, wS]
/-! by bounds that grow -/
section
variable {q Q V N : Nat}
theorem fitB_of {l : List B1} {ps : List Rat} {m : Nat} (B : Big q Q V N) (hok : okB ps.length l) (hc : cqB q l) (h1 : BdL q Q V m ps) (hm : m + l.length ≤ N) : FitB ps l := fun i s hs => by
  have hi := (List.getElem?_eq_some_iff.mp hs).1
  have o := B1.ok_ix (hok.2.2 i s hs)
  exact ⟨o.2, o.1, fun x hx => B.of (runB_bd B.toPar hc h1 i (by omega) x hx) (by omega)⟩
theorem fitT_of {b : List B1} {w : Rat} {m k : Nat} (B : Big q Q V N) (hok : okB 1 b) (hc : cqB q b) (hk : k ≤ 6) (h1 : Bd q Q V m w) (hm : m + k * b.length ≤ N) : FitT b k w := by
  refine ⟨hok.1, by have := hok.2.1; omega, by omega, fun j hj => ?_⟩
  have hb := turnsQ_bd B.toPar hc h1 j
  have jl : j * b.length + b.length ≤ k * b.length := by rw [← Nat.succ_mul]; exact Nat.mul_le_mul_right _ hj
  exact fitB_of B hok hc (fun x hx => by cases List.mem_singleton.mp hx; exact hb) (by omega)
theorem runS_le {l : List Stp} {i : Nat} {s : Stp} (hs : l[i]? = some s) : runS (l.take i) + s.run ≤ runS l := by
  have r1 : runS (l.take (i + 1)) = runS (l.take i) + s.run := by unfold runS; rw [sum_take Stp.run hs]
  have := runS_app (l.take (i + 1)) (l.drop (i + 1))
  rw [List.take_append_drop] at this
  omega
theorem fitX_of {s : Stp} {ps f : List Rat} {m i : Nat} (B : Big q Q V N) (hok : s.ok i ps.length) (hc : s.cq q) (h2 : BdL q Q V m f) (hm : m + s.run ≤ N) : FitX ps f i s := by
  cases s with
  | b s => have o := B1.ok_ix hok; exact ⟨o.2, o.1⟩
  | turns k j b => simp only [Stp.run] at hm; exact ⟨hok.2.1, fitT_of B hok.2.2 hc hok.1 (h2.at B.toPar j) (by omega)⟩
theorem fitS_of {l : List Stp} {ps : List Rat} {m : Nat} (B : Big q Q V N) (hok : okS ps.length l) (hc : cqS q l) (h1 : BdL q Q V m ps) (hm : m + runS l ≤ N) : FitS ps l := fun i s hs => by
  have hi := (List.getElem?_eq_some_iff.mp hs).1
  have r := runS_le hs
  have bd := wS_bd B.toPar hc h1 i (by omega)
  exact ⟨fun x hx => B.of (bd x hx) (by omega), fitX_of B (hok.2.2 i s hs) (hc s (List.mem_of_getElem? hs)) bd (by omega)⟩
end
/-! one step more -/
theorem FitS.push {ps : List Rat} {l : List Stp} {s : Stp} (h : FitS ps l) (hz : AllZ (wS ps l)) (hx : FitX ps (wS ps l) l.length s) : FitS ps (l ++ [s]) := fun i t ht => by
  by_cases hi : i < l.length
  · rw [List.getElem?_append_left hi] at ht
    rw [List.take_append_of_le_length (by omega)]
    exact h i t ht
  · rw [List.getElem?_append_right (by omega)] at ht
    have : i = l.length := by
      cases e : i - l.length with
      | zero => omega
      | succ j => rw [e] at ht; cases ht
    subst this
    rw [Nat.sub_self] at ht
    cases ht
    rw [List.take_left' rfl]
    exact ⟨hz, hx⟩
theorem AllZ.push {l : List Rat} {x : Rat} (h : AllZ l) (hx : Sz 3000 x) : AllZ (l ++ [x]) := fun y hy => by
  rcases List.mem_append.mp hy with hy | hy
  · exact h y hy
  · cases List.mem_singleton.mp hy; exact hx
def mvQ (ps ws : List Rat) (t : Rat) : List Rat := (ps.zip ws).map fun p => p.1 + t * p.2

end RF

end S_LF
section S_LJ0
set_option maxHeartbeats 4000000
namespace RF
open PySem PySem.Spec L2
local macro_rules
  | `(tactic| simp_arith [$ts,*]) => `(tactic| simp only [ee_var, ee_c, ee_glb, ee_neg, ee_nt, ee_bin, ee_cmp, ee_cmp2, ee_and, ee_or, ee_ife, ee_nil, ee_cons, ee_tup, ee_lst, ee_idx, ee_sl, ee_call, ee_callf, ee_rep, kRep_1, ee_lrg, ee_rev, rev_l, ex_sto, kSto, kSto1, kSto2, kSto3, put_lrg, put_rev, ee_bi, ee_isi, ee_comp, ee_fld, ee_mk, ee_isC, ee_meth, kMk_t, kMeth, kMeth1, kMeth2_t, fl_side, fl_pic, mk_side, mk_pic, mt_side, kVar_s, kNeg_i, kNot_b, kBin, kCmp, kCmp2, kCmpB, kCmpC_t, kCmpC_f, kAnd_t, kAnd_f, kOr_t, kOr_f, kIfe_t, kIfe_f, kCons, kPre_t, kTup_1, kTup_2, kTup_3, kTup_4, kTup_5, kTup_6, kLst_0, kLst_1, kLst_2, kLst_3, kLst_4, kLst_5, kLst_6, kIdx, kSl, kSl2, kSl3, kCall_t, kBi_t, kis, kIs_q, kComp, kComp2_ok, kList, turn_nil, turn_cmp, turn_and, turn_or, turn_nt, turn_isi, turn_call, turn_cmp2, turn_bi, kEl, kElc, kSome, kCd_t, kCd_f, ex_nil, ex_set, ex_own, ex_unp, ex_par, ex_par3, ex_ex, ex_ret, ex_reto, ex_retf, kReto, kRetf_l, kRetf2_cf, kRetf2_co, kRetf2_ls, kRetf2_sl, kRetf2_li, kRetf2_ad, put_cf, put_rep, ex_rai, ex_ite, ex_for, ex_whl, ex_app, ex_ext, ex_pas, ex_brk, ex_wip, kSet, kOwn, kPut, kUnp, kGo, kPar, kPar2, kPar3, kPar4, kTr, kTr2, kTr3, kTr4, kTr5, kTr6, kEx, kRet, kIte_t, kIte_f, kNx_n, kNx_b, kNx_r, kLoop_n, kLoop_r, kFor, kFor2_ok, kApp, kApp2_ok, kExt, kExt2_l, kExt3_ok, R.bind_ok, R.bind_exc, slot_0, slot_s, sd_v, sd_o, List.set_cons_zero, List.set_cons_succ, frz_def, frz_v, frz_n, frz_0, frz_o, hold_rng, hold_seq, hold_enum, hold_zip, it_zip, hold_v, hold_n, hold_0, hold_o, put_f, put_lst, put_sl, put_li, put_co, put_add, ev_lt, ev_le, ev_gt, ev_ge, ev_eq, ev_ne, ev_isN, ev_notN, eqD_int, eqD_pair, eqD_q, rb_len_t2, rb_len_t3, rb_len_t4, rb_len_l, len_q, rb_abs, rb_min, rb_list_l, rb_list_t, rb_tuple_l, rb_tuple_t, rb_all, rb_any, rb_sum, idx_t0, idx_t1, idx_t2, idx_t3, idx_q0, idx_q1, bin_add, bin_sub, out_rt, out_rl, outF_rl, out_nx, Bool.not_true, Bool.not_false, if_true, if_false, reduceIte, decide_true, decide_false, eq_self, Nat.reduceAdd, withO_s, Int.reduceLT, Int.reduceLE, Int.reduceEq, Int.reduceNeg, Int.reduceAdd, own_0, own_s, CE.men, Nat.reduceBEq, Bool.false_and, Bool.true_and, Bool.and_true, Bool.and_false, Bool.or_false, Bool.false_or, Bool.or_true, Bool.true_or, kqs, part_nil, part_c, part_v, part_neg, part_bin, part_bi, part_idx, sl_t41, sl_t43, it_l, it_t, it_enum, wipeS, bindT, bindL, Bool.false_eq_true, asL_l, Int.natCast_one, Int.natCast_zero, D.occ, D.occs, occ_q, List.length_map, $ts,*])
variable {tab : List Fn} [Ext tab]
theorem qcn {x : Rat} {a b : Int} (h : x.num = a) (h2 : (x.den : Int) = b) : qD x = .tup [.int a, .int b] := by rw [qD, h, h2]
theorem divInt_pos {a b : Int} (ha : 0 < a) (hb : 0 < b) : 0 < Rat.divInt a b := by
  have h1 : (0 : Rat) < (a : Rat) := by
    have := Rat.intCast_lt_intCast.mpr ha
    simpa using this
  have h2 : (0 : Rat) < (b : Rat) := by
    have := Rat.intCast_lt_intCast.mpr hb
    simpa using this
  rw [Rat.divInt_eq_div, Rat.lt_div_iff h2, Rat.zero_mul]
  exact h1
theorem non_eq : eqD .non .non = .ok true := eqD_self rfl
/-! ### a side's own word -/
theorem osgn_ge (x y : Rat) : (0 ≤ osgn x y) = (y ≤ x) := by
  have h := osgn_le y x
  have e : osgn x y = -osgn y x := by
    unfold osgn
    by_cases a : y < x <;> by_cases b : x < y <;> simp [a, b]
    exact absurd a (by grind)
  rw [e, ← h]
  apply propext
  omega
theorem shows_some (n : Nat) {v : RF.D} {b s r t : Rat} (hb : Sz 3000 b) (hs : Sz 3000 s) (hr : Sz 3000 r) (ht : Sz 3000 t) (hst : Sz 3000 (s * t)) : CF tab (n + 4) f_Side_shows [sideD v (qD b) (qD s) (qD r), qD t] = .ok (if r ≤ t then .non else qD (b + s * t)) := by
  rw [go_Side_shows]
  have e1 := lies_q (tab := tab) (n + 2) ht hr
  have e2 := grow_q (tab := tab) n hs ht
  have e3 := add_q (tab := tab) n hb hst
  have e0 : (qD r).isNon = false := rfl
  by_cases h : r ≤ t
  · rw [if_pos h]
    have h' : decide (0 ≤ osgn t r) = true := decide_eq_true (by rw [osgn_ge]; exact h)
    simp_arith [b_Side_shows, e1, e2, e3, e0, h']
  · rw [if_neg h]
    have h' : decide (0 ≤ osgn t r) = false := decide_eq_false (by rw [osgn_ge]; exact h)
    simp_arith [b_Side_shows, e1, e2, e3, e0, h']
theorem shows_none (n : Nat) {v : RF.D} {b s t : Rat} (hb : Sz 3000 b) (hs : Sz 3000 s) (ht : Sz 3000 t) (hst : Sz 3000 (s * t)) : CF tab (n + 4) f_Side_shows [sideD v (qD b) (qD s) .non, qD t] = .ok (qD (b + s * t)) := by
  rw [go_Side_shows]
  have e2 := grow_q (tab := tab) n hs ht
  have e3 := add_q (tab := tab) n hb hst
  have e0 : D.isNon .non = true := rfl
  simp_arith [b_Side_shows, e2, e3, e0]

end RF

end S_LJ0
section S_LJ1
set_option maxHeartbeats 4000000
namespace RF
open PySem PySem.Spec L2
local macro_rules
  | `(tactic| simp_arith [$ts,*]) => `(tactic| simp only [ee_var, ee_c, ee_glb, ee_neg, ee_nt, ee_bin, ee_cmp, ee_cmp2, ee_and, ee_or, ee_ife, ee_nil, ee_cons, ee_tup, ee_lst, ee_idx, ee_sl, ee_call, ee_callf, ee_rep, kRep_1, ee_lrg, ee_rev, rev_l, ex_sto, kSto, kSto1, kSto2, kSto3, put_lrg, put_rev, ee_bi, ee_isi, ee_comp, ee_fld, ee_mk, ee_isC, ee_meth, kMk_t, kMeth, kMeth1, kMeth2_t, fl_side, fl_pic, mk_side, mk_pic, mt_side, kVar_s, kNeg_i, kNot_b, kBin, kCmp, kCmp2, kCmpB, kCmpC_t, kCmpC_f, kAnd_t, kAnd_f, kOr_t, kOr_f, kIfe_t, kIfe_f, kCons, kPre_t, kTup_1, kTup_2, kTup_3, kTup_4, kTup_5, kTup_6, kLst_0, kLst_1, kLst_2, kLst_3, kLst_4, kLst_5, kLst_6, kIdx, kSl, kSl2, kSl3, kCall_t, kBi_t, kis, kIs_q, kComp, kComp2_ok, kList, turn_nil, turn_cmp, turn_and, turn_or, turn_nt, turn_isi, turn_call, turn_cmp2, turn_bi, kEl, kElc, kSome, kCd_t, kCd_f, ex_nil, ex_set, ex_own, ex_unp, ex_par, ex_par3, ex_ex, ex_ret, ex_reto, ex_retf, kReto, kRetf_l, kRetf2_cf, kRetf2_co, kRetf2_ls, kRetf2_sl, kRetf2_li, kRetf2_ad, put_cf, put_rep, ex_rai, ex_ite, ex_for, ex_whl, ex_app, ex_ext, ex_pas, ex_brk, ex_wip, kSet, kOwn, kPut, kUnp, kGo, kPar, kPar2, kPar3, kPar4, kTr, kTr2, kTr3, kTr4, kTr5, kTr6, kEx, kRet, kIte_t, kIte_f, kNx_n, kNx_b, kNx_r, kLoop_n, kLoop_r, kFor, kFor2_ok, kApp, kApp2_ok, kExt, kExt2_l, kExt3_ok, R.bind_ok, R.bind_exc, slot_0, slot_s, sd_v, sd_o, List.set_cons_zero, List.set_cons_succ, frz_def, frz_v, frz_n, frz_0, frz_o, hold_rng, hold_seq, hold_enum, hold_zip, it_zip, hold_v, hold_n, hold_0, hold_o, put_f, put_lst, put_sl, put_li, put_co, put_add, ev_lt, ev_le, ev_gt, ev_ge, ev_eq, ev_ne, ev_isN, ev_notN, eqD_int, eqD_pair, eqD_q, rb_len_t2, rb_len_t3, rb_len_t4, rb_len_l, len_q, rb_abs, rb_min, rb_list_l, rb_list_t, rb_tuple_l, rb_tuple_t, rb_all, rb_any, rb_sum, idx_t0, idx_t1, idx_t2, idx_t3, idx_q0, idx_q1, bin_add, bin_sub, out_rt, out_rl, outF_rl, out_nx, Bool.not_true, Bool.not_false, if_true, if_false, reduceIte, decide_true, decide_false, eq_self, Nat.reduceAdd, withO_s, Int.reduceLT, Int.reduceLE, Int.reduceEq, Int.reduceNeg, Int.reduceAdd, own_0, own_s, CE.men, Nat.reduceBEq, Bool.false_and, Bool.true_and, Bool.and_true, Bool.and_false, Bool.or_false, Bool.false_or, Bool.or_true, Bool.true_or, kqs, part_nil, part_c, part_v, part_neg, part_bin, part_bi, part_idx, sl_t41, sl_t43, it_l, it_t, it_enum, wipeS, bindT, bindL, Bool.false_eq_true, asL_l, Int.natCast_one, Int.natCast_zero, D.occ, D.occs, occ_q, List.length_map, $ts,*])
/-! lines just beyond, and what they mean -/
abbrev Ln := Rat × Rat
def at2 (f : List Ln) (i : Nat) : Ln := f.getD i (0, 0)
def lastL (f : List Ln) : Ln := at2 f (f.length - 1)
def valL (t : Rat) (l : Ln) : Rat := l.1 + t * l.2
def subL (a b : Ln) : Ln := (a.1 - b.1, a.2 - b.2)
def signL (l : Ln) : Int × Option Rat :=
  if l.1 = 0 then (osgn l.2 0, none) else if l.2 = 0 ∨ osgn l.2 0 = osgn l.1 0 then (osgn l.1 0, none) else (osgn l.1 0, some ((0 - l.1) / l.2))
def soon : Option Rat → Option Rat → Option Rat
  | none, b => b
  | some a, none => some a
  | some a, some b => if a ≤ b then some a else some b
def lnB (bg f : List Ln) : B1 → Ln × Option Rat
  | .is x => ((x, 0), none)
  | .inp k => (at2 bg k, none)
  | .sum i j => (((at2 f i).1 + (at2 f j).1, (at2 f i).2 + (at2 f j).2), none)
  | .by x i => ((x * (at2 f i).1, x * (at2 f i).2), none)
  | .least i j => (if (signL (subL (at2 f i) (at2 f j))).1 ≤ 0 then at2 f i else at2 f j, (signL (subL (at2 f i) (at2 f j))).2)
  | .most i j => (if (signL (subL (at2 f i) (at2 f j))).1 ≤ 0 then at2 f j else at2 f i, (signL (subL (at2 f i) (at2 f j))).2)
  | .iff i j k => (if (signL (at2 f i)).1 ≤ 0 then at2 f j else at2 f k, (signL (at2 f i)).2)
def foldL {α : Type} (ln : List Ln → α → Ln × Option Rat) (l : List α) : List Ln × Option Rat := l.foldl (fun z s => (z.1 ++ [(ln z.1 s).1], soon z.2 (ln z.1 s).2)) ([], none)
def foldV {α : Type} (ev : List Rat → α → Rat) (l : List α) : List Rat := l.foldl (fun f s => f ++ [ev f s]) []
def lnsB (bg : List Ln) (l : List B1) : List Ln × Option Rat := foldL (lnB bg) l
def lnT (b : List B1) : Nat → Ln → Ln × Option Rat
  | 0, w => (w, none)
  | m + 1, w => (lastL (lnsB [(lnT b m w).1] b).1, soon (lnT b m w).2 (lnsB [(lnT b m w).1] b).2)
def lnS (bg f : List Ln) : Stp → Ln × Option Rat
  | .b s => lnB bg f s
  | .turns m i b => lnT b m (at2 f i)
def lnsS (bg : List Ln) (l : List Stp) : List Ln × Option Rat := foldL (lnS bg) l
theorem snoc_ind {α : Type} {P : List α → Prop} (h0 : P []) (h1 : ∀ l a, P l → P (l ++ [a])) : ∀ l, P l := fun l => by
  rw [← List.reverse_reverse l]
  induction l.reverse with
  | nil => exact h0
  | cons a r ih => rw [List.reverse_cons]; exact h1 _ _ ih
theorem foldL_snoc {α : Type} (ln : List Ln → α → Ln × Option Rat) (l : List α) (s : α) : foldL ln (l ++ [s]) = ((foldL ln l).1 ++ [(ln (foldL ln l).1 s).1], soon (foldL ln l).2 (ln (foldL ln l).1 s).2) := by simp [foldL]
theorem foldV_snoc {α : Type} (ev : List Rat → α → Rat) (l : List α) (s : α) : foldV ev (l ++ [s]) = foldV ev l ++ [ev (foldV ev l) s] := by simp [foldV]
theorem foldL_len {α : Type} (ln : List Ln → α → Ln × Option Rat) (l : List α) : (foldL ln l).1.length = l.length := by
  induction l using snoc_ind with
  | h0 => rfl
  | h1 l a ih => rw [foldL_snoc]; simp [ih]
/-! how far -/
def und (t : Rat) : Option Rat → Prop
  | none => True
  | some r => t < r
theorem und_soon {t : Rat} {a b : Option Rat} : und t (soon a b) ↔ und t a ∧ und t b := by
  cases a with
  | none => simp [soon, und]
  | some a =>
    cases b with
    | none => simp [soon, und]
    | some b =>
      show und t (if a ≤ b then some a else some b) ↔ t < a ∧ t < b
      by_cases c : a ≤ b
      · rw [if_pos c]
        show t < a ↔ _
        grind
      · rw [if_neg c]
        show t < b ↔ _
        grind
def posO : Option Rat → Prop
  | none => True
  | some r => 0 < r
theorem pos_soon {a b : Option Rat} (ha : posO a) (hb : posO b) : posO (soon a b) := by
  cases a with
  | none => exact hb
  | some a =>
    cases b with
    | none => exact ha
    | some b =>
      show posO (if a ≤ b then some a else some b)
      by_cases c : a ≤ b
      · rw [if_pos c]; exact ha
      · rw [if_neg c]; exact hb
theorem osgn0 (x : Rat) : (osgn x 0 = 1 ∧ 0 < x) ∨ (osgn x 0 = 0 ∧ x = 0) ∨ (osgn x 0 = -1 ∧ x < 0) := by
  unfold osgn
  by_cases a : 0 < x
  · exact .inl ⟨if_pos a, a⟩
  · by_cases b : x < 0
    · exact .inr (.inr ⟨by rw [if_neg a, if_pos b], b⟩)
    · exact .inr (.inl ⟨by rw [if_neg a, if_neg b], by grind⟩)
theorem sign_pos (l : Ln) : posO (signL l).2 := by
  unfold signL
  split
  · trivial
  · split
    · trivial
    · rename_i h1 h2
      simp only [posO]
      have h2a : l.2 ≠ 0 := fun z => h2 (.inl z)
      rcases osgn0 l.1 with ⟨e1, p1⟩ | ⟨e1, p1⟩ | ⟨e1, p1⟩ <;> rcases osgn0 l.2 with ⟨e2, p2⟩ | ⟨e2, p2⟩ | ⟨e2, p2⟩
      · exact absurd (.inr (by rw [e1, e2])) h2
      · exact absurd p2 h2a
      · have : (0 - l.1) / l.2 = l.1 / (-l.2) := by grind
        rw [this, Rat.lt_div_iff (by grind)]; grind
      · exact absurd p1 h1
      · exact absurd p1 h1
      · exact absurd p1 h1
      · rw [Rat.lt_div_iff p2]; grind
      · exact absurd p2 h2a
      · exact absurd (.inr (by rw [e1, e2])) h2
theorem sign_ok {t : Rat} {l : Ln} (h0 : 0 < t) (h : und t (signL l).2) : (valL t l ≤ 0) = ((signL l).1 ≤ 0) := by
  unfold signL at *
  apply propext
  split at h
  · rename_i e
    rw [if_pos e]
    unfold valL
    rw [e, osgn_le]
    have : t * l.2 ≤ 0 ↔ l.2 ≤ 0 := by
      constructor
      · intro z
        apply Classical.byContradiction
        intro c
        have := Rat.mul_pos h0 (show 0 < l.2 by grind)
        grind
      · intro z
        have := Rat.mul_nonneg (Rat.le_of_lt h0) (show 0 ≤ -l.2 by grind)
        grind
    rw [← this]
    constructor <;> intro z <;> grind
  · rename_i e
    rw [if_neg e]
    unfold valL
    split at h
    · rename_i e2
      rw [if_pos e2, osgn_le]
      rcases osgn0 l.1 with ⟨e1, p1⟩ | ⟨e1, p1⟩ | ⟨e1, p1⟩
      · have : 0 ≤ l.2 := by
          rcases e2 with e2 | e2
          · grind
          · rw [e1] at e2
            rcases osgn0 l.2 with ⟨e3, p3⟩ | ⟨e3, p3⟩ | ⟨e3, p3⟩
            · grind
            · grind
            · rw [e3] at e2; exact absurd e2 (by decide)
        have := Rat.mul_nonneg (Rat.le_of_lt h0) this
        constructor <;> intro z <;> grind
      · exact absurd p1 e
      · have : 0 ≤ -l.2 := by
          rcases e2 with e2 | e2
          · grind
          · rw [e1] at e2
            rcases osgn0 l.2 with ⟨e3, p3⟩ | ⟨e3, p3⟩ | ⟨e3, p3⟩
            · rw [e3] at e2; exact absurd e2 (by decide)
            · grind
            · grind
        have := Rat.mul_nonneg (Rat.le_of_lt h0) this
        constructor <;> intro z <;> grind
    · rename_i e2
      rw [if_neg e2, osgn_le]
      simp only [und] at h
      have h2a : l.2 ≠ 0 := fun z => e2 (.inl z)
      rcases osgn0 l.1 with ⟨e1, p1⟩ | ⟨e1, p1⟩ | ⟨e1, p1⟩ <;> rcases osgn0 l.2 with ⟨e3, p3⟩ | ⟨e3, p3⟩ | ⟨e3, p3⟩
      · exact absurd (.inr (by rw [e1, e3])) e2
      · exact absurd p3 h2a
      · have : (0 - l.1) / l.2 = l.1 / (-l.2) := by grind
        rw [this, Rat.lt_div_iff (by grind)] at h
        constructor <;> intro z <;> grind
      · exact absurd p1 e
      · exact absurd p1 e
      · exact absurd p1 e
      · rw [Rat.lt_div_iff p3] at h
        constructor <;> intro z <;> grind
      · exact absurd p3 h2a
      · exact absurd (.inr (by rw [e1, e3])) e2
theorem at_val (t : Rat) (f : List Ln) (i : Nat) : at0 (f.map (valL t)) i = valL t (at2 f i) := by
  unfold at0 at2
  rw [List.getD_eq_getElem?_getD, List.getD_eq_getElem?_getD, List.getElem?_map]
  cases f[i]? with
  | none => simp [valL]; grind
  | some x => rfl
theorem last_val (t : Rat) (f : List Ln) : lastQ (f.map (valL t)) = valL t (lastL f) := by
  unfold lastQ lastL
  rw [List.length_map, at_val]
theorem le_sub (x y : Rat) : (x ≤ y) = (x - y ≤ 0) := by apply propext; constructor <;> intro h <;> grind
theorem val_sub (t : Rat) (a b : Ln) : valL t (subL a b) = valL t a - valL t b := by unfold valL subL; grind
theorem lnB_ok {t : Rat} {bg f : List Ln} {s : B1} (h0 : 0 < t) (h : und t (lnB bg f s).2) : evB (bg.map (valL t)) (f.map (valL t)) s = valL t (lnB bg f s).1 := by
  cases s with
  | is x => simp [evB, lnB, valL]; grind
  | inp k => simp only [evB, lnB, at_val]
  | sum i j => simp only [evB, lnB, at_val]; unfold valL; grind
  | «by» x i => simp only [evB, lnB, at_val]; unfold valL; grind
  | least i j =>
    simp only [lnB] at h
    simp only [evB, lnB, at_val]
    have e := sign_ok h0 h
    rw [val_sub] at e
    simp only [le_sub (valL t (at2 f i)) (valL t (at2 f j)), e]
    split <;> rfl
  | most i j =>
    simp only [lnB] at h
    simp only [evB, lnB, at_val]
    have e := sign_ok h0 h
    rw [val_sub] at e
    simp only [le_sub (valL t (at2 f i)) (valL t (at2 f j)), e]
    split <;> rfl
  | iff i j k =>
    simp only [lnB] at h
    simp only [evB, lnB, at_val]
    have e := sign_ok h0 h
    simp only [e]
    split <;> rfl
theorem fold_ok {α : Type} {ev : List Rat → α → Rat} {ln : List Ln → α → Ln × Option Rat} {t : Rat} (hs : ∀ f s, und t (ln f s).2 → ev (f.map (valL t)) s = valL t (ln f s).1) : ∀ l, und t (foldL ln l).2 → foldV ev l = (foldL ln l).1.map (valL t) := by
  intro l
  induction l using snoc_ind with
  | h0 => intro _; rfl
  | h1 l a ih =>
    intro h
    rw [foldL_snoc] at h ⊢
    rw [und_soon] at h
    rw [foldV_snoc, ih h.1, hs _ _ h.2, List.map_append]
    rfl
theorem lnsB_ok {t : Rat} {bg : List Ln} {l : List B1} (h0 : 0 < t) (h : und t (lnsB bg l).2) : runB (bg.map (valL t)) l = (lnsB bg l).1.map (valL t) :=
  fold_ok (ev := evB (bg.map (valL t))) (fun f s z => lnB_ok h0 z) l h
theorem lnT_ok {t : Rat} {b : List B1} (h0 : 0 < t) : ∀ (m : Nat) (w : Ln), und t (lnT b m w).2 → turnsQ b m (valL t w) = valL t (lnT b m w).1
  | 0, w, _ => rfl
  | m + 1, w, h => by
    simp only [lnT] at h ⊢
    rw [und_soon] at h
    rw [turnsQ, lnT_ok h0 m w h.1, bodyQ]
    have := lnsB_ok h0 h.2
    simp only [List.map_cons, List.map_nil] at this
    rw [this, last_val]
theorem lnS_ok {t : Rat} {bg f : List Ln} {s : Stp} (h0 : 0 < t) (h : und t (lnS bg f s).2) : evS (bg.map (valL t)) (f.map (valL t)) s = valL t (lnS bg f s).1 := by
  cases s with
  | b s => exact lnB_ok h0 h
  | turns m i b => simp only [evS, lnS, at_val] at h ⊢; exact lnT_ok h0 m _ h
theorem lnsS_ok {t : Rat} {bg : List Ln} {l : List Stp} (h0 : 0 < t) (h : und t (lnsS bg l).2) : wS (bg.map (valL t)) l = (lnsS bg l).1.map (valL t) :=
  fold_ok (ev := evS (bg.map (valL t))) (fun f s z => lnS_ok h0 z) l h
/-! reaches are above 0 -/
theorem lnB_pos (bg f : List Ln) (s : B1) : posO (lnB bg f s).2 := by
  cases s <;> first | exact sign_pos _ | trivial
theorem fold_pos {α : Type} {ln : List Ln → α → Ln × Option Rat} (hs : ∀ f s, posO (ln f s).2) (l : List α) : posO (foldL ln l).2 := by
  induction l using snoc_ind with
  | h0 => trivial
  | h1 l a ih => rw [foldL_snoc]; exact pos_soon ih (hs _ _)
theorem lnT_pos (b : List B1) : ∀ (m : Nat) (w : Ln), posO (lnT b m w).2
  | 0, _ => trivial
  | m + 1, w => pos_soon (lnT_pos b m w) (fold_pos (lnB_pos _) b)
theorem lnsS_pos (bg : List Ln) (l : List Stp) : posO (lnsS bg l).2 := fold_pos (fun f s => by
  cases s with
  | b s => exact lnB_pos bg f s
  | turns m i b => exact lnT_pos b m _) l

end RF

end S_LJ1
section S_LJ2
set_option maxHeartbeats 4000000
namespace RF
open PySem PySem.Spec L2
local macro_rules
  | `(tactic| simp_arith [$ts,*]) => `(tactic| simp only [ee_var, ee_c, ee_glb, ee_neg, ee_nt, ee_bin, ee_cmp, ee_cmp2, ee_and, ee_or, ee_ife, ee_nil, ee_cons, ee_tup, ee_lst, ee_idx, ee_sl, ee_call, ee_callf, ee_rep, kRep_1, ee_lrg, ee_rev, rev_l, ex_sto, kSto, kSto1, kSto2, kSto3, put_lrg, put_rev, ee_bi, ee_isi, ee_comp, ee_fld, ee_mk, ee_isC, ee_meth, kMk_t, kMeth, kMeth1, kMeth2_t, fl_side, fl_pic, mk_side, mk_pic, mt_side, kVar_s, kNeg_i, kNot_b, kBin, kCmp, kCmp2, kCmpB, kCmpC_t, kCmpC_f, kAnd_t, kAnd_f, kOr_t, kOr_f, kIfe_t, kIfe_f, kCons, kPre_t, kTup_1, kTup_2, kTup_3, kTup_4, kTup_5, kTup_6, kLst_0, kLst_1, kLst_2, kLst_3, kLst_4, kLst_5, kLst_6, kIdx, kSl, kSl2, kSl3, kCall_t, kBi_t, kis, kIs_q, kComp, kComp2_ok, kList, turn_nil, turn_cmp, turn_and, turn_or, turn_nt, turn_isi, turn_call, turn_cmp2, turn_bi, kEl, kElc, kSome, kCd_t, kCd_f, ex_nil, ex_set, ex_own, ex_unp, ex_par, ex_par3, ex_ex, ex_ret, ex_reto, ex_retf, kReto, kRetf_l, kRetf2_cf, kRetf2_co, kRetf2_ls, kRetf2_sl, kRetf2_li, kRetf2_ad, put_cf, put_rep, ex_rai, ex_ite, ex_for, ex_whl, ex_app, ex_ext, ex_pas, ex_brk, ex_wip, kSet, kOwn, kPut, kUnp, kGo, kPar, kPar2, kPar3, kPar4, kTr, kTr2, kTr3, kTr4, kTr5, kTr6, kEx, kRet, kIte_t, kIte_f, kNx_n, kNx_b, kNx_r, kLoop_n, kLoop_r, kFor, kFor2_ok, kApp, kApp2_ok, kExt, kExt2_l, kExt3_ok, R.bind_ok, R.bind_exc, slot_0, slot_s, sd_v, sd_o, List.set_cons_zero, List.set_cons_succ, frz_def, frz_v, frz_n, frz_0, frz_o, hold_rng, hold_seq, hold_enum, hold_zip, it_zip, hold_v, hold_n, hold_0, hold_o, put_f, put_lst, put_sl, put_li, put_co, put_add, ev_lt, ev_le, ev_gt, ev_ge, ev_eq, ev_ne, ev_isN, ev_notN, eqD_int, eqD_pair, eqD_q, rb_len_t2, rb_len_t3, rb_len_t4, rb_len_l, len_q, rb_abs, rb_min, rb_list_l, rb_list_t, rb_tuple_l, rb_tuple_t, rb_all, rb_any, rb_sum, idx_t0, idx_t1, idx_t2, idx_t3, idx_q0, idx_q1, bin_add, bin_sub, out_rt, out_rl, outF_rl, out_nx, Bool.not_true, Bool.not_false, if_true, if_false, reduceIte, decide_true, decide_false, eq_self, Nat.reduceAdd, withO_s, Int.reduceLT, Int.reduceLE, Int.reduceEq, Int.reduceNeg, Int.reduceAdd, own_0, own_s, CE.men, Nat.reduceBEq, Bool.false_and, Bool.true_and, Bool.and_true, Bool.and_false, Bool.or_false, Bool.false_or, Bool.or_true, Bool.true_or, kqs, part_nil, part_c, part_v, part_neg, part_bin, part_bi, part_idx, sl_t41, sl_t43, it_l, it_t, it_enum, wipeS, bindT, bindL, Bool.false_eq_true, asL_l, Int.natCast_one, Int.natCast_zero, D.occ, D.occs, occ_q, List.length_map, $ts,*])
/-! all that may come: for each way of choosing -/
def rtL (d : Ln) : List Rat := if d.2 = 0 then [] else [(0 - d.1) / d.2]
def ndB (bg f : List Ln) : B1 → List (Ln × List Rat)
  | .is x => [((x, 0), [])]
  | .inp k => [(at2 bg k, [])]
  | .sum i j => [(((at2 f i).1 + (at2 f j).1, (at2 f i).2 + (at2 f j).2), [])]
  | .by x i => [((x * (at2 f i).1, x * (at2 f i).2), [])]
  | .least i j => [(at2 f i, rtL (subL (at2 f i) (at2 f j))), (at2 f j, rtL (subL (at2 f i) (at2 f j)))]
  | .most i j => [(at2 f i, rtL (subL (at2 f i) (at2 f j))), (at2 f j, rtL (subL (at2 f i) (at2 f j)))]
  | .iff i j k => [(at2 f j, rtL (at2 f i)), (at2 f k, rtL (at2 f i))]
def foldN {α : Type} (nd : List Ln → α → List (Ln × List Rat)) (l : List α) : List (List Ln × List Rat) := l.foldl (fun ws s => ws.flatMap fun z => (nd z.1 s).map fun y => (z.1 ++ [y.1], z.2 ++ y.2)) [([], [])]
def ndsB (bg : List Ln) (l : List B1) : List (List Ln × List Rat) := foldN (ndB bg) l
def ndT (b : List B1) : Nat → Ln → List (Ln × List Rat)
  | 0, w => [(w, [])]
  | m + 1, w => (ndT b m w).flatMap fun z => (ndsB [z.1] b).map fun y => (lastL y.1, z.2 ++ y.2)
def ndS (bg f : List Ln) : Stp → List (Ln × List Rat)
  | .b s => ndB bg f s
  | .turns m i b => ndT b m (at2 f i)
def ndsS (bg : List Ln) (l : List Stp) : List (List Ln × List Rat) := foldN (ndS bg) l
theorem foldN_snoc {α : Type} (nd : List Ln → α → List (Ln × List Rat)) (l : List α) (s : α) : foldN nd (l ++ [s]) = (foldN nd l).flatMap fun z => (nd z.1 s).map fun y => (z.1 ++ [y.1], z.2 ++ y.2) := by simp [foldN]
/-- a line seen from a place further on -/
def sh (τ : Rat) (l : Ln) : Ln := (l.1 + τ * l.2, l.2)
theorem at_sh (τ : Rat) (f : List Ln) (i : Nat) : at2 (f.map (sh τ)) i = sh τ (at2 f i) := by
  unfold at2
  rw [List.getD_eq_getElem?_getD, List.getD_eq_getElem?_getD, List.getElem?_map]
  cases f[i]? with
  | none => simp [sh]; grind
  | some x => rfl
theorem last_sh (τ : Rat) (f : List Ln) : lastL (f.map (sh τ)) = sh τ (lastL f) := by
  unfold lastL
  rw [List.length_map, at_sh]
theorem sub_sh (τ : Rat) (a b : Ln) : subL (sh τ a) (sh τ b) = sh τ (subL a b) := by
  unfold subL sh
  simp only [Prod.mk.injEq, and_true]
  grind
theorem sign_root {τ ρ : Rat} {d : Ln} (h : (signL (sh τ d)).2 = some ρ) : τ + ρ ∈ rtL d := by
  unfold signL at h
  split at h
  · cases h
  · split at h
    · cases h
    · rename_i h1 h2
      have h2a : d.2 ≠ 0 := fun z => h2 (.inl z)
      simp only [Option.some.injEq] at h
      unfold rtL
      rw [if_neg h2a, List.mem_singleton, ← h]
      simp only [sh]
      grind
theorem soon_or (a b : Option Rat) : soon a b = a ∨ soon a b = b := by
  cases a with
  | none => exact .inr rfl
  | some a =>
    cases b with
    | none => exact .inl rfl
    | some b =>
      show (if a ≤ b then some a else some b) = _ ∨ (if a ≤ b then some a else some b) = _
      by_cases c : a ≤ b
      · rw [if_pos c]; exact .inl rfl
      · rw [if_neg c]; exact .inr rfl
/-- x at a place τ is one of those that may come -/
def Isx (τ : Rat) (x : Ln × Option Rat) (y : Ln × List Rat) : Prop := x.1 = sh τ y.1 ∧ ∀ ρ, x.2 = some ρ → τ + ρ ∈ y.2
theorem memB (τ : Rat) (bg f : List Ln) (s : B1) : ∃ y ∈ ndB bg f s, Isx τ (lnB (bg.map (sh τ)) (f.map (sh τ)) s) y := by
  cases s with
  | is x => exact ⟨_, List.mem_singleton.mpr rfl, by simp [lnB, sh]; grind, fun ρ h => nomatch h⟩
  | inp k => exact ⟨_, List.mem_singleton.mpr rfl, by simp only [lnB, at_sh], fun ρ h => nomatch h⟩
  | sum i j => exact ⟨_, List.mem_singleton.mpr rfl, by simp only [lnB, at_sh, sh, Prod.mk.injEq, and_true]; grind, fun ρ h => nomatch h⟩
  | «by» x i => exact ⟨_, List.mem_singleton.mpr rfl, by simp only [lnB, at_sh, sh, Prod.mk.injEq, and_true]; grind, fun ρ h => nomatch h⟩
  | least i j =>
    have hr : ∀ ρ, (lnB (bg.map (sh τ)) (f.map (sh τ)) (.least i j)).2 = some ρ → τ + ρ ∈ rtL (subL (at2 f i) (at2 f j)) := fun ρ h => by
      simp only [lnB, at_sh, sub_sh] at h
      exact sign_root h
    by_cases c : (signL (subL (at2 (f.map (sh τ)) i) (at2 (f.map (sh τ)) j))).1 ≤ 0
    · exact ⟨_, List.mem_cons_self, by simp only [lnB]; rw [if_pos c, at_sh], hr⟩
    · exact ⟨_, List.mem_cons_of_mem _ (List.mem_singleton.mpr rfl), by simp only [lnB]; rw [if_neg c, at_sh], hr⟩
  | most i j =>
    have hr : ∀ ρ, (lnB (bg.map (sh τ)) (f.map (sh τ)) (.most i j)).2 = some ρ → τ + ρ ∈ rtL (subL (at2 f i) (at2 f j)) := fun ρ h => by
      simp only [lnB, at_sh, sub_sh] at h
      exact sign_root h
    by_cases c : (signL (subL (at2 (f.map (sh τ)) i) (at2 (f.map (sh τ)) j))).1 ≤ 0
    · exact ⟨_, List.mem_cons_of_mem _ (List.mem_singleton.mpr rfl), by simp only [lnB]; rw [if_pos c, at_sh], hr⟩
    · exact ⟨_, List.mem_cons_self, by simp only [lnB]; rw [if_neg c, at_sh], hr⟩
  | iff i j k =>
    have hr : ∀ ρ, (lnB (bg.map (sh τ)) (f.map (sh τ)) (.iff i j k)).2 = some ρ → τ + ρ ∈ rtL (at2 f i) := fun ρ h => by
      simp only [lnB, at_sh] at h
      exact sign_root h
    by_cases c : (signL (at2 (f.map (sh τ)) i)).1 ≤ 0
    · exact ⟨_, List.mem_cons_self, by simp only [lnB]; rw [if_pos c, at_sh], hr⟩
    · exact ⟨_, List.mem_cons_of_mem _ (List.mem_singleton.mpr rfl), by simp only [lnB]; rw [if_neg c, at_sh], hr⟩
theorem fold_mem {α : Type} {ln : List Ln → α → Ln × Option Rat} {nd : List Ln → α → List (Ln × List Rat)} {τ : Rat} (hs : ∀ f s, ∃ y ∈ nd f s, Isx τ (ln (f.map (sh τ)) s) y) : ∀ l, ∃ z ∈ foldN nd l, (foldL ln l).1 = z.1.map (sh τ) ∧ ∀ ρ, (foldL ln l).2 = some ρ → τ + ρ ∈ z.2 := by
  intro l
  induction l using snoc_ind with
  | h0 => exact ⟨([], []), List.mem_singleton.mpr rfl, rfl, fun ρ h => nomatch h⟩
  | h1 l a ih =>
    obtain ⟨z, hz, e, hr⟩ := ih
    obtain ⟨y, hy, e1, h1⟩ := hs z.1 a
    rw [foldL_snoc, foldN_snoc]
    refine ⟨(z.1 ++ [y.1], z.2 ++ y.2), List.mem_flatMap.mpr ⟨z, hz, List.mem_map.mpr ⟨y, hy, rfl⟩⟩, ?_, fun ρ h => ?_⟩
    · rw [e, e1, List.map_append]; rfl
    · rw [List.mem_append]
      rcases soon_or (foldL ln l).2 (ln (foldL ln l).1 a).2 with q | q
      · exact .inl (hr ρ (by rw [← q]; exact h))
      · refine .inr (h1 ρ ?_)
        rw [← e, ← q]
        exact h
theorem memT (τ : Rat) (b : List B1) : ∀ (m : Nat) (w : Ln), ∃ y ∈ ndT b m w, Isx τ (lnT b m (sh τ w)) y
  | 0, w => ⟨(w, []), List.mem_singleton.mpr rfl, rfl, fun ρ h => nomatch h⟩
  | m + 1, w => by
    obtain ⟨z, hz, e, hr⟩ := memT τ b m w
    obtain ⟨y, hy, e1, h1⟩ := fold_mem (memB τ [z.1]) b
    refine ⟨(lastL y.1, z.2 ++ y.2), List.mem_flatMap.mpr ⟨z, hz, List.mem_map.mpr ⟨y, hy, rfl⟩⟩, ?_, fun ρ h => ?_⟩
    · simp only [lnT, lnsB]
      rw [e]
      simp only [List.map_cons, List.map_nil] at e1
      rw [e1, last_sh]
    · simp only [lnT, lnsB] at h
      rw [e] at h
      rw [List.mem_append]
      simp only [List.map_cons, List.map_nil] at h1
      rcases soon_or (lnT b m (sh τ w)).2 (foldL (lnB [sh τ z.1]) b).2 with q | q
      · exact .inl (hr ρ (by rw [← q]; exact h))
      · exact .inr (h1 ρ (by rw [← q]; exact h))
theorem memS (τ : Rat) (bg f : List Ln) (s : Stp) : ∃ y ∈ ndS bg f s, Isx τ (lnS (bg.map (sh τ)) (f.map (sh τ)) s) y := by
  cases s with
  | b s => exact memB τ bg f s
  | turns m i b =>
    simp only [lnS, at_sh]
    exact memT τ b m _
theorem memsS (τ : Rat) (bg : List Ln) (l : List Stp) : ∃ z ∈ ndsS bg l, (lnsS (bg.map (sh τ)) l).1 = z.1.map (sh τ) ∧ ∀ ρ, (lnsS (bg.map (sh τ)) l).2 = some ρ → τ + ρ ∈ z.2 := fold_mem (memS τ bg) l
/-! how many -/
theorem rtL_len (d : Ln) : (rtL d).length ≤ 1 := by unfold rtL; split <;> simp
theorem flat_len {α β : Type} {f : α → List β} {k : Nat} : ∀ {l : List α}, (∀ x ∈ l, (f x).length ≤ k) → (l.flatMap f).length ≤ l.length * k
  | [], _ => by simp
  | x :: l, h => by
    rw [List.flatMap_cons, List.length_append, List.length_cons, Nat.succ_mul]
    have := flat_len fun y hy => h y (List.mem_cons_of_mem _ hy)
    have := h x List.mem_cons_self
    omega
theorem cntB (bg f : List Ln) (s : B1) : (ndB bg f s).length ≤ 2 ^ s.ch ∧ ∀ y ∈ ndB bg f s, y.2.length ≤ s.ch := by
  cases s <;> refine ⟨by simp [ndB, B1.ch], fun y hy => ?_⟩ <;> simp only [ndB, List.mem_cons, List.not_mem_nil, or_false] at hy <;> first
    | (subst hy; exact Nat.le_refl _)
    | (rcases hy with rfl | rfl <;> exact rtL_len _)
theorem fold_cnt {α : Type} {nd : List Ln → α → List (Ln × List Rat)} {w : α → Nat} (hs : ∀ f s, (nd f s).length ≤ 2 ^ w s ∧ ∀ y ∈ nd f s, y.2.length ≤ w s) : ∀ l, (foldN nd l).length ≤ 2 ^ (l.map w).sum ∧ ∀ z ∈ foldN nd l, z.2.length ≤ (l.map w).sum := by
  intro l
  induction l using snoc_ind with
  | h0 => exact ⟨by simp [foldN], fun z hz => by simp [foldN] at hz; subst hz; simp⟩
  | h1 l a ih =>
    rw [foldN_snoc, List.map_append, List.sum_append]
    simp only [List.map_cons, List.map_nil, List.sum_cons, List.sum_nil, Nat.add_zero]
    refine ⟨?_, fun z hz => ?_⟩
    · refine Nat.le_trans (flat_len (k := 2 ^ w a) fun x _ => by rw [List.length_map]; exact (hs _ _).1) ?_
      rw [Nat.pow_add]
      exact Nat.mul_le_mul_right _ ih.1
    · rw [List.mem_flatMap] at hz
      obtain ⟨x, hx, hz⟩ := hz
      rw [List.mem_map] at hz
      obtain ⟨y, hy, rfl⟩ := hz
      rw [List.length_append]
      exact Nat.add_le_add (ih.2 x hx) ((hs _ _).2 y hy)
theorem cntT (b : List B1) : ∀ (m : Nat) (w : Ln), (ndT b m w).length ≤ 2 ^ (m * chB b) ∧ ∀ y ∈ ndT b m w, y.2.length ≤ m * chB b
  | 0, w => ⟨by simp [ndT], fun y hy => by simp [ndT] at hy; subst hy; simp⟩
  | m + 1, w => by
    obtain ⟨h1, h2⟩ := cntT b m w
    have hb : ∀ z : Ln, (ndsB [z] b).length ≤ 2 ^ chB b ∧ ∀ y ∈ ndsB [z] b, y.2.length ≤ chB b := fun z => fold_cnt (cntB [z]) b
    refine ⟨?_, fun z hz => ?_⟩
    · rw [ndT, Nat.succ_mul, Nat.pow_add]
      exact Nat.le_trans (flat_len (k := 2 ^ chB b) fun x _ => by rw [List.length_map]; exact (hb _).1) (Nat.mul_le_mul_right _ h1)
    · rw [ndT, List.mem_flatMap] at hz
      obtain ⟨x, hx, hz⟩ := hz
      rw [List.mem_map] at hz
      obtain ⟨y, hy, rfl⟩ := hz
      rw [List.length_append, Nat.succ_mul]
      exact Nat.add_le_add (h2 x hx) ((hb _).2 y hy)
theorem cntS (bg : List Ln) (l : List Stp) : (ndsS bg l).length ≤ 2 ^ chS l ∧ ∀ z ∈ ndsS bg l, z.2.length ≤ chS l := fold_cnt (w := Stp.ch) (fun f s => by
  cases s with
  | b s => exact cntB bg f s
  | turns m i b => exact cntT b m _) l
/-- every place at which a choice may turn -/
def roots (bg : List Ln) (l : List Stp) : List Rat := (ndsS bg l).flatMap (·.2)
theorem roots_len (bg : List Ln) {l : List Stp} (h : chS l ≤ 8) : (roots bg l).length ≤ 2048 := by
  obtain ⟨h1, h2⟩ := cntS bg l
  refine Nat.le_trans (flat_len h2) ?_
  exact Nat.le_trans (Nat.mul_le_mul (Nat.le_trans h1 (Nat.pow_le_pow_right (by decide) h)) h) (by decide)
theorem reach_root {τ ρ : Rat} {bg : List Ln} {l : List Stp} (h : (lnsS (bg.map (sh τ)) l).2 = some ρ) : τ + ρ ∈ roots bg l := by
  obtain ⟨z, hz, _, hr⟩ := memsS τ bg l
  exact List.mem_flatMap.mpr ⟨z, hz, hr ρ h⟩
/-- how many are still ahead -/
def left (R : List Rat) (τ : Rat) : Nat := (R.filter fun x => decide (τ < x)).length
theorem left_le (R : List Rat) (τ : Rat) : left R τ ≤ R.length := List.length_filter_le _ _
theorem left_lt {R : List Rat} {τ τ' : Rat} (h : τ < τ') (hm : τ' ∈ R) : left R τ' < left R τ := by
  unfold left
  induction R with
  | nil => cases hm
  | cons x R ih =>
    have mono : ∀ R : List Rat, (R.filter fun x => decide (τ' < x)).length ≤ (R.filter fun x => decide (τ < x)).length := fun R => by
      induction R with
      | nil => exact Nat.le_refl _
      | cons y R ih =>
        simp only [List.filter_cons]
        by_cases a : τ' < y
        · rw [decide_eq_true a, decide_eq_true (show τ < y by grind)]
          simp only [if_true, List.length_cons]
          omega
        · rw [decide_eq_false a]
          by_cases b : τ < y
          · rw [decide_eq_true b]; simp; omega
          · rw [decide_eq_false b]; simp; exact ih
    simp only [List.filter_cons]
    by_cases e : x = τ'
    · subst e
      rw [decide_eq_false (show ¬ x < x by grind), decide_eq_true h]
      simp only [if_true, Bool.false_eq_true, if_false, List.length_cons]
      have := mono R
      omega
    · have hm' : τ' ∈ R := by
        rcases List.mem_cons.mp hm with z | z
        · exact absurd z.symm e
        · exact z
      have := ih hm'
      by_cases a : τ' < x
      · rw [decide_eq_true a, decide_eq_true (show τ < x by grind)]
        simp only [if_true, List.length_cons]
        omega
      · rw [decide_eq_false a]
        by_cases b : τ < x
        · rw [decide_eq_true b]; simp only [Bool.false_eq_true, if_false, if_true, List.length_cons]; omega
        · rw [decide_eq_false b]; simp only [Bool.false_eq_true, if_false]; exact this

end RF

end S_LJ2
section S_LJ3
set_option maxHeartbeats 4000000
namespace RF
open PySem PySem.Spec L2
local macro_rules
  | `(tactic| simp_arith [$ts,*]) => `(tactic| simp only [ee_var, ee_c, ee_glb, ee_neg, ee_nt, ee_bin, ee_cmp, ee_cmp2, ee_and, ee_or, ee_ife, ee_nil, ee_cons, ee_tup, ee_lst, ee_idx, ee_sl, ee_call, ee_callf, ee_rep, kRep_1, ee_lrg, ee_rev, rev_l, ex_sto, kSto, kSto1, kSto2, kSto3, put_lrg, put_rev, ee_bi, ee_isi, ee_comp, ee_fld, ee_mk, ee_isC, ee_meth, kMk_t, kMeth, kMeth1, kMeth2_t, fl_side, fl_pic, mk_side, mk_pic, mt_side, kVar_s, kNeg_i, kNot_b, kBin, kCmp, kCmp2, kCmpB, kCmpC_t, kCmpC_f, kAnd_t, kAnd_f, kOr_t, kOr_f, kIfe_t, kIfe_f, kCons, kPre_t, kTup_1, kTup_2, kTup_3, kTup_4, kTup_5, kTup_6, kLst_0, kLst_1, kLst_2, kLst_3, kLst_4, kLst_5, kLst_6, kIdx, kSl, kSl2, kSl3, kCall_t, kBi_t, kis, kIs_q, kComp, kComp2_ok, kList, turn_nil, turn_cmp, turn_and, turn_or, turn_nt, turn_isi, turn_call, turn_cmp2, turn_bi, kEl, kElc, kSome, kCd_t, kCd_f, ex_nil, ex_set, ex_own, ex_unp, ex_par, ex_par3, ex_ex, ex_ret, ex_reto, ex_retf, kReto, kRetf_l, kRetf2_cf, kRetf2_co, kRetf2_ls, kRetf2_sl, kRetf2_li, kRetf2_ad, put_cf, put_rep, ex_rai, ex_ite, ex_for, ex_whl, ex_app, ex_ext, ex_pas, ex_brk, ex_wip, kSet, kOwn, kPut, kUnp, kGo, kPar, kPar2, kPar3, kPar4, kTr, kTr2, kTr3, kTr4, kTr5, kTr6, kEx, kRet, kIte_t, kIte_f, kNx_n, kNx_b, kNx_r, kLoop_n, kLoop_r, kFor, kFor2_ok, kApp, kApp2_ok, kExt, kExt2_l, kExt3_ok, R.bind_ok, R.bind_exc, slot_0, slot_s, sd_v, sd_o, List.set_cons_zero, List.set_cons_succ, frz_def, frz_v, frz_n, frz_0, frz_o, hold_rng, hold_seq, hold_enum, hold_zip, it_zip, hold_v, hold_n, hold_0, hold_o, put_f, put_lst, put_sl, put_li, put_co, put_add, ev_lt, ev_le, ev_gt, ev_ge, ev_eq, ev_ne, ev_isN, ev_notN, eqD_int, eqD_pair, eqD_q, rb_len_t2, rb_len_t3, rb_len_t4, rb_len_l, len_q, rb_abs, rb_min, rb_list_l, rb_list_t, rb_tuple_l, rb_tuple_t, rb_all, rb_any, rb_sum, idx_t0, idx_t1, idx_t2, idx_t3, idx_q0, idx_q1, bin_add, bin_sub, out_rt, out_rl, outF_rl, out_nx, Bool.not_true, Bool.not_false, if_true, if_false, reduceIte, decide_true, decide_false, eq_self, Nat.reduceAdd, withO_s, Int.reduceLT, Int.reduceLE, Int.reduceEq, Int.reduceNeg, Int.reduceAdd, own_0, own_s, CE.men, Nat.reduceBEq, Bool.false_and, Bool.true_and, Bool.and_true, Bool.and_false, Bool.or_false, Bool.false_or, Bool.or_true, Bool.true_or, kqs, part_nil, part_c, part_v, part_neg, part_bin, part_bi, part_idx, sl_t41, sl_t43, it_l, it_t, it_enum, wipeS, bindT, bindL, Bool.false_eq_true, asL_l, Int.natCast_one, Int.natCast_zero, D.occ, D.occs, occ_q, List.length_map, $ts,*])
/-! what a side is -/
structure IsSide (w : Rat → Rat) (v b s : Rat) (r : Option Rat) : Prop where
  val : w 0 = v
  pos : posO r
  on : ∀ t, 0 < t → und t r → w t = b + t * s
  max : ∀ ρ, r = some ρ → ∀ ρ', ρ < ρ' → ∃ t, 0 < t ∧ t < ρ' ∧ w t ≠ b + t * s
theorem two_pts {b s b' s' t u : Rat} (hn : t ≠ u) (h1 : b + t * s = b' + t * s') (h2 : b + u * s = b' + u * s') : b = b' ∧ s = s' := by
  have h3 : (t - u) * (s - s') = 0 := by grind
  have h4 : s - s' = 0 := by
    rcases Rat.mul_eq_zero.mp h3 with z | z
    · exact absurd (show t = u by grind) hn
    · exact z
  constructor <;> grind
/-- below two reaches there is a number, and its half -/
theorem below2 (r r' : Option Rat) (h : posO r) (h' : posO r') : ∃ t : Rat, 0 < t ∧ und t r ∧ und t r' ∧ und (t / 2) r ∧ und (t / 2) r' := by
  have half : ∀ x : Rat, 0 < x → 0 < x / 2 ∧ x / 2 < x ∧ x / 2 / 2 < x := fun x hx => by
    refine ⟨?_, ?_, ?_⟩ <;> grind
  cases r with
  | none =>
    cases r' with
    | none => exact ⟨1, by decide, trivial, trivial, trivial, trivial⟩
    | some a => exact ⟨a / 2, (half a h').1, trivial, (half a h').2.1, trivial, (half a h').2.2⟩
  | some a =>
    cases r' with
    | none => exact ⟨a / 2, (half a h).1, (half a h).2.1, trivial, (half a h).2.2, trivial⟩
    | some b =>
      by_cases c : a ≤ b
      · refine ⟨a / 2, (half a h).1, (half a h).2.1, ?_, (half a h).2.2, ?_⟩
        · show a / 2 < b
          have := (half a h).2.1
          grind
        · show a / 2 / 2 < b
          have := (half a h).2.2
          grind
      · refine ⟨b / 2, (half b h').1, ?_, (half b h').2.1, ?_, (half b h').2.2⟩
        · show b / 2 < a
          have := (half b h').2.1
          grind
        · show b / 2 / 2 < a
          have := (half b h').2.2
          grind
theorem germ_eq {w : Rat → Rat} {b s b' s' : Rat} {r r' : Option Rat} (h : posO r) (h' : posO r') (on : ∀ t, 0 < t → und t r → w t = b + t * s) (on' : ∀ t, 0 < t → und t r' → w t = b' + t * s') : b = b' ∧ s = s' := by
  obtain ⟨t, h0, h1, h2, h3, h4⟩ := below2 r r' h h'
  refine two_pts (t := t) (u := t / 2) (by grind) ?_ ?_
  · rw [← on t h0 h1, ← on' t h0 h2]
  · rw [← on (t / 2) (by grind) h3, ← on' (t / 2) (by grind) h4]
theorem IsSide.uniq {w : Rat → Rat} {v b s v' b' s' : Rat} {r r' : Option Rat} (h : IsSide w v b s r) (h' : IsSide w v' b' s' r') : v = v' ∧ b = b' ∧ s = s' ∧ r = r' := by
  obtain ⟨e1, e2⟩ := germ_eq h.pos h'.pos h.on h'.on
  subst e1; subst e2
  refine ⟨by rw [← h.val, ← h'.val], rfl, rfl, ?_⟩
  cases r with
  | none =>
    cases r' with
    | none => rfl
    | some a =>
      obtain ⟨t, h0, _, h2⟩ := h'.max a rfl (a + 1) (by grind)
      exact absurd (h.on t h0 trivial) h2
  | some a =>
    cases r' with
    | none =>
      obtain ⟨t, h0, _, h2⟩ := h.max a rfl (a + 1) (by grind)
      exact absurd (h'.on t h0 trivial) h2
    | some a' =>
      congr 1
      apply Classical.byContradiction
      intro c
      by_cases l : a < a'
      · obtain ⟨t, h0, h1, h2⟩ := h.max a rfl a' l
        exact absurd (h'.on t h0 h1) h2
      · obtain ⟨t, h0, h1, h2⟩ := h'.max a' rfl a (by grind)
        exact absurd (h.on t h0 h1) h2
/-! a program along a ray -/
def bgQ (P ws : List Rat) (τ : Rat) : List Ln := (P.zip ws).map fun p => (p.1 + τ * p.2, p.2)
theorem bg_sh (P ws : List Rat) (τ : Rat) : bgQ P ws τ = (bgQ P ws 0).map (sh τ) := by
  unfold bgQ
  rw [List.map_map]
  congr 1
  funext p
  simp only [Function.comp_apply, sh, Prod.mk.injEq, and_true]
  grind
theorem bg_val (P ws : List Rat) (τ t : Rat) : (bgQ P ws τ).map (valL t) = mvQ P ws (τ + t) := by
  unfold bgQ mvQ
  rw [List.map_map]
  congr 1
  funext p
  simp only [Function.comp_apply, valL]
  grind
/-- the worth along the ray -/
def rayQ (P ws : List Rat) (l : List Stp) (τ : Rat) : Rat := lastQ (wS (mvQ P ws τ) l)
def lineQ (P ws : List Rat) (l : List Stp) (τ : Rat) : Ln := lastL (lnsS (bgQ P ws τ) l).1
def holdQ (P ws : List Rat) (l : List Stp) (τ : Rat) : Option Rat := (lnsS (bgQ P ws τ) l).2
theorem ray_line {P ws : List Rat} {l : List Stp} {τ t : Rat} (h0 : 0 < t) (h : und t (holdQ P ws l τ)) : rayQ P ws l (τ + t) = (lineQ P ws l τ).1 + t * (lineQ P ws l τ).2 := by
  unfold rayQ lineQ
  rw [← bg_val, lnsS_ok h0 h, last_val]
  rfl
theorem hold_pos (P ws : List Rat) (l : List Stp) (τ : Rat) : posO (holdQ P ws l τ) := lnsS_pos _ _
theorem hold_root {P ws : List Rat} {l : List Stp} {τ ρ : Rat} (h : holdQ P ws l τ = some ρ) : τ + ρ ∈ roots (bgQ P ws 0) l := by
  unfold holdQ at h
  rw [bg_sh] at h
  exact reach_root h
/-- so far it goes straight -/
structure Straight (P ws : List Rat) (l : List Stp) (τ0 : Rat) (r : Option Rat) : Prop where
  pos : posO r
  root : ∀ ρ, r = some ρ → τ0 + ρ ∈ roots (bgQ P ws 0) l
  on : ∀ t, 0 < t → und t r → rayQ P ws l (τ0 + t) = (lineQ P ws l τ0).1 + t * (lineQ P ws l τ0).2
theorem straight0 (P ws : List Rat) (l : List Stp) (τ0 : Rat) : Straight P ws l τ0 (holdQ P ws l τ0) := ⟨hold_pos _ _ _ _, fun ρ h => hold_root h, fun t h0 h => ray_line h0 h⟩
/-- it goes on behind ρ -/
def goesOn (P ws : List Rat) (l : List Stp) (τ0 ρ : Rat) : Prop := rayQ P ws l (τ0 + ρ) = (lineQ P ws l τ0).1 + ρ * (lineQ P ws l τ0).2 ∧ lineQ P ws l (τ0 + ρ) = ((lineQ P ws l τ0).1 + ρ * (lineQ P ws l τ0).2, (lineQ P ws l τ0).2)
def addO (ρ : Rat) : Option Rat → Option Rat
  | none => none
  | some m => some (ρ + m)
theorem Straight.next {P ws : List Rat} {l : List Stp} {τ0 ρ : Rat} (h : Straight P ws l τ0 (some ρ)) (g : goesOn P ws l τ0 ρ) : Straight P ws l τ0 (addO ρ (holdQ P ws l (τ0 + ρ))) := by
  have hp := hold_pos P ws l (τ0 + ρ)
  have p0 : 0 < ρ := h.pos
  refine ⟨?_, fun ρ' e => ?_, fun t h0 hu => ?_⟩
  · cases e : holdQ P ws l (τ0 + ρ) with
    | none => trivial
    | some m =>
      rw [e] at hp
      have : 0 < m := hp
      show 0 < ρ + m
      grind
  · cases e2 : holdQ P ws l (τ0 + ρ) with
    | none => rw [e2] at e; cases e
    | some m =>
      rw [e2] at e
      cases e
      have := hold_root e2
      rw [← Rat.add_assoc]
      exact this
  · by_cases a : t < ρ
    · exact h.on t h0 a
    · by_cases b : t = ρ
      · subst b; exact g.1
      · have := ray_line (P := P) (ws := ws) (l := l) (τ := τ0 + ρ) (t := t - ρ) (by grind) (by
          cases e : holdQ P ws l (τ0 + ρ) with
          | none => trivial
          | some m =>
            rw [e] at hu
            have : t < ρ + m := hu
            show t - ρ < m
            grind)
        rw [show τ0 + ρ + (t - ρ) = τ0 + t by grind, g.2] at this
        rw [this]
        grind
theorem Straight.stop {P ws : List Rat} {l : List Stp} {τ0 ρ : Rat} (h : Straight P ws l τ0 (some ρ)) (g : ¬ goesOn P ws l τ0 ρ) : IsSide (fun t => rayQ P ws l (τ0 + t)) (rayQ P ws l τ0) (lineQ P ws l τ0).1 (lineQ P ws l τ0).2 (some ρ) := by
  refine ⟨by simp only [Rat.add_zero], h.pos, h.on, fun ρ1 e ρ' hρ => ?_⟩
  cases e
  apply Classical.byContradiction
  intro c
  have all : ∀ t, 0 < t → t < ρ' → rayQ P ws l (τ0 + t) = (lineQ P ws l τ0).1 + t * (lineQ P ws l τ0).2 := fun t h0 h1 => Classical.byContradiction fun z => c ⟨t, h0, h1, z⟩
  have p0 : 0 < ρ := h.pos
  refine g ⟨all ρ p0 hρ, ?_⟩
  have e := germ_eq (w := fun t => rayQ P ws l (τ0 + ρ + t)) (r := holdQ P ws l (τ0 + ρ)) (r' := some (ρ' - ρ)) (b := (lineQ P ws l (τ0 + ρ)).1) (s := (lineQ P ws l (τ0 + ρ)).2) (b' := (lineQ P ws l τ0).1 + ρ * (lineQ P ws l τ0).2) (s' := (lineQ P ws l τ0).2) (hold_pos _ _ _ _) (show 0 < ρ' - ρ by grind)
    (fun t h0 hu => ray_line h0 hu) (fun t h0 hu => by
      have hu : t < ρ' - ρ := hu
      have := all (ρ + t) (by grind) (by grind)
      rw [show τ0 + ρ + t = τ0 + (ρ + t) by grind, this]
      grind)
  exact Prod.ext e.1 e.2
theorem Straight.ever {P ws : List Rat} {l : List Stp} {τ0 : Rat} (h : Straight P ws l τ0 none) : IsSide (fun t => rayQ P ws l (τ0 + t)) (rayQ P ws l τ0) (lineQ P ws l τ0).1 (lineQ P ws l τ0).2 none :=
  ⟨by simp only [Rat.add_zero], trivial, h.on, fun ρ e => nomatch e⟩

end RF

end S_LJ3
section S_LJ4
set_option maxHeartbeats 4000000
namespace RF
open PySem PySem.Spec L2
local macro_rules
  | `(tactic| simp_arith [$ts,*]) => `(tactic| simp only [ee_var, ee_c, ee_glb, ee_neg, ee_nt, ee_bin, ee_cmp, ee_cmp2, ee_and, ee_or, ee_ife, ee_nil, ee_cons, ee_tup, ee_lst, ee_idx, ee_sl, ee_call, ee_callf, ee_rep, kRep_1, ee_lrg, ee_rev, rev_l, ex_sto, kSto, kSto1, kSto2, kSto3, put_lrg, put_rev, ee_bi, ee_isi, ee_comp, ee_fld, ee_mk, ee_isC, ee_meth, kMk_t, kMeth, kMeth1, kMeth2_t, fl_side, fl_pic, mk_side, mk_pic, mt_side, kVar_s, kNeg_i, kNot_b, kBin, kCmp, kCmp2, kCmpB, kCmpC_t, kCmpC_f, kAnd_t, kAnd_f, kOr_t, kOr_f, kIfe_t, kIfe_f, kCons, kPre_t, kTup_1, kTup_2, kTup_3, kTup_4, kTup_5, kTup_6, kLst_0, kLst_1, kLst_2, kLst_3, kLst_4, kLst_5, kLst_6, kIdx, kSl, kSl2, kSl3, kCall_t, kBi_t, kis, kIs_q, kComp, kComp2_ok, kList, turn_nil, turn_cmp, turn_and, turn_or, turn_nt, turn_isi, turn_call, turn_cmp2, turn_bi, kEl, kElc, kSome, kCd_t, kCd_f, ex_nil, ex_set, ex_own, ex_unp, ex_par, ex_par3, ex_ex, ex_ret, ex_reto, ex_retf, kReto, kRetf_l, kRetf2_cf, kRetf2_co, kRetf2_ls, kRetf2_sl, kRetf2_li, kRetf2_ad, put_cf, put_rep, ex_rai, ex_ite, ex_for, ex_whl, ex_app, ex_ext, ex_pas, ex_brk, ex_wip, kSet, kOwn, kPut, kUnp, kGo, kPar, kPar2, kPar3, kPar4, kTr, kTr2, kTr3, kTr4, kTr5, kTr6, kEx, kRet, kIte_t, kIte_f, kNx_n, kNx_b, kNx_r, kLoop_n, kLoop_r, kFor, kFor2_ok, kApp, kApp2_ok, kExt, kExt2_l, kExt3_ok, R.bind_ok, R.bind_exc, slot_0, slot_s, sd_v, sd_o, List.set_cons_zero, List.set_cons_succ, frz_def, frz_v, frz_n, frz_0, frz_o, hold_rng, hold_seq, hold_enum, hold_zip, it_zip, hold_v, hold_n, hold_0, hold_o, put_f, put_lst, put_sl, put_li, put_co, put_add, ev_lt, ev_le, ev_gt, ev_ge, ev_eq, ev_ne, ev_isN, ev_notN, eqD_int, eqD_pair, eqD_q, rb_len_t2, rb_len_t3, rb_len_t4, rb_len_l, len_q, rb_abs, rb_min, rb_list_l, rb_list_t, rb_tuple_l, rb_tuple_t, rb_all, rb_any, rb_sum, idx_t0, idx_t1, idx_t2, idx_t3, idx_q0, idx_q1, bin_add, bin_sub, out_rt, out_rl, outF_rl, out_nx, Bool.not_true, Bool.not_false, if_true, if_false, reduceIte, decide_true, decide_false, eq_self, Nat.reduceAdd, withO_s, Int.reduceLT, Int.reduceLE, Int.reduceEq, Int.reduceNeg, Int.reduceAdd, own_0, own_s, CE.men, Nat.reduceBEq, Bool.false_and, Bool.true_and, Bool.and_true, Bool.and_false, Bool.or_false, Bool.false_or, Bool.or_true, Bool.true_or, kqs, part_nil, part_c, part_v, part_neg, part_bin, part_bi, part_idx, sl_t41, sl_t43, it_l, it_t, it_enum, wipeS, bindT, bindL, Bool.false_eq_true, asL_l, Int.natCast_one, Int.natCast_zero, D.occ, D.occs, occ_q, List.length_map, $ts,*])
/-! how great the numbers of lines come -/
structure BigL (q Q V N : Nat) : Prop extends Par q Q V where
  sz : V * q ^ N * (Q * q ^ N) < 2 ^ 400
section
variable {q Q V N : Nat}
theorem BigL.of {n : Nat} {x : Rat} (B : BigL q Q V N) (h : Bd q Q V n x) (hn : n ≤ N) : Sz 400 x := (h.mono B.toPar hn).sz B.toPar B.sz
theorem Bd.neg {n : Nat} {x : Rat} (h : Bd q Q V n x) : Bd q Q V n (-x) := ⟨den_neg h.den, h.ab.neg⟩
theorem Bd.sub {n : Nat} {x y : Rat} (hp : Par q Q V) (h : Bd q Q V n x) (h' : Bd q Q V n y) : Bd q Q V (n + 1) (x - y) := by rw [Rat.sub_eq_add_neg]; exact Bd.add hp h h'.neg
/-- a number a and τ times b -/
def VB (q Q V : Nat) (τ : Rat) (n : Nat) (x : Rat) : Prop := ∃ a b, Bd q Q V n a ∧ Bd q Q V n b ∧ x = a + τ * b
def LB (q Q V : Nat) (τ : Rat) (n : Nat) (l : Ln) : Prop := ∃ a, Bd q Q V n a ∧ Bd q Q V n l.2 ∧ l.1 = a + τ * l.2
variable {τ : Rat}
theorem LB.mono {n m : Nat} {l : Ln} (hp : Par q Q V) (h : LB q Q V τ n l) (hm : n ≤ m) : LB q Q V τ m l := let ⟨a, h1, h2, h3⟩ := h; ⟨a, h1.mono hp hm, h2.mono hp hm, h3⟩
theorem lb_zero (hp : Par q Q V) (n : Nat) : LB q Q V τ n (0, 0) := ⟨0, bd_zero hp n, bd_zero hp n, by grind⟩
theorem LB.cst {x : Rat} (hp : Par q Q V) (h : Cq q x) (n : Nat) : LB q Q V τ n (x, 0) := ⟨x, .cst hp h n, bd_zero hp n, by grind⟩
theorem LB.add {n : Nat} {l k : Ln} (hp : Par q Q V) (h : LB q Q V τ n l) (h' : LB q Q V τ n k) : LB q Q V τ (n + 1) (l.1 + k.1, l.2 + k.2) :=
  let ⟨a, h1, h2, h3⟩ := h
  let ⟨b, g1, g2, g3⟩ := h'
  ⟨a + b, Bd.add hp h1 g1, Bd.add hp h2 g2, by grind⟩
theorem LB.sub {n : Nat} {l k : Ln} (hp : Par q Q V) (h : LB q Q V τ n l) (h' : LB q Q V τ n k) : LB q Q V τ (n + 1) (subL l k) :=
  let ⟨a, h1, h2, h3⟩ := h
  let ⟨b, g1, g2, g3⟩ := h'
  ⟨a - b, Bd.sub hp h1 g1, Bd.sub hp h2 g2, by simp only [subL]; grind⟩
theorem LB.mul {n : Nat} {x : Rat} {l : Ln} (hp : Par q Q V) (h : Cq q x) (h' : LB q Q V τ n l) : LB q Q V τ (n + 1) (x * l.1, x * l.2) :=
  let ⟨b, g1, g2, g3⟩ := h'
  ⟨x * b, Bd.mul hp h g1, Bd.mul hp h g2, by grind⟩
theorem LB.sz {n : Nat} {l : Ln} (B : BigL q Q V N) (ht : Sz 1690 τ) (h : LB q Q V τ n l) (hn : n ≤ N) : Sz 2491 l.1 ∧ Sz 400 l.2 := by
  obtain ⟨a, h1, h2, h3⟩ := h
  have s2 := B.of h2 hn
  refine ⟨?_, s2⟩
  rw [h3]
  exact (B.of h1 hn).add (ht.mul s2)
def szO (k : Nat) : Option Rat → Prop
  | none => True
  | some r => Sz k r
theorem szO.mono {k m : Nat} {o : Option Rat} (h : szO k o) (hm : k ≤ m) : szO m o := by
  cases o with
  | none => trivial
  | some r => exact Sz.mono h hm
theorem szO_soon {k : Nat} {a b : Option Rat} (ha : szO k a) (hb : szO k b) : szO k (soon a b) := by
  rcases soon_or a b with e | e <;> rw [e] <;> assumption
theorem LB.root {n : Nat} {l : Ln} (B : BigL q Q V N) (ht : Sz 1690 τ) (h : LB q Q V τ n l) (hn : n ≤ N) {ρ : Rat} (hr : (signL l).2 = some ρ) : Sz 800 (τ + ρ) ∧ Sz 2491 ρ := by
  obtain ⟨a, h1, h2, h3⟩ := h
  unfold signL at hr
  split at hr
  · cases hr
  · split at hr
    · cases hr
    · rename_i c1 c2
      have y0 : l.2 ≠ 0 := fun z => c2 (.inl z)
      simp only [Option.some.injEq] at hr
      have e : τ + ρ = (-a) / l.2 := by rw [← hr, h3]; grind
      have s1 : Sz 800 (τ + ρ) := by rw [e]; exact (B.of h1.neg hn).div (B.of h2 hn) y0
      refine ⟨s1, ?_⟩
      have := s1.sub ht
      rwa [show τ + ρ - τ = ρ by grind] at this
/-- where it ends is no great number -/
def rtO (τ : Rat) (o : Option Rat) : Prop := ∀ ρ, o = some ρ → Sz 800 (τ + ρ)
theorem rtO_soon {a b : Option Rat} (ha : rtO τ a) (hb : rtO τ b) : rtO τ (soon a b) := by
  rcases soon_or a b with e | e <;> rw [e] <;> assumption
theorem rtO.sz {o : Option Rat} (h : rtO τ o) (ht : Sz 1690 τ) : szO 3000 o := by
  cases o with
  | none => trivial
  | some ρ =>
    have := (h ρ rfl).sub ht
    rw [show τ + ρ - τ = ρ by grind] at this
    exact this.mono (by decide)
theorem LB.rootO {n : Nat} {l : Ln} (B : BigL q Q V N) (ht : Sz 1690 τ) (h : LB q Q V τ n l) (hn : n ≤ N) : rtO τ (signL l).2 := by
  exact fun ρ e => (h.root B ht hn e).1
/-- all lines of a row -/
def LBs (q Q V : Nat) (τ : Rat) (n : Nat) (f : List Ln) : Prop := ∀ x ∈ f, LB q Q V τ n x
theorem LBs.at {n : Nat} {f : List Ln} (hp : Par q Q V) (h : LBs q Q V τ n f) (i : Nat) : LB q Q V τ n (at2 f i) := by
  unfold at2
  rw [List.getD_eq_getElem?_getD]
  cases e : f[i]? with
  | none => exact lb_zero hp n
  | some x => exact h x (List.mem_of_getElem? e)
theorem LBs.mono {n m : Nat} {f : List Ln} (hp : Par q Q V) (h : LBs q Q V τ n f) (hm : n ≤ m) : LBs q Q V τ m f := fun x hx => (h x hx).mono hp hm
theorem LBs.push {n : Nat} {f : List Ln} {x : Ln} (h : LBs q Q V τ n f) (hx : LB q Q V τ n x) : LBs q Q V τ n (f ++ [x]) := fun y hy => by
  rcases List.mem_append.mp hy with hy | hy
  · exact h y hy
  · cases List.mem_singleton.mp hy; exact hx
theorem lnB_lb {n : Nat} {bg f : List Ln} {s : B1} (hp : Par q Q V) (hc : s.cq q) (h1 : LBs q Q V τ n bg) (h2 : LBs q Q V τ n f) : LB q Q V τ (n + 1) (lnB bg f s).1 := by
  cases s with
  | is x => exact .cst hp hc _
  | inp k => exact (h1.at hp k).mono hp (by omega)
  | sum i j => exact LB.add hp (h2.at hp i) (h2.at hp j)
  | «by» x i => exact LB.mul hp hc (h2.at hp i)
  | least i j => simp only [lnB]; split <;> exact (h2.at hp _).mono hp (by omega)
  | most i j => simp only [lnB]; split <;> exact (h2.at hp _).mono hp (by omega)
  | iff i j k => simp only [lnB]; split <;> exact (h2.at hp _).mono hp (by omega)
theorem lnB_sz {n : Nat} {bg f : List Ln} {s : B1} (B : BigL q Q V N) (ht : Sz 1690 τ) (h2 : LBs q Q V τ n f) (hn : n + 1 ≤ N) : rtO τ (lnB bg f s).2 := by
  cases s with
  | least i j => exact (LB.sub B.toPar (h2.at B.toPar i) (h2.at B.toPar j)).rootO B ht hn
  | most i j => exact (LB.sub B.toPar (h2.at B.toPar i) (h2.at B.toPar j)).rootO B ht hn
  | iff i j k => exact (h2.at B.toPar i).rootO B ht (by omega)
  | _ => exact fun ρ e => nomatch e
theorem foldL_take {α : Type} (ln : List Ln → α → Ln × Option Rat) {l : List α} {i : Nat} {s : α} (h : l[i]? = some s) : foldL ln (l.take (i + 1)) = ((foldL ln (l.take i)).1 ++ [(ln (foldL ln (l.take i)).1 s).1], soon (foldL ln (l.take i)).2 (ln (foldL ln (l.take i)).1 s).2) := by rw [take_snoc h, foldL_snoc]
theorem lnsB_lb {n : Nat} {bg : List Ln} {l : List B1} (B : BigL q Q V N) (ht : Sz 1690 τ) (hc : cqB q l) (h1 : LBs q Q V τ n bg) (hn : n + l.length ≤ N) : ∀ i ≤ l.length, LBs q Q V τ (n + i) (foldL (lnB bg) (l.take i)).1 ∧ rtO τ (foldL (lnB bg) (l.take i)).2 := by
  intro i
  induction i with
  | zero => intro _; exact ⟨(fun x hx => nomatch hx), (fun ρ e => nomatch e)⟩
  | succ i ih =>
    intro hi
    have hs : l[i]? = some l[i] := List.getElem?_eq_getElem (by omega)
    rw [foldL_take _ hs]
    obtain ⟨a, b⟩ := ih (by omega)
    exact ⟨(a.mono B.toPar (by omega)).push (lnB_lb B.toPar (hc _ (List.mem_of_getElem? hs)) (h1.mono B.toPar (by omega : n ≤ n + i)) a), rtO_soon b (lnB_sz B ht a (by omega))⟩
theorem lnT_lb {n : Nat} {w : Ln} {b : List B1} (B : BigL q Q V N) (ht : Sz 1690 τ) (hc : cqB q b) (h1 : LB q Q V τ n w) : ∀ m, n + m * b.length ≤ N → LB q Q V τ (n + m * b.length) (lnT b m w).1 ∧ rtO τ (lnT b m w).2
  | 0, _ => by rw [Nat.zero_mul]; exact ⟨h1, (fun ρ e => nomatch e)⟩
  | m + 1, h => by
    rw [Nat.succ_mul] at h
    obtain ⟨a, c⟩ := lnT_lb B ht hc h1 m (by omega)
    obtain ⟨d, e⟩ := lnsB_lb B ht hc (bg := [(lnT b m w).1]) (fun x hx => by cases List.mem_singleton.mp hx; exact a) (by omega) b.length (Nat.le_refl _)
    rw [List.take_length] at d e
    refine ⟨?_, rtO_soon c e⟩
    rw [Nat.succ_mul, ← Nat.add_assoc]
    exact d.at B.toPar _
theorem lnS_lb {n : Nat} {bg f : List Ln} {s : Stp} (B : BigL q Q V N) (ht : Sz 1690 τ) (hc : s.cq q) (h1 : LBs q Q V τ n bg) (h2 : LBs q Q V τ n f) (hn : n + s.run ≤ N) : LB q Q V τ (n + s.run) (lnS bg f s).1 ∧ rtO τ (lnS bg f s).2 := by
  cases s with
  | b s => exact ⟨lnB_lb B.toPar hc h1 h2, lnB_sz B ht h2 hn⟩
  | turns m i b =>
    simp only [Stp.run] at hn ⊢
    obtain ⟨a, c⟩ := lnT_lb B ht hc (h2.at B.toPar i) m (by omega)
    exact ⟨a.mono B.toPar (by omega), c⟩
theorem lnsS_lb {n : Nat} {bg : List Ln} {l : List Stp} (B : BigL q Q V N) (ht : Sz 1690 τ) (hc : cqS q l) (h1 : LBs q Q V τ n bg) (hn : n + runS l ≤ N) : ∀ i ≤ l.length, LBs q Q V τ (n + runS (l.take i)) (foldL (lnS bg) (l.take i)).1 ∧ rtO τ (foldL (lnS bg) (l.take i)).2 := by
  intro i
  induction i with
  | zero => intro _; exact ⟨(fun x hx => nomatch hx), (fun ρ e => nomatch e)⟩
  | succ i ih =>
    intro hi
    have hs : l[i]? = some l[i] := List.getElem?_eq_getElem (by omega)
    rw [foldL_take _ hs]
    obtain ⟨a, b⟩ := ih (by omega)
    have e : runS (l.take (i + 1)) = runS (l.take i) + l[i].run := by unfold runS; rw [sum_take Stp.run hs]
    have r := runS_le hs
    obtain ⟨c, d⟩ := lnS_lb B ht (hc _ (List.mem_of_getElem? hs)) (h1.mono B.toPar (by omega : n ≤ n + runS (l.take i))) a (by omega)
    rw [e, ← Nat.add_assoc]
    exact ⟨(a.mono B.toPar (by omega)).push c, rtO_soon b d⟩
end
/-! a family of numbers that grows -/
structure Fam (q N : Nat) (P : Nat → Rat → Prop) : Prop where
  mono : ∀ {n m : Nat} {x : Rat}, P n x → n ≤ m → P m x
  zero : ∀ n, P n 0
  cst : ∀ {x : Rat} (n : Nat), Cq q x → P n x
  add : ∀ {n : Nat} {x y : Rat}, P n x → P n y → P (n + 1) (x + y)
  mul : ∀ {n : Nat} {c x : Rat}, Cq q c → P n x → P (n + 1) (c * x)
  sz : ∀ {n : Nat} {x : Rat}, P n x → n ≤ N → Sz 3000 x
section
variable {q N : Nat} {P : Nat → Rat → Prop}
def AllP (P : Nat → Rat → Prop) (n : Nat) (l : List Rat) : Prop := ∀ x ∈ l, P n x
theorem AllP.at {n : Nat} {l : List Rat} (F : Fam q N P) (h : AllP P n l) (i : Nat) : P n (at0 l i) := by
  unfold at0
  rw [List.getD_eq_getElem?_getD]
  cases e : l[i]? with
  | none => exact F.zero n
  | some x => exact h x (List.mem_of_getElem? e)
theorem AllP.mono {n m : Nat} {l : List Rat} (F : Fam q N P) (h : AllP P n l) (hm : n ≤ m) : AllP P m l := fun x hx => F.mono (h x hx) hm
theorem AllP.push {n : Nat} {l : List Rat} {x : Rat} (h : AllP P n l) (hx : P n x) : AllP P n (l ++ [x]) := fun y hy => by
  rcases List.mem_append.mp hy with hy | hy
  · exact h y hy
  · cases List.mem_singleton.mp hy; exact hx
theorem evB_P {n : Nat} {ps f : List Rat} {s : B1} (F : Fam q N P) (hc : s.cq q) (h1 : AllP P n ps) (h2 : AllP P n f) : P (n + 1) (evB ps f s) := by
  cases s with
  | is x => exact F.cst _ hc
  | inp k => exact F.mono (h1.at F k) (by omega)
  | sum i j => exact F.add (h2.at F i) (h2.at F j)
  | «by» x i => exact F.mul hc (h2.at F i)
  | least i j => simp only [evB]; split <;> exact F.mono (h2.at F _) (by omega)
  | most i j => simp only [evB]; split <;> exact F.mono (h2.at F _) (by omega)
  | iff i j k => simp only [evB]; split <;> exact F.mono (h2.at F _) (by omega)
theorem runB_P {n : Nat} {ps : List Rat} (F : Fam q N P) {l : List B1} (hc : cqB q l) (h1 : AllP P n ps) : ∀ i ≤ l.length, AllP P (n + i) (runB ps (l.take i)) := by
  intro i
  induction i with
  | zero => intro _ x hx; exact nomatch hx
  | succ i ih =>
    intro hi
    have hs : l[i]? = some l[i] := List.getElem?_eq_getElem (by omega)
    rw [runB_take hs]
    have a := ih (by omega)
    exact (a.mono F (by omega)).push (evB_P F (hc _ (List.mem_of_getElem? hs)) (h1.mono F (by omega : n ≤ n + i)) a)
theorem turnsQ_P {n : Nat} {w : Rat} (F : Fam q N P) {l : List B1} (hc : cqB q l) (h1 : P n w) : ∀ m, P (n + m * l.length) (turnsQ l m w)
  | 0 => by rw [Nat.zero_mul]; exact h1
  | m + 1 => by
    have := runB_P F hc (ps := [turnsQ l m w]) (fun x hx => by cases List.mem_singleton.mp hx; exact turnsQ_P F hc h1 m) l.length (Nat.le_refl _)
    rw [List.take_length] at this
    rw [show n + (m + 1) * l.length = n + m * l.length + l.length by rw [Nat.succ_mul]; omega]
    exact this.at F _
theorem evS_P {n : Nat} {ps f : List Rat} {s : Stp} (F : Fam q N P) (hc : s.cq q) (h1 : AllP P n ps) (h2 : AllP P n f) : P (n + s.run) (evS ps f s) := by
  cases s with
  | b s => exact evB_P F hc h1 h2
  | turns m i l => exact F.mono (turnsQ_P F hc (h2.at F i) m) (by simp only [Stp.run]; omega)
theorem wS_P {n : Nat} {ps : List Rat} (F : Fam q N P) {l : List Stp} (hc : cqS q l) (h1 : AllP P n ps) : ∀ i ≤ l.length, AllP P (n + runS (l.take i)) (wS ps (l.take i)) := by
  intro i
  induction i with
  | zero => intro _ x hx; exact nomatch hx
  | succ i ih =>
    intro hi
    have hs : l[i]? = some l[i] := List.getElem?_eq_getElem (by omega)
    rw [wS_take hs]
    have a := ih (by omega)
    have b := evS_P F (hc _ (List.mem_of_getElem? hs)) (h1.mono F (by omega : n ≤ n + runS (l.take i))) a
    have e : runS (l.take (i + 1)) = runS (l.take i) + l[i].run := by unfold runS; rw [sum_take Stp.run hs]
    rw [e, ← Nat.add_assoc]
    exact (a.mono F (by omega)).push b
theorem fitB_P {l : List B1} {ps : List Rat} {m : Nat} (F : Fam q N P) (hok : okB ps.length l) (hc : cqB q l) (h1 : AllP P m ps) (hm : m + l.length ≤ N) : FitB ps l := fun i s hs => by
  have hi := (List.getElem?_eq_some_iff.mp hs).1
  have o := B1.ok_ix (hok.2.2 i s hs)
  exact ⟨o.2, o.1, fun x hx => F.sz (runB_P F hc h1 i (by omega) x hx) (by omega)⟩
theorem fitS_P {l : List Stp} {ps : List Rat} {m : Nat} (F : Fam q N P) (hok : okS ps.length l) (hc : cqS q l) (h1 : AllP P m ps) (hm : m + runS l ≤ N) : FitS ps l := fun i s hs => by
  have hi := (List.getElem?_eq_some_iff.mp hs).1
  have r := runS_le hs
  have bd := wS_P F hc h1 i (by omega)
  refine ⟨fun x hx => F.sz (bd x hx) (by omega), ?_⟩
  have o := hok.2.2 i s hs
  have c := hc s (List.mem_of_getElem? hs)
  cases s with
  | b s => have o := B1.ok_ix o; exact ⟨o.2, o.1⟩
  | turns k j b =>
    simp only [Stp.run] at r
    have ok := o.2.2
    refine ⟨o.2.1, ok.1, by have := ok.2.1; omega, by have := o.1; omega, fun j' hj => ?_⟩
    have hb := turnsQ_P F c (bd.at F j) j'
    have jl : j' * b.length + b.length ≤ k * b.length := by rw [← Nat.succ_mul]; exact Nat.mul_le_mul_right _ hj
    exact fitB_P F ok c (fun x hx => by cases List.mem_singleton.mp hx; exact hb) (by omega)
theorem allZ_P {l : List Stp} {ps : List Rat} {m : Nat} (F : Fam q N P) (hc : cqS q l) (h1 : AllP P m ps) (hm : m + runS l ≤ N) : ∀ x ∈ wS ps l, P (m + runS l) x := by
  have := wS_P F hc h1 l.length (Nat.le_refl _)
  rwa [List.take_length] at this
end
section
variable {q Q V N : Nat} {τ : Rat}
theorem VB.sz {n : Nat} {x : Rat} (B : BigL q Q V N) (ht : Sz 2190 τ) (h : VB q Q V τ n x) (hn : n ≤ N) : Sz 2991 x := by
  obtain ⟨a, b, h1, h2, h3⟩ := h
  rw [h3]
  exact (B.of h1 hn).add (ht.mul (B.of h2 hn))
theorem famV (B : BigL q Q V N) (ht : Sz 2190 τ) : Fam q N (VB q Q V τ) where
  mono := fun ⟨a, b, h1, h2, h3⟩ hm => ⟨a, b, h1.mono B.toPar hm, h2.mono B.toPar hm, h3⟩
  zero := fun n => ⟨0, 0, bd_zero B.toPar n, bd_zero B.toPar n, by grind⟩
  cst := fun {x} n h => ⟨x, 0, .cst B.toPar h n, bd_zero B.toPar n, by grind⟩
  add := fun {n x y} ⟨a, b, h1, h2, h3⟩ ⟨a', b', g1, g2, g3⟩ => ⟨a + a', b + b', Bd.add B.toPar h1 g1, Bd.add B.toPar h2 g2, by grind⟩
  mul := fun {n c x} hc ⟨a, b, h1, h2, h3⟩ => ⟨c * a, c * b, Bd.mul B.toPar hc h1, Bd.mul B.toPar hc h2, by grind⟩
  sz := fun h hn => (VB.sz B ht h hn).mono (by decide)
end

end RF

end S_LJ4
section S_LJ5
set_option maxHeartbeats 4000000
namespace RF
open PySem PySem.Spec L2
local macro_rules
  | `(tactic| simp_arith [$ts,*]) => `(tactic| simp only [ee_var, ee_c, ee_glb, ee_neg, ee_nt, ee_bin, ee_cmp, ee_cmp2, ee_and, ee_or, ee_ife, ee_nil, ee_cons, ee_tup, ee_lst, ee_idx, ee_sl, ee_call, ee_callf, ee_rep, kRep_1, ee_lrg, ee_rev, rev_l, ex_sto, kSto, kSto1, kSto2, kSto3, put_lrg, put_rev, ee_bi, ee_isi, ee_comp, ee_fld, ee_mk, ee_isC, ee_meth, kMk_t, kMeth, kMeth1, kMeth2_t, fl_side, fl_pic, mk_side, mk_pic, mt_side, kVar_s, kNeg_i, kNot_b, kBin, kCmp, kCmp2, kCmpB, kCmpC_t, kCmpC_f, kAnd_t, kAnd_f, kOr_t, kOr_f, kIfe_t, kIfe_f, kCons, kPre_t, kTup_1, kTup_2, kTup_3, kTup_4, kTup_5, kTup_6, kLst_0, kLst_1, kLst_2, kLst_3, kLst_4, kLst_5, kLst_6, kIdx, kSl, kSl2, kSl3, kCall_t, kBi_t, kis, kIs_q, kComp, kComp2_ok, kList, turn_nil, turn_cmp, turn_and, turn_or, turn_nt, turn_isi, turn_call, turn_cmp2, turn_bi, kEl, kElc, kSome, kCd_t, kCd_f, ex_nil, ex_set, ex_own, ex_unp, ex_par, ex_par3, ex_ex, ex_ret, ex_reto, ex_retf, kReto, kRetf_l, kRetf2_cf, kRetf2_co, kRetf2_ls, kRetf2_sl, kRetf2_li, kRetf2_ad, put_cf, put_rep, ex_rai, ex_ite, ex_for, ex_whl, ex_app, ex_ext, ex_pas, ex_brk, ex_wip, kSet, kOwn, kPut, kUnp, kGo, kPar, kPar2, kPar3, kPar4, kTr, kTr2, kTr3, kTr4, kTr5, kTr6, kEx, kRet, kIte_t, kIte_f, kNx_n, kNx_b, kNx_r, kLoop_n, kLoop_r, kFor, kFor2_ok, kApp, kApp2_ok, kExt, kExt2_l, kExt3_ok, R.bind_ok, R.bind_exc, slot_0, slot_s, sd_v, sd_o, List.set_cons_zero, List.set_cons_succ, frz_def, frz_v, frz_n, frz_0, frz_o, hold_rng, hold_seq, hold_enum, hold_zip, it_zip, hold_v, hold_n, hold_0, hold_o, put_f, put_lst, put_sl, put_li, put_co, put_add, ev_lt, ev_le, ev_gt, ev_ge, ev_eq, ev_ne, ev_isN, ev_notN, eqD_int, eqD_pair, eqD_q, rb_len_t2, rb_len_t3, rb_len_t4, rb_len_l, len_q, rb_abs, rb_min, rb_list_l, rb_list_t, rb_tuple_l, rb_tuple_t, rb_all, rb_any, rb_sum, idx_t0, idx_t1, idx_t2, idx_t3, idx_q0, idx_q1, bin_add, bin_sub, out_rt, out_rl, outF_rl, out_nx, Bool.not_true, Bool.not_false, if_true, if_false, reduceIte, decide_true, decide_false, eq_self, Nat.reduceAdd, withO_s, Int.reduceLT, Int.reduceLE, Int.reduceEq, Int.reduceNeg, Int.reduceAdd, own_0, own_s, CE.men, Nat.reduceBEq, Bool.false_and, Bool.true_and, Bool.and_true, Bool.and_false, Bool.or_false, Bool.false_or, Bool.or_true, Bool.true_or, kqs, part_nil, part_c, part_v, part_neg, part_bin, part_bi, part_idx, sl_t41, sl_t43, it_l, it_t, it_enum, wipeS, bindT, bindL, Bool.false_eq_true, asL_l, Int.natCast_one, Int.natCast_zero, D.occ, D.occs, occ_q, List.length_map, $ts,*])
variable {tab : List Fn} [Ext tab]
def lnD (l : Ln) : RF.D := .tup [qD l.1, qD l.2]
def lnsD (f : List Ln) : RF.D := .lst (f.map lnD)
def oD : Option Rat → RF.D
  | none => .non
  | some r => qD r
theorem isN_q (x : Rat) : (qD x).isNon = false := rfl
theorem isN_n : D.isNon .non = true := rfl
theorem num_0 (x : Rat) : (x.num = 0) = (x = 0) := by
  apply propext
  exact Rat.num_eq_zero
theorem sooner_ok (n : Nat) {a b : Option Rat} (ha : szO 3000 a) (hb : szO 3000 b) : CF tab (n + 2) f_sooner [oD a, oD b] = .ok (oD (soon a b)) := by
  rw [go_sooner]
  cases a with
  | none => simp_arith [b_sooner, oD, soon, isN_n]
  | some a =>
    cases b with
    | none => simp_arith [b_sooner, oD, soon, isN_n, isN_q]
    | some b =>
      by_cases c : a ≤ b
      · have e : soon (some a) (some b) = some a := if_pos c
        have d : decide (osgn a b ≤ 0) = true := decide_eq_true (by rw [osgn_le]; exact c)
        rw [e]
        simp_arith [b_sooner, oD, isN_n, isN_q, lies_q (tab := tab) n (show Sz 3000 a from ha) (show Sz 3000 b from hb), d]
      · have e : soon (some a) (some b) = some b := if_neg c
        have d : decide (osgn a b ≤ 0) = false := decide_eq_false (by rw [osgn_le]; exact c)
        rw [e]
        simp_arith [b_sooner, oD, isN_n, isN_q, lies_q (tab := tab) n (show Sz 3000 a from ha) (show Sz 3000 b from hb), d]
theorem q_0 : (RF.D.tup [.int 0, .int 1]) = qD 0 := rfl
theorem q_1 : (RF.D.tup [.int 1, .int 1]) = qD 1 := rfl
theorem sign_of_ok (n : Nat) {l : Ln} (h1 : Sz 2500 l.1) (h2 : Sz 3000 l.2) : CF tab (n + 4) f_sign_of [lnD l] = .ok (.tup [.int (signL l).1, oD (signL l).2]) := by
  rw [go_sign_of]
  have e1 := lies_q (tab := tab) (n + 2) (h1.mono (by decide) : Sz 3000 l.1) sz_0
  have e2 := lies_q (tab := tab) (n + 2) h2 sz_0
  have hz : Sz 0 (0 : Rat) → True := fun _ => trivial
  have s0 : Sz 1 (0 : Rat) := ⟨by decide, by decide⟩
  have e3 := cut_q (tab := tab) n (x := 0) (y := l.1) sz_0 (h1.mono (by decide))
  have s3 : Sz 3000 (0 - l.1) := (s0.sub h1).mono (by decide)
  by_cases c1 : l.1 = 0
  · have d : decide (l.1.num = 0) = true := decide_eq_true (by rw [num_0]; exact c1)
    have e : signL l = (osgn l.2 0, none) := if_pos c1
    simp_arith [b_sign_of, lnD, gl_NOUGHT, q_0, e2, d, e, oD]
  · have d : decide (l.1.num = 0) = false := decide_eq_false (by rw [num_0]; exact c1)
    by_cases c2 : l.2 = 0
    · have d2 : decide (l.2.num = 0) = true := decide_eq_true (by rw [num_0]; exact c2)
      have e : signL l = (osgn l.1 0, none) := by unfold signL; rw [if_neg c1, if_pos (.inl c2)]
      simp_arith [b_sign_of, lnD, gl_NOUGHT, q_0, e1, e2, d, d2, e, oD]
    · have d2 : decide (l.2.num = 0) = false := decide_eq_false (by rw [num_0]; exact c2)
      by_cases c3 : osgn l.2 0 = osgn l.1 0
      · have e : signL l = (osgn l.1 0, none) := by unfold signL; rw [if_neg c1, if_pos (.inr c3)]
        simp_arith [b_sign_of, lnD, gl_NOUGHT, q_0, e1, e2, d, d2, e, oD, c3]
      · have e : signL l = (osgn l.1 0, some ((0 - l.1) / l.2)) := by unfold signL; rw [if_neg c1, if_neg (fun z => z.elim c2 c3)]
        have e4 := part_q (tab := tab) n s3 h2 c2
        simp_arith [b_sign_of, lnD, gl_NOUGHT, q_0, e1, e2, e3, e4, d, d2, e, oD, c3]
theorem idx_lns {f : List Ln} {i : Nat} (h : i < f.length) : evIdx (lnsD f) (.int (i : Int)) = .ok (lnD (at2 f i)) := by
  refine idx_l ?_
  rw [atI_nat, List.getElem?_map, List.getElem?_eq_getElem h]
  simp only [at2, Option.map_some, List.getD_eq_getElem?_getD, List.getElem?_eq_getElem h, Option.getD_some]
theorem idx_lm1 {f : List Ln} (h : 0 < f.length) : evIdx (lnsD f) (.int (-1)) = .ok (lnD (lastL f)) := by
  refine idx_l ?_
  rw [atI_m1 _ (by rw [List.length_map]; exact h), List.getElem?_map, List.length_map, List.getElem?_eq_getElem (by omega)]
  simp only [lastL, at2, Option.map_some, List.getD_eq_getElem?_getD, List.getElem?_eq_getElem (show f.length - 1 < f.length by omega), Option.getD_some]
section
variable {q Q V N : Nat} {τ : Rat}
theorem line_of_b (n : Nat) {s : B1} {bg f : List Ln} {m : Nat} (B : BigL q Q V N) (ht : Sz 1690 τ) (hok : s.ok f.length bg.length) (hc : s.cq q) (h2 : LBs q Q V τ m f) (hm : m + 1 ≤ N) : CF tab (n + 5) f_line_of [s.D, lnsD f, lnsD bg] = .ok (.tup [lnD (lnB bg f s).1, oD (lnB bg f s).2]) := by
  rw [go_line_of]
  have S : ∀ i, Sz 2491 (at2 f i).1 ∧ Sz 400 (at2 f i).2 := fun i => (h2.at B.toPar i).sz B ht (by omega)
  have S1 : ∀ i, Sz 3000 (at2 f i).1 := fun i => (S i).1.mono (by decide)
  have S2 : ∀ i, Sz 3000 (at2 f i).2 := fun i => (S i).2.mono (by decide)
  cases s with
  | is x => simp_arith [b_line_of, B1.D, lnB, gl_NOUGHT, q_0, oD, lnD]
  | inp k => simp_arith [b_line_of, B1.D, lnB, idx_lns (f := bg) (i := k) hok, oD]
  | sum i j =>
    simp_arith [b_line_of, B1.D, lnB, idx_lns hok.1, idx_lns hok.2, oD]
    simp_arith [lnD, add_q _ (S1 i) (S1 j), add_q _ (S2 i) (S2 j)]
  | «by» x i =>
    have sx : Sz 3000 x := (B.of (.cst B.toPar hc 0) (Nat.zero_le _)).mono (by decide)
    simp_arith [b_line_of, B1.D, lnB, idx_lns hok.2, oD]
    simp_arith [lnD, grow_q _ sx (S1 i), grow_q _ sx (S2 i)]
  | least i j =>
    have D1 := (LB.sub B.toPar (h2.at B.toPar i) (h2.at B.toPar j)).sz B ht hm
    have e := sign_of_ok (tab := tab) n (l := subL (at2 f i) (at2 f j)) (D1.1.mono (by decide)) (D1.2.mono (by decide))
    simp only [lnD, subL] at e
    by_cases c : (signL (subL (at2 f i) (at2 f j))).1 ≤ 0
    · simp_arith [b_line_of, B1.D, lnB, idx_lns hok.1, idx_lns hok.2]
      simp_arith [lnD, cut_q _ (S1 i) (S1 j), cut_q _ (S2 i) (S2 j), e]
      simp only [subL] at c
      simp_arith [subL, c, eqD_bl, beq_self_eq_true]
    · simp_arith [b_line_of, B1.D, lnB, idx_lns hok.1, idx_lns hok.2]
      simp_arith [lnD, cut_q _ (S1 i) (S1 j), cut_q _ (S2 i) (S2 j), e]
      simp only [subL] at c
      simp_arith [subL, c, eqD_bl, show (false == true) = false from rfl]
  | most i j =>
    have D1 := (LB.sub B.toPar (h2.at B.toPar i) (h2.at B.toPar j)).sz B ht hm
    have e := sign_of_ok (tab := tab) n (l := subL (at2 f i) (at2 f j)) (D1.1.mono (by decide)) (D1.2.mono (by decide))
    simp only [lnD, subL] at e
    by_cases c : (signL (subL (at2 f i) (at2 f j))).1 ≤ 0
    · simp_arith [b_line_of, B1.D, lnB, idx_lns hok.1, idx_lns hok.2]
      simp_arith [lnD, cut_q _ (S1 i) (S1 j), cut_q _ (S2 i) (S2 j), e]
      simp only [subL] at c
      simp_arith [subL, c, eqD_bl, show (true == false) = false from rfl]
    · simp_arith [b_line_of, B1.D, lnB, idx_lns hok.1, idx_lns hok.2]
      simp_arith [lnD, cut_q _ (S1 i) (S1 j), cut_q _ (S2 i) (S2 j), e]
      simp only [subL] at c
      simp_arith [subL, c, eqD_bl, beq_self_eq_true]
  | iff i j k =>
    have e := sign_of_ok (tab := tab) n (l := at2 f i) ((S i).1.mono (by decide)) (S2 i)
    by_cases c : (signL (at2 f i)).1 ≤ 0
    · simp_arith [b_line_of, B1.D, lnB, idx_lns hok.1, idx_lns hok.2.1, idx_lns hok.2.2, e, c]
    · simp_arith [b_line_of, B1.D, lnB, idx_lns hok.1, idx_lns hok.2.1, idx_lns hok.2.2, e, c]
end

end RF

end S_LJ5
section S_LJ6
set_option maxHeartbeats 4000000
namespace RF
open PySem PySem.Spec L2
local macro_rules
  | `(tactic| simp_arith [$ts,*]) => `(tactic| simp only [ee_var, ee_c, ee_glb, ee_neg, ee_nt, ee_bin, ee_cmp, ee_cmp2, ee_and, ee_or, ee_ife, ee_nil, ee_cons, ee_tup, ee_lst, ee_idx, ee_sl, ee_call, ee_callf, ee_rep, kRep_1, ee_lrg, ee_rev, rev_l, ex_sto, kSto, kSto1, kSto2, kSto3, put_lrg, put_rev, ee_bi, ee_isi, ee_comp, ee_fld, ee_mk, ee_isC, ee_meth, kMk_t, kMeth, kMeth1, kMeth2_t, fl_side, fl_pic, mk_side, mk_pic, mt_side, kVar_s, kNeg_i, kNot_b, kBin, kCmp, kCmp2, kCmpB, kCmpC_t, kCmpC_f, kAnd_t, kAnd_f, kOr_t, kOr_f, kIfe_t, kIfe_f, kCons, kPre_t, kTup_1, kTup_2, kTup_3, kTup_4, kTup_5, kTup_6, kLst_0, kLst_1, kLst_2, kLst_3, kLst_4, kLst_5, kLst_6, kIdx, kSl, kSl2, kSl3, kCall_t, kBi_t, kis, kIs_q, kComp, kComp2_ok, kList, turn_nil, turn_cmp, turn_and, turn_or, turn_nt, turn_isi, turn_call, turn_cmp2, turn_bi, kEl, kElc, kSome, kCd_t, kCd_f, ex_nil, ex_set, ex_own, ex_unp, ex_par, ex_par3, ex_ex, ex_ret, ex_reto, ex_retf, kReto, kRetf_l, kRetf2_cf, kRetf2_co, kRetf2_ls, kRetf2_sl, kRetf2_li, kRetf2_ad, put_cf, put_rep, ex_rai, ex_ite, ex_for, ex_whl, ex_app, ex_ext, ex_pas, ex_brk, ex_wip, kSet, kOwn, kPut, kUnp, kGo, kPar, kPar2, kPar3, kPar4, kTr, kTr2, kTr3, kTr4, kTr5, kTr6, kEx, kRet, kIte_t, kIte_f, kNx_n, kNx_b, kNx_r, kLoop_n, kLoop_r, kFor, kFor2_ok, kApp, kApp2_ok, kExt, kExt2_l, kExt3_ok, R.bind_ok, R.bind_exc, slot_0, slot_s, sd_v, sd_o, List.set_cons_zero, List.set_cons_succ, frz_def, frz_v, frz_n, frz_0, frz_o, hold_rng, hold_seq, hold_enum, hold_zip, it_zip, hold_v, hold_n, hold_0, hold_o, put_f, put_lst, put_sl, put_li, put_co, put_add, ev_lt, ev_le, ev_gt, ev_ge, ev_eq, ev_ne, ev_isN, ev_notN, eqD_int, eqD_pair, eqD_q, rb_len_t2, rb_len_t3, rb_len_t4, rb_len_l, len_q, rb_abs, rb_min, rb_list_l, rb_list_t, rb_tuple_l, rb_tuple_t, rb_all, rb_any, rb_sum, idx_t0, idx_t1, idx_t2, idx_t3, idx_q0, idx_q1, bin_add, bin_sub, out_rt, out_rl, outF_rl, out_nx, Bool.not_true, Bool.not_false, if_true, if_false, reduceIte, decide_true, decide_false, eq_self, Nat.reduceAdd, withO_s, Int.reduceLT, Int.reduceLE, Int.reduceEq, Int.reduceNeg, Int.reduceAdd, own_0, own_s, CE.men, Nat.reduceBEq, Bool.false_and, Bool.true_and, Bool.and_true, Bool.and_false, Bool.or_false, Bool.false_or, Bool.or_true, Bool.true_or, kqs, part_nil, part_c, part_v, part_neg, part_bin, part_bi, part_idx, sl_t41, sl_t43, it_l, it_t, it_enum, wipeS, bindT, bindL, Bool.false_eq_true, asL_l, Int.natCast_one, Int.natCast_zero, D.occ, D.occs, occ_q, List.length_map, $ts,*])
variable {tab : List Fn} [Ext tab]
section
variable {q Q V N : Nat} {τ : Rat}
theorem lines_round (n : Nat) {F : RF.D} {S bgd : RF.D} {f : List Ln} {r : Option Rat} {x : Ln} {y : Option Rat} (hl : f.length < lim) (e1 : CF tab n f_line_of [F, lnsD f, bgd] = .ok (.tup [lnD x, oD y])) (e2 : CF tab n f_sooner [oD r, oD y] = .ok (oD (soon r y))) :
    exec (TB tab n) FU l_lines_of_0 [.val S, .val bgd, .own (f.map lnD), .val (oD r), .val F, .no, .no] = .ok (.nx [.val S, .val bgd, .own ((f ++ [x]).map lnD), .val (oD (soon r y)), .no, .no, .no]) := by
  have o : D.occ (f.map lnD) (lnD x) = false := rfl
  have o2 : D.occ (f.map lnD) (oD y) = false := by cases y <;> rfl
  have e0 : RF.D.lst (f.map lnD) = lnsD f := rfl
  simp_arith [l_lines_of_0, e0, e1, e2, o, o2, hl, List.map_append, List.map_cons, List.map_nil]
theorem lines_of_b (n : Nat) {l : List B1} {bg : List Ln} {m : Nat} (B : BigL q Q V N) (ht : Sz 1690 τ) (hok : okB bg.length l) (hc : cqB q l) (h1 : LBs q Q V τ m bg) (hm : m + l.length ≤ N) : CF tab (n + 6) f_lines_of [.lst (l.map B1.D), lnsD bg] = .ok (.tup [lnsD (lnsB bg l).1, oD (lnsB bg l).2]) := by
  rw [go_lines_of]
  have ll : l.length ≤ lim := by have := hok.2.1; unfold lim; omega
  have lp := loop_map (F := B1.D) (g := .nm 4) (f := exec (TB tab (n + 5)) FU l_lines_of_0) (l := l) (fun i => [.val (.lst (l.map B1.D)), .val (lnsD bg), .own ((foldL (lnB bg) (l.take i)).1.map lnD), .val (oD (foldL (lnB bg) (l.take i)).2), .no, .no, .no]) (fun i s hs => by
    refine ⟨_, rfl, ?_⟩
    have hi := (List.getElem?_eq_some_iff.mp hs).1
    have ln : (foldL (lnB bg) (l.take i)).1.length = i := by rw [foldL_len, List.length_take]; omega
    obtain ⟨a, b⟩ := lnsB_lb B ht hc h1 hm i (by omega)
    have e1 := line_of_b (tab := tab) n (s := s) B ht (bg := bg) (by rw [ln]; exact hok.2.2 i s hs) (hc s (List.mem_of_getElem? hs)) a (by omega)
    have e2 := sooner_ok (tab := tab) (n + 3) (b.sz ht) ((lnB_sz (bg := bg) (s := s) B ht a (by omega)).sz ht)
    have e3 := lines_round (tab := tab) (n + 5) (S := .lst (l.map B1.D)) (bgd := lnsD bg) (by rw [ln]; omega) e1 e2
    rw [foldL_take _ hs]
    exact e3)
  simp only [List.take_zero, List.take_length, foldL, List.foldl_nil, List.map_nil, oD] at lp
  simp_arith [b_lines_of, ll, lp]
  rfl
theorem line_of_s (n : Nat) {s : Stp} {bg f : List Ln} {m : Nat} (B : BigL q Q V N) (ht : Sz 1690 τ) (hok : s.ok f.length bg.length) (hc : s.cq q) (h2 : LBs q Q V τ m f) (hm : m + s.run ≤ N) : CF tab (n + 7) f_line_of [s.D, lnsD f, lnsD bg] = .ok (.tup [lnD (lnS bg f s).1, oD (lnS bg f s).2]) := by
  cases s with
  | b s => exact line_of_b (n + 2) B ht hok hc h2 hm
  | turns k i l =>
    rw [go_line_of]
    simp only [Stp.run] at hm
    have hi := idx_lns (f := f) (i := i) hok.2.1
    have h := loop_rng (g := .nm 9) (f := exec (TB tab (n + 6)) FU l_line_of_0) (k := k) (fun j => [.val (Stp.D (.turns k i l)), .val (lnsD f), .val (lnsD bg), .val (.str "turns"), .no, .no, .no, .val (oD (lnT l j (at2 f i)).2), .val (lnD (lnT l j (at2 f i)).1), .no, .no, .no, .no, .no]) fun j hj => by
      refine ⟨_, rfl, ?_⟩
      have jl : j * l.length + l.length ≤ k * l.length := by rw [← Nat.succ_mul]; exact Nat.mul_le_mul_right _ hj
      obtain ⟨a, b⟩ := lnT_lb B ht hc (h2.at B.toPar i) j (by omega)
      have a1 : LBs q Q V τ (m + j * l.length) [(lnT l j (at2 f i)).1] := fun x hx => by cases List.mem_singleton.mp hx; exact a
      have e := lines_of_b (tab := tab) n (l := l) (bg := [(lnT l j (at2 f i)).1]) B ht hok.2.2 hc a1 (by omega)
      have e2 := idx_lm1 (f := (lnsB [(lnT l j (at2 f i)).1] l).1) (by rw [lnsB, foldL_len]; exact hok.2.2.1)
      obtain ⟨_, c⟩ := lnsB_lb B ht hc a1 (by omega) l.length (Nat.le_refl _)
      rw [List.take_length] at c
      have e3 := sooner_ok (tab := tab) (n + 4) (b.sz ht) (rtO.sz (show rtO τ (lnsB [(lnT l j (at2 f i)).1] l).2 from c) ht)
      have e4 : lnsD [(lnT l j (at2 f i)).1] = .lst [lnD (lnT l j (at2 f i)).1] := rfl
      rw [e4] at e
      simp_arith [l_line_of_0, Stp.D, e, e2, e3, lnT]
    have ki := it_rng k (by have := hok.1; unfold lim; omega)
    have kl : (upFrom 0 1 k).length ≤ lim := by rw [upFrom_length]; have := hok.1; unfold lim; omega
    simp only [Stp.D, lnT, oD] at h
    simp_arith [b_line_of, Stp.D, hi, ki, kl, h, lnS]
    rfl
theorem lines_of_s (n : Nat) {l : List Stp} {bg : List Ln} {m : Nat} (B : BigL q Q V N) (ht : Sz 1690 τ) (hok : okS bg.length l) (hc : cqS q l) (h1 : LBs q Q V τ m bg) (hm : m + runS l ≤ N) : CF tab (n + 8) f_lines_of [.lst (l.map Stp.D), lnsD bg] = .ok (.tup [lnsD (lnsS bg l).1, oD (lnsS bg l).2]) := by
  rw [go_lines_of]
  have ll : l.length ≤ lim := by have := hok.2.1; unfold lim; omega
  have lp := loop_map (F := Stp.D) (g := .nm 4) (f := exec (TB tab (n + 7)) FU l_lines_of_0) (l := l) (fun i => [.val (.lst (l.map Stp.D)), .val (lnsD bg), .own ((foldL (lnS bg) (l.take i)).1.map lnD), .val (oD (foldL (lnS bg) (l.take i)).2), .no, .no, .no]) (fun i s hs => by
    refine ⟨_, rfl, ?_⟩
    have hi := (List.getElem?_eq_some_iff.mp hs).1
    have ln : (foldL (lnS bg) (l.take i)).1.length = i := by rw [foldL_len, List.length_take]; omega
    have r := runS_le hs
    obtain ⟨a, b⟩ := lnsS_lb B ht hc h1 hm i (by omega)
    have e1 := line_of_s (tab := tab) n (s := s) B ht (bg := bg) (by rw [ln]; exact hok.2.2 i s hs) (hc s (List.mem_of_getElem? hs)) a (by omega)
    obtain ⟨_, c⟩ := lnS_lb (bg := bg) B ht (hc s (List.mem_of_getElem? hs)) (h1.mono B.toPar (by omega : m ≤ m + runS (l.take i))) a (by omega)
    have e2 := sooner_ok (tab := tab) (n + 5) (b.sz ht) (c.sz ht)
    have e3 := lines_round (tab := tab) (n + 7) (S := .lst (l.map Stp.D)) (bgd := lnsD bg) (by rw [ln]; omega) e1 e2
    rw [foldL_take _ hs]
    exact e3)
  simp only [List.take_zero, List.take_length, foldL, List.foldl_nil, List.map_nil, oD] at lp
  simp_arith [b_lines_of, ll, lp]
  rfl
end
theorem zipD_map {α β : Type} (F : α → RF.D) (G : β → RF.D) : ∀ (l : List α) (m : List β), zipD (l.map F) (m.map G) = (l.zip m).map fun p => .tup [F p.1, G p.2]
  | [], _ => by simp [zipD]
  | _ :: _, [] => by simp [zipD]
  | a :: l, b :: m => by simp only [List.map_cons, zipD, List.zip_cons_cons, zipD_map F G l m]
theorem begun_ok (n : Nat) {ps ws : List Rat} (h : ps.length ≤ 1000) : CF tab (n + 1) f_begun [qsD ps, qsD ws] = .ok (lnsD (ps.zip ws)) := by
  rw [go_begun]
  have hl : (ps.zip ws).length ≤ lim := by rw [List.length_zip]; unfold lim; omega
  have hc : ∀ a b : Slot, compF (turnF (TB tab n) (.tp [2, 3]) [2, 3] .nil (.tup (.cons (.var 2) (.cons (.var 3) .nil))) [a, b, .no, .no]) ((ps.zip ws).map fun p => .tup [qD p.1, qD p.2]) = .ok ((ps.zip ws).map lnD) := fun a b =>
    compF_map fun x hx => by simp_arith []; rfl
  simp_arith [b_begun, qsD, zipD_map, hl, hc]
  rfl
theorem moved_ok (n : Nat) {ps ws : List Rat} {t : Rat} (h : ps.length ≤ 1000) (hp : ∀ x ∈ ps, Sz 3000 x) (hw : ∀ x ∈ ws, Sz 400 x) (ht : Sz 2500 t) : CF tab (n + 4) f_moved [qsD ps, qsD ws, qD t] = .ok (qsD (mvQ ps ws t)) := by
  rw [go_moved]
  have hl : (ps.zip ws).length ≤ lim := by rw [List.length_zip]; unfold lim; omega
  have hc : ∀ a b c : Slot, c = .val (qD t) → compF (turnF (TB tab (n + 3)) (.tp [3, 4]) [3, 4] .nil (.call f_add (.cons (.var 3) (.cons (.call f_grow (.cons (.var 2) (.cons (.var 4) .nil))) .nil))) [a, b, c, .no, .no]) ((ps.zip ws).map fun p => .tup [qD p.1, qD p.2]) = .ok ((ps.zip ws).map fun p => qD (p.1 + t * p.2)) := fun a b c hc => by
    subst hc
    refine compF_map fun x hx => ?_
    have h1 := hp x.1 (List.of_mem_zip hx).1
    have h2 := hw x.2 (List.of_mem_zip hx).2
    have e1 := grow_q (tab := tab) n (ht.mono (by decide) : Sz 3000 t) (h2.mono (by decide))
    have e2 := add_q (tab := tab) n h1 ((ht.mul h2).mono (by decide))
    simp_arith [e1, e2]
  simp_arith [b_moved, qsD, zipD_map, hl, hc _ _ _ rfl]
  unfold mvQ
  rw [List.map_map]
  rfl

end RF

end S_LJ6
section S_LJ7
set_option maxHeartbeats 4000000
namespace RF
open PySem PySem.Spec L2
local macro_rules
  | `(tactic| simp_arith [$ts,*]) => `(tactic| simp only [ee_var, ee_c, ee_glb, ee_neg, ee_nt, ee_bin, ee_cmp, ee_cmp2, ee_and, ee_or, ee_ife, ee_nil, ee_cons, ee_tup, ee_lst, ee_idx, ee_sl, ee_call, ee_callf, ee_rep, kRep_1, ee_lrg, ee_rev, rev_l, ex_sto, kSto, kSto1, kSto2, kSto3, put_lrg, put_rev, ee_bi, ee_isi, ee_comp, ee_fld, ee_mk, ee_isC, ee_meth, kMk_t, kMeth, kMeth1, kMeth2_t, fl_side, fl_pic, mk_side, mk_pic, mt_side, kVar_s, kNeg_i, kNot_b, kBin, kCmp, kCmp2, kCmpB, kCmpC_t, kCmpC_f, kAnd_t, kAnd_f, kOr_t, kOr_f, kIfe_t, kIfe_f, kCons, kPre_t, kTup_1, kTup_2, kTup_3, kTup_4, kTup_5, kTup_6, kLst_0, kLst_1, kLst_2, kLst_3, kLst_4, kLst_5, kLst_6, kIdx, kSl, kSl2, kSl3, kCall_t, kBi_t, kis, kIs_q, kComp, kComp2_ok, kList, turn_nil, turn_cmp, turn_and, turn_or, turn_nt, turn_isi, turn_call, turn_cmp2, turn_bi, kEl, kElc, kSome, kCd_t, kCd_f, ex_nil, ex_set, ex_own, ex_unp, ex_par, ex_par3, ex_ex, ex_ret, ex_reto, ex_retf, kReto, kRetf_l, kRetf2_cf, kRetf2_co, kRetf2_ls, kRetf2_sl, kRetf2_li, kRetf2_ad, put_cf, put_rep, ex_rai, ex_ite, ex_for, ex_whl, ex_app, ex_ext, ex_pas, ex_brk, ex_wip, kSet, kOwn, kPut, kUnp, kGo, kPar, kPar2, kPar3, kPar4, kTr, kTr2, kTr3, kTr4, kTr5, kTr6, kEx, kRet, kIte_t, kIte_f, kNx_n, kNx_b, kNx_r, kLoop_n, kLoop_r, kFor, kFor2_ok, kApp, kApp2_ok, kExt, kExt2_l, kExt3_ok, R.bind_ok, R.bind_exc, slot_0, slot_s, sd_v, sd_o, List.set_cons_zero, List.set_cons_succ, frz_def, frz_v, frz_n, frz_0, frz_o, hold_rng, hold_seq, hold_enum, hold_zip, it_zip, hold_v, hold_n, hold_0, hold_o, put_f, put_lst, put_sl, put_li, put_co, put_add, ev_lt, ev_le, ev_gt, ev_ge, ev_eq, ev_ne, ev_isN, ev_notN, eqD_int, eqD_pair, eqD_q, rb_len_t2, rb_len_t3, rb_len_t4, rb_len_l, len_q, rb_abs, rb_min, rb_list_l, rb_list_t, rb_tuple_l, rb_tuple_t, rb_all, rb_any, rb_sum, idx_t0, idx_t1, idx_t2, idx_t3, idx_q0, idx_q1, bin_add, bin_sub, out_rt, out_rl, outF_rl, out_nx, Bool.not_true, Bool.not_false, if_true, if_false, reduceIte, decide_true, decide_false, eq_self, Nat.reduceAdd, withO_s, Int.reduceLT, Int.reduceLE, Int.reduceEq, Int.reduceNeg, Int.reduceAdd, own_0, own_s, CE.men, Nat.reduceBEq, Bool.false_and, Bool.true_and, Bool.and_true, Bool.and_false, Bool.or_false, Bool.false_or, Bool.or_true, Bool.true_or, kqs, part_nil, part_c, part_v, part_neg, part_bin, part_bi, part_idx, sl_t41, sl_t43, it_l, it_t, it_enum, wipeS, bindT, bindL, Bool.false_eq_true, asL_l, Int.natCast_one, Int.natCast_zero, D.occ, D.occs, occ_q, List.length_map, $ts,*])
variable {tab : List Fn} [Ext tab]
/-! a side, told -/
structure RayOk (q Q V N inp : Nat) (l : List Stp) (P ws : List Rat) : Prop where
  B : BigL q Q V N
  ok : okP inp l
  cq : cqS q l
  lp : P.length = inp
  lw : ws.length = inp
  bp : BdL q Q V 0 P
  bw : BdL q Q V 0 ws
  run : runS l ≤ N
section
variable {q Q V N inp : Nat} {l : List Stp} {P ws : List Rat}
theorem RayOk.lbs (R : RayOk q Q V N inp l P ws) (τ : Rat) : LBs q Q V τ 0 (bgQ P ws τ) := fun x hx => by
  unfold bgQ at hx
  rw [List.mem_map] at hx
  obtain ⟨p, hp, rfl⟩ := hx
  have h := List.of_mem_zip hp
  exact ⟨p.1, R.bp _ h.1, R.bw _ h.2, rfl⟩
theorem RayOk.vbs (R : RayOk q Q V N inp l P ws) (τ : Rat) : AllP (VB q Q V τ) 0 (mvQ P ws τ) := fun x hx => by
  unfold mvQ at hx
  rw [List.mem_map] at hx
  obtain ⟨p, hp, rfl⟩ := hx
  have h := List.of_mem_zip hp
  exact ⟨p.1, p.2, R.bp _ h.1, R.bw _ h.2, rfl⟩
theorem RayOk.bgl (R : RayOk q Q V N inp l P ws) (τ : Rat) : (bgQ P ws τ).length = inp := by
  unfold bgQ
  rw [List.length_map, List.length_zip, R.lp, R.lw, Nat.min_self]
theorem RayOk.mvl (R : RayOk q Q V N inp l P ws) (τ : Rat) : (mvQ P ws τ).length = inp := by
  unfold mvQ
  rw [List.length_map, List.length_zip, R.lp, R.lw, Nat.min_self]
theorem zip_mv {P ws : List Rat} (h : P.length = ws.length) (τ : Rat) : (mvQ P ws τ).zip ws = bgQ P ws τ := by
  unfold mvQ bgQ
  induction P generalizing ws with
  | nil => simp
  | cons p P ih =>
    cases ws with
    | nil => simp at h
    | cons w ws => simp only [List.zip_cons_cons, List.map_cons, ih (by simpa using h)]
theorem mv_mv {P ws : List Rat} (h : P.length = ws.length) (τ t : Rat) : mvQ (mvQ P ws τ) ws t = mvQ P ws (τ + t) := by
  unfold mvQ
  induction P generalizing ws with
  | nil => simp
  | cons p P ih =>
    cases ws with
    | nil => simp at h
    | cons w ws =>
      simp only [List.zip_cons_cons, List.map_cons, ih (by simpa using h)]
      congr 1
      grind
theorem RayOk.szw (R : RayOk q Q V N inp l P ws) : ∀ x ∈ ws, Sz 400 x := fun x hx => R.B.of (R.bw x hx) (Nat.zero_le _)
theorem RayOk.szp (R : RayOk q Q V N inp l P ws) {τ : Rat} (ht : Sz 1690 τ) : ∀ x ∈ mvQ P ws τ, Sz 2491 x := fun x hx => by
  obtain ⟨a, b, h1, h2, h3⟩ := R.vbs τ x hx
  rw [h3]
  exact (R.B.of h1 (Nat.zero_le _)).add (ht.mul (R.B.of h2 (Nat.zero_le _)))
/-- running along the ray -/
theorem RayOk.runs (R : RayOk q Q V N inp l P ws) (n : Nat) {τ : Rat} (ht : Sz 2190 τ) : CF tab (n + 7) f_worths_of [.lst (l.map Stp.D), qsD (mvQ P ws τ)] = .ok (qsD (wS (mvQ P ws τ) l)) :=
  worths_of_sF n (by have := R.ok.st.2.1; omega) (fitS_P (famV R.B ht) (by rw [R.mvl]; exact R.ok.st) R.cq (R.vbs τ) (by have := R.run; omega))
theorem RayOk.fit (R : RayOk q Q V N inp l P ws) {τ : Rat} (ht : Sz 2190 τ) : FitS (mvQ P ws τ) l := fitS_P (famV R.B ht) (by rw [R.mvl]; exact R.ok.st) R.cq (R.vbs τ) (by have := R.run; omega)
theorem RayOk.lines (R : RayOk q Q V N inp l P ws) (n : Nat) {τ : Rat} (ht : Sz 1690 τ) : CF tab (n + 8) f_lines_of [.lst (l.map Stp.D), lnsD (bgQ P ws τ)] = .ok (.tup [lnsD (lnsS (bgQ P ws τ) l).1, oD (holdQ P ws l τ)]) :=
  lines_of_s n R.B ht (by rw [R.bgl]; exact R.ok.st) R.cq (R.lbs τ) (by have := R.run; omega)
theorem RayOk.lb (R : RayOk q Q V N inp l P ws) {τ : Rat} (ht : Sz 1690 τ) : LB q Q V τ (runS l) (lineQ P ws l τ) ∧ rtO τ (holdQ P ws l τ) := by
  obtain ⟨a, b⟩ := lnsS_lb R.B ht R.cq (R.lbs τ) (by have := R.run; omega) l.length (Nat.le_refl _)
  rw [List.take_length] at a b
  rw [Nat.zero_add] at a
  exact ⟨a.at R.B.toPar _, b⟩
theorem RayOk.root (R : RayOk q Q V N inp l P ws) {τ ρ : Rat} (ht : Sz 1690 τ) (h : holdQ P ws l τ = some ρ) : Sz 800 (τ + ρ) := (R.lb ht).2 ρ h
theorem eqD_lnD (a b : Ln) : eqD (lnD a) (lnD b) = .ok (decide (a = b)) := by
  have sh : ∀ a : Ln, D.shp 64 (lnD a) = true := fun _ => rfl
  have nb : ∀ a : Ln, D.nob (lnD a) = true := fun _ => rfl
  rw [eqD_eqv (sh a) (sh b)]
  congr 1
  by_cases c : a = b
  · subst c; rw [decide_eq_true rfl]; exact D.eqv_refl 64 _ (sh a)
  · rw [decide_eq_false c]
    cases e : D.eqv (lnD a) (lnD b) with
    | false => rfl
    | true =>
      have := (D.eqv_iff _ _ (nb a) (nb b)).mp e
      simp only [lnD, RF.D.tup.injEq, List.cons.injEq, and_true] at this
      exact absurd (Prod.ext (qD_inj this.1) (qD_inj this.2)) c
theorem eqD_lnt (a : Ln) (x y : Rat) : eqD (lnD a) (.tup [qD x, qD y]) = .ok (decide (a = (x, y))) := eqD_lnD a (x, y)
variable {τ0 : Rat}
def stS (inp : Nat) (l : List Stp) (P ws : List Rat) (τ0 : Rat) (v : RF.D) (r : Option Rat) : Env := [.val (prD inp l), .val (qsD (mvQ P ws τ0)), .val (qsD ws), .val v, .no, .val (oD r), .val (qD (lineQ P ws l τ0).1), .val (qD (lineQ P ws l τ0).2), .no, .no, .no]
theorem side_round (R : RayOk q Q V N inp l P ws) (n : Nat) (h0 : Sz 1690 τ0) {v : RF.D} {ρ : Rat} (ht : Sz 800 (τ0 + ρ)) :
    (goesOn P ws l τ0 ρ → exec (TB tab (n + 8)) FU l_side_of_0 (stS inp l P ws τ0 v (some ρ)) = .ok (.nx (stS inp l P ws τ0 v (addO ρ (holdQ P ws l (τ0 + ρ)))))) ∧
    (¬ goesOn P ws l τ0 ρ → ∃ ρ', exec (TB tab (n + 8)) FU l_side_of_0 (stS inp l P ws τ0 v (some ρ)) = .ok (.bk ρ') ∧ wipeS ρ' [4, 8, 9, 10] = stS inp l P ws τ0 v (some ρ)) := by
  have sρ : Sz 2491 ρ := by
    have := ht.sub h0
    rwa [show τ0 + ρ - τ0 = ρ by grind] at this
  have lb0 := (R.lb h0).1.sz R.B h0 R.run
  have e1 := moved_ok (tab := tab) (n + 4) (ps := mvQ P ws τ0) (ws := ws) (t := ρ) (by rw [R.mvl]; have := R.ok.i3; omega) (fun x hx => (R.szp h0 x hx).mono (by decide)) R.szw (sρ.mono (by decide))
  rw [mv_mv (by rw [R.lp, R.lw])] at e1
  have e2 := grow_q (tab := tab) (n + 5) (x := (lineQ P ws l τ0).2) (y := ρ) (lb0.2.mono (by decide)) (sρ.mono (by decide))
  have e3 := add_q (tab := tab) (n + 5) (x := (lineQ P ws l τ0).1) (y := (lineQ P ws l τ0).2 * ρ) (lb0.1.mono (by decide)) ((lb0.2.mul sρ).mono (by decide))
  have e4 := begun_ok (tab := tab) (n + 7) (ps := mvQ P ws (τ0 + ρ)) (ws := ws) (by rw [R.mvl]; have := R.ok.i3; omega)
  rw [zip_mv (by rw [R.lp, R.lw])] at e4
  have ht' : Sz 1690 (τ0 + ρ) := ht.mono (by decide)
  have e5 := R.lines (tab := tab) n ht'
  have e6 := R.runs (tab := tab) (n + 1) (ht.mono (by decide))
  have e7 := idx_m1 (l := wS (mvQ P ws (τ0 + ρ)) l) (by rw [wS_len]; exact R.ok.st.1)
  have e8 := idx_lm1 (f := (lnsS (bgQ P ws (τ0 + ρ)) l).1) (by rw [lnsS, foldL_len]; exact R.ok.st.1)
  have due : (lineQ P ws l τ0).1 + (lineQ P ws l τ0).2 * ρ = (lineQ P ws l τ0).1 + ρ * (lineQ P ws l τ0).2 := by grind
  rw [due] at e3
  have hz : szO 3000 (holdQ P ws l (τ0 + ρ)) := (R.lb ht').2.sz ht'
  have r1 : lastQ (wS (mvQ P ws (τ0 + ρ)) l) = rayQ P ws l (τ0 + ρ) := rfl
  have r2 : lastL (lnsS (bgQ P ws (τ0 + ρ)) l).1 = lineQ P ws l (τ0 + ρ) := rfl
  rw [r1] at e7
  rw [r2] at e8
  refine ⟨fun g => ?_, fun g => ?_⟩
  · have d1 : decide (rayQ P ws l (τ0 + ρ) = (lineQ P ws l τ0).1 + ρ * (lineQ P ws l τ0).2) = true := decide_eq_true g.1
    have d2 : decide (lineQ P ws l (τ0 + ρ) = ((lineQ P ws l τ0).1 + ρ * (lineQ P ws l τ0).2, (lineQ P ws l τ0).2)) = true := decide_eq_true g.2
    cases e : holdQ P ws l (τ0 + ρ) with
    | none =>
      rw [e] at e5
      simp_arith [l_side_of_0, stS, prD, oD, e1, e2, e3, e4, e5, e6, e7, e8, eqD_lnt, d1, d2, isN_n, addO]
    | some m =>
      rw [e] at e5 hz
      have e10 := add_q (tab := tab) (n + 5) (x := ρ) (y := m) (sρ.mono (by decide)) hz
      simp_arith [l_side_of_0, stS, prD, oD, e1, e2, e3, e4, e5, e6, e7, e8, eqD_lnt, d1, d2, isN_q, addO, e10]
  · by_cases g1 : rayQ P ws l (τ0 + ρ) = (lineQ P ws l τ0).1 + ρ * (lineQ P ws l τ0).2
    · have g2 : lineQ P ws l (τ0 + ρ) ≠ ((lineQ P ws l τ0).1 + ρ * (lineQ P ws l τ0).2, (lineQ P ws l τ0).2) := fun z => g ⟨g1, z⟩
      have d1 := decide_eq_true g1
      have d2 := decide_eq_false g2
      refine ⟨[.val (prD inp l), .val (qsD (mvQ P ws τ0)), .val (qsD ws), .val v, .val (lnsD (lnsS (bgQ P ws (τ0 + ρ)) l).1), .val (qD ρ), .val (qD (lineQ P ws l τ0).1), .val (qD (lineQ P ws l τ0).2), .val (qsD (mvQ P ws (τ0 + ρ))), .val (qD ((lineQ P ws l τ0).1 + ρ * (lineQ P ws l τ0).2)), .val (oD (holdQ P ws l (τ0 + ρ)))], ?_, rfl⟩
      simp_arith [l_side_of_0, stS, prD, oD, e1, e2, e3, e4, e5, e6, e7, e8, eqD_lnt, d1, d2]
    · have d1 := decide_eq_false g1
      refine ⟨[.val (prD inp l), .val (qsD (mvQ P ws τ0)), .val (qsD ws), .val v, .val (lnsD (lnsS (bgQ P ws (τ0 + ρ)) l).1), .val (qD ρ), .val (qD (lineQ P ws l τ0).1), .val (qD (lineQ P ws l τ0).2), .val (qsD (mvQ P ws (τ0 + ρ))), .val (qD ((lineQ P ws l τ0).1 + ρ * (lineQ P ws l τ0).2)), .val (oD (holdQ P ws l (τ0 + ρ)))], ?_, rfl⟩
      simp_arith [l_side_of_0, stS, prD, oD, e1, e2, e3, e4, e5, e6, e7, e8, eqD_lnt, d1]
theorem side_while (R : RayOk q Q V N inp l P ws) (n : Nat) (h0 : Sz 1690 τ0) {v : RF.D} : ∀ (k : Nat) (r : Option Rat) (fuel : Nat), Straight P ws l τ0 r → rtO τ0 r → (∀ ρ, r = some ρ → left (roots (bgQ P ws 0) l) (τ0 + ρ) < k) → k + 1 ≤ fuel →
    ∃ r' ρ', whileF (evalE (TB tab (n + 8)) (.cmp .notN (.var 5) (.c .non))) (exec (TB tab (n + 8)) FU l_side_of_0) fuel (stS inp l P ws τ0 v r) = .ok (.nx ρ') ∧ wipeS ρ' [4, 8, 9, 10] = stS inp l P ws τ0 v r' ∧
      IsSide (fun t => rayQ P ws l (τ0 + t)) (rayQ P ws l τ0) (lineQ P ws l τ0).1 (lineQ P ws l τ0).2 r' ∧ rtO τ0 r' ∧ (∀ ρ, r' = some ρ → τ0 + ρ ∈ roots (bgQ P ws 0) l)
  | k, none, fuel + 1, hs, hr, _, _ => by
    refine ⟨none, stS inp l P ws τ0 v none, ?_, rfl, hs.ever, hr, fun ρ e => nomatch e⟩
    have c : evalE (TB tab (n + 8)) (.cmp .notN (.var 5) (.c .non)) (stS inp l P ws τ0 v none) = .ok (.bl false) := by simp_arith [stS, oD, isN_n]
    simp only [whileF, c, RF.R.bind_ok, truth, onT_f]
  | 0, some ρ, _, _, _, hk, _ => absurd (hk ρ rfl) (Nat.not_lt_zero _)
  | k + 1, some ρ, fuel + 1, hs, hr, hk, hf => by
    have c : evalE (TB tab (n + 8)) (.cmp .notN (.var 5) (.c .non)) (stS inp l P ws τ0 v (some ρ)) = .ok (.bl true) := by simp_arith [stS, oD, isN_q]
    have rd := side_round (tab := tab) R n h0 (v := v) (hr ρ rfl)
    by_cases g : goesOn P ws l τ0 ρ
    · have st := hs.next g
      have rt : rtO τ0 (addO ρ (holdQ P ws l (τ0 + ρ))) := fun ρ' e => by
        cases e2 : holdQ P ws l (τ0 + ρ) with
        | none => rw [e2] at e; cases e
        | some m =>
          rw [e2] at e
          cases e
          rw [← Rat.add_assoc]
          exact R.root ((hr ρ rfl).mono (by decide)) e2
      have hk' : ∀ ρ', addO ρ (holdQ P ws l (τ0 + ρ)) = some ρ' → left (roots (bgQ P ws 0) l) (τ0 + ρ') < k := fun ρ' e => by
        have lt : τ0 + ρ < τ0 + ρ' := by
          have hp := hold_pos P ws l (τ0 + ρ)
          cases e2 : holdQ P ws l (τ0 + ρ) with
          | none => rw [e2] at e; cases e
          | some m =>
            rw [e2] at e hp
            cases e
            have : 0 < m := hp
            grind
        have := left_lt lt (st.root ρ' e)
        have := hk ρ rfl
        omega
      obtain ⟨r', ρ', w1, w2, w3⟩ := side_while R n h0 (v := v) k _ fuel st rt hk' (by omega)
      refine ⟨r', ρ', ?_, w2, w3⟩
      simp only [whileF, c, RF.R.bind_ok, truth, onT_t, rd.1 g]
      exact w1
    · obtain ⟨ρ', w1, w2⟩ := rd.2 g
      refine ⟨some ρ, ρ', ?_, w2, hs.stop g, hr, hs.root⟩
      simp only [whileF, c, RF.R.bind_ok, truth, onT_t, w1]
/-- what side_of tells -/
theorem side_of_ok (R : RayOk q Q V N inp l P ws) (n : Nat) (h0 : Sz 1690 τ0) : ∃ r, CF tab (n + 9) f_side_of [prD inp l, qsD (mvQ P ws τ0), qsD ws] = .ok (sideD (qD (rayQ P ws l τ0)) (qD (lineQ P ws l τ0).1) (qD (lineQ P ws l τ0).2) (oD r)) ∧
    IsSide (fun t => rayQ P ws l (τ0 + t)) (rayQ P ws l τ0) (lineQ P ws l τ0).1 (lineQ P ws l τ0).2 r ∧ rtO τ0 r ∧ (∀ ρ, r = some ρ → τ0 + ρ ∈ roots (bgQ P ws 0) l) := by
  obtain ⟨r, ρ', w1, w2, w3⟩ := side_while (tab := tab) R n h0 (v := qD (rayQ P ws l τ0)) 3000 (holdQ P ws l τ0) FU (straight0 P ws l τ0) (R.lb h0).2 (fun ρ _ => by
    have := left_le (roots (bgQ P ws 0) l) (τ0 + ρ)
    have := roots_len (bgQ P ws 0) (l := l) R.ok.ch
    omega) (by decide)
  refine ⟨r, ?_, w3⟩
  rw [go_side_of]
  have e4 := begun_ok (tab := tab) (n + 7) (ps := mvQ P ws τ0) (ws := ws) (by rw [R.mvl]; have := R.ok.i3; omega)
  rw [zip_mv (by rw [R.lp, R.lw])] at e4
  have e5 := R.lines (tab := tab) n h0
  have e6 := R.runs (tab := tab) (n + 1) (h0.mono (by decide))
  have e7 := idx_m1 (l := wS (mvQ P ws τ0) l) (by rw [wS_len]; exact R.ok.st.1)
  have e8 := idx_lm1 (f := (lnsS (bgQ P ws τ0) l).1) (by rw [lnsS, foldL_len]; exact R.ok.st.1)
  have r1 : lastQ (wS (mvQ P ws τ0) l) = rayQ P ws l τ0 := rfl
  have r2 : lastL (lnsS (bgQ P ws τ0) l).1 = lineQ P ws l τ0 := rfl
  rw [r1] at e7
  rw [r2, lnD] at e8
  simp only [stS, prD] at w1
  simp only [wipeS, stS, prD] at w2
  simp_arith [b_side_of, prD, e4, e5, e6, e7, e8, w1, w2]
end

end RF

end S_LJ7
section S_LJ8
set_option maxHeartbeats 4000000
namespace RF
open PySem PySem.Spec L2
local macro_rules
  | `(tactic| simp_arith [$ts,*]) => `(tactic| simp only [ee_var, ee_c, ee_glb, ee_neg, ee_nt, ee_bin, ee_cmp, ee_cmp2, ee_and, ee_or, ee_ife, ee_nil, ee_cons, ee_tup, ee_lst, ee_idx, ee_sl, ee_call, ee_callf, ee_rep, kRep_1, ee_lrg, ee_rev, rev_l, ex_sto, kSto, kSto1, kSto2, kSto3, put_lrg, put_rev, ee_bi, ee_isi, ee_comp, ee_fld, ee_mk, ee_isC, ee_meth, kMk_t, kMeth, kMeth1, kMeth2_t, fl_side, fl_pic, mk_side, mk_pic, mt_side, kVar_s, kNeg_i, kNot_b, kBin, kCmp, kCmp2, kCmpB, kCmpC_t, kCmpC_f, kAnd_t, kAnd_f, kOr_t, kOr_f, kIfe_t, kIfe_f, kCons, kPre_t, kTup_1, kTup_2, kTup_3, kTup_4, kTup_5, kTup_6, kLst_0, kLst_1, kLst_2, kLst_3, kLst_4, kLst_5, kLst_6, kIdx, kSl, kSl2, kSl3, kCall_t, kBi_t, kis, kIs_q, kComp, kComp2_ok, kList, turn_nil, turn_cmp, turn_and, turn_or, turn_nt, turn_isi, turn_call, turn_cmp2, turn_bi, kEl, kElc, kSome, kCd_t, kCd_f, ex_nil, ex_set, ex_own, ex_unp, ex_par, ex_par3, ex_ex, ex_ret, ex_reto, ex_retf, kReto, kRetf_l, kRetf2_cf, kRetf2_co, kRetf2_ls, kRetf2_sl, kRetf2_li, kRetf2_ad, put_cf, put_rep, ex_rai, ex_ite, ex_for, ex_whl, ex_app, ex_ext, ex_pas, ex_brk, ex_wip, kSet, kOwn, kPut, kUnp, kGo, kPar, kPar2, kPar3, kPar4, kTr, kTr2, kTr3, kTr4, kTr5, kTr6, kEx, kRet, kIte_t, kIte_f, kNx_n, kNx_b, kNx_r, kLoop_n, kLoop_r, kFor, kFor2_ok, kApp, kApp2_ok, kExt, kExt2_l, kExt3_ok, R.bind_ok, R.bind_exc, slot_0, slot_s, sd_v, sd_o, List.set_cons_zero, List.set_cons_succ, frz_def, frz_v, frz_n, frz_0, frz_o, hold_rng, hold_seq, hold_enum, hold_zip, it_zip, hold_v, hold_n, hold_0, hold_o, put_f, put_lst, put_sl, put_li, put_co, put_add, ev_lt, ev_le, ev_gt, ev_ge, ev_eq, ev_ne, ev_isN, ev_notN, eqD_int, eqD_pair, eqD_q, rb_len_t2, rb_len_t3, rb_len_t4, rb_len_l, len_q, rb_abs, rb_min, rb_list_l, rb_list_t, rb_tuple_l, rb_tuple_t, rb_all, rb_any, rb_sum, idx_t0, idx_t1, idx_t2, idx_t3, idx_q0, idx_q1, bin_add, bin_sub, out_rt, out_rl, outF_rl, out_nx, Bool.not_true, Bool.not_false, if_true, if_false, reduceIte, decide_true, decide_false, eq_self, Nat.reduceAdd, withO_s, Int.reduceLT, Int.reduceLE, Int.reduceEq, Int.reduceNeg, Int.reduceAdd, own_0, own_s, CE.men, Nat.reduceBEq, Bool.false_and, Bool.true_and, Bool.and_true, Bool.and_false, Bool.or_false, Bool.false_or, Bool.or_true, Bool.true_or, kqs, part_nil, part_c, part_v, part_neg, part_bin, part_bi, part_idx, sl_t41, sl_t43, it_l, it_t, it_enum, wipeS, bindT, bindL, Bool.false_eq_true, asL_l, Int.natCast_one, Int.natCast_zero, D.occ, D.occs, occ_q, List.length_map, $ts,*])
variable {tab : List Fn} [Ext tab]
theorem bools_t {α : Type} (l : List α) : bools (l.map fun _ => RF.D.bl true) = some (l.map fun _ => true) := by
  induction l with
  | nil => rfl
  | cons x r ih => simp only [List.map_cons, bools, ih, Option.map_some]
theorem all_t {α : Type} (l : List α) : (l.map fun _ => true).all id = true := by simp
theorem asked_ways_ok (n : Nat) {inp : Nat} {l : List Stp} {ps : List Rat} (hp : ps.length = inp) (hl : inp ≤ 3) (hs : ∀ x ∈ ps, Sz 8000 x) : CF tab (n + 3) f_asked_ways [prD inp l, qsD ps] = .ok .non := by
  rw [go_asked_ways]
  have hc : compF (turnF (TB tab (n + 2)) (.nm 2) [2] .nil (.call f_is_number (.cons (.var 2) .nil)) [.val (prD inp l), .val (qsD ps), .no]) (ps.map qD) = .ok (ps.map fun _ => .bl true) :=
    compF_map fun x hx => by simp_arith [is_number_q _ (hs x hx)]
  have ll : inp ≤ lim := by unfold lim; omega
  simp_arith [b_asked_ways, prD, hp, ll, hc, bools_t, all_t]
section
variable {q Q V N inp : Nat} {l : List Stp} {P ws : List Rat} {τ0 : Rat}
theorem side_ok (R : RayOk q Q V N inp l P ws) (n : Nat) (h0 : Sz 1690 τ0) : ∃ r, CF tab (n + 10) f_side [prD inp l, qsD (mvQ P ws τ0), qsD ws] = .ok (sideD (qD (rayQ P ws l τ0)) (qD (lineQ P ws l τ0).1) (qD (lineQ P ws l τ0).2) (oD r)) ∧
    IsSide (fun t => rayQ P ws l (τ0 + t)) (rayQ P ws l τ0) (lineQ P ws l τ0).1 (lineQ P ws l τ0).2 r ∧ rtO τ0 r ∧ (∀ ρ, r = some ρ → τ0 + ρ ∈ roots (bgQ P ws 0) l) := by
  obtain ⟨r, e4, w⟩ := side_of_ok (tab := tab) R n h0
  refine ⟨r, ?_, w⟩
  rw [go_side]
  have e1 := asked_program_ok (tab := tab) n R.ok
  have e2 := asked_places_ok (tab := tab) (n + 6) (l := l) (R.mvl τ0) R.ok.i3 (fun x hx => (R.szp h0 x hx).mono (by decide))
  have e3 := asked_ways_ok (tab := tab) (n + 6) (l := l) R.lw R.ok.i3 (fun x hx => (R.szw x hx).mono (by decide))
  simp only [prD] at e1 e2 e3 e4 ⊢
  simp_arith [b_side, e1, e2, e3, e4]
end

end RF

end S_LJ8
section S_LK0
set_option maxHeartbeats 4000000
namespace RF
open PySem PySem.Spec L2
local macro_rules
  | `(tactic| simp_arith [$ts,*]) => `(tactic| simp only [ee_var, ee_c, ee_glb, ee_neg, ee_nt, ee_bin, ee_cmp, ee_cmp2, ee_and, ee_or, ee_ife, ee_nil, ee_cons, ee_tup, ee_lst, ee_idx, ee_sl, ee_call, ee_callf, ee_rep, kRep_1, ee_lrg, ee_rev, rev_l, ex_sto, kSto, kSto1, kSto2, kSto3, put_lrg, put_rev, ee_bi, ee_isi, ee_comp, ee_fld, ee_mk, ee_isC, ee_meth, kMk_t, kMeth, kMeth1, kMeth2_t, fl_side, fl_pic, mk_side, mk_pic, mt_side, kVar_s, kNeg_i, kNot_b, kBin, kCmp, kCmp2, kCmpB, kCmpC_t, kCmpC_f, kAnd_t, kAnd_f, kOr_t, kOr_f, kIfe_t, kIfe_f, kCons, kPre_t, kTup_1, kTup_2, kTup_3, kTup_4, kTup_5, kTup_6, kLst_0, kLst_1, kLst_2, kLst_3, kLst_4, kLst_5, kLst_6, kIdx, kSl, kSl2, kSl3, kCall_t, kBi_t, kis, kIs_q, kComp, kComp2_ok, kList, turn_nil, turn_cmp, turn_and, turn_or, turn_nt, turn_isi, turn_call, turn_cmp2, turn_bi, kEl, kElc, kSome, kCd_t, kCd_f, ex_nil, ex_set, ex_own, ex_unp, ex_par, ex_par3, ex_ex, ex_ret, ex_reto, ex_retf, kReto, kRetf_l, kRetf2_cf, kRetf2_co, kRetf2_ls, kRetf2_sl, kRetf2_li, kRetf2_ad, put_cf, put_rep, ex_rai, ex_ite, ex_for, ex_whl, ex_app, ex_ext, ex_pas, ex_brk, ex_wip, kSet, kOwn, kPut, kUnp, kGo, kPar, kPar2, kPar3, kPar4, kTr, kTr2, kTr3, kTr4, kTr5, kTr6, kEx, kRet, kIte_t, kIte_f, kNx_n, kNx_b, kNx_r, kLoop_n, kLoop_r, kFor, kFor2_ok, kApp, kApp2_ok, kExt, kExt2_l, kExt3_ok, R.bind_ok, R.bind_exc, slot_0, slot_s, sd_v, sd_o, List.set_cons_zero, List.set_cons_succ, frz_def, frz_v, frz_n, frz_0, frz_o, hold_rng, hold_seq, hold_enum, hold_zip, it_zip, hold_v, hold_n, hold_0, hold_o, put_f, put_lst, put_sl, put_li, put_co, put_add, ev_lt, ev_le, ev_gt, ev_ge, ev_eq, ev_ne, ev_isN, ev_notN, eqD_int, eqD_pair, eqD_q, rb_len_t2, rb_len_t3, rb_len_t4, rb_len_l, len_q, rb_abs, rb_min, rb_list_l, rb_list_t, rb_tuple_l, rb_tuple_t, rb_all, rb_any, rb_sum, idx_t0, idx_t1, idx_t2, idx_t3, idx_q0, idx_q1, bin_add, bin_sub, out_rt, out_rl, outF_rl, out_nx, Bool.not_true, Bool.not_false, if_true, if_false, reduceIte, decide_true, decide_false, eq_self, Nat.reduceAdd, withO_s, Int.reduceLT, Int.reduceLE, Int.reduceEq, Int.reduceNeg, Int.reduceAdd, own_0, own_s, CE.men, Nat.reduceBEq, Bool.false_and, Bool.true_and, Bool.and_true, Bool.and_false, Bool.or_false, Bool.false_or, Bool.or_true, Bool.true_or, kqs, part_nil, part_c, part_v, part_neg, part_bin, part_bi, part_idx, sl_t41, sl_t43, it_l, it_t, it_enum, wipeS, bindT, bindL, Bool.false_eq_true, asL_l, Int.natCast_one, Int.natCast_zero, D.occ, D.occs, occ_q, List.length_map, $ts,*])
variable {tab : List Fn} [Ext tab]
/-! rays of the laws' programs -/
theorem BLa : BigL 6 6 (10 ^ 12) 66 := { two := by decide, dv := by decide, le := by decide, pos := by decide, sz := by decide +kernel }
theorem bd_cs {x : Rat} (h : Cs (10 ^ 12) x) : Bd 6 6 (10 ^ 12) 0 x := by
  refine ⟨Nat.dvd_trans h.den (by decide), ?_⟩
  refine Ab.mono (M := 10 ^ 12) (ab_of ?_) (by decide)
  have := h.num
  have := Nat.le_mul_of_pos_right (10 ^ 12) x.den_pos
  omega
theorem ray_of {l : List Stp} {inp left room m : Nat} {P ws : List Rat} (h : okProg l inp left room m) (h1 : 1 ≤ inp) (h3 : inp ≤ 3) (hm : m ≤ 16) (lp : P.length = inp) (lw : ws.length = inp) (cp : ∀ x ∈ P, Cs (10 ^ 12) x) (cw : ∀ x ∈ ws, Cs (10 ^ 12) x) : RayOk 6 6 (10 ^ 12) 66 inp l P ws :=
  ⟨BLa, h.okP h1 h3 (by omega), cs_cq h.cs, lp, lw, fun x hx => bd_cs (cp x hx), fun x hx => bd_cs (cw x hx), by have := h.run; have := h.most; omega⟩
theorem law_moved_ok (n : Nat) {ps ws : List Rat} {t : Rat} (h : ps.length ≤ 1000) (hp : ∀ x ∈ ps, Sz 3000 x) (hw : ∀ x ∈ ws, Sz 400 x) (ht : Sz 2500 t) : CF tab (n + 3) f_law_moved [qsD ps, qsD ws, qD t] = .ok (qsD (mvQ ps ws t)) := by
  rw [go_law_moved]
  have hl : (ps.zip ws).length ≤ lim := by rw [List.length_zip]; unfold lim; omega
  have hc : ∀ a b c : Slot, c = .val (qD t) → compF (turnF (TB tab (n + 2)) (.tp [3, 4]) [3, 4] .nil (.call f_law_add (.cons (.var 3) (.cons (.call f_law_by (.cons (.var 2) (.cons (.var 4) .nil))) .nil))) [a, b, c, .no, .no]) ((ps.zip ws).map fun p => .tup [qD p.1, qD p.2]) = .ok ((ps.zip ws).map fun p => qD (p.1 + t * p.2)) := fun a b c hc => by
    subst hc
    refine compF_map fun x hx => ?_
    have h1 := hp x.1 (List.of_mem_zip hx).1
    have h2 := hw x.2 (List.of_mem_zip hx).2
    have e1 := law_by_q (tab := tab) n (ht.mono (by decide) : Sz 3000 t) (h2.mono (by decide))
    have e2 := law_add_q (tab := tab) n h1 ((ht.mul h2).mono (by decide))
    simp_arith [e1, e2]
  simp_arith [b_law_moved, qsD, zipD_map, hl, hc _ _ _ rfl]
  unfold mvQ
  rw [List.map_map]
  rfl
section
variable {q Q V N inp : Nat} {l : List Stp} {P ws : List Rat} {τ0 : Rat}
theorem law_ray (R : RayOk q Q V N inp l P ws) (n : Nat) {τ : Rat} (ht : Sz 2190 τ) : CF tab (n + 4) f_law_run [.lst (l.map Stp.D), qsD (mvQ P ws τ)] = .ok (qsD (wS (mvQ P ws τ) l)) :=
  law_run_sF n (by have := R.ok.st.2.1; omega) (R.fit ht)
theorem ray_last (R : RayOk q Q V N inp l P ws) (τ : Rat) : evIdx (qsD (wS (mvQ P ws τ) l)) (.int (-1)) = .ok (qD (rayQ P ws l τ)) := idx_m1 (by rw [wS_len]; exact R.ok.st.1)
theorem RayOk.zray (R : RayOk q Q V N inp l P ws) {τ : Rat} (ht : Sz 2190 τ) : Sz 2991 (rayQ P ws l τ) := by
  have h := allZ_P (famV R.B ht) R.cq (R.vbs τ) (by have := R.run; omega)
  unfold rayQ
  exact VB.sz R.B ht (AllP.at (famV R.B ht) h _) (by have := R.run; omega)
theorem mv_0 {P ws : List Rat} (h : P.length = ws.length) : mvQ P ws 0 = P := by
  unfold mvQ
  induction P generalizing ws with
  | nil => simp
  | cons p P ih =>
    cases ws with
    | nil => simp at h
    | cons w ws => simp only [List.zip_cons_cons, List.map_cons, ih (by simpa using h)]; congr 1; grind
/-- a side that ends doesn't go on -/
theorem IsSide.notOn {τ0 ρ : Rat} (h : IsSide (fun t => rayQ P ws l (τ0 + t)) (rayQ P ws l τ0) (lineQ P ws l τ0).1 (lineQ P ws l τ0).2 (some ρ)) : ¬ goesOn P ws l τ0 ρ := fun g => by
  have p0 : 0 < ρ := h.pos
  obtain ⟨m, m0, hm⟩ : ∃ m, 0 < m ∧ ∀ t, t < m → und t (holdQ P ws l (τ0 + ρ)) := by
    have hp := hold_pos P ws l (τ0 + ρ)
    cases e : holdQ P ws l (τ0 + ρ) with
    | none => exact ⟨1, by decide, fun _ _ => trivial⟩
    | some m => rw [e] at hp; exact ⟨m, hp, fun t ht => ht⟩
  obtain ⟨t, h0, h1, h2⟩ := h.max ρ rfl (ρ + m) (by grind)
  apply h2
  by_cases a : t < ρ
  · exact h.on t h0 a
  · by_cases b : t = ρ
    · subst b; exact g.1
    · have := ray_line (P := P) (ws := ws) (l := l) (τ := τ0 + ρ) (t := t - ρ) (by grind) (hm _ (by grind))
      rw [show τ0 + ρ + (t - ρ) = τ0 + t by grind, g.2] at this
      show rayQ P ws l (τ0 + t) = _
      rw [this]
      grind
/-- a side by what it is -/
theorem side_is (R : RayOk q Q V N inp l P ws) (n : Nat) {v b s : Rat} {r : Option Rat} (h : IsSide (fun t => rayQ P ws l t) v b s r) : CF tab (n + 10) f_side [prD inp l, qsD P, qsD ws] = .ok (sideD (qD v) (qD b) (qD s) (oD r)) := by
  have z0 : Sz 1690 (0 : Rat) := ⟨by decide +kernel, by decide +kernel⟩
  obtain ⟨r', e, w, _⟩ := side_ok (tab := tab) R n z0
  simp only [Rat.zero_add] at w
  obtain ⟨e1, e2, e3, e4⟩ := w.uniq h
  rw [mv_0 (by rw [R.lp, R.lw]), e1, e2, e3, e4] at e
  exact e
end
/-! sides of like functions -/
def mulO (c : Rat) : Option Rat → Option Rat
  | none => none
  | some r => some (r * c)
theorem IsSide.scale {w : Rat → Rat} {v b s c : Rat} {r : Option Rat} (h : IsSide w v b s r) (hc : 0 < c) : IsSide (fun t => w (c * t)) v b (c * s) (mulO (1 / c) r) := by
  have ic : 0 < 1 / c := by rw [Rat.lt_div_iff hc]; grind
  have cc : c * (1 / c) = 1 := by grind
  refine ⟨?_, ?_, fun t h0 hu => ?_, fun ρ e ρ' hρ => ?_⟩
  · show w (c * 0) = v
    rw [Rat.mul_zero]; exact h.val
  · cases r with
    | none => trivial
    | some r => exact Rat.mul_pos h.pos ic
  · show w (c * t) = _
    rw [h.on (c * t) (Rat.mul_pos hc h0) (by
      cases r with
      | none => trivial
      | some r =>
        have hu : t < r * (1 / c) := hu
        have := Rat.mul_lt_mul_of_pos_left hu hc
        show c * t < r
        rw [show c * (r * (1 / c)) = r * (c * (1 / c)) by grind, cc, Rat.mul_one] at this
        exact this)]
    grind
  · cases r with
    | none => cases e
    | some r =>
      cases e
      obtain ⟨t, h0, h1, h2⟩ := h.max r rfl (c * ρ') (by
        have := Rat.mul_lt_mul_of_pos_left hρ hc
        rwa [show c * (r * (1 / c)) = r * (c * (1 / c)) by grind, cc, Rat.mul_one] at this)
      refine ⟨t * (1 / c), Rat.mul_pos h0 ic, ?_, ?_⟩
      · have := Rat.mul_lt_mul_of_pos_left h1 ic
        rw [show 1 / c * (c * ρ') = (c * (1 / c)) * ρ' by grind, cc, Rat.one_mul] at this
        grind
      · show w (c * (t * (1 / c))) ≠ _
        rw [show c * (t * (1 / c)) = (c * (1 / c)) * t by grind, cc, Rat.one_mul, show b + t * (1 / c) * (c * s) = b + (c * (1 / c)) * (t * s) by grind, cc, Rat.one_mul]
        exact h2
def subO (β : Rat) : Option Rat → Option Rat
  | none => none
  | some r => some (r - β)
theorem IsSide.shift {w : Rat → Rat} {v b s β : Rat} {r : Option Rat} (h : IsSide w v b s r) (hβ : 0 < β) (hu : und β r) : IsSide (fun t => w (β + t)) (b + β * s) (b + β * s) s (subO β r) := by
  refine ⟨?_, ?_, fun t h0 hu' => ?_, fun ρ e ρ' hρ => ?_⟩
  · show w (β + 0) = _
    rw [Rat.add_zero]; exact h.on β hβ hu
  · cases r with
    | none => trivial
    | some r =>
      have hu : β < r := hu
      show 0 < r - β
      grind
  · show w (β + t) = _
    rw [h.on (β + t) (by grind) (by
      cases r with
      | none => trivial
      | some r =>
        have hu' : t < r - β := hu'
        show β + t < r
        grind)]
    grind
  · cases r with
    | none => cases e
    | some r =>
      cases e
      obtain ⟨t, h0, h1, h2⟩ := h.max r rfl (ρ' + β) (by grind)
      have hu : β < r := hu
      by_cases c : t < r
      · exact absurd (h.on t h0 c) h2
      · refine ⟨t - β, by grind, by grind, ?_⟩
        show w (β + (t - β)) ≠ _
        rw [show β + (t - β) = t by grind]
        intro z
        apply h2
        rw [z]
        grind
theorem IsSide.const {w : Rat → Rat} {v : Rat} (h : ∀ t, w t = v) : IsSide w v v 0 none := ⟨h 0, trivial, fun t _ _ => by rw [h]; grind, fun ρ e => nomatch e⟩
theorem mv_scale (P ws : List Rat) (c t : Rat) : mvQ P (ws.map fun w => c * w) t = mvQ P ws (c * t) := by
  unfold mvQ
  induction P generalizing ws with
  | nil => simp
  | cons p P ih =>
    cases ws with
    | nil => simp
    | cons w ws => simp only [List.map_cons, List.zip_cons_cons, ih]; congr 1; grind
theorem mv_still (P : List Rat) (t : Rat) : mvQ P (List.replicate P.length 0) t = P := by
  unfold mvQ
  induction P with
  | nil => simp
  | cons p P ih => simp only [List.length_cons, List.replicate_succ, List.zip_cons_cons, List.map_cons, ih]; congr 1; grind
theorem q_inv {c : Rat} (h : 0 < c) : qD (1 / c) = .tup [.int (c.den : Int), .int c.num] := by
  have e : (1 / c : Rat) = c⁻¹ := by grind
  have hn : 0 < c.num := by
    apply Classical.byContradiction
    intro z
    have : c ≤ 0 := by rw [← num_le0]; omega
    grind
  rw [e]
  refine qcn ?_ ?_
  · rw [Rat.num_inv, Int.sign_eq_one_of_pos hn]; simp
  · rw [Rat.den_inv, if_neg (by omega)]; omega
theorem whole_ev (T : Tab) (ns : List Int) (ρ : Env) (hv : slotD ρ 0 = some (.lst (ns.map .int))) : ∃ w : Nat, evalE T (.bin .mod (.bi .abs (.cons (.bi .sum (.cons (.sl (.var 0) .nil (.c (.int 63))) .nil)) .nil)) (.bin .pow (.c (.int 10)) (.c (.int 60)))) ρ = .ok (.int (w : Int)) ∧ w < 10 ^ 60 := by
  have e1 : evSl (.lst (ns.map .int)) none (some 63) = .ok (.lst ((ns.take 63).map .int)) := by
    rw [List.map_take]; exact sl_take (ns.map .int) 63
  have e2 := ints_map (ns.take 63)
  have e3 : evBin .mod (.int ((ns.take 63).sum.natAbs : Int)) (.int (10 ^ 60)) = .ok (.int (Int.fmod ((ns.take 63).sum.natAbs : Int) (10 ^ 60))) := bin_mod (by decide)
  obtain ⟨w, hw, e4⟩ := natMod ((ns.take 63).sum.natAbs : Int) (m := 10 ^ 60) (by decide)
  refine ⟨w, ?_, hw⟩
  rw [show ((10 ^ 60 : Nat) : Int) = 10 ^ 60 by decide +kernel] at e4
  rw [e4] at e3
  simp_arith [hv, e1, e2, p60, e3]
theorem side_at {q Q V N inp : Nat} {l : List Stp} {P ws : List Rat} {τ0 : Rat} (R : RayOk q Q V N inp l P ws) (n : Nat) (h0 : Sz 1690 τ0) {v b s : Rat} {r : Option Rat} (h : IsSide (fun t => rayQ P ws l (τ0 + t)) v b s r) : CF tab (n + 10) f_side [prD inp l, qsD (mvQ P ws τ0), qsD ws] = .ok (sideD (qD v) (qD b) (qD s) (oD r)) := by
  obtain ⟨r', e, w, _⟩ := side_ok (tab := tab) R n h0
  obtain ⟨e1, e2, e3, e4⟩ := w.uniq h
  rw [e1, e2, e3, e4] at e
  exact e
theorem law_by_t (n : Nat) {x : Rat} {p q : Int} (h : Sz 3000 x) (hp : Sm 3000 p) (hq : Sm 3000 q) (q0 : q ≠ 0) : CF tab (n + 2) f_law_by [qD x, .tup [.int p, .int q]] = .ok (qD (x * Rat.divInt p q)) := by
  rw [go_law_by]
  have e : x * Rat.divInt p q = Rat.divInt (x.num * p) ((x.den : Int) * q) := by
    conv => lhs; rw [← Rat.num_divInt_den x]
    rw [Rat.divInt_mul_divInt]
  rw [e]
  have a := h.mono (m := 8000) (by decide)
  have z := Int.mul_ne_zero (den_ne x) q0
  simp_arith [b_law_by, bin_mul a.num (hp.mono (by decide)), bin_mul a.den (hq.mono (by decide)), law_low_q _ z ((h.den.mul hq).mono (by decide))]
theorem idx_l0 (x : RF.D) (r : List RF.D) : evIdx (.lst (x :: r)) (.int 0) = .ok x := idx_l (atI_0 x r)
theorem idx_l1 (x y : RF.D) (r : List RF.D) : evIdx (.lst (x :: y :: r)) (.int 1) = .ok y := idx_l (atI_1 x y r)
theorem idx_l2 (x y z : RF.D) (r : List RF.D) : evIdx (.lst (x :: y :: z :: r)) (.int 2) = .ok z := idx_l (atI_nat (x :: y :: z :: r) 2)

end RF

end S_LK0
section S_K11
set_option maxHeartbeats 4000000
namespace RF
open PySem PySem.Spec L2
local macro_rules
  | `(tactic| simp_arith [$ts,*]) => `(tactic| simp only [ee_var, ee_c, ee_glb, ee_neg, ee_nt, ee_bin, ee_cmp, ee_cmp2, ee_and, ee_or, ee_ife, ee_nil, ee_cons, ee_tup, ee_lst, ee_idx, ee_sl, ee_call, ee_callf, ee_rep, kRep_1, ee_lrg, ee_rev, rev_l, ex_sto, kSto, kSto1, kSto2, kSto3, put_lrg, put_rev, ee_bi, ee_isi, ee_comp, ee_fld, ee_mk, ee_isC, ee_meth, kMk_t, kMeth, kMeth1, kMeth2_t, fl_side, fl_pic, mk_side, mk_pic, mt_side, kVar_s, kNeg_i, kNot_b, kBin, kCmp, kCmp2, kCmpB, kCmpC_t, kCmpC_f, kAnd_t, kAnd_f, kOr_t, kOr_f, kIfe_t, kIfe_f, kCons, kPre_t, kTup_1, kTup_2, kTup_3, kTup_4, kTup_5, kTup_6, kLst_0, kLst_1, kLst_2, kLst_3, kLst_4, kLst_5, kLst_6, kIdx, kSl, kSl2, kSl3, kCall_t, kBi_t, kis, kIs_q, kComp, kComp2_ok, kList, turn_nil, turn_cmp, turn_and, turn_or, turn_nt, turn_isi, turn_call, turn_cmp2, turn_bi, kEl, kElc, kSome, kCd_t, kCd_f, ex_nil, ex_set, ex_own, ex_unp, ex_par, ex_par3, ex_ex, ex_ret, ex_reto, ex_retf, kReto, kRetf_l, kRetf2_cf, kRetf2_co, kRetf2_ls, kRetf2_sl, kRetf2_li, kRetf2_ad, put_cf, put_rep, ex_rai, ex_ite, ex_for, ex_whl, ex_app, ex_ext, ex_pas, ex_brk, ex_wip, kSet, kOwn, kPut, kUnp, kGo, kPar, kPar2, kPar3, kPar4, kTr, kTr2, kTr3, kTr4, kTr5, kTr6, kEx, kRet, kIte_t, kIte_f, kNx_n, kNx_b, kNx_r, kLoop_n, kLoop_r, kFor, kFor2_ok, kApp, kApp2_ok, kExt, kExt2_l, kExt3_ok, R.bind_ok, R.bind_exc, slot_0, slot_s, sd_v, sd_o, List.set_cons_zero, List.set_cons_succ, frz_def, frz_v, frz_n, frz_0, frz_o, hold_rng, hold_seq, hold_enum, hold_zip, it_zip, hold_v, hold_n, hold_0, hold_o, put_f, put_lst, put_sl, put_li, put_co, put_add, ev_lt, ev_le, ev_gt, ev_ge, ev_eq, ev_ne, ev_isN, ev_notN, eqD_int, eqD_pair, eqD_q, rb_len_t2, rb_len_t3, rb_len_t4, rb_len_l, len_q, rb_abs, rb_min, rb_list_l, rb_list_t, rb_tuple_l, rb_tuple_t, rb_all, rb_any, rb_sum, idx_t0, idx_t1, idx_t2, idx_t3, idx_q0, idx_q1, bin_add, bin_sub, out_rt, out_rl, outF_rl, out_nx, Bool.not_true, Bool.not_false, if_true, if_false, reduceIte, decide_true, decide_false, eq_self, Nat.reduceAdd, withO_s, Int.reduceLT, Int.reduceLE, Int.reduceEq, Int.reduceNeg, Int.reduceAdd, own_0, own_s, CE.men, Nat.reduceBEq, Bool.false_and, Bool.true_and, Bool.and_true, Bool.and_false, Bool.or_false, Bool.false_or, Bool.or_true, Bool.true_or, kqs, part_nil, part_c, part_v, part_neg, part_bin, part_bi, part_idx, sl_t41, sl_t43, it_l, it_t, it_enum, wipeS, bindT, bindL, Bool.false_eq_true, asL_l, Int.natCast_one, Int.natCast_zero, D.occ, D.occs, occ_q, List.length_map, $ts,*])
section
variable {inp : Nat} {l : List Stp} {P ws : List Rat}
abbrev R11 (inp : Nat) (l : List Stp) (P ws : List Rat) := RayOk 6 6 (10 ^ 12) 66 inp l P ws
def sdD (P ws : List Rat) (l : List Stp) (r : Option Rat) : RF.D := sideD (qD (rayQ P ws l 0)) (qD (lineQ P ws l 0).1) (qD (lineQ P ws l 0).2) (oD r)
structure Sd (P ws : List Rat) (l : List Stp) (r : Option Rat) : Prop where
  is : IsSide (fun t => rayQ P ws l t) (rayQ P ws l 0) (lineQ P ws l 0).1 (lineQ P ws l 0).2 r
  rt : rtO 0 r
theorem z0 : Sz 1690 (0 : Rat) := ⟨by decide +kernel, by decide +kernel⟩
theorem right0 (n : Nat) (R : R11 inp l P ws) {X Y : RF.D} {r : Option Rat} {t : Rat} (h : Sd P ws l r) (h0 : 0 < t) (hu : und t r) (s1 : Sz 900 t) :
    exec (TB tabL (n + 10)) FU l_law_right_0 [.val (prD inp l), .val (qsD P), .val (qsD ws), .val X, .val Y, .val (sdD P ws l r), .val (qD t), .no, .no] = .ok (.nx [.val (prD inp l), .val (qsD P), .val (qsD ws), .val X, .val Y, .val (sdD P ws l r), .no, .no, .no]) := by
  have lb := (R.lb z0).1.sz R.B z0 R.run
  have st := lb.2.mul s1
  have e1 := law_by_q (tab := tabL) (n + 8) (x := (lineQ P ws l 0).2) (y := t) (lb.2.mono (by decide)) (s1.mono (by decide))
  have e2 := law_add_q (tab := tabL) (n + 8) (x := (lineQ P ws l 0).1) (y := (lineQ P ws l 0).2 * t) (lb.1.mono (by decide)) (st.mono (by decide))
  have g1 := R.szp z0
  rw [mv_0 (show P.length = ws.length by rw [R.lp, R.lw])] at g1
  have e3 := law_moved_ok (tab := tabL) (n + 7) (ps := P) (ws := ws) (t := t) (by rw [R.lp]; have := R.ok.i3; omega) (fun x hx => (g1 x hx).mono (by decide)) R.szw (s1.mono (by decide))
  have e4 := law_ray (tab := tabL) R (n + 6) (τ := t) (s1.mono (by decide))
  have e5 := ray_last R t
  have e6 : rayQ P ws l t = (lineQ P ws l 0).1 + (lineQ P ws l 0).2 * t := by rw [h.is.on t h0 hu]; grind
  rw [e6] at e5
  cases r with
  | none =>
    have e7 := shows_none (tab := tabL) (n + 6) (v := qD (rayQ P ws l 0)) (b := (lineQ P ws l 0).1) (s := (lineQ P ws l 0).2) (t := t) (lb.1.mono (by decide)) (lb.2.mono (by decide)) (s1.mono (by decide)) (st.mono (by decide))
    simp_arith [l_law_right_0, sdD, oD, prD, e1, e2, e3, e4, e5, e7]
  | some ρ =>
    have sρ : Sz 800 ρ := by have := h.rt ρ rfl; rwa [Rat.zero_add] at this
    have hu : t < ρ := hu
    have e7 := shows_some (tab := tabL) (n + 6) (v := qD (rayQ P ws l 0)) (b := (lineQ P ws l 0).1) (s := (lineQ P ws l 0).2) (r := ρ) (t := t) (lb.1.mono (by decide)) (lb.2.mono (by decide)) (sρ.mono (by decide)) (s1.mono (by decide)) (st.mono (by decide))
    rw [if_neg (by grind)] at e7
    simp_arith [l_law_right_0, sdD, oD, prD, e1, e2, e3, e4, e5, e7]
/-- the numbers told for the reach -/
theorem fars_ok (n : Nat) {w : Nat} {r : Option Rat} (h : Sd P ws l r) : ∃ fs : List Rat, fs.length ≤ 4 ∧ CF tabL (n + 4) f_law_fars [sdD P ws l r, .int w] = .ok (qsD fs) ∧ ∀ t ∈ fs, 0 < t ∧ und t r ∧ Sz 900 t := by
  obtain ⟨a, ha, ea⟩ := natMod (w : Int) (m := 97) (by decide)
  rw [show ((97 : Nat) : Int) = 97 from rfl] at ea
  have m1 : evBin .mod (.int (w : Int)) (.int 97) = .ok (.int (a : Int)) := by rw [← ea]; exact bin_mod (by decide)
  have ap : (0 : Int) < 1 + (a : Int) := by omega
  have q1 : qD (1 / 2) = .tup [.int 1, .int 2] := qcn (by decide +kernel) (by decide +kernel)
  have q2 : qD (1 / 1000003) = .tup [.int 1, .int 1000003] := qcn (by decide +kernel) (by decide +kernel)
  have q3 : qD (999 / 1000) = .tup [.int 999, .int 1000] := qcn (by decide +kernel) (by decide +kernel)
  have q4 : qD (10 ^ 40) = .tup [.int (10 ^ 40), .int 1] := qcn (by decide +kernel) (by decide +kernel)
  cases r with
  | none =>
    have low := law_low_q (tab := tabL) (n + 2) (a := 1 + (a : Int)) (b := 2) (by decide) (by decide)
    have p2 := divInt_pos ap (show (0 : Int) < 2 by decide)
    have s2 : Sz 10 (Rat.divInt (1 + (a : Int)) 2) := sz_low (by decide) (by unfold Sm; omega) (by decide)
    refine ⟨[1 / 1000003, Rat.divInt (1 + (a : Int)) 2, 10 ^ 40], by simp, ?_, fun t ht => ?_⟩
    · rw [go_law_fars]
      simp_arith [b_law_fars, sdD, oD, isN_n, m1, low, p40, qsD, List.map_cons, List.map_nil, q2, q4]
    · simp only [List.mem_cons, List.not_mem_nil, or_false] at ht
      rcases ht with rfl | rfl | rfl
      · exact ⟨by decide +kernel, trivial, ⟨by decide +kernel, by decide +kernel⟩⟩
      · exact ⟨p2, trivial, s2.mono (by decide)⟩
      · exact ⟨by decide +kernel, trivial, ⟨by decide +kernel, by decide +kernel⟩⟩
  | some ρ =>
    have p0 : 0 < ρ := h.is.pos
    have sρ : Sz 800 ρ := by have := h.rt ρ rfl; rwa [Rat.zero_add] at this
    have d1 : Rat.divInt (1 + (a : Int)) 98 < 1 := by
      rw [Rat.divInt_eq_div, Rat.div_lt_iff (by decide), Rat.one_mul]
      exact Rat.intCast_lt_intCast.mpr (by omega)
    have p2 := divInt_pos ap (show (0 : Int) < 98 by decide)
    have s2 : Sz 10 (Rat.divInt (1 + (a : Int)) 98) := sz_low (by decide) (by unfold Sm; omega) (by decide)
    have sρ' : Sz 3000 ρ := sρ.mono (by decide)
    have l1 := law_by_q (tab := tabL) (n + 1) (x := ρ) (y := 1 / 2) sρ' ⟨by decide +kernel, by decide +kernel⟩
    have l2 := law_by_q (tab := tabL) (n + 1) (x := ρ) (y := 1 / 1000003) sρ' ⟨by decide +kernel, by decide +kernel⟩
    have l3 := law_by_q (tab := tabL) (n + 1) (x := ρ) (y := 999 / 1000) sρ' ⟨by decide +kernel, by decide +kernel⟩
    have l4 := law_by_t (tab := tabL) (n + 1) (x := ρ) (p := 1 + (a : Int)) (q := 98) sρ' (by
      have : Sm 10 (1 + (a : Int)) := by unfold Sm; omega
      exact this.mono (by decide)) (by have : Sm 10 (98 : Int) := by decide
                                       exact this.mono (by decide)) (by decide)
    rw [q1] at l1
    rw [q2] at l2
    rw [q3] at l3
    refine ⟨[ρ * (1 / 2), ρ * (1 / 1000003), ρ * (999 / 1000), ρ * Rat.divInt (1 + (a : Int)) 98], by simp, ?_, fun t ht => ?_⟩
    · rw [go_law_fars]
      simp_arith [b_law_fars, sdD, oD, isN_q, m1, len_4, compF, l1, l2, l3, l4, qsD, List.map_cons, List.map_nil]
    · have key : ∀ c : Rat, 0 < c → c < 1 → Sz 90 c → 0 < ρ * c ∧ und (ρ * c) (some ρ) ∧ Sz 900 (ρ * c) := fun c c0 c1 sc => ⟨Rat.mul_pos p0 c0, (by
        show ρ * c < ρ
        have := Rat.mul_lt_mul_of_pos_left c1 p0
        grind), (sρ.mul sc).mono (by decide)⟩
      simp only [List.mem_cons, List.not_mem_nil, or_false] at ht
      rcases ht with rfl | rfl | rfl | rfl
      · exact key _ (by decide +kernel) (by decide +kernel) ⟨by decide +kernel, by decide +kernel⟩
      · exact key _ (by decide +kernel) (by decide +kernel) ⟨by decide +kernel, by decide +kernel⟩
      · exact key _ (by decide +kernel) (by decide +kernel) ⟨by decide +kernel, by decide +kernel⟩
      · exact key _ p2 d1 (s2.mono (by decide))
theorem sh3 (inp : Nat) (l : List Stp) (P ws : List Rat) : D.shp 64 (.lst [prD inp l, qsD P, qsD ws]) = true := by
  simp only [D.shp, D.shps, Bool.and_eq_true, Bool.and_true]
  exact ⟨⟨trivial, shps_map fun a _ => shp_s 57 a⟩, shps_map fun a _ => shp_q 61 a, shps_map fun a _ => shp_q 61 a⟩
theorem law_right_ok (n : Nat) (R : R11 inp l P ws) (w : Nat) : CF tabL (n + 11) f_law_right [prD inp l, qsD P, qsD ws, .int w] = .ok (.bl true) := by
  rw [go_law_right]
  obtain ⟨r, e, w1, w2, _⟩ := side_ok (tab := tabL) R n z0
  rw [mv_0 (by rw [R.lp, R.lw])] at e
  simp only [Rat.zero_add] at w1
  have sd : Sd P ws l r := ⟨w1, w2⟩
  obtain ⟨fs, lf, e2, hf⟩ := fars_ok (n + 6) (w := w) sd
  have e1 := law_copied_ok (tab := tabL) (n + 9) (inp := inp) (l := l) (by have := R.ok.st.2.1; omega)
  have e3 := eqD_self (sh3 inp l P ws)
  have lb := (R.lb z0).1.sz R.B z0 R.run
  have g1 := law_good_q (tab := tabL) (n + 8) ((R.zray (τ := 0) (z0.mono (by decide))).mono (by decide))
  have g2 := law_good_q (tab := tabL) (n + 8) (lb.1.mono (by decide) : Sz 8000 _)
  have g3 := law_good_q (tab := tabL) (n + 8) (lb.2.mono (by decide) : Sz 8000 _)
  have e4 := law_ray (tab := tabL) R (n + 6) (τ := 0) (z0.mono (by decide))
  rw [mv_0 (by rw [R.lp, R.lw])] at e4
  have e5 := ray_last R 0
  rw [mv_0 (by rw [R.lp, R.lw])] at e5
  have lp : ∀ Y : RF.D, loopF (.nm 6) (exec (TB tabL (n + 10)) FU l_law_right_0) (fs.map qD) [.val (prD inp l), .val (qsD P), .val (qsD ws), .val (.int w), .val Y, .val (sdD P ws l r), .no, .no, .no] = .ok (.nx [.val (prD inp l), .val (qsD P), .val (qsD ws), .val (.int w), .val Y, .val (sdD P ws l r), .no, .no, .no]) := fun Y =>
    loop_map (F := qD) (fun _ => [.val (prD inp l), .val (qsD P), .val (qsD ws), .val (.int w), .val Y, .val (sdD P ws l r), .no, .no, .no]) fun i t ht => ⟨_, rfl, right0 n R sd (hf t (List.mem_of_getElem? ht)).1 (hf t (List.mem_of_getElem? ht)).2.1 (hf t (List.mem_of_getElem? ht)).2.2⟩
  have ll : fs.length ≤ lim := by unfold lim; omega
  have ci : isCD (TB tabL (n + 10)) c_Side (sideD (qD (rayQ P ws l 0)) (qD (lineQ P ws l 0).1) (qD (lineQ P ws l 0).2) (oD r)) = true := rfl
  have nn : (qD (rayQ P ws l 0)).isNon = false := rfl
  have bt : bools [.bl true, .bl true, .bl true] = some [true, true, true] := rfl
  have at3 : [true, true, true].all id = true := rfl
  cases r with
  | none =>
    simp only [oD, sdD, prD, qsD] at e lp e1 e2 e3 e4 e5 ci
    simp_arith [b_law_right, prD, qsD, idx_l0, idx_l1, idx_l2, e1, e, ci, kIsC, e3, compF, len_3, g1, g2, g3, bt, at3, isN_n, e4, e5, e2, ll, lp]
  | some ρ =>
    have sρ : Sz 800 ρ := by have := w2 ρ rfl; rwa [Rat.zero_add] at this
    have g4 := law_good_q (tab := tabL) (n + 8) (sρ.mono (by decide) : Sz 8000 ρ)
    have p0 : 0 < ρ := w1.pos
    have pn : decide (ρ.num ≤ 0) = false := decide_eq_false (by rw [num_le0]; grind)
    simp only [oD, sdD, prD, qsD] at e lp e1 e2 e3 e4 e5 ci
    simp_arith [b_law_right, prD, qsD, idx_l0, idx_l1, idx_l2, e1, e, ci, kIsC, e3, compF, len_3, g1, g2, g3, g4, pn, bt, at3, isN_q, e4, e5, e2, ll, lp]
end
theorem ix_nat {n a : Nat} (h : a < n) : ixD n (.int (a : Int)) = some a := by
  simp only [ixD, ixN]
  first
    | (rw [if_pos ⟨by omega, by omega⟩]; simp; done)
    | (split <;> simp_all <;> omega)
theorem law0 (n : Nat) {inp : Nat} {l : List Stp} {P ws : List Rat} (R : R11 inp l P ws) {S : RF.D} {w : Nat} {A B C : Slot} (a1 : NoOwn A) (a2 : NoOwn B) (a3 : NoOwn C) : exec (TB tabL (n + 11)) FU l_law_0 [.val S, .val (.int w), .val (.int inp), .val (prD inp l), A, B, C, .val (qsD P), .val (qsD ws), .no] = .ok (.nx [.val S, .val (.int w), .val (.int inp), .val (prD inp l), A, B, C, .no, .no, .no]) := by
  have e := law_right_ok n R w
  simp_arith [l_law_0, e]
theorem rep_q0 (k : Nat) : List.replicate k (RF.D.tup [.int 0, .int 1]) = (List.replicate k (0 : Rat)).map qD := by
  rw [List.map_replicate]; rfl
theorem cs_0 : Cs (10 ^ 12) (0 : Rat) := ⟨by decide, by decide⟩
theorem law1 (n : Nat) {ns : List Int} (hl : ns.length ≤ 63) (w inp : Nat) (h1 : 1 ≤ inp) (h3 : inp ≤ 3) : exec (TB tabL (n + 11)) FU l_law_1 [.val (.lst (ns.map .int)), .val (.int w), .val (.int inp), .no, .no, .no, .no, .no, .no, .no] = .ok (.nx [.val (.lst (ns.map .int)), .val (.int w), .no, .no, .no, .no, .no, .no, .no, .no]) := by
  obtain ⟨l, left, room, ok, e0⟩ := law_program_ok2 (tab := tabL) (n + 7) ns hl inp inp 9 (by omega) h1 h3 (by decide) (by omega)
  rw [show ((9 : Nat) : Int) = 9 from rfl] at e0
  obtain ⟨P, hp, cp, e1⟩ := law_places_ok (tab := tabL) (n + 8) ns hl 0 inp (by omega) (by omega)
  obtain ⟨ws, hw, cw, e2⟩ := law_places_ok (tab := tabL) (n + 8) ns hl 9 inp (by omega) (by omega)
  rw [show ((0 : Nat) : Int) = 0 from rfl] at e1
  rw [show ((9 : Nat) : Int) = 9 from rfl] at e2
  obtain ⟨a, ha, ea⟩ := natMod (w : Int) (m := inp) (by omega)
  obtain ⟨b, hb, eb⟩ := natMod (Int.fdiv w 3) (m := 2) (by decide)
  rw [show ((2 : Nat) : Int) = 2 from rfl] at eb
  have m1 : evBin .mod (.int (w : Int)) (.int (inp : Int)) = .ok (.int (a : Int)) := by rw [← ea]; exact bin_mod (by omega)
  have m2 : evBin .fdiv (.int (w : Int)) (.int 3) = .ok (.int (Int.fdiv w 3)) := bin_fdiv (by decide) (by decide)
  have m3 : evBin .mod (.int (Int.fdiv w 3)) (.int 2) = .ok (.int (b : Int)) := by rw [← eb]; exact bin_mod (by decide)
  have m4 : evBin .mul (.int (b : Int)) (.int 2) = .ok (.int ((b : Int) * 2)) := bin_mul (by
    have : Sm 2 (b : Int) := by unfold Sm; omega
    exact this.mono (by decide)) (by
    have : Sm 2 (2 : Int) := by decide
    exact this.mono (by decide))
  obtain ⟨σ, eσ, cσ⟩ : ∃ σ : Rat, RF.D.tup [.int (1 - (b : Int) * 2), .int 1] = qD σ ∧ Cs (10 ^ 12) σ := by
    match b, hb with
    | 0, _ => exact ⟨1, rfl, ⟨by decide, by decide⟩⟩
    | 1, _ => exact ⟨-1, rfl, ⟨by decide, by decide⟩⟩
  have rk := kRep2_n (RF.D.tup [.int 0, .int 1]) inp (by omega)
  have on : (List.replicate inp (RF.D.tup [.int 0, .int 1])).set a (qD σ) = ((List.replicate inp (0 : Rat)).set a σ).map qD := by rw [rep_q0, List.map_set]
  have ix : ixD (List.replicate inp (RF.D.tup [.int 0, .int 1])).length (.int (a : Int)) = some a := ix_nat (by rw [List.length_replicate]; exact ha)
  have c0 : ∀ x ∈ List.replicate inp (0 : Rat), Cs (10 ^ 12) x := fun x hx => by rw [(List.mem_replicate.mp hx).2]; exact cs_0
  have R1 := ray_of ok h1 h3 (by omega) hp hw cp cw
  have R2 := ray_of (P := List.replicate inp 0) (ws := (List.replicate inp (0 : Rat)).set a σ) ok h1 h3 (by omega) (by simp) (by simp) c0 (fun x hx => by
    rcases List.mem_or_eq_of_mem_set hx with z | z
    · exact c0 x z
    · rw [z]; exact cσ)
  have R3 := ray_of (ws := List.replicate inp 0) ok h1 h3 (by omega) hp (by simp) cp c0
  have nv := no_val
  have r1 := fun A B C => law0 n R1 (S := .lst (ns.map .int)) (w := w) (A := .val A) (B := .val B) (C := .val C) (nv _) (nv _) (nv _)
  have r2 := fun A B C => law0 n R2 (S := .lst (ns.map .int)) (w := w) (A := .val A) (B := .val B) (C := .val C) (nv _) (nv _) (nv _)
  have r3 := fun A B C => law0 n R3 (S := .lst (ns.map .int)) (w := w) (A := .val A) (B := .val B) (C := .val C) (nv _) (nv _) (nv _)
  simp only [prD, qsD, ← rep_q0] at r1 r2 r3 e0 e1 e2
  have kq : kTup (qD σ) = .ok (qD σ) := kTup_2 _ _
  simp_arith [l_law_1, prD, e0, e1, e2, rk, m1, m2, m3, m4, eσ, kq, ix, on, len_3, loopF, r1, r2, r3, qsD]
theorem law_run (n : Nat) (ns : List Int) (hl : ns.length ≤ 63) : CF tabL (n + 12) f_law [.lst (ns.map .int)] = .ok (.bl true) := by
  rw [go_law]
  obtain ⟨w, ew, _⟩ := whole_ev (TB tabL (n + 11)) ns [.val (.lst (ns.map .int)), .no, .no, .no, .no, .no, .no, .no, .no, .no] rfl
  have r1 := law1 n hl w 1 (by decide) (by decide)
  have r2 := law1 n hl w 2 (by decide) (by decide)
  have r3 := law1 n hl w 3 (by decide) (by decide)
  rw [show ((1 : Nat) : Int) = 1 from rfl] at r1
  rw [show ((2 : Nat) : Int) = 2 from rfl] at r2
  rw [show ((3 : Nat) : Int) = 3 from rfl] at r3
  let p1 : List Stp := [.b (.inp 0), .b (.is 1), .b (.iff 0 0 1)]
  have c1 : Cs 5 (1 : Rat) := ⟨by decide, by decide⟩
  have R1 : RayOk 6 6 (10 ^ 12) 66 1 p1 [0] [1] := by
    refine ⟨BLa, ⟨by decide, by decide, ⟨by decide, by decide, fun i s h => ?_⟩, by decide, by decide⟩, fun s hs => ?_, rfl, rfl, fun x hx => ?_, fun x hx => ?_, by decide⟩
    · match i, h with
      | 0, h => cases h; show 0 < 1; decide
      | 1, h => cases h; exact c1.sz (k := 100) (by decide) (by decide)
      | 2, h => cases h; exact ⟨by decide, by decide, by decide⟩
    · simp only [p1, List.mem_cons, List.not_mem_nil, or_false] at hs
      rcases hs with rfl | rfl | rfl <;> first | trivial | exact c1.cq (by decide)
    · cases List.mem_singleton.mp hx; exact bd_cs cs_0
    · cases List.mem_singleton.mp hx; exact bd_cs ⟨by decide, by decide⟩
  have w1 : ∀ t : Rat, rayQ [0] [1] p1 t = if 0 + t * 1 ≤ 0 then 0 + t * 1 else 1 := fun t => by simp [rayQ, mvQ, p1, wS, evS, evB, at0, lastQ]
  have e1 := side_is (tab := tabL) R1 (n + 1) (v := 0) (b := 1) (s := 0) (r := none) ⟨by rw [w1]; decide +kernel, trivial, fun t h0 _ => by rw [w1, if_neg (by grind)]; grind, fun ρ e => nomatch e⟩
  have d1 : prD 1 p1 = .tup [.int 1, .lst [.tup [.str "in", .int 0], .tup [.str "is", .tup [.int 1, .int 1]], .tup [.str "if", .int 0, .int 0, .int 1]]] := rfl
  have d3 : qsD [0] = .lst [.tup [.int 0, .int 1]] := rfl
  have d4 : qsD [1] = .lst [.tup [.int 1, .int 1]] := rfl
  rw [d1, d3, d4] at e1
  simp only [oD, show qD 0 = .tup [.int 0, .int 1] from rfl, show qD 1 = .tup [.int 1, .int 1] from rfl] at e1
  have f : eqD (.tup [.tup [.int 0, .int 1], .tup [.int 1, .int 1], .tup [.int 0, .int 1], .non]) (.tup [.tup [.int 0, .int 1], .tup [.int 1, .int 1], .tup [.int 0, .int 1], .non]) = .ok true := eqD_self rfl
  rw [b_law, ex_set, ew]
  simp_arith [len_3, loopF, r1, r2, r3, e1, f]
theorem law_data (ns : List Int) (hl : ns.length ≤ 63) (hb : ∀ z ∈ ns, Builtin.Int.intBits z ≤ 1048576) : callF tabL cfU glU FU 40 f_law [.lst (ns.map D.int)] = .ok (.bl true) := law_run 28 ns hl

end RF

end S_K11
section S_F_k11
set_option maxHeartbeats 8000000
open PySem PySem.W PyProof.Rows in
set_option maxHeartbeats 0 in
theorem PySem.Challenge.cw_bendwright_k11_whole_side_straight_holds : PySem.Challenge.rw_bendwright_k11_whole_side_straight.Holds := by
  w_on; o_law; k_head; (case hw => w_witness2)
  k_fill
  refine' RF.walk_x (l := PySem.Challenge.rw_bendwright_k11_whole_side_straight) (n := 63) (k := 42) (x := "_law_script") (xs := [(RF.x_BadProgram, _), (RF.x_BadPlaces, _), (RF.x_BadWays, _)]) (cs := [(RF.c_Side, _)]) (cn := RF.cnU) (hi := ?hinj) (f := RF.callF RF.tabL RF.cfU RF.glU RF.FU 40 RF.f_law) rfl (by decide) rfl ⟨rfl, by decide, by decide⟩ (fun w h Y => PySem.W.kIn_of Y) ?F RF.law_data
  case F =>
    intro w mg fa h KX G hmg
    refine' RF.all_mk (n := 39) (fuel := RF.FU) KX G hmg _ ?da0 ?dk0 ?dp0 ?dh0 ?do0 ?ds0 ?dq0 ?dm0 ?dz0 ?dn0_value ?dn0_beyond ?dn0_slope ?dn0_reach ?di0 ?df0 ?il0 ?ic0 ?ik0 ?dgn ?dgt ?ma0 ?mf0 ?ml0 ?mc0 ?mk0 ?ea0 ?kz0_0 ?kt0_NoneType ?kt0_bool ?kt0_int ?kt0_str ?kt0_tuple ?kt0_list ?a0 ?l0 ?c0 ?k0 ?a1 ?l1 ?c1 ?k1 ?a2 ?l2 ?c2 ?k2 ?a3 ?l3 ?c3 ?k3 ?a4 ?l4 ?c4 ?k4 ?a5 ?l5 ?c5 ?k5 ?a6 ?l6 ?c6 ?k6 ?a7 ?l7 ?c7 ?k7 ?a8 ?l8 ?c8 ?k8 ?a9 ?l9 ?c9 ?k9 ?a10 ?l10 ?c10 ?k10 ?a11 ?l11 ?c11 ?k11 ?a12 ?l12 ?c12 ?k12 ?a13 ?l13 ?c13 ?k13 ?a14 ?l14 ?c14 ?k14 ?a15 ?l15 ?c15 ?k15 ?a16 ?l16 ?c16 ?k16 ?a17 ?l17 ?c17 ?k17 ?a18 ?l18 ?c18 ?k18 ?a19 ?l19 ?c19 ?k19 ?a20 ?l20 ?c20 ?k20 ?a21 ?l21 ?c21 ?k21 ?a22 ?l22 ?c22 ?k22 ?a23 ?l23 ?c23 ?k23 ?a24 ?l24 ?c24 ?k24 ?a25 ?l25 ?c25 ?k25 ?a26 ?l26 ?c26 ?k26 ?a27 ?l27 ?c27 ?k27 ?a28 ?l28 ?c28 ?k28 ?a29 ?l29 ?c29 ?k29 ?a30 ?l30 ?c30 ?k30 ?a31 ?l31 ?c31 ?k31 ?a32 ?l32 ?c32 ?k32 ?a33 ?l33 ?c33 ?k33 ?a34 ?l34 ?c34 ?k34 ?a35 ?l35 ?c35 ?k35 ?a36 ?l36 ?c36 ?k36 ?a37 ?l37 ?c37 ?k37 ?a38 ?l38 ?c38 ?k38 ?a39 ?l39 ?c39 ?k39 ?a40 ?l40 ?c40 ?k40 ?a41 ?l41 ?c41 ?k41 ?a42 ?l42 ?c42 ?k42 ?z0 ?z1 ?z2 ?z3 ?z4 ?z5 ?z6 ?z7 ?z8 ?z9 ?z10 ?z11 ?z12 ?z13 ?z14 ?xa0 ?xk0 ?xe0 ?xs0 ?xt0 ?xa1 ?xk1 ?xe1 ?xs1 ?xt1 ?xa2 ?xk2 ?xe2 ?xs2 ?xt2 ?ga0 ?gl0 ?gc0 ?gd0 ?gz0 ?gv0 ?ga1 ?gr1 ?ga2 ?gr2 ?ga3 ?gr3 ?ga4 ?gr4 ?ga5 ?gr5 ?ga6 ?gl6 ?gc6 ?gd6 ?gz6 ?gv6
    (case da0 => k_is)
    (case dk0 => k_is)
    (case dp0 => k_is)
    (case dh0 => k_is)
    (case do0 => k_is)
    (case ds0 => k_is)
    (case dq0 => k_is)
    (case dm0 => k_is)
    (case dz0 => k_is)
    (case dn0_value => k_is)
    (case dn0_beyond => k_is)
    (case dn0_slope => k_is)
    (case dn0_reach => k_is)
    (case di0 => k_is)
    (case df0 => k_is)
    (case il0 => k_is)
    (case ic0 => k_is)
    (case ik0 => k_is)
    (case dgn => k_is)
    (case dgt => k_is)
    (case ma0 => k_is)
    (case mf0 => k_is)
    (case ml0 => k_is)
    (case mc0 => k_is)
    (case mk0 => k_is)
    (case ea0 => k_is)
    (case kz0_0 => refine' RF.kit_own ?a ?b ?c ?d; (case a => k_is); (case b => k_is); (case c => k_is); (case d => exact fun _ => rfl))
    (case kt0_NoneType => refine' RF.kit_own ?a ?b ?c ?d; (case a => k_is); (case b => k_is); (case c => k_is); (case d => decide))
    (case kt0_bool => refine' RF.kit_own ?a ?b ?c ?d; (case a => k_is); (case b => k_is); (case c => k_is); (case d => decide))
    (case kt0_int => refine' RF.kit_own ?a ?b ?c ?d; (case a => k_is); (case b => k_is); (case c => k_is); (case d => decide))
    (case kt0_str => refine' RF.kit_own ?a ?b ?c ?d; (case a => k_is); (case b => k_is); (case c => k_is); (case d => decide))
    (case kt0_tuple => refine' RF.kit_own ?a ?b ?c ?d; (case a => k_is); (case b => k_is); (case c => k_is); (case d => decide))
    (case kt0_list => refine' RF.kit_own ?a ?b ?c ?d; (case a => k_is); (case b => k_is); (case c => k_is); (case d => decide))
    (case a0 => k_is)
    (case l0 => k_is)
    (case c0 => k_is)
    (case k0 => k_is)
    (case a1 => k_is)
    (case l1 => k_is)
    (case c1 => k_is)
    (case k1 => k_is)
    (case a2 => k_is)
    (case l2 => k_is)
    (case c2 => k_is)
    (case k2 => k_is)
    (case a3 => k_is)
    (case l3 => k_is)
    (case c3 => k_is)
    (case k3 => k_is)
    (case a4 => k_is)
    (case l4 => k_is)
    (case c4 => k_is)
    (case k4 => k_is)
    (case a5 => k_is)
    (case l5 => k_is)
    (case c5 => k_is)
    (case k5 => k_is)
    (case a6 => k_is)
    (case l6 => k_is)
    (case c6 => k_is)
    (case k6 => k_is)
    (case a7 => k_is)
    (case l7 => k_is)
    (case c7 => k_is)
    (case k7 => k_is)
    (case a8 => k_is)
    (case l8 => k_is)
    (case c8 => k_is)
    (case k8 => k_is)
    (case a9 => k_is)
    (case l9 => k_is)
    (case c9 => k_is)
    (case k9 => k_is)
    (case a10 => k_is)
    (case l10 => k_is)
    (case c10 => k_is)
    (case k10 => k_is)
    (case a11 => k_is)
    (case l11 => k_is)
    (case c11 => k_is)
    (case k11 => k_is)
    (case a12 => k_is)
    (case l12 => k_is)
    (case c12 => k_is)
    (case k12 => k_is)
    (case a13 => k_is)
    (case l13 => k_is)
    (case c13 => k_is)
    (case k13 => k_is)
    (case a14 => k_is)
    (case l14 => k_is)
    (case c14 => k_is)
    (case k14 => k_is)
    (case a15 => k_is)
    (case l15 => k_is)
    (case c15 => k_is)
    (case k15 => k_is)
    (case a16 => k_is)
    (case l16 => k_is)
    (case c16 => k_is)
    (case k16 => k_is)
    (case a17 => k_is)
    (case l17 => k_is)
    (case c17 => k_is)
    (case k17 => k_is)
    (case a18 => k_is)
    (case l18 => k_is)
    (case c18 => k_is)
    (case k18 => k_is)
    (case a19 => k_is)
    (case l19 => k_is)
    (case c19 => k_is)
    (case k19 => k_is)
    (case a20 => k_is)
    (case l20 => k_is)
    (case c20 => k_is)
    (case k20 => k_is)
    (case a21 => k_is)
    (case l21 => k_is)
    (case c21 => k_is)
    (case k21 => k_is)
    (case a22 => k_is)
    (case l22 => k_is)
    (case c22 => k_is)
    (case k22 => k_is)
    (case a23 => k_is)
    (case l23 => k_is)
    (case c23 => k_is)
    (case k23 => k_is)
    (case a24 => k_is)
    (case l24 => k_is)
    (case c24 => k_is)
    (case k24 => k_is)
    (case a25 => k_is)
    (case l25 => k_is)
    (case c25 => k_is)
    (case k25 => k_is)
    (case a26 => k_is)
    (case l26 => k_is)
    (case c26 => k_is)
    (case k26 => k_is)
    (case a27 => k_is)
    (case l27 => k_is)
    (case c27 => k_is)
    (case k27 => k_is)
    (case a28 => k_is)
    (case l28 => k_is)
    (case c28 => k_is)
    (case k28 => k_is)
    (case a29 => k_is)
    (case l29 => k_is)
    (case c29 => k_is)
    (case k29 => k_is)
    (case a30 => k_is)
    (case l30 => k_is)
    (case c30 => k_is)
    (case k30 => k_is)
    (case a31 => k_is)
    (case l31 => k_is)
    (case c31 => k_is)
    (case k31 => k_is)
    (case a32 => k_is)
    (case l32 => k_is)
    (case c32 => k_is)
    (case k32 => k_is)
    (case a33 => k_is)
    (case l33 => k_is)
    (case c33 => k_is)
    (case k33 => k_is)
    (case a34 => k_is)
    (case l34 => k_is)
    (case c34 => k_is)
    (case k34 => k_is)
    (case a35 => k_is)
    (case l35 => k_is)
    (case c35 => k_is)
    (case k35 => k_is)
    (case a36 => k_is)
    (case l36 => k_is)
    (case c36 => k_is)
    (case k36 => k_is)
    (case a37 => k_is)
    (case l37 => k_is)
    (case c37 => k_is)
    (case k37 => k_is)
    (case a38 => k_is)
    (case l38 => k_is)
    (case c38 => k_is)
    (case k38 => k_is)
    (case a39 => k_is)
    (case l39 => k_is)
    (case c39 => k_is)
    (case k39 => k_is)
    (case a40 => k_is)
    (case l40 => k_is)
    (case c40 => k_is)
    (case k40 => k_is)
    (case a41 => k_is)
    (case l41 => k_is)
    (case c41 => k_is)
    (case k41 => k_is)
    (case a42 => k_is)
    (case l42 => k_is)
    (case c42 => k_is)
    (case k42 => k_is)
    (case z0 => k_is)
    (case z1 => k_is)
    (case z2 => k_is)
    (case z3 => k_is)
    (case z4 => k_is)
    (case z5 => k_is)
    (case z6 => k_is)
    (case z7 => k_is)
    (case z8 => k_is)
    (case z9 => k_is)
    (case z10 => k_is)
    (case z11 => k_is)
    (case z12 => k_is)
    (case z13 => k_is)
    (case z14 => k_is)
    (case xa0 => k_is)
    (case xk0 => k_is)
    (case xe0 => k_exc)
    (case xs0 => k_is)
    (case xt0 => k_is)
    (case xa1 => k_is)
    (case xk1 => k_is)
    (case xe1 => k_exc)
    (case xs1 => k_is)
    (case xt1 => k_is)
    (case xa2 => k_is)
    (case xk2 => k_is)
    (case xe2 => k_exc)
    (case xs2 => k_is)
    (case xt2 => k_is)
    (case ga0 => k_is)
    (case gl0 => k_is)
    (case gc0 => exact rfl)
    (case gd0 => exact rfl)
    (case gz0 => decide)
    (case gv0 => exact .cons ⟨_, rfl⟩ (.cons ⟨_, rfl⟩ (.nil)))
    (case ga1 => k_is)
    (case gr1 => exact ⟨_, rfl⟩)
    (case ga2 => k_is)
    (case gr2 => exact ⟨_, rfl⟩)
    (case ga3 => k_is)
    (case gr3 => exact ⟨_, rfl⟩)
    (case ga4 => k_is)
    (case gr4 => exact ⟨_, rfl⟩)
    (case ga5 => k_is)
    (case gr5 => exact ⟨_, rfl⟩)
    (case ga6 => k_is)
    (case gl6 => k_is)
    (case gc6 => exact rfl)
    (case gd6 => exact rfl)
    (case gz6 => decide)
    (case gv6 => exact .cons ⟨_, rfl⟩ (.cons ⟨_, rfl⟩ (.cons ⟨_, rfl⟩ (.cons ⟨_, rfl⟩ (.cons ⟨_, rfl⟩ (.cons ⟨_, rfl⟩ (.cons ⟨_, rfl⟩ (.cons ⟨_, rfl⟩ (.nil)))))))))
  case hinj => decide

end S_F_k11
